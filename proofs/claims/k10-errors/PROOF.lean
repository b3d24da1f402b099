import PyProof.Rows.All
import Wide.All
import OpenK.AllK
import Wide.FinOn
import HandS.ForMost
import HandS.Exc
import HandS.ExcOwn
import HandS.Star
import HandS.TupAny
import HandS.IsInst
import HandS.Flow
import HandS.Wide
import HandS.WordsExc
import HandS.Defaults
import HandS.Deep
import HandS.Style
import HandS.TupMul
import HandS.RaiseMore
import KE.GoesNew
import KE.SortData
import HandS.ExcInit
import HandS.ExcValue
import HandS.Lambda
import KE.KNest
import HandS.SlotsOwn
import HandS.HeadHook1
import HandS.FStr
import HandS.Property
import KE.KCallOwn
import HandS.ExcSuper
import KE.KExcSuper
import HandS.ExcField
import KE.KExcInit
import KE.KSuper
import HandS.TryMany
import HandS.ExcIs
import KE.KExcIs
import HandS.FStrTup
import PyProof.InstEq
import HandS.Dict
import KE.SortKeyHeap
import HandS.SortKw
import HandS.SetFor
import HandS.SortInts
import KE.KRevSl
import KE.KNestM
import KE.KStateDown
import HandS.Head0
import HandS.Head1
import HandS.Head2
import HandS.HeadEnd
import HandS.HeadHook2
import HandS.EndTab
import PySem.Challenge.RW_sumsclose_k10_whole_errors
set_option Elab.async false
set_option linter.all false
set_option maxRecDepth 100000
set_option exponentiation.threshold 10000
/-! DL1: data values D, the store of owned lists, own position-free syntax, its weakest preconditions over data. -/
namespace DL
open PySem

/-- a value as data; `ref`: an owned (mutable) list that stands in the store -/
inductive D where
  | non | bl (b : Bool) | int (i : Int) | str (x : Str) | tup (xs : List D) | lst (xs : List D) | ref (a : Addr) | ty (n : String) | scr (xs : List Int) | obj (c : String) (fs : List D) | dct | fn (x : String) | exc (c : String) (vs : List D)
  deriving Inhabited

/-- what stands in the store -/
inductive DO where
  | lst (ds : List D) | obj (c : String) (q : Addr) (fs : List (Option D)) | dx | tb (T : List (Addr × Str))
abbrev Sto := Addr → Option DO
def sup (S : Sto) (a : Addr) (o : DO) : Sto := fun b => if b = a then some o else S b
def sdel (S : Sto) (a : Addr) : Sto := fun b => if b = a then none else S b
@[simp] theorem sup_same {S : Sto} {a : Addr} {o : DO} : sup S a o a = some o := if_pos rfl
theorem sup_ne {S : Sto} {a b : Addr} {o : DO} (h : b ≠ a) : sup S a o b = S b := if_neg h
@[simp] theorem sup_sup {S : Sto} {a : Addr} {o u : DO} : sup (sup S a o) a u = sup S a u := by funext b; unfold sup; split <;> rfl
theorem sdel_same {S : Sto} {a : Addr} : sdel S a a = none := if_pos rfl
theorem sdel_ne {S : Sto} {a b : Addr} (h : b ≠ a) : sdel S a b = S b := if_neg h
/-- less is known of the store, of tables as much -/
def Sub (S2 S1 : Sto) : Prop := (∀ a o, S2 a = some o → S1 a = some o) ∧ ∀ a T, S1 a = some (.tb T) → S2 a = some (.tb T)
theorem Sub.refl {S : Sto} : Sub S S := ⟨fun _ _ h => h, fun _ _ h => h⟩
theorem Sub.trans {S T U : Sto} (a : Sub S T) (b : Sub T U) : Sub S U := ⟨fun x o h => b.1 x o (a.1 x o h), fun x o h => a.2 x o (b.2 x o h)⟩
theorem sdel_sup {S : Sto} {a : Addr} {o : DO} (h : S a = none) : sdel (sup S a o) a = S := by
  funext b; unfold sdel sup; split
  · rename_i e; rw [e, h]
  · rfl

abbrev Env := List (Option D)
def getV : Env → Nat → Option D
  | [], _ => none
  | x :: _, 0 => x
  | _ :: r, n + 1 => getV r n
def setV : Env → Nat → D → Env
  | [], _, _ => []
  | _ :: r, 0, d => some d :: r
  | x :: r, n + 1, d => x :: setV r n d
/-- names forgotten -/
def delV : Env → Nat → Env
  | [], _ => []
  | _ :: r, 0 => none :: r
  | x :: r, n + 1 => x :: delV r n
def delVs (ρ : Env) : List Nat → Env
  | [] => ρ
  | v :: vs => delV (delVs ρ vs) v

abbrev QD := D → Sto → Prop
/-- the wish about exceptions: the class's number, the payload -/
abbrev XD := Nat → D → Sto → Prop
abbrev FSp := List D → Sto → XD → QD → Prop

inductive BOp where | add | sub | mul | fdiv | mod | pow deriving DecidableEq
inductive COp where | eq | ne | lt | le | gt | ge | is | isn | inn | nin deriving DecidableEq
inductive BI where | len | abs | max | min | int | sum | all | any | tuple | isinst | repr | str | reprG deriving DecidableEq

/-- what a def that is handed a call does with an error: a written value; a text and the kept value's repr; a look at a kept int -/
inductive HC where
  | cst (d : D) | rep (pre : Str) (f : Str) | ifI (f : Str) (n : Int) (a b : D)
/-- the kept field and the built-in base of the program's errors that keep their argument -/
def xsup : String → Option (Str × String)
  | "InvalidCount" => some ("given", "IndexError")
  | "TooMany" => some ("limit", "OverflowError")
  | "ParseError" => some ("line", "ValueError")
  | "UnknownName" => some ("wanted", "KeyError")
  | "Refused" => some ("reason", "ArithmeticError")
  | "NothingToUndo" => some ("wanted", "LookupError")
  | _ => none
/-- the classes of which an error's class is one (where errors are values) -/
def xanc : String → List String
  | "InvalidCount" => ["InvalidCount", "IndexError", "LookupError"]
  | "TooMany" => ["TooMany", "OverflowError", "ArithmeticError"]
  | "UnknownName" => ["UnknownName", "KeyError", "LookupError"]
  | "Refused" => ["Refused", "ArithmeticError"]
  | "NothingToUndo" => ["NothingToUndo", "LookupError"]
  | n => [n, "SeriesError", "ValueError"]
/-- classes asked for (own or built-in) -/
def xtys : List (Bool × String) := [(true, "SeriesError"), (false, "KeyError"), (false, "IndexError"), (false, "OverflowError"), (false, "ArithmeticError"), (false, "LookupError"), (false, "ValueError"),
  (true, "InvalidRow"), (true, "InvalidLot"), (true, "InvalidPoly"), (true, "InvalidRatio"), (true, "InvalidTable"), (true, "InvalidTerm"), (true, "InvalidLaw"), (true, "InvalidTold"), (true, "InvalidOperation"), (true, "ParseError")]
/-- repr of a simple value -/
def reprD : D → Option Str
  | .non => some "None"
  | .bl b => some (if b then "True" else "False")
  | .int i => if i.natAbs.log2 < 1920 then some (toString i) else none
  | .str x => if (reprText x).length ≤ 8000000 then some (reprText x) else none
  | _ => none
/-- a value that is data and whose repr is told -/
def shB (p : PyData) : Bool := p.showable && (!p.hasDict && (decide (p.depth ≤ 8) && decide (p.shown.length ≤ 8000000)))
/-- a value that an error may keep -/
def rsvB : D → Bool
  | .str x => (reprD (.str x)).isSome && decide (x.length ≤ 8000000)
  | .tup xs => decide (xs.length ≤ 50) && xs.all fun x => match reprD x with | some s => decide (s.length ≤ 100000) | none => false
  | d => (reprD d).isSome
/-- .. where errors are values -/
def kpB : D → Bool
  | .lst xs => xs.isEmpty
  | d => rsvB d
def hcD (sh : D → Option Str) : HC → D → (D → Prop) → Prop
  | .cst c, _, Q => Q c
  | .rep pre _, d, Q => ∃ s, sh d = some s ∧ pre.length + s.length ≤ sizeLine ∧ Q (.str (pre ++ s))
  | .ifI _ n a b, d, Q => ∃ m, d = .int m ∧ Q (if m = n then a else b)
def hcW (sh : D → Option Str) (hs : List (Nat × HC)) (k : Nat) (d : D) (Q : D → Prop) : Prop := match hs.lookup k with
  | some h => hcD sh h d Q
  | none => False
/-! ### the syntax -/
mutual
inductive Ex where
  | var (i : Nat)
  | cst (d : D)
  | glb (k : Nat)
  | bin (op : BOp) (a b : Ex)
  | neg (a : Ex)
  | not (a : Ex)
  | cmp (op : COp) (a b : Ex)
  | chn (o1 o2 : COp) (a b c : Ex)
  | and (a b : Ex)
  | or (a b : Ex)
  | ite (c a b : Ex)
  | idx (a i : Ex)
  | slc (a : Ex) (lo hi : Ox)
  | stp (a : Ex) (lo hi : Ox) (st : Ex)
  | tup (es : Exs)
  | frz (l : Lx)
  | own (l : Lx)
  | call (f : Nat) (es : Exs)
  | bi (b : BI) (es : Exs)
  | app (o e : Ex)
  | fld (c : String) (i : Nat) (e : Ex)
  | isC (c : String) (e : Ex)
  | meth (f : Nat) (c : String) (o : Ex) (es : Exs)
  | prop (f : Nat) (c : String) (o : Ex)
  | new (f : Nat) (c : String) (n : Nat) (es : Exs)
  | cmpO (op : COp) (f : Nat) (c : String) (a b : Ex)
  | cmpOD (op : COp) (f : Nat) (c : String) (a b : Ex)
  | neO (f : Nat) (c : String) (a b : Ex)
  | lenO (f : Nat) (c : String) (o : Ex)
  | strO (f : Nat) (c : String) (o : Ex)
  | fst (es : Exs)
  | dct
  | met (j : Nat) (nm : Str) (e : Ex)
  | callG (f : Nat) (es : Exs)
  | fnv (f : Nat) (x : String)
  | isB (n : String) (e : Ex)
  | mkx (k : Nat) (e : Ex)
  | isX (own : Bool) (t : String) (e : Ex)
  | xfl (f : Str) (e : Ex)
  | callV (i : Nat) (fs : List (String × Nat)) (es : Exs)
inductive Exs where
  | nil
  | cons (e : Ex) (r : Exs)
  | star (e : Ex) (r : Exs)
inductive Ox where
  | no
  | so (e : Ex)
/-- what makes a new list -/
inductive Lx where
  | disp (es : Exs)
  | comp (own : List Nat) (tg : Tg) (it : It) (ts : Exs) (el : Ex)
  | comp2 (own own2 : List Nat) (tg : Tg) (it : It) (ts : Exs) (tg2 : Tg) (it2 : It) (ts2 : Exs) (el : Ex)
  | rep (a n : Ex)
  | cat (a b : Ex)
  | ofSeq (a : Ex)
  | slc (a : Ex) (lo hi : Ox)
  | sorted (a : Ex)
  | sortK (f : Nat) (a : Ex)
  | sortSet (a : Ex)
  | sortI (a : Ex)
  | stpL (a : Ex) (lo hi : Ox) (st : Ex)
/-- what a loop walks -/
inductive It where
  | seq (e : Ex)
  | rng1 (a : Ex)
  | rng2 (a b : Ex)
  | rng3 (a b c : Ex)
  | enum (e : Ex)
  | zip (a b : Ex)
inductive Tg where
  | nm (i : Nat)
  | tp (ts : Tgs)
  | sub (o i : Ex)
  | fld (o : Ex) (c : String) (i : Nat)
inductive Tgs where
  | nil
  | cons (t : Tg) (r : Tgs)
end
mutual
inductive Sm where
  | asg (t : Tg) (e : Ex)
  | par (is : List Nat) (es : Exs)
  | aug (i : Nat) (op : BOp) (e : Ex)
  | ex (e : Ex)
  | ret (e : Ex)
  | retF (e : Ex)
  | retN
  | ife (c : Ex) (a b : Bl)
  | whl (c : Ex) (b : Bl)
  | for (tg : Tg) (it : It) (b : Bl)
  | raise (k : Nat) (e : Ex)
  | rse (k : Nat)
  | rsv (k : Nat) (e : Ex)
  | tryC (b : Bl) (hs : List (Nat × D))
  | pass
  | brk
  | cont
inductive Bl where
  | nil
  | cons (s : Sm) (r : Bl)
end

/-! ### values -/
/-- an owned list seen as a value -/
def res (S : Sto) : D → D
  | .ref p => match S p with
    | some (.lst ds) => .lst ds
    | _ => .ref p
  | d => d

def D.py : D → Option PyData
  | .non => some .none
  | .bl b => some (.bool b)
  | .int i => some (.int i)
  | .str x => some (.str x)
  | .tup xs => (pys xs).map .tuple
  | .lst xs => (pys xs).map .list
  | .ref _ => none
  | .ty _ => none
  | .scr _ => none
  | .obj _ _ => none
  | .dct => none
  | .fn _ => none
  | .exc _ _ => none
where pys : List D → Option (List PyData)
  | [] => some []
  | x :: xs => match D.py x, pys xs with
    | some p, some ps => some (p :: ps)
    | _, _ => none

/-- the repr of a value that is data -/
def shD (d : D) : Option Str := match d.py with
  | some p => if shB p = true then some p.shown else none
  | none => none
/-- == of two values that are data -/
def eqD (x y : D) (k : Bool → Prop) : Prop := ∃ p q, x.py = some p ∧ y.py = some q ∧ SeqAt.shaped p = true ∧ SeqAt.shaped q = true ∧ k (PyData.eqv p q)
def inD (x y : D) (k : Bool → Prop) : Prop := match y with
  | .lst ds => ∃ p ps, x.py = some p ∧ D.py.pys ds = some ps ∧ SeqAt.shaped p = true ∧ SeqAt.shaped (.list ps) = true ∧ k (ps.any fun z => PyData.eqv z p)
  | .str z => ∃ c : Nat, x = .str ⟨#[c]⟩ ∧ k (decide (c ∈ z.cps.toList))
  | .tup ds => ∃ (i : Int) (ns : List Int), x = .int i ∧ ds = ns.map .int ∧ k (ns.any fun a => a == i)
  | _ => False

/-- nothing is asked of the sizes: there is room for a long division -/
def PyOk (_ _ : Int) : Prop := True
def binD (op : BOp) (x y : D) (k : D → Prop) : Prop := match op, x, y with
  | .add, .int i, .int j => k (.int (i + j))
  | .sub, .int i, .int j => k (.int (i - j))
  | .mul, .int i, .int j => IntMulOk i j ∧ k (.int (i * j))
  | .mul, .tup xs, .int n => -(2 ^ 63) ≤ n ∧ n < 2 ^ 63 ∧ xs.length * n.toNat ≤ sizeLine ∧ k (.tup (List.replicate n.toNat xs).flatten)
  | .fdiv, .int i, .int j => j ≠ 0 ∧ PyOk i j ∧ k (.int (i.fdiv j))
  | .mod, .int i, .int j => j ≠ 0 ∧ k (.int (i.fmod j))
  | .pow, .int i, .int j => (0 ≤ j ∧ (Builtin.Int.intBits i : Int) * j ≤ 2 ^ 27) ∧ k (.int (i ^ j.toNat))
  | .add, .tup xs, .tup ys => xs.length + ys.length ≤ sizeLine ∧ k (.tup (xs ++ ys))
  | .add, .str a, .str b => a.length + b.length ≤ sizeLine ∧ k (.str (a ++ b))
  | _, _, _ => False

def cmpD (op : COp) (x y : D) (k : Bool → Prop) : Prop := match op, x, y with
  | .lt, .int i, .int j => k (decide (i < j))
  | .le, .int i, .int j => k (decide (i ≤ j))
  | .gt, .int i, .int j => k (decide (j < i))
  | .ge, .int i, .int j => k (decide (j ≤ i))
  | .eq, .int i, .int j => k (decide (i = j))
  | .ne, .int i, .int j => k (!decide (i = j))
  | .eq, x, y => eqD x y k
  | .ne, x, y => eqD x y fun b => k (!b)
  | .is, .bl a, .bl b => k (a == b)
  | .isn, .bl a, .bl b => k (a != b)
  | .is, x, .non => k (match x with | .non => true | _ => false)
  | .isn, x, .non => k (match x with | .non => false | _ => true)
  | .inn, x, y => inD x y k
  | .nin, x, y => inD x y fun b => k (!b)
  | _, _, _ => False

/-- the item at an index, from behind too -/
def atD (xs : List D) (i : Int) : Option D := L2.atI xs i
def cutD (xs : List D) (lo hi : Option Int) : List D := (xs.drop (HT.sIx xs.length 0 lo)).take (HT.sIx xs.length xs.length hi - HT.sIx xs.length 0 lo)

/-- in the order of the keys, equal ones as they stood -/
def byKeys {α : Type} (xs : List α) (kz : List Int) : List α := ((xs.zip kz).mergeSort fun p q => decide (p.2 ≤ q.2)).map Prod.fst
/-- what sorted() asks of the items: tuples that begin with ints, or one tuple alone -/
def SrtOk (ps : List PyData) (kz : List Int) : Prop := (∀ (i : Nat) (d : PyData) (k : Int), ps[i]? = some d → kz[i]? = some k → ∃ r, d = .tuple (.int k :: r)) ∨ (ps.length ≤ 1 ∧ ∀ d ∈ ps, ∃ x r, d = .tuple (x :: r))
def typD : D → Option String
  | .non => some "NoneType"
  | .bl _ => some "bool"
  | .int _ => some "int"
  | .str _ => some "str"
  | .tup _ => some "tuple"
  | .lst _ => some "list"
  | .dct => some "dict"
  | _ => none
/-- xs[lo:hi:st] -/
def pick {α : Type} (xs : List α) (lo hi : Option Int) (st : Int) : List α :=
  (List.range (Builtin.Slice.slicePlaces (Builtin.Slice.sliceAdjust lo hi st (xs.length : Int)).1 (Builtin.Slice.sliceAdjust lo hi st (xs.length : Int)).2 st)).filterMap fun (k : Nat) => xs[((Builtin.Slice.sliceAdjust lo hi st (xs.length : Int)).1 + (k : Int) * st).toNat]?

/-! ### what is walked, as a list of items -/
def seqD (S : Sto) (d : D) (k : List D → (Sto → Prop) → Prop) : Prop := match d with
  | .tup xs => k xs fun _ => True
  | .lst xs => k xs fun _ => True
  | .scr xs => k (xs.map .int) fun _ => True
  | .ref p => match S p with
    | some (.lst ds) => k ds fun S' => S' p = some (.lst ds)
    | _ => False
  | _ => False
def rangeD (i c : Int) (n : Nat) : List D := (List.range n).map fun k => .int (i + (k : Nat) * c)
def enumD : Nat → List D → List D
  | _, [] => []
  | n, x :: r => .tup [.int n, x] :: enumD (n + 1) r
def zipD (xs ys : List D) : List D := List.zipWith (fun x y => .tup [x, y]) xs ys

def isiTys : List String := ["int", "bool", "tuple", "str", "list"]
def isiB (t n : String) : Bool := t == n || (t == "bool" && n == "int")
def biD (b : BI) (S : Sto) (ds : List D) (k : D → Prop) : Prop := match b, ds with
  | .len, [d] => match res S d with
    | .tup xs => k (.int xs.length)
    | .lst xs => k (.int xs.length)
    | .scr xs => k (.int xs.length)
    | .str x => x.length ≤ sizeLine ∧ k (.int x.length)
    | _ => False
  | .abs, [.int i] => k (.int (if i < 0 then -i else i))
  | .max, [d] => ∃ ns : List Int, res S d = .lst (ns.map .int) ∧ 0 < ns.length ∧ ∀ m ∈ ns, (∀ y ∈ ns, y ≤ m) → k (.int m)
  | .min, [d] => ∃ ns : List Int, res S d = .lst (ns.map .int) ∧ 0 < ns.length ∧ ∀ m ∈ ns, (∀ y ∈ ns, m ≤ y) → k (.int m)
  | .max, [x, y] => ∃ i j, x = .int i ∧ y = .int j ∧ k (.int (if j > i then j else i))
  | .min, [x, y] => ∃ i j, x = .int i ∧ y = .int j ∧ k (.int (if j < i then j else i))
  | .int, [.int i] => k (.int i)
  | .int, [.bl b] => k (.int (if b then 1 else 0))
  | .sum, [d] => ∃ ns : List Int, res S d = .lst (ns.map .int) ∧ k (.int ns.sum)
  | .all, [d] => ∃ bs : List Bool, res S d = .lst (bs.map .bl) ∧ k (.bl (bs.all id))
  | .any, [d] => ∃ bs : List Bool, res S d = .lst (bs.map .bl) ∧ k (.bl (bs.any id))
  | .tuple, [d] => match res S d with
    | .tup xs => k (.tup xs)
    | .lst xs => k (.tup xs)
    | _ => False
  | .repr, [.bl b] => k (.str (if b then "True" else "False"))
  | .repr, [.int i] => i.natAbs.log2 < 1920 ∧ k (.str (toString i))
  | .repr, [.non] => k (.str "None")
  | .repr, [.str x] => (reprText x).length ≤ 8000000 ∧ k (.str (reprText x))
  | .reprG, [d] => ∃ s, shD (res S d) = some s ∧ k (.str s)
  | .str, [.int i] => i.natAbs.log2 < 1920 ∧ k (.str (toString i))
  | .str, [.str x] => k (.str x)
  | .isinst, [x, .ty n] => ∃ t, typD (res S x) = some t ∧ n ∈ isiTys ∧ k (.bl (isiB t n))
  | _, _ => False

def tstD (d : D) (k : Bool → Prop) : Prop := match d with
  | .bl b => k b
  | _ => False

/-- what isinstance asks of a value and a class of the program -/
def isCD (has : String → Bool) (c : String) (x : D) (k : Bool → Prop) : Prop := match x with
  | .obj c' _ => has c' = true ∧ k (c' == c)
  | y => ∃ t, typD y = some t ∧ k false

/-- .. of a value and a built-in class -/
def isBD (has : String → Bool) (n : String) (x : D) (k : Bool → Prop) : Prop := n ∈ isiTys ∧ match x with
  | .obj c' _ => has c' = true ∧ k false
  | y => ∃ t, typD y = some t ∧ k (isiB t n)

/-- the turns of a comprehension; B: what is asked at an append -/
def compL (bd : D → Env → Sto → (Env → Sto → Prop) → Prop) (tw : Env → Sto → (Bool → Sto → Prop) → Prop) (ew : Env → Sto → QD → Prop) (B : List D → Prop) (C : Sto → Prop) (K : List D → Sto → Prop) (ρ : Env) : List D → Sto → List D → Prop
  | [], S, acc => C S ∧ K acc S
  | d :: ds, S, acc => C S ∧ bd d ρ S fun ρ' S1 => tw ρ' S1 fun b S2 => if b = true then ew ρ' S2 fun y S3 => B acc ∧ compL bd tw ew B C K ρ ds S3 (acc ++ [y]) else compL bd tw ew B C K ρ ds S2 acc
/-- .. of the outer clause: iw makes the inner walk, which ends in a list added -/
def compO (bd : D → Env → Sto → (Env → Sto → Prop) → Prop) (tw : Env → Sto → (Bool → Sto → Prop) → Prop) (iw : Env → Sto → List D → (List D → Sto → Prop) → Prop) (C : Sto → Prop) (K : List D → Sto → Prop) (ρ : Env) : List D → Sto → List D → Prop
  | [], S, acc => C S ∧ K acc S
  | d :: ds, S, acc => C S ∧ bd d ρ S fun ρ' S1 => tw ρ' S1 fun b S2 => if b = true then iw ρ' S2 acc fun acc' S3 => compO bd tw iw C K ρ ds S3 acc' else compO bd tw iw C K ρ ds S2 acc

/-- the context: what defs promise, what module constants are -/
structure Gam where
  fn : Nat → FSp
  gl : Nat → D
  cls : List (String × List Str) := []
  xc : List String := []
  mt : List (Str × List (Nat × HC) × Option D) := []
def Gam.has (Γ : Gam) (c : String) : Bool := Γ.cls.any fun p => p.1 == c

def xNo : XD := fun _ _ _ => False
def tgsLen : Tgs → Nat
  | .nil => 0
  | .cons _ r => tgsLen r + 1
mutual
def wpE (Γ : Gam) : Ex → Env → Sto → XD → QD → Prop
  | .var i, ρ, S, _, Q => match getV ρ i with
    | some d => Q d S
    | none => False
  | .cst d, _, S, _, Q => Q d S
  | .glb k, _, S, _, Q => Q (Γ.gl k) S
  | .bin op a b, ρ, S, R, Q => wpE Γ a ρ S R fun x S1 => wpE Γ b ρ S1 R fun y S2 => binD op x y fun z => Q z S2
  | .neg a, ρ, S, R, Q => wpE Γ a ρ S R fun x S1 => match x with
    | .int i => Q (.int (-i)) S1
    | _ => False
  | .not a, ρ, S, R, Q => wpE Γ a ρ S R fun x S1 => tstD x fun b => Q (.bl (!b)) S1
  | .cmp op a b, ρ, S, R, Q => wpE Γ a ρ S R fun x S1 => wpE Γ b ρ S1 R fun y S2 => cmpD op (res S2 x) (res S2 y) fun z => Q (.bl z) S2
  | .chn o1 o2 a b c, ρ, S, R, Q => wpE Γ a ρ S R fun x S1 => wpE Γ b ρ S1 R fun y S2 => cmpD o1 (res S2 x) (res S2 y) fun z => if z = true then wpE Γ c ρ S2 R fun u S3 => cmpD o2 (res S3 y) (res S3 u) fun v => Q (.bl v) S3 else Q (.bl false) S2
  | .and a b, ρ, S, R, Q => wpE Γ a ρ S R fun x S1 => tstD x fun c => if c = true then wpE Γ b ρ S1 R Q else Q (.bl false) S1
  | .or a b, ρ, S, R, Q => wpE Γ a ρ S R fun x S1 => tstD x fun c => if c = true then Q (.bl true) S1 else wpE Γ b ρ S1 R Q
  | .ite c a b, ρ, S, R, Q => wpE Γ c ρ S R fun x S1 => tstD x fun z => if z = true then wpE Γ a ρ S1 R Q else wpE Γ b ρ S1 R Q
  | .idx a i, ρ, S, R, Q => wpE Γ a ρ S R fun x S1 => wpE Γ i ρ S1 R fun y S2 => match res S2 x, y with
    | .tup xs, .int n => ∃ d, atD xs n = some d ∧ Q d S2
    | .lst xs, .int n => ∃ d, atD xs n = some d ∧ Q d S2
    | .scr xs, .int n => ∃ m, L2.atI xs n = some m ∧ Q (.int m) S2
    | _, _ => False
  | .slc a lo hi, ρ, S, R, Q => wpE Γ a ρ S R fun x S1 => wpO Γ lo ρ S1 R fun l S2 => wpO Γ hi ρ S2 R fun h S3 => match res S3 x with
    | .tup xs => Q (.tup (cutD xs l h)) S3
    | .lst xs => Q (.lst (cutD xs l h)) S3
    | _ => False
  | .stp a lo hi st, ρ, S, R, Q => wpE Γ a ρ S R fun x S1 => wpO Γ lo ρ S1 R fun l S2 => wpO Γ hi ρ S2 R fun h S3 => wpE Γ st ρ S3 R fun y S4 => match x, y with
    | .tup xs, .int k => k ≠ 0 ∧ k ≠ 1 ∧ Q (.tup (pick xs l h k)) S4
    | _, _ => False
  | .tup es, ρ, S, R, Q => wpEs Γ es ρ S R fun ds S1 => ds.length ≤ sizeLine ∧ Q (.tup ds) S1
  | .frz l, ρ, S, R, Q => wpL Γ l ρ S R fun ds S1 => Q (.lst ds) S1
  | .own l, ρ, S, R, Q => wpL Γ l ρ S R fun ds S1 => ∀ p, S1 p = none → Q (.ref p) (sup S1 p (.lst ds))
  | .call f es, ρ, S, R, Q => wpEs Γ es ρ S R fun ds S1 => Γ.fn f ds S1 R Q
  | .bi b es, ρ, S, R, Q => wpEs Γ es ρ S R fun ds S1 => biD b S1 ds fun d => Q d S1
  | .app o e, ρ, S, R, Q => wpE Γ o ρ S R fun x S1 => ∃ p, x = .ref p ∧ (∃ ds, S1 p = some (.lst ds)) ∧ wpE Γ e ρ S1 R fun y S2 => ∃ ds, S2 p = some (.lst ds) ∧ ds.length < sizeLine ∧ Q .non (sup S2 p (.lst (ds ++ [y])))
  | .fld c i e, ρ, S, R, Q => wpE Γ e ρ S R fun x S1 => match x with
    | .obj c' fs => c' = c ∧ (match fs[i]? with
      | some d => Q d S1
      | none => False)
    | _ => False
  | .isC c e, ρ, S, R, Q => wpE Γ e ρ S R fun x S1 => isCD Γ.has c (res S1 x) fun b => Q (.bl b) S1
  | .meth f c o es, ρ, S, R, Q => wpE Γ o ρ S R fun x S1 => (∃ fs, x = .obj c fs) ∧ wpEs Γ es ρ S1 R fun ds S2 => Γ.fn f (x :: ds) S2 R Q
  | .prop f c o, ρ, S, R, Q => wpE Γ o ρ S R fun x S1 => (∃ fs, x = .obj c fs) ∧ Γ.fn f [x] S1 xNo Q
  | .new f c n es, ρ, S, R, Q => wpEs Γ es ρ S R fun ds S1 => ∀ p q, S1 p = none → S1 q = none → q ≠ p → Γ.fn f (.ref p :: ds) (sup (sup S1 q .dx) p (.obj c q (List.replicate n none))) R fun v S2 => v = .non ∧ ∃ fs, S2 p = some (.obj c q (fs.map some)) ∧ S2 q = some .dx ∧ Q (.obj c fs) (sdel (sdel S2 p) q)
  | .cmpO _ f c a b, ρ, S, R, Q => wpE Γ a ρ S R fun x S1 => wpE Γ b ρ S1 R fun y S2 => (∃ fs, x = .obj c fs) ∧ (∃ fs, y = .obj c fs) ∧ Γ.fn f [x, y] S2 xNo Q
  | .neO f c a b, ρ, S, R, Q => wpE Γ a ρ S R fun x S1 => wpE Γ b ρ S1 R fun y S2 => (∃ fs, x = .obj c fs) ∧ (∃ fs, y = .obj c fs) ∧ Γ.fn f [x, y] S2 xNo fun d S3 => ∃ t, d = .bl t ∧ Q (.bl (!t)) S3
  | .cmpOD op f c a b, ρ, S, R, Q => wpE Γ a ρ S R fun x S1 => wpE Γ b ρ S1 R fun y S2 => ((∃ fs, x = .obj c fs) ∧ ((∃ fs, y = .obj c fs) ∨ ∃ t, typD (res S2 y) = some t) ∧ Γ.fn f [x, y] S2 xNo Q) ∨ cmpD op (res S2 x) (res S2 y) fun z => Q (.bl z) S2
  | .lenO f c o, ρ, S, R, Q => wpE Γ o ρ S R fun x S1 => (∃ fs, x = .obj c fs) ∧ Γ.fn f [x] S1 xNo fun v S2 => ∃ i : Int, v = .int i ∧ 0 ≤ i ∧ i < 2 ^ 62 ∧ Q v S2
  | .strO f c o, ρ, S, R, Q => wpE Γ o ρ S R fun x S1 => (∃ fs, x = .obj c fs) ∧ Γ.fn f [x] S1 xNo fun v S2 => ∃ s, v = .str s ∧ Q v S2
  | .fst es, ρ, S, R, Q => wpFs Γ es ρ S R Str.empty fun s S1 => Q (.str s) S1
  | .dct, _, S, _, Q => Q .dct S
  | .met j nm e, ρ, S, _, Q => (∃ a T, S a = some (.tb T) ∧ ∃ p ∈ T, p.2 = nm) ∧ match Γ.mt[j]? with
    | some (_, hs, fin) => wpE Γ e ρ S (fun k d S' => hcW shD hs k d fun r => Q r S') fun d S' => Q (fin.getD d) S'
    | none => False
  | .callG f es, ρ, S, R, Q => wpEs Γ es ρ S R fun ds S1 => Γ.fn f ds S1 R Q
  | .fnv _ x, _, S, _, Q => Q (.fn x) S
  | .mkx k e, ρ, S, R, Q => wpE Γ e ρ S R fun d S1 => ∃ n, Γ.xc[k]? = some n ∧ match xsup n with
    | none => Q (.exc n []) S1
    | some _ => kpB d = true ∧ Q (.exc n [d]) S1
  | .isX own t e, ρ, S, R, Q => wpE Γ e ρ S R fun x S1 => ∃ n vs, x = .exc n vs ∧ (Γ.xc.contains n = true ∧ (own, t) ∈ xtys) ∧ Q (.bl ((xanc n).contains t)) S1
  | .xfl f e, ρ, S, R, Q => wpE Γ e ρ S R fun x S1 => ∃ n v p, x = .exc n [v] ∧ xsup n = some p ∧ p.1 = f ∧ Γ.xc.contains n = true ∧ Q v S1
  | .isB n e, ρ, S, R, Q => wpE Γ e ρ S R fun x S1 => isBD Γ.has n (res S1 x) fun b => Q (.bl b) S1
  | .callV i fs es, ρ, S, R, Q => match getV ρ i with
    | some (.fn x) => (match fs.lookup x with
      | some f => wpEs Γ es ρ S R fun ds S1 => Γ.fn f ds S1 R Q
      | none => False)
    | _ => False
def wpEs (Γ : Gam) : Exs → Env → Sto → XD → (List D → Sto → Prop) → Prop
  | .nil, _, S, _, Q => Q [] S
  | .cons e r, ρ, S, R, Q => wpE Γ e ρ S R fun x S1 => wpEs Γ r ρ S1 R fun xs S2 => Q (x :: xs) S2
  | .star e r, ρ, S, R, Q => wpE Γ e ρ S R fun x S1 => match res S1 x with
    | .tup ys => wpEs Γ r ρ S1 R fun xs S2 => Q (ys ++ xs) S2
    | .lst ys => wpEs Γ r ρ S1 R fun xs S2 => Q (ys ++ xs) S2
    | _ => False
/-- a text put together of texts and ints -/
def wpFs (Γ : Gam) : Exs → Env → Sto → XD → Str → (Str → Sto → Prop) → Prop
  | .nil, _, S, _, acc, Q => Q acc S
  | .cons e r, ρ, S, R, acc, Q => wpE Γ e ρ S R fun x S1 => match x with
    | .str y => y.length ≤ sizeLine ∧ (acc ++ y).length ≤ sizeLine ∧ wpFs Γ r ρ S1 R (acc ++ y) Q
    | .int i => i.natAbs.log2 < 1920 ∧ (acc ++ (toString i : Str)).length ≤ sizeLine ∧ wpFs Γ r ρ S1 R (acc ++ (toString i : Str)) Q
    | _ => False
  | .star _ _, _, _, _, _, _ => False
def wpO (Γ : Gam) : Ox → Env → Sto → XD → (Option Int → Sto → Prop) → Prop
  | .no, _, S, _, Q => Q none S
  | .so e, ρ, S, R, Q => wpE Γ e ρ S R fun x S1 => match x with
    | .int i => Q (some i) S1
    | _ => False
def wpL (Γ : Gam) : Lx → Env → Sto → XD → (List D → Sto → Prop) → Prop
  | .disp es, ρ, S, R, Q => wpEs Γ es ρ S R fun ds S1 => ds.length ≤ sizeLine ∧ Q ds S1
  | .comp own tg it ts el, ρ, S, R, Q => wpI Γ it ρ S R fun ds C S1 =>
      compL (fun d ρ S K => wpG Γ tg d ρ S xNo K) (fun ρ S K => wpTs Γ ts ρ S K) (fun ρ S K => wpE Γ el ρ S xNo K) (fun _ => True) C Q (delVs ρ own) ds S1 []
  | .comp2 own own2 tg it ts tg2 it2 ts2 el, ρ, S, R, Q => wpI Γ it ρ S R fun ds C S1 =>
      compO (fun d ρ S K => wpG Γ tg d ρ S xNo K) (fun ρ S K => wpTs Γ ts ρ S K)
        (fun ρ S acc K => wpI Γ it2 ρ S xNo fun ds2 C2 S2 => compL (fun d ρ S K => wpG Γ tg2 d ρ S xNo K) (fun ρ S K => wpTs Γ ts2 ρ S K) (fun ρ S K => wpE Γ el ρ S xNo K) (fun acc => acc.length < sizeLine) C2 K (delVs ρ own2) ds2 S2 acc) C Q (delVs ρ own) ds S1 []
  | .rep a n, ρ, S, R, Q => wpE Γ a ρ S R fun x S1 => wpE Γ n ρ S1 R fun y S2 => match res S2 x, y with
    | .lst xs, .int k => -(2 ^ 63) ≤ k ∧ k < 2 ^ 63 ∧ xs.length * k.toNat ≤ sizeLine ∧ Q (List.replicate k.toNat xs).flatten S2
    | _, _ => False
  | .cat a b, ρ, S, R, Q => wpE Γ a ρ S R fun x S1 => wpE Γ b ρ S1 R fun y S2 => match res S2 x, res S2 y with
    | .lst xs, .lst ys => xs.length + ys.length ≤ sizeLine ∧ Q (xs ++ ys) S2
    | _, _ => False
  | .ofSeq a, ρ, S, R, Q => wpE Γ a ρ S R fun x S1 => match res S1 x with
    | .tup xs => Q xs S1
    | .lst xs => Q xs S1
    | _ => False
  | .slc a lo hi, ρ, S, R, Q => wpE Γ a ρ S R fun x S1 => wpO Γ lo ρ S1 R fun l S2 => wpO Γ hi ρ S2 R fun h S3 => match res S3 x with
    | .lst xs => Q (cutD xs l h) S3
    | _ => False
  | .sorted a, ρ, S, R, Q => wpE Γ a ρ S R fun x S1 => match res S1 x with
    | .lst xs => ∃ (kz : List Int) (ps : List PyData), kz.length = xs.length ∧ kz.Nodup ∧ D.py.pys xs = some ps ∧ PySem.W.AllAlike ps ∧ (∀ p ∈ ps, p.depth ≤ 8) ∧
      SrtOk ps kz ∧ Q (byKeys xs kz) S1
    | _ => False
  | .stpL a lo hi st, ρ, S, R, Q => wpE Γ a ρ S R fun x S1 => wpO Γ lo ρ S1 R fun l S2 => wpO Γ hi ρ S2 R fun h S3 => wpE Γ st ρ S3 R fun y S4 => match res S4 x, y with
    | .lst xs, .int k => l = none ∧ h = none ∧ k = -1 ∧ Q xs.reverse S4
    | _, _ => False
  | .sortSet a, ρ, S, R, Q => wpE Γ a ρ S R fun x S1 => match res S1 x with
    | .lst xs => ∃ ns : List Int, xs = ns.map .int ∧ ns.length < 64 ∧ ∀ ms : List Int, ms.Pairwise (· < ·) → (∀ k, k ∈ ms ↔ k ∈ ns) → Q (ms.map .int) S1
    | _ => False
  | .sortI a, ρ, S, R, Q => wpE Γ a ρ S R fun x S1 => match res S1 x with
    | .lst xs => ∃ ns : List Int, xs = ns.map .int ∧ ∀ ms : List Int, ms.Perm ns → ms.Pairwise (· ≤ ·) → Q (ms.map .int) S1
    | _ => False
  | .sortK f a, ρ, S, R, Q => wpE Γ a ρ S R fun x S1 => match res S1 x with
    | .lst xs => ∃ kz : List Int, kz.length = xs.length ∧ (∀ (i : Nat) (d : D) (k : Int), xs[i]? = some d → kz[i]? = some k → Γ.fn f [d] S1 xNo fun v S2 => v = .int k ∧ Sub S1 S2) ∧ Q (byKeys xs kz) S1
    | _ => False
def wpI (Γ : Gam) : It → Env → Sto → XD → (List D → (Sto → Prop) → Sto → Prop) → Prop
  | .seq e, ρ, S, R, Q => wpE Γ e ρ S R fun x S1 => seqD S1 x fun ds C => Q ds C S1
  | .rng1 a, ρ, S, R, Q => wpE Γ a ρ S R fun x S1 => ∃ j : Int, x = .int j ∧ -(2 ^ 62) ≤ j ∧ j ≤ 16777216 ∧ Q (rangeD 0 1 j.toNat) (fun _ => True) S1
  | .rng2 a b, ρ, S, R, Q => wpE Γ a ρ S R fun x S1 => wpE Γ b ρ S1 R fun y S2 => ∃ i j : Int, x = .int i ∧ y = .int j ∧ (-(2 ^ 62) ≤ i ∧ i < 2 ^ 62 ∧ -(2 ^ 62) ≤ j ∧ j < 2 ^ 62) ∧ j - i ≤ 16777216 ∧ Q (rangeD i 1 (j - i).toNat) (fun _ => True) S2
  | .rng3 a b c, ρ, S, R, Q => wpE Γ a ρ S R fun x S1 => wpE Γ b ρ S1 R fun y S2 => wpE Γ c ρ S2 R fun z S3 => ∃ (i j c : Int) (n : Nat), x = .int i ∧ y = .int j ∧ z = .int c ∧ L2.RgC i j c n ∧ n ≤ sizeLine ∧ Q (rangeD i c n) (fun _ => True) S3
  | .enum e, ρ, S, R, Q => wpE Γ e ρ S R fun x S1 => seqD S1 x fun ds C => Q (enumD 0 ds) C S1
  | .zip a b, ρ, S, R, Q => wpE Γ a ρ S R fun x S1 => wpE Γ b ρ S1 R fun y S2 => seqD S2 x fun ds C => seqD S2 y fun ds2 C2 => Q (zipD ds ds2) (fun S => C S ∧ C2 S) S2
def wpG (Γ : Gam) : Tg → D → Env → Sto → XD → (Env → Sto → Prop) → Prop
  | .nm i, d, ρ, S, _, K => K (setV ρ i d) S
  | .tp ts, d, ρ, S, R, K => match d with
    | .tup ds => ds.length = tgsLen ts ∧ wpGs Γ ts ds ρ S R K
    | .lst ds => ds.length = tgsLen ts ∧ wpGs Γ ts ds ρ S R K
    | _ => False
  | .sub o i, d, ρ, S, R, K => wpE Γ o ρ S R fun x S1 => wpE Γ i ρ S1 R fun y S2 => ∃ p ds n j, x = .ref p ∧ y = .int n ∧ S2 p = some (.lst ds) ∧ L2.ixN ds.length n = some j ∧ K ρ (sup S2 p (.lst (ds.set j d)))
  | .fld o c i, d, ρ, S, R, K => wpE Γ o ρ S R fun x S1 => ∃ p q fs, x = .ref p ∧ S1 p = some (.obj c q fs) ∧ S1 q = some .dx ∧ i < fs.length ∧ K ρ (sup S1 p (.obj c q (fs.set i (some d))))
def wpGs (Γ : Gam) : Tgs → List D → Env → Sto → XD → (Env → Sto → Prop) → Prop
  | .nil, ds, ρ, S, _, K => match ds with
    | [] => K ρ S
    | _ => False
  | .cons t r, ds, ρ, S, R, K => match ds with
    | d :: ds => wpG Γ t d ρ S R fun ρ' S' => wpGs Γ r ds ρ' S' R K
    | [] => False
/-- the tests of a comprehension: at most one -/
def wpTs (Γ : Gam) : Exs → Env → Sto → (Bool → Sto → Prop) → Prop
  | .nil, _, S, K => K true S
  | .cons e r, ρ, S, K => wpE Γ e ρ S xNo fun x S1 => tstD x fun b => if b = true then wpTs Γ r ρ S1 K else K false S1
  | .star _ _, _, _, _ => False
end

structure DEnd where
  nx : Env → Sto → Prop
  rt : QD
  bk : Env → Sto → Prop := fun _ _ => False
  ct : Env → Sto → Prop := fun _ _ => False
/-- the turns of a for -/
def forL (bd : D → Env → Sto → (Env → Sto → Prop) → Prop) (body : DEnd → Env → Sto → Prop) (C : Sto → Prop) (E : DEnd) : List D → Env → Sto → Prop
  | [], ρ, S => C S ∧ E.nx ρ S
  | d :: ds, ρ, S => C S ∧ bd d ρ S fun ρ' S' => body { nx := forL bd body C E ds, ct := forL bd body C E ds, bk := E.nx, rt := E.rt } ρ' S'
/-- what is wanted of an exception out of a statement -/
abbrev XS := Nat → D → Env → Sto → Prop
def parV : List Nat → List D → Env → Env
  | i :: is, d :: ds, ρ => parV is ds (setV ρ i d)
  | _, _, ρ => ρ
mutual
def wpS (Γ : Gam) : Sm → DEnd → XS → Env → Sto → Prop
  | .asg t e, E, X, ρ, S => wpE Γ e ρ S (fun k d S => X k d ρ S) fun d S1 => wpG Γ t d ρ S1 xNo E.nx
  | .par is es, E, X, ρ, S => wpEs Γ es ρ S (fun k d S => X k d ρ S) fun ds S1 => ds.length = is.length ∧ E.nx (parV is ds ρ) S1
  | .aug i op e, E, X, ρ, S => match getV ρ i with
    | some x => wpE Γ e ρ S (fun k d S => X k d ρ S) fun y S1 => ∃ a b, x = .int a ∧ y = .int b ∧ binD op x y fun z => E.nx (setV ρ i z) S1
    | none => False
  | .ex e, E, X, ρ, S => wpE Γ e ρ S (fun k d S => X k d ρ S) fun _ S1 => E.nx ρ S1
  | .ret e, E, X, ρ, S => wpE Γ e ρ S (fun k d S => X k d ρ S) fun d S1 => E.rt d S1
  | .retF e, E, X, ρ, S => wpE Γ e ρ S (fun k d S => X k d ρ S) fun d S1 => ∃ p ds, d = .ref p ∧ S1 p = some (.lst ds) ∧ E.rt (.lst ds) (sdel S1 p)
  | .retN, E, _, _, S => E.rt .non S
  | .ife c a b, E, X, ρ, S => wpE Γ c ρ S (fun k d S => X k d ρ S) fun d S1 => tstD d fun z => if z = true then wpB Γ a E X ρ S1 else wpB Γ b E X ρ S1
  | .whl c b, E, X, ρ, S => ∃ W : Nat → Env → Sto → Prop, (∃ m, W m ρ S) ∧ ∀ m ρ S, W m ρ S → wpE Γ c ρ S (fun k d S => X k d ρ S) fun d S1 => tstD d fun z =>
      if z = true then wpB Γ b { nx := fun ρ' S' => ∃ m', m' < m ∧ W m' ρ' S', ct := fun ρ' S' => ∃ m', m' < m ∧ W m' ρ' S', bk := E.nx, rt := E.rt } X ρ S1 else E.nx ρ S1
  | .for tg it b, E, X, ρ, S => wpI Γ it ρ S (fun k d S => X k d ρ S) fun ds C S1 => forL (fun d ρ S K => wpG Γ tg d ρ S xNo K) (fun E' ρ S => wpB Γ b E' X ρ S) C E ds ρ S1
  | .raise _ _, _, _, _, _ => False
  | .rse k, _, X, ρ, S => X k .non ρ S
  | .rsv k e, _, X, ρ, S => wpE Γ e ρ S (fun k d S => X k d ρ S) fun d S1 => rsvB d = true ∧ X k d ρ S1
  | .tryC b hs, E, X, ρ, S => wpB Γ b E (fun k d ρ' S' => match hs.lookup k with
    | some c => E.rt c S'
    | none => X k d ρ' S') ρ S
  | .pass, E, _, ρ, S => E.nx ρ S
  | .brk, E, _, ρ, S => E.bk ρ S
  | .cont, E, _, ρ, S => E.ct ρ S
def wpB (Γ : Gam) : Bl → DEnd → XS → Env → Sto → Prop
  | .nil, E, _, ρ, S => E.nx ρ S
  | .cons s r, E, X, ρ, S => wpS Γ s { E with nx := wpB Γ r E X } X ρ S
end
end DL

/-! DL2: data against the heap; readings of HandS against weakest preconditions over data. -/
namespace DL
open PySem PySem.Spec PyProof.Rows L2
abbrev Ow := Addr → Prop
/-- what nobody ever changes -/
def Imm (u : HO) : Prop := (∃ xs, u = .tup xs) ∨ (∃ o x, u = .frz o x) ∨ ∃ c q, u = LamX.CodeO c q
/-- an instance is no code object -/
theorem slO_code {a C dx c : Addr} {vs : List (Option V)} {q : Str} : SlX.SlO a C dx vs ≠ LamX.CodeO c q := fun z => by
  unfold SlX.SlO LamX.CodeO at z
  have e := HO.ext.inj z
  let o : Obj := { cls := .none, data := .fields #[.none, .str q 0] }
  let h : Heap := { objs := Array.replicate (c + 1) o }
  have hc : h.get? c = some o := by
    unfold Heap.get?
    rw [show h.objs[c]? = some o from by simp [h]]
  have y := (iff_of_eq (congrFun e h)).mpr ⟨o, _, 0, hc, rfl, rfl⟩
  obtain ⟨sl, hs, _⟩ := y
  have ho : ∀ b u, h.get? b = some u → u = o := fun b u hb => by
    unfold Heap.get? at hb
    rw [show h.objs[b]? = if b < c + 1 then some o else none from by simp [h, Array.getElem?_replicate]] at hb
    by_cases hl : b < c + 1
    · rw [if_pos hl] at hb; exact (Option.some.inj hb).symm
    · rw [if_neg hl] at hb; cases hb
  have := congrArg Obj.data (ho _ _ hs)
  cases this
theorem imm_no {u : HO} (h1 : ∀ xs, u ≠ .tup xs) (h2 : ∀ o x, u ≠ .frz o x) (h3 : ∀ c q, u ≠ LamX.CodeO c q) : ¬ Imm u := fun z => by
  rcases z with ⟨_, e⟩ | ⟨_, _, e⟩ | ⟨_, _, e⟩
  · exact h1 _ e
  · exact h2 _ _ e
  · exact h3 _ _ e
theorem imm_own {x : Addr} : ¬ Imm (.own x) := imm_no (fun _ e => by cases e) (fun _ _ e => by cases e) fun _ _ e => by unfold LamX.CodeO at e; cases e
theorem imm_ins {C dx : Addr} {fs : List (Str × V)} : ¬ Imm (.ins C dx fs) := imm_no (fun _ e => by cases e) (fun _ _ e => by cases e) fun _ _ e => by unfold LamX.CodeO at e; cases e
theorem imm_xd {fs : List (Str × V)} : ¬ Imm (.xd fs) := imm_no (fun _ e => by cases e) (fun _ _ e => by cases e) fun _ _ e => by unfold LamX.CodeO at e; cases e
theorem imm_slO {a C dx : Addr} {vs : List (Option V)} : ¬ Imm (SlX.SlO a C dx vs) := imm_no (fun _ e => by unfold SlX.SlO at e; cases e) (fun _ _ e => by unfold SlX.SlO at e; cases e) fun _ _ e => slO_code e
theorem imm_tbl {ps : Array Value} : ¬ Imm (.tbl ps) := imm_no (fun _ e => by cases e) (fun _ _ e => by cases e) fun _ _ e => by unfold LamX.CodeO at e; cases e
theorem imm_code {c : Addr} {q : Str} : Imm (LamX.CodeO c q) := .inr (.inr ⟨_, _, rfl⟩)
mutual
/-- the value v stands for the datum d -/
inductive Rp (K : PySem.W.Frag) (O : Ow) (H : Hp) : V → D → Prop
  | non : Rp K O H .non .non
  | bl (b : Bool) : Rp K O H (.bl b) (.bl b)
  | int (i : Int) : Rp K O H (.int i) (.int i)
  | str (x : Str) : Rp K O H (.str x) (.str x)
  | ty (n : String) : Rp K O H (.ty n) (.ty n)
  | ref {a : Addr} : Rp K O H (.ref a) (.ref a)
  | scr {a : Addr} {ns : List Int} {o : Obj} : ns.length ≤ sizeLine → H a = some (.frz o (.lst (ns.map V.int))) → Rp K O H (.ref a) (.scr ns)
  | scrK {a : Addr} {ns : List Int} : ns.length ≤ sizeLine → (∀ H', SqL K H' a (ns.map V.int)) → Rp K O H (.ref a) (.scr ns)
  | scrL {a : Addr} {ns : List Int} : ns.length ≤ sizeLine → H a = some (.lst (ns.map V.int)) → ¬ O a → Rp K O H (.ref a) (.scr ns)
  | tup {a : Addr} {xs : List V} {ds : List D} : SqT K H a xs → xs.length ≤ sizeLine → Rps K O H xs ds → Rp K O H (.ref a) (.tup ds)
  | lst {a : Addr} {xs : List V} {ds : List D} : H a = some (.lst xs) → ¬ O a → xs.length ≤ sizeLine → Rps K O H xs ds → Rp K O H (.ref a) (.lst ds)
  | obj {a dx : Addr} {c : String} {vs : List (Option V)} {ws : List V} {ds : List D} : SlX.Slt H a (He.ga K c) dx vs → (∃ u, H dx = some u) → ¬ O a → ¬ O dx → (∀ (i : Nat) (v : V), ws[i]? = some v → vs[i]? = some (some v)) → Rps K O H ws ds → Rp K O H (.ref a) (.obj c ds)
  | dct {a : Addr} : H a = some (.dK []) → ¬ O a → Rp K O H (.ref a) .dct
  | fn {x : String} : Rp K O H (.ref (He.ga K x)) (.fn x)
  | exc {a : Addr} {c : String} : H a = some (ExO (.ref (He.ga K c)) a) → ¬ O a → Rp K O H (.ref a) (.exc c [])
  | excV {a dx : Addr} {c : String} {p : Str × String} {v : V} {d : D} : xsup c = some p → H a = some (exo a (He.ga K c) (some dx)) → H dx = some (exd dx [(p.1, v)]) → ¬ O a → ¬ O dx → Rp K O H v d → Rp K O H (.ref a) (.exc c [d])
inductive Rps (K : PySem.W.Frag) (O : Ow) (H : Hp) : List V → List D → Prop
  | nil : Rps K O H [] []
  | cons {v : V} {vs : List V} {d : D} {ds : List D} : Rp K O H v d → Rps K O H vs ds → Rps K O H (v :: vs) (d :: ds)
end
/-- not a def's table -/
def NT (u : HO) : Prop := ∀ ps, u ≠ .tbl ps
theorem nt_lst {xs : List V} : NT (.lst xs) := fun _ e => by cases e
theorem nt_own {x : Addr} : NT (.own x) := fun _ e => by cases e
theorem nt_xd {fs : List (Str × V)} : NT (.xd fs) := fun _ e => by cases e
theorem nt_slO {a C dx : Addr} {vs : List (Option V)} : NT (SlX.SlO a C dx vs) := fun _ e => by unfold SlX.SlO at e; cases e
/-- the heap goes on: what is not owned stays, tuples stay, nothing old is newly owned -/
structure Mo (O : Ow) (H : Hp) (O' : Ow) (H' : Hp) : Prop where
  k : ∀ a u, H a = some u → ¬ O a → NT u → H' a = some u
  t : ∀ a u, H a = some u → Imm u → H' a = some u
  o : ∀ a u, H a = some u → O' a → O a
  th : ∀ a, H' a = none → H a = none
section
variable {K : PySem.W.Frag} {O O' O2 : Ow} {H H' H2 : Hp}
theorem Mo.refl : Mo O H O H := ⟨fun _ _ h _ _ => h, fun _ _ h _ => h, fun _ _ _ h => h, fun _ h => h⟩
theorem Mo.ex (m : Mo O H O' H') {a : Addr} (h : ∃ u, H a = some u) : ∃ u, H' a = some u := by
  cases q : H' a with
  | none => obtain ⟨u, h⟩ := h; rw [m.th a q] at h; cases h
  | some u => exact ⟨u, rfl⟩
theorem Mo.rd (m : Mo O H O' H') {a : Addr} {u : HO} (h : Rd H a u) (hn : Imm u) : Rd H' a u := by
  rcases h with h | ⟨o, h⟩
  · exact .inl (m.t _ _ h hn)
  · exact .inr ⟨o, m.t _ _ h (.inr (.inl ⟨_, _, rfl⟩))⟩
theorem Mo.sqT (m : Mo O H O' H') {a : Addr} {xs : List V} (h : SqT K H a xs) : SqT K H' a xs := by
  rcases h with h | h
  · exact .inl (m.rd h (.inl ⟨_, rfl⟩))
  · exact .inr h
theorem Mo.slt (m : Mo O H O' H') {a C dx : Addr} {vs : List (Option V)} (h : SlX.Slt H a C dx vs) (h1 : ¬ O a) (h2 : ¬ O dx) : SlX.Slt H' a C dx vs := by
  rcases h with ⟨h, e⟩ | ⟨h, e⟩
  · exact .inl ⟨m.k _ _ h h1 (fun _ e => by cases e), e⟩
  · exact .inr ⟨m.k _ _ h h1 nt_slO, m.k _ _ e h2 nt_xd⟩
theorem slt_some {a C dx : Addr} {vs : List (Option V)} (h : SlX.Slt H a C dx vs) : ∃ u, H a = some u ∧ ¬ Imm u := by
  rcases h with ⟨h, _⟩ | ⟨h, _⟩
  · exact ⟨_, h, imm_ins⟩
  · exact ⟨_, h, imm_slO⟩
mutual
theorem Rp.mono (m : Mo O H O' H') : ∀ {v : V} {d : D}, Rp K O H v d → Rp K O' H' v d
  | _, _, .non => .non
  | _, _, .bl b => .bl b
  | _, _, .int i => .int i
  | _, _, .str x => .str x
  | _, _, .ty n => .ty n
  | _, _, .ref => .ref
  | _, _, .scr z h => .scr z (m.t _ _ h (.inr (.inl ⟨_, _, rfl⟩)))
  | _, _, .scrK z h => .scrK z h
  | _, _, .scrL z h n => .scrL z (m.k _ _ h n nt_lst) fun q => n (m.o _ _ h q)
  | _, _, .tup h z r => .tup (m.sqT h) z (Rps.mono m r)
  | _, _, .lst h n z r => .lst (m.k _ _ h n nt_lst) (fun q => n (m.o _ _ h q)) z (Rps.mono m r)
  | _, _, .obj h ⟨u, hd⟩ n n2 f r => .obj (m.slt h n n2) (m.ex ⟨u, hd⟩) (fun q => by obtain ⟨u, hu, _⟩ := slt_some h; exact n (m.o _ _ hu q)) (fun q => n2 (m.o _ _ hd q)) f (Rps.mono m r)
  | _, _, .dct h n => .dct (m.k _ _ h n fun _ e => by cases e) fun q => n (m.o _ _ h q)
  | _, _, .fn => .fn
  | _, _, .exc h n => .exc (m.k _ _ h n fun _ e => by unfold ExO at e; cases e) fun q => n (m.o _ _ h q)
  | _, _, .excV p h1 h2 n1 n2 r => .excV p (m.k _ _ h1 n1 fun _ e => by unfold exo at e; cases e) (m.k _ _ h2 n2 fun _ e => by unfold exd at e; cases e) (fun q => n1 (m.o _ _ h1 q)) (fun q => n2 (m.o _ _ h2 q)) (Rp.mono m r)
theorem Rps.mono (m : Mo O H O' H') : ∀ {vs : List V} {ds : List D}, Rps K O H vs ds → Rps K O' H' vs ds
  | _, _, .nil => .nil
  | _, _, .cons r t => .cons (Rp.mono m r) (Rps.mono m t)
end
theorem Rps.len : ∀ {vs : List V} {ds : List D}, Rps K O H vs ds → vs.length = ds.length
  | _, _, .nil => rfl
  | _, _, .cons _ t => by rw [List.length_cons, List.length_cons, t.len]
theorem Rps.append : ∀ {vs us : List V} {ds es : List D}, Rps K O H vs ds → Rps K O H us es → Rps K O H (vs ++ us) (ds ++ es)
  | _, _, _, _, .nil, h => h
  | _, _, _, _, .cons r t, h => .cons r (t.append h)
theorem Rps.get : ∀ {vs : List V} {ds : List D} {i : Nat} {d : D}, Rps K O H vs ds → ds[i]? = some d → ∃ v, vs[i]? = some v ∧ Rp K O H v d
  | _, _, 0, _, .cons r _, e => ⟨_, rfl, by cases e; exact r⟩
  | _, _, i + 1, _, .cons _ t, e => t.get (i := i) e
theorem Rps.getV : ∀ {vs : List V} {ds : List D} {i : Nat} {v : V}, Rps K O H vs ds → vs[i]? = some v → ∃ d, ds[i]? = some d ∧ Rp K O H v d
  | _, _, 0, _, .cons r _, e => ⟨_, rfl, by cases e; exact r⟩
  | _, _, i + 1, _, .cons _ t, e => t.getV (i := i) e
theorem Rps.set : ∀ {vs : List V} {ds : List D} (i : Nat) {v : V} {d : D}, Rps K O H vs ds → Rp K O H v d → Rps K O H (vs.set i v) (ds.set i d)
  | _, _, _, _, _, .nil, _ => .nil
  | _, _, 0, _, _, .cons _ t, h => .cons h t
  | _, _, i + 1, _, _, .cons r t, h => .cons r (t.set i h)
theorem Rps.take : ∀ {vs : List V} {ds : List D} (n : Nat), Rps K O H vs ds → Rps K O H (vs.take n) (ds.take n)
  | _, _, 0, _ => .nil
  | _, _, _ + 1, .nil => .nil
  | _, _, n + 1, .cons r t => .cons r (t.take n)
theorem Rps.drop : ∀ {vs : List V} {ds : List D} (n : Nat), Rps K O H vs ds → Rps K O H (vs.drop n) (ds.drop n)
  | _, _, 0, h => h
  | _, _, _ + 1, .nil => .nil
  | _, _, n + 1, .cons _ t => t.drop n
theorem Rps.reverse : ∀ {vs : List V} {ds : List D}, Rps K O H vs ds → Rps K O H vs.reverse ds.reverse
  | _, _, .nil => .nil
  | _, _, .cons r t => by rw [List.reverse_cons, List.reverse_cons]; exact t.reverse.append (.cons r .nil)
theorem Rps.ints : ∀ {vs : List V} {ns : List Int}, Rps K O H vs (ns.map D.int) → vs = ns.map V.int
  | _, [], .nil => rfl
  | _, _ :: _, .cons r t => by cases r; rw [List.map_cons, t.ints]
theorem Rps.ofInts : ∀ (ns : List Int), Rps K O H (ns.map V.int) (ns.map D.int)
  | [] => .nil
  | n :: ns => .cons (.int n) (Rps.ofInts ns)
theorem Rps.bls : ∀ {vs : List V} {ns : List Bool}, Rps K O H vs (ns.map D.bl) → vs = ns.map V.bl
  | _, [], .nil => rfl
  | _, _ :: _, .cons r t => by cases r; rw [List.map_cons, t.bls]
theorem Rps.rep {vs : List V} {ds : List D} (h : Rps K O H vs ds) : ∀ n : Nat, Rps K O H (List.replicate n vs).flatten (List.replicate n ds).flatten
  | 0 => .nil
  | n + 1 => by rw [List.replicate_succ, List.replicate_succ, List.flatten_cons, List.flatten_cons]; exact h.append (h.rep n)
theorem Rps.dropLast {vs : List V} {ds : List D} (h : Rps K O H vs ds) : Rps K O H vs.dropLast ds.dropLast := by
  rw [List.dropLast_eq_take, List.dropLast_eq_take, h.len]; exact h.take _

/-- the store stands -/
def FsR (K : PySem.W.Frag) (O : Ow) (H : Hp) (vs : List (Option V)) (fs : List (Option D)) : Prop := ∀ (i : Nat) (d : D), fs[i]? = some (some d) → ∃ v, vs[i]? = some (some v) ∧ Rp K O H v d
/-- the name of a lambda made in the def x -/
def lamQ (x : Str) : Str := (x ++ ".<locals>.") ++ "<lambda>"
/-- a def's table of code objects: each bears the name q -/
def TabO (_ : Ow) (H : Hp) (P : Addr) (q : Str) : Prop := ∃ ps : Array Value, H P = some (.tbl ps) ∧ TriplesOk ps.toList ∧ ∀ (pos : Pos) (cv : Value), codeAmong pos ps.toList = some cv → ∃ c, cv = .ref c ∧ H c = some (LamX.CodeO c q)
structure TbOk (K : PySem.W.Frag) (S : Sto) (O : Ow) (H : Hp) (T : List (Addr × Str)) : Prop where
  all : ∀ p ∈ T, O p.1 ∧ S p.1 = some (.tb T) ∧ TabO O H p.1 (lamQ p.2) ∧ ∃ c, PySem.W.tabIn K p.2 = some (c, p.1)
  un : ∀ p ∈ T, ∀ q ∈ T, p.1 = q.1 → p.2 = q.2
  one : ∀ a R, S a = some (.tb R) → R = T
structure Sok (K : PySem.W.Frag) (S : Sto) (O : Ow) (H : Hp) : Prop where
  dom : ∀ a ds, S a = some (.lst ds) → O a ∧ ∃ xs, H a = some (.lst xs) ∧ xs.length ≤ sizeLine ∧ Rps K O H xs ds
  ex : ∀ a, O a → ∃ u, H a = some u ∧ ¬ Imm u
  obj : ∀ a c q fs, S a = some (.obj c q fs) → O a ∧ (∃ u, H q = some u) ∧ ∃ vs, SlX.Slt H a (He.ga K c) q vs ∧ FsR K O H vs fs
  dx : ∀ a, S a = some .dx → O a ∧ ((∃ x, H a = some (.own x)) ∨ H a = some (.xd []))
  inj : ∀ a a' c c' q fs fs', S a = some (.obj c q fs) → S a' = some (.obj c' q fs') → a = a'
  tb : ∀ a T, S a = some (.tb T) → TbOk K S O H T ∧ ∃ q, (a, q) ∈ T
/-- from a state to a later one -/
structure Ev (S : Sto) (O : Ow) (H : Hp) (S' : Sto) (O' : Ow) (H' : Hp) : Prop where
  keep : ∀ a u, H a = some u → S a = none → NT u → H' a = some u
  own : ∀ a, O' a → O a ∨ H a = none
  res : ∀ a, O a → S a = none → O' a ∧ S' a = none
  there : ∀ a, H' a = none → H a = none
variable {S S' S2 : Sto}
theorem TabO.go {P : Addr} {q : Str} (t : TabO O H P q) (m : Mo O H O' H') (hP : ∀ u, H P = some u → H' P = some u) : TabO O' H' P q := by
  obtain ⟨ps, h1, h2, h3⟩ := t
  refine ⟨ps, hP _ h1, h2, fun pos cv hc => ?_⟩
  obtain ⟨c, e, hk⟩ := h3 pos cv hc
  exact ⟨c, e, m.t _ _ hk imm_code⟩
theorem Sok.isO (s : Sok K S O H) {a : Addr} {o : DO} (h : S a = some o) : O a := by
  cases o with
  | tb T =>
    obtain ⟨t, q, hq⟩ := s.tb _ _ h
    exact (t.all _ hq).1
  | lst ds => exact (s.dom _ _ h).1
  | obj c q fs => exact (s.obj _ _ _ _ h).1
  | dx => exact (s.dx _ h).1
theorem FsR.mono (m : Mo O H O' H') {vs : List (Option V)} {fs : List (Option D)} (f : FsR K O H vs fs) : FsR K O' H' vs fs := fun i d e => let ⟨v, h, r⟩ := f i d e; ⟨v, h, r.mono m⟩
theorem Sok.none (s : Sok K S O H) {a : Addr} (h : ¬ O a) : S a = Option.none := by
  cases q : S a with
  | none => rfl
  | some o => exact absurd (s.isO q) h
theorem Sok.noneH (s : Sok K S O H) {a : Addr} (h : H a = Option.none) : S a = Option.none := s.none fun q => by obtain ⟨_, e, _⟩ := s.ex _ q; rw [h] at e; cases e
theorem Sok.notO (s : Sok K S O H) {a : Addr} (h : H a = Option.none) : ¬ O a := fun q => by obtain ⟨_, e, _⟩ := s.ex _ q; rw [h] at e; cases e
theorem Sok.noL (s : Sok K S O H) {a : Addr} {u : HO} (h : H a = some u) (hn : Imm u) : ¬ O a := fun q => by
  obtain ⟨v, e, n⟩ := s.ex _ q; rw [h] at e; cases e; exact n hn
theorem imm_lst {xs : List V} : ¬ Imm (.lst xs) := imm_no (fun _ e => by cases e) (fun _ _ e => by cases e) fun _ _ e => by unfold LamX.CodeO at e; cases e
theorem Ev.mo (e : Ev S O H S' O' H') (s : Sok K S O H) : Mo O H O' H' where
  k := fun a u h n => e.keep a u h (s.none n)
  t := fun a u h n => e.keep a u h (s.none (s.noL h n)) fun ps z => imm_tbl (ps := ps) (by rw [← z]; exact n)
  th := e.there
  o := fun a u h q => (e.own a q).elim id fun z => by rw [h] at z; cases z
theorem Ev.refl : Ev S O H S O H := ⟨fun _ _ h _ _ => h, fun _ h => .inl h, fun _ h n => ⟨h, n⟩, fun _ h => h⟩
theorem Ev.trans (a : Ev S O H S' O' H') (s' : Sok K S' O' H') (b : Ev S' O' H' S2 O2 H2) : Ev S O H S2 O2 H2 := by
  have nn : ∀ c u, H c = some u → S c = none → S' c = none := fun c u h n => by
    cases q : S' c with
    | none => rfl
    | some o =>
      rcases a.own c (s'.isO q) with z | z
      · rw [(a.res c z n).2] at q; cases q
      · rw [h] at z; cases z
  refine ⟨fun c u h n t => b.keep c u (a.keep c u h n t) (nn c u h n) t, fun c h => ?_, fun c h n => b.res c (a.res c h n).1 (a.res c h n).2, fun c h => a.there c (b.there c h)⟩
  rcases b.own c h with z | z
  · exact a.own c z
  · exact .inr (a.there c z)

/-- the names' values -/
def REnv (K : PySem.W.Frag) (O : Ow) (H : Hp) : Env → L2.St → Prop
  | [], [] => True
  | none :: ρ, _ :: σ => REnv K O H ρ σ
  | some d :: ρ, v :: σ => (∃ x, v = some x ∧ Rp K O H x d) ∧ REnv K O H ρ σ
  | _, _ => False
theorem REnv.mono (m : Mo O H O' H') : ∀ {ρ : Env} {σ : L2.St}, REnv K O H ρ σ → REnv K O' H' ρ σ
  | [], [], _ => trivial
  | none :: ρ, _ :: σ, h => REnv.mono (ρ := ρ) (σ := σ) m h
  | some d :: ρ, _ :: σ, ⟨⟨x, e, r⟩, h⟩ => ⟨⟨x, e, r.mono m⟩, REnv.mono (ρ := ρ) (σ := σ) m h⟩
  | [], _ :: _, h => h.elim
  | none :: _, [], h => h.elim
  | some _ :: _, [], h => h.elim
theorem REnv.get : ∀ {ρ : Env} {σ : L2.St} {i : Nat} {d : D}, REnv K O H ρ σ → DL.getV ρ i = some d → ∃ x, σ[i]? = some (some x) ∧ Rp K O H x d
  | none :: ρ, _ :: σ, 0, d, _, e => nomatch e
  | some d :: ρ, _ :: σ, 0, _, ⟨⟨x, e, r⟩, _⟩, q => by cases q; exact ⟨x, by rw [e]; rfl, r⟩
  | none :: ρ, _ :: σ, i + 1, d, h, e => REnv.get (ρ := ρ) (σ := σ) (i := i) h e
  | some _ :: ρ, _ :: σ, i + 1, d, ⟨_, h⟩, e => REnv.get (ρ := ρ) (σ := σ) (i := i) h e
theorem REnv.set : ∀ {ρ : Env} {σ : L2.St} (i : Nat) {d : D} {x : V}, REnv K O H ρ σ → Rp K O H x d → REnv K O H (setV ρ i d) (σ.set i (some x))
  | [], [], _, _, _, _, _ => trivial
  | none :: ρ, _ :: σ, 0, _, _, h, r => ⟨⟨_, rfl, r⟩, h⟩
  | some _ :: ρ, _ :: σ, 0, _, _, ⟨_, h⟩, r => ⟨⟨_, rfl, r⟩, h⟩
  | none :: ρ, _ :: σ, i + 1, _, _, h, r => REnv.set (ρ := ρ) (σ := σ) i h r
  | some _ :: ρ, _ :: σ, i + 1, _, _, ⟨q, h⟩, r => ⟨q, REnv.set (ρ := ρ) (σ := σ) i h r⟩
  | [], _ :: _, _, _, _, h, _ => h.elim
  | none :: _, [], _, _, _, h, _ => h.elim
  | some _ :: _, [], _, _, _, h, _ => h.elim
theorem REnv.del : ∀ {ρ : Env} {σ : L2.St} (i : Nat), REnv K O H ρ σ → REnv K O H (delV ρ i) (σ.set i none)
  | [], [], _, _ => trivial
  | none :: ρ, _ :: σ, 0, h => h
  | some _ :: ρ, _ :: σ, 0, ⟨_, h⟩ => h
  | none :: ρ, _ :: σ, i + 1, h => REnv.del (ρ := ρ) (σ := σ) i h
  | some _ :: ρ, _ :: σ, i + 1, ⟨q, h⟩ => ⟨q, REnv.del (ρ := ρ) (σ := σ) i h⟩
  | [], _ :: _, _, h => h.elim
  | none :: _, [], _, h => h.elim
  | some _ :: _, [], _, h => h.elim
theorem REnv.dels {ρ : Env} {σ : L2.St} (h : REnv K O H ρ σ) : ∀ vs : List Nat, REnv K O H (delVs ρ vs) (wipe σ vs)
  | [] => h
  | v :: vs => (h.dels vs).del v
/-- what is known less: a slot forgotten -/
theorem REnv.start : ∀ {vs : List V} {ds : List D} (n : Nat), Rps K O H vs ds → REnv K O H (ds.map some ++ List.replicate n none) (vs.map some ++ List.replicate n none)
  | [], [], 0, _ => trivial
  | [], [], n + 1, h => REnv.start n h
  | _ :: _, _ :: _, n, .cons r t => ⟨⟨_, rfl, r⟩, REnv.start n t⟩

/-! ### allocation, writing, freezing -/
theorem ev_new {p : Addr} {u : HO} (hp : H p = none) (s : Sok K S O H) : Ev S O H S O (upd H p u) :=
  ⟨fun a v h _ _ => by rw [upd_ne (ne_of_none h hp)]; exact h, fun _ h => .inl h, fun _ h n => ⟨h, n⟩, fun a h => by
    by_cases e : a = p
    · rw [e, upd_same] at h; cases h
    · rwa [upd_ne e] at h⟩
/-- the store stands on where what is owned stays -/
theorem Sok.go (s : Sok K S O H) (m : Mo O H O' H') (k : ∀ a u, H a = some u → O a → H' a = some u) (o : ∀ a, O a → O' a) (n : ∀ a, O' a → O a ∨ ∃ u, H' a = some u ∧ ¬ Imm u) : Sok K S O' H' where
  dom := fun a ds h => by
    obtain ⟨ho, xs, e, z, r⟩ := s.dom a ds h
    exact ⟨o _ ho, xs, k _ _ e ho, z, r.mono m⟩
  ex := fun a h => by
    rcases n a h with q | q
    · obtain ⟨u, e, n⟩ := s.ex a q; exact ⟨u, k _ _ e q, n⟩
    · exact q
  obj := fun a c q fs h => by
    obtain ⟨ho, ⟨u, hu⟩, vs, e, r⟩ := s.obj a c q fs h
    refine ⟨o _ ho, m.ex ⟨u, hu⟩, vs, ?_, r.mono m⟩
    rcases e with ⟨e, z⟩ | ⟨e, z⟩
    · exact .inl ⟨k _ _ e ho, z⟩
    · refine .inr ⟨k _ _ e ho, ?_⟩
      by_cases hq : O q
      · exact k _ _ z hq
      · exact m.k _ _ z hq nt_xd
  dx := fun a h => by
    obtain ⟨ho, e⟩ := s.dx a h
    refine ⟨o _ ho, ?_⟩
    rcases e with ⟨x, e⟩ | e
    · exact .inl ⟨x, k _ _ e ho⟩
    · exact .inr (k _ _ e ho)
  inj := s.inj
  tb := fun a T h => by
    obtain ⟨t, q⟩ := s.tb a T h
    refine ⟨⟨fun p hp => ?_, t.un, t.one⟩, q⟩
    obtain ⟨h1, h2, h3, h4⟩ := t.all p hp
    exact ⟨o _ h1, h2, h3.go m fun u hu => k _ _ hu h1, h4⟩
theorem Sok.new {p : Addr} {u : HO} (hp : H p = Option.none) (s : Sok K S O H) : Sok K S O (upd H p u) :=
  s.go ((ev_new hp s).mo s) (fun a v e _ => by rw [upd_ne (ne_of_none e hp)]; exact e) (fun _ h => h) (fun _ h => .inl h)
/-- a new list, reserved -/
def oadd (O : Ow) (p : Addr) : Ow := fun a => O a ∨ a = p
theorem ev_resU {p : Addr} {u : HO} (hp : H p = none) (s : Sok K S O H) : Ev S O H S (oadd O p) (upd H p u) :=
  ⟨(ev_new hp s).keep, fun a h => h.elim .inl fun e => .inr (e ▸ hp), fun _ h n => ⟨.inl h, n⟩, (ev_new (u := u) hp s).there⟩
theorem ev_res {p : Addr} {xs : List V} (hp : H p = none) (s : Sok K S O H) : Ev S O H S (oadd O p) (upd H p (.lst xs)) := ev_resU hp s
theorem Sok.resvU {p : Addr} {u : HO} (hp : H p = Option.none) (hu : ¬ Imm u) (s : Sok K S O H) : Sok K S (oadd O p) (upd H p u) :=
  s.go ((ev_resU hp s).mo s) (fun a v e _ => by rw [upd_ne (ne_of_none e hp)]; exact e) (fun _ h => .inl h) (fun a h => h.elim .inl fun e => .inr ⟨u, by rw [e]; exact upd_same, hu⟩)
theorem Sok.resv {p : Addr} {xs : List V} (hp : H p = Option.none) (s : Sok K S O H) : Sok K S (oadd O p) (upd H p (.lst xs)) := s.resvU hp imm_lst
/-- what is owned changes -/
theorem mo_writeU {p : Addr} {u v : HO} (hp : H p = some u) (hu : ¬ Imm u) (ho : O p) : Mo O H O (upd H p v) where
  k := fun a u h n _ => by rw [upd_ne (fun e => n (by rw [e]; exact ho))]; exact h
  th := fun a h => by
    by_cases e : a = p
    · rw [e, upd_same] at h; cases h
    · rwa [upd_ne e] at h
  t := fun a w h n => by rw [upd_ne (fun e => by rw [e, hp] at h; cases h; exact hu n)]; exact h
  o := fun _ _ _ q => q
theorem mo_write {p : Addr} {xs ys : List V} (hp : H p = some (.lst xs)) (ho : O p) : Mo O H O (upd H p (.lst ys)) := mo_writeU hp imm_lst ho
theorem TbOk.chgS {p : Addr} {T : List (Addr × Str)} (t : TbOk K S O H T) (hS : ∀ a, a ≠ p → S' a = S a) (hp : ∀ R, S p ≠ some (.tb R)) (hp' : ∀ R, S' p ≠ some (.tb R)) : TbOk K S' O H T where
  all := fun r hr => by
    obtain ⟨h1, h2, h3⟩ := t.all r hr
    exact ⟨h1, by rw [hS _ fun e => hp T (by rw [← e]; exact h2)]; exact h2, h3⟩
  un := t.un
  one := fun a R h => t.one a R (by rw [← hS a fun e => hp' R (by rw [← e]; exact h)]; exact h)
theorem TbOk.chg {p : Addr} {u : HO} {T : List (Addr × Str)} (t : TbOk K S O H T) (hS : ∀ a, a ≠ p → S' a = S a) (hp : ∀ R, S p ≠ some (.tb R)) (hp' : ∀ R, S' p ≠ some (.tb R)) (m : Mo O H O (upd H p u)) : TbOk K S' O (upd H p u) T where
  all := fun r hr => by
    obtain ⟨h1, h2, h3, h4⟩ := t.all r hr
    have ne : r.1 ≠ p := fun e => hp T (by rw [← e]; exact h2)
    exact ⟨h1, by rw [hS _ ne]; exact h2, h3.go m fun _ z => by rw [upd_ne ne]; exact z, h4⟩
  un := t.un
  one := fun a R h => t.one a R (by rw [← hS a fun e => hp' R (by rw [← e]; exact h)]; exact h)
/-- one owned object changes; the others of the store stay -/
theorem upd_some {p q : Addr} {v : HO} (h : ∃ u, H q = some u) : ∃ u, upd H p v q = some u := by
  by_cases e : q = p
  · exact ⟨v, by rw [e]; exact upd_same⟩
  · obtain ⟨u, h⟩ := h; exact ⟨u, by rw [upd_ne e]; exact h⟩
theorem slt_upd {p a C q : Addr} {u : HO} {vs : List (Option V)} (h : SlX.Slt H a C q vs) (h1 : a ≠ p) (h2 : q ≠ p) : SlX.Slt (upd H p u) a C q vs := by
  rcases h with ⟨h, z⟩ | ⟨h, z⟩
  · exact .inl ⟨by rw [upd_ne h1]; exact h, z⟩
  · exact .inr ⟨by rw [upd_ne h1]; exact h, by rw [upd_ne h2]; exact z⟩
theorem slt_dx {a C q : Addr} {vs : List (Option V)} {xs : List V} (h : SlX.Slt H a C q vs) (hp : H q = some (.lst xs)) : vs = [] := by
  rcases h with ⟨_, z⟩ | ⟨_, z⟩
  · exact z
  · rw [hp] at z; cases z
theorem slt_updL {p a C q : Addr} {xs ys : List V} {vs : List (Option V)} (hp : H p = some (.lst xs)) (h : SlX.Slt H a C q vs) : SlX.Slt (upd H p (.lst ys)) a C q vs := by
  have h1 : a ≠ p := fun e => by
    rcases h with ⟨h, _⟩ | ⟨h, _⟩
    · rw [e, hp] at h; cases h
    · rw [e, hp] at h; unfold SlX.SlO at h; cases h
  rcases h with ⟨h, z⟩ | ⟨h, z⟩
  · exact .inl ⟨by rw [upd_ne h1]; exact h, z⟩
  · exact .inr ⟨by rw [upd_ne h1]; exact h, by rw [upd_ne (fun e => by rw [e, hp] at z; cases z)]; exact z⟩
theorem dx_updL {p a : Addr} {xs ys : List V} (hp : H p = some (.lst xs)) (h : (∃ x, H a = some (.own x)) ∨ H a = some (.xd [])) : (∃ x, upd H p (.lst ys) a = some (.own x)) ∨ upd H p (.lst ys) a = some (.xd []) := by
  have ne : a ≠ p := fun e => by
    rw [e, hp] at h
    rcases h with ⟨_, h⟩ | h <;> cases h
  rw [upd_ne ne]; exact h
/-- a reserved list changes -/
theorem Sok.wres {p : Addr} {xs ys : List V} (hp : H p = some (.lst xs)) (ho : O p) (hs : S p = Option.none) (s : Sok K S O H) : Sok K S O (upd H p (.lst ys)) where
  dom := fun a ds h => by
    obtain ⟨o, zs, e, z, r⟩ := s.dom a ds h
    have ne : a ≠ p := fun q => by rw [q, hs] at h; cases h
    exact ⟨o, zs, by rw [upd_ne ne]; exact e, z, r.mono (mo_write hp ho)⟩
  ex := fun a h => by
    by_cases e : a = p
    · exact ⟨.lst ys, by rw [e]; exact upd_same, imm_lst⟩
    · obtain ⟨zs, q, n⟩ := s.ex a h; exact ⟨zs, by rw [upd_ne e]; exact q, n⟩
  obj := fun a c q fs h => by
    obtain ⟨o, hu, vs, e, r⟩ := s.obj a c q fs h
    exact ⟨o, upd_some hu, vs, slt_updL hp e, r.mono (mo_write hp ho)⟩
  dx := fun a h => ⟨(s.dx a h).1, dx_updL hp (s.dx a h).2⟩
  inj := s.inj
  tb := fun a T h => (s.tb a T h).imp (fun t => t.chg (fun _ _ => rfl) (by rw [hs]; intro _ z; cases z) (by rw [hs]; intro _ z; cases z) (mo_write hp ho)) id
/-- an owned list changes -/
theorem Sok.write {p : Addr} {xs ys : List V} {ds es : List D} (hs : S p = some (.lst ds)) (hp : H p = some (.lst xs)) (hz : ys.length ≤ sizeLine) (r : Rps K O H ys es) (s : Sok K S O H) : Sok K (sup S p (.lst es)) O (upd H p (.lst ys)) where
  dom := fun a fs h => by
    have ho := (s.dom _ _ hs).1
    by_cases e : a = p
    · subst e
      rw [sup_same] at h; cases h
      exact ⟨ho, ys, upd_same, hz, r.mono (mo_write hp ho)⟩
    · rw [sup_ne e] at h
      obtain ⟨o, zs, q, z, r⟩ := s.dom a fs h
      exact ⟨o, zs, by rw [upd_ne e]; exact q, z, r.mono (mo_write hp ho)⟩
  ex := fun a h => by
    by_cases e : a = p
    · exact ⟨.lst ys, by rw [e]; exact upd_same, imm_lst⟩
    · obtain ⟨zs, q, n⟩ := s.ex a h; exact ⟨zs, by rw [upd_ne e]; exact q, n⟩
  obj := fun a c q fs h => by
    have ne : a ≠ p := fun e => by rw [e, sup_same] at h; cases h
    rw [sup_ne ne] at h
    obtain ⟨o, hu, vs, e, r⟩ := s.obj a c q fs h
    exact ⟨o, upd_some hu, vs, slt_updL hp e, r.mono (mo_write hp (s.dom _ _ hs).1)⟩
  dx := fun a h => by
    have ne : a ≠ p := fun e => by rw [e, sup_same] at h; cases h
    rw [sup_ne ne] at h
    exact ⟨(s.dx a h).1, dx_updL hp (s.dx a h).2⟩
  inj := fun a a' c c' q fs fs' h h' => by
    have ne : a ≠ p := fun e => by rw [e, sup_same] at h; cases h
    have ne' : a' ≠ p := fun e => by rw [e, sup_same] at h'; cases h'
    rw [sup_ne ne] at h
    rw [sup_ne ne'] at h'
    exact s.inj _ _ _ _ _ _ _ h h'
  tb := fun a T h => by
    have ne : a ≠ p := fun e => by rw [e, sup_same] at h; cases h
    rw [sup_ne ne] at h
    exact (s.tb a T h).imp (fun t => t.chg (fun _ n => sup_ne n) (by rw [hs]; intro _ z; cases z) (by rw [sup_same]; intro _ z; cases z) (mo_write hp (s.dom _ _ hs).1)) id
theorem ev_writeU {p : Addr} {u : HO} {o o' : DO} (hs : S p = some o) : Ev S O H (sup S p o') O (upd H p u) :=
  ⟨fun a u h n _ => by rw [upd_ne (fun e => by rw [e, hs] at n; cases n)]; exact h, fun _ h => .inl h, fun a h n => ⟨h, by rw [sup_ne (fun e => by rw [e, hs] at n; cases n)]; exact n⟩, fun a h => by
    by_cases e : a = p
    · rw [e, upd_same] at h; cases h
    · rwa [upd_ne e] at h⟩
theorem ev_write {p : Addr} {ys : List V} {ds es : List D} (hs : S p = some (.lst ds)) (s : Sok K S O H) : Ev S O H (sup S p (.lst es)) O (upd H p (.lst ys)) := ev_writeU hs
/-- a reserved list becomes an owned one -/
theorem Sok.take {p : Addr} {xs : List V} {ds : List D} (ho : O p) (hp : H p = some (.lst xs)) (hz : xs.length ≤ sizeLine) (r : Rps K O H xs ds) (s : Sok K S O H) : Sok K (sup S p (.lst ds)) O H where
  dom := fun a fs h => by
    by_cases e : a = p
    · subst e; rw [sup_same] at h; cases h; exact ⟨ho, xs, hp, hz, r⟩
    · rw [sup_ne e] at h; exact s.dom a fs h
  ex := s.ex
  obj := fun a c q fs h => by
    have ne : a ≠ p := fun e => by rw [e, sup_same] at h; cases h
    rw [sup_ne ne] at h
    exact s.obj a c q fs h
  dx := fun a h => by
    have ne : a ≠ p := fun e => by rw [e, sup_same] at h; cases h
    rw [sup_ne ne] at h
    exact s.dx a h
  inj := fun a a' c c' q fs fs' h h' => by
    have ne : a ≠ p := fun e => by rw [e, sup_same] at h; cases h
    have ne' : a' ≠ p := fun e => by rw [e, sup_same] at h'; cases h'
    rw [sup_ne ne] at h
    rw [sup_ne ne'] at h'
    exact s.inj _ _ _ _ _ _ _ h h'
  tb := fun a T h => by
    have ne : a ≠ p := fun e => by rw [e, sup_same] at h; cases h
    rw [sup_ne ne] at h
    exact (s.tb a T h).imp (fun t => t.chgS (fun _ n => sup_ne n) (fun T' z => by
      obtain ⟨t', q, hq⟩ := s.tb p T' z
      obtain ⟨_, _, ⟨ps, h1, _⟩, _⟩ := t'.all _ hq
      rw [hp] at h1; cases h1) (by rw [sup_same]; intro _ z; cases z)) id
/-- what is reserved is let go: nobody changes it any more -/
def orem (O : Ow) (p : Addr) : Ow := fun a => O a ∧ a ≠ p
theorem mo_free {p : Addr} : Mo O H (orem O p) H := ⟨fun _ _ h _ _ => h, fun _ _ h _ => h, fun _ _ _ q => q.1, fun _ h => h⟩
theorem Sok.free {p : Addr} (hs : S p = Option.none) (s : Sok K S O H) : Sok K S (orem O p) H where
  dom := fun a ds h => by
    obtain ⟨o, xs, e, z, r⟩ := s.dom a ds h
    exact ⟨⟨o, fun q => by rw [q, hs] at h; cases h⟩, xs, e, z, r.mono mo_free⟩
  ex := fun a h => s.ex a h.1
  obj := fun a c q fs h => by
    obtain ⟨o, hu, vs, e, r⟩ := s.obj a c q fs h
    exact ⟨⟨o, fun q => by rw [q, hs] at h; cases h⟩, hu, vs, e, r.mono mo_free⟩
  dx := fun a h => ⟨⟨(s.dx a h).1, fun q => by rw [q, hs] at h; cases h⟩, (s.dx a h).2⟩
  inj := s.inj
  tb := fun a T h => by
    obtain ⟨t, q⟩ := s.tb a T h
    refine ⟨⟨fun r hr => ?_, t.un, t.one⟩, q⟩
    obtain ⟨h1, h2, h3, h4⟩ := t.all r hr
    exact ⟨⟨h1, fun e => by rw [e, hs] at h2; cases h2⟩, h2, h3.go mo_free fun _ z => z, h4⟩
/-- less is known -/
theorem Sok.less {T : Sto} (sb : ∀ a o, T a = some o → S a = some o) (st : ∀ a R, S a = some (.tb R) → T a = some (.tb R)) (s : Sok K S O H) : Sok K T O H :=
  ⟨fun a ds h => s.dom a ds (sb a _ h), s.ex, fun a c q fs h => s.obj a c q fs (sb a _ h), fun a h => s.dx a (sb a _ h), fun a a' c c' q fs fs' h h' => s.inj a a' c c' q fs fs' (sb a _ h) (sb a' _ h'), fun a R h => by
    obtain ⟨t, q⟩ := s.tb a R (sb a _ h)
    exact ⟨⟨fun p hp => let ⟨h1, h2, h3⟩ := t.all p hp; ⟨h1, st _ _ h2, h3⟩, t.un, fun a R h => t.one a R (sb a _ h)⟩, q⟩⟩
theorem sdel_sub {p : Addr} (a : Addr) (o : DO) (h : sdel S p a = some o) : S a = some o := by
  by_cases e : a = p
  · rw [e, sdel_same] at h; cases h
  · rwa [sdel_ne e] at h
theorem Sok.sdel {p : Addr} (s : Sok K S O H) (h : ∀ R, S p ≠ some (.tb R)) : Sok K (sdel S p) O H := s.less sdel_sub fun a R e => by
  rw [sdel_ne fun z => h R (by rw [← z]; exact e)]; exact e
end
end DL

/-! DL3: the judgements over data; expressions' readings. -/
namespace DL
open PySem PySem.Spec PyProof.Rows L2

/-- what links numbers to a text: promises, constants; how an exception (number, payload) lies -/
structure Lnk where
  Γ : Gam
  xr : Ow → Hp → Nat → D → Value → Option Addr → Prop
/-- a state at which code runs -/
structure At (L : Lnk) (K : PySem.W.Frag) (W : WX) (σ : L2.St) (H : Hp) (ρ : Env) (S : Sto) (O : Ow) (R : XD) : Prop where
  sok : Sok K S O H
  env : REnv K O H ρ σ
  x : ∀ k d S' O' H' c dd, Sok K S' O' H' → Ev S O H S' O' H' → L.xr O' H' k d c dd → R k d S' → W c dd σ H'
section
variable {L : Lnk} {K : PySem.W.Frag} {W : WX} {σ : L2.St} {H H1 : Hp} {ρ : Env} {S S1 : Sto} {O O1 : Ow} {R : XD}
theorem At.next (A : At L K W σ H ρ S O R) (s : Sok K S1 O1 H1) (e : Ev S O H S1 O1 H1) : At L K W σ H1 ρ S1 O1 R :=
  ⟨s, A.env.mono (e.mo A.sok), fun k d S' O' H' c dd s' e' x r => A.x k d S' O' H' c dd s' (e.trans s e') x r⟩
theorem At.mo (A : At L K W σ H ρ S O R) (e : Ev S O H S1 O1 H1) : Mo O H O1 H1 := e.mo A.sok
end
abbrev WE' := Env → Sto → XD → QD → Prop
/-- a reading carries a weakest precondition -/
def RE (L : Lnk) (K : PySem.W.Frag) (W : WX) (t : TE) (w : WE') : Prop :=
  ∀ (σ : L2.St) (H : Hp) (ρ : Env) (S : Sto) (O : Ow) (R : XD) (Q : QD) (Q' : VK), At L K W σ H ρ S O R → w ρ S R Q →
    (∀ v H' d S' O', Rp K O' H' v d → Sok K S' O' H' → Ev S O H S' O' H' → Q d S' → Q' v H') → t σ H Q'
def RT (L : Lnk) (K : PySem.W.Frag) (W : WX) (t : TT) (w : WE') : Prop :=
  ∀ (σ : L2.St) (H : Hp) (ρ : Env) (S : Sto) (O : Ow) (R : XD) (Q : Bool → Sto → Prop) (Q' : Bool → Hp → Prop), At L K W σ H ρ S O R → w ρ S R (fun d S' => tstD d fun b => Q b S') →
    (∀ b H' S' O', Sok K S' O' H' → Ev S O H S' O' H' → Q b S' → Q' b H') → t σ H Q'
def RA (L : Lnk) (K : PySem.W.Frag) (W : WX) (t : TA) (w : Env → Sto → XD → (List D → Sto → Prop) → Prop) : Prop :=
  ∀ (σ : L2.St) (H : Hp) (ρ : Env) (S : Sto) (O : Ow) (R : XD) (Q : List D → Sto → Prop) (Q' : List V → Hp → Prop), At L K W σ H ρ S O R → w ρ S R Q →
    (∀ vs H' ds S' O', Rps K O' H' vs ds → Sok K S' O' H' → Ev S O H S' O' H' → Q ds S' → Q' vs H') → t σ H Q'
/-- a new list: it is reserved, its items stand -/
def RL (L : Lnk) (K : PySem.W.Frag) (W : WX) (t : TE) (w : Env → Sto → XD → (List D → Sto → Prop) → Prop) : Prop :=
  ∀ (σ : L2.St) (H : Hp) (ρ : Env) (S : Sto) (O : Ow) (R : XD) (Q : List D → Sto → Prop) (Q' : VK), At L K W σ H ρ S O R → w ρ S R Q →
    (∀ p xs H' ds S' O', H p = none → O' p → S' p = none → H' p = some (.lst xs) → xs.length ≤ sizeLine → Rps K O' H' xs ds → Sok K S' O' H' → Ev S O H S' O' H' → Q ds S' → Q' (.ref p) H') → t σ H Q'
def RO (L : Lnk) (K : PySem.W.Frag) (W : WX) (t : TO) (w : Env → Sto → XD → (Option Int → Sto → Prop) → Prop) : Prop :=
  ∀ (σ : L2.St) (H : Hp) (ρ : Env) (S : Sto) (O : Ow) (R : XD) (Q : Option Int → Sto → Prop) (Q' : Option Int → Hp → Prop), At L K W σ H ρ S O R → w ρ S R Q →
    (∀ o H' S' O', Sok K S' O' H' → Ev S O H S' O' H' → Q o S' → Q' o H') → t σ H Q'
section
variable {L : Lnk} {K : PySem.W.Frag} {W : WX} {t ta tb tc : TE} {w wa wb wc : WE'}
theorem RE.go (h : RE L K W t w) {σ : L2.St} {H : Hp} {ρ : Env} {S : Sto} {O : Ow} {R : XD} {Q : QD} {Q' : VK} (A : At L K W σ H ρ S O R) (hw : w ρ S R Q)
    (k : ∀ v H1 d S1 O1, Rp K O1 H1 v d → At L K W σ H1 ρ S1 O1 R → Ev S O H S1 O1 H1 → Q d S1 → Q' v H1) : t σ H Q' :=
  h σ H ρ S O R Q Q' A hw fun v H' d S' O' r s e q => k v H' d S' O' r (A.next s e) e q
theorem RT.go {t : TT} (h : RT L K W t w) {σ : L2.St} {H : Hp} {ρ : Env} {S : Sto} {O : Ow} {R : XD} {Q : Bool → Sto → Prop} {Q' : Bool → Hp → Prop} (A : At L K W σ H ρ S O R) (hw : w ρ S R (fun d S' => tstD d fun b => Q b S'))
    (k : ∀ b H1 S1 O1, At L K W σ H1 ρ S1 O1 R → Ev S O H S1 O1 H1 → Q b S1 → Q' b H1) : t σ H Q' :=
  h σ H ρ S O R Q Q' A hw fun v H' S' O' s e q => k v H' S' O' (A.next s e) e q
theorem RA.go {t : TA} {w : Env → Sto → XD → (List D → Sto → Prop) → Prop} (h : RA L K W t w) {σ : L2.St} {H : Hp} {ρ : Env} {S : Sto} {O : Ow} {R : XD} {Q : List D → Sto → Prop} {Q' : List V → Hp → Prop} (A : At L K W σ H ρ S O R) (hw : w ρ S R Q)
    (k : ∀ vs H1 ds S1 O1, Rps K O1 H1 vs ds → At L K W σ H1 ρ S1 O1 R → Ev S O H S1 O1 H1 → Q ds S1 → Q' vs H1) : t σ H Q' :=
  h σ H ρ S O R Q Q' A hw fun v H' d S' O' r s e q => k v H' d S' O' r (A.next s e) e q
theorem RO.go {t : TO} {w : Env → Sto → XD → (Option Int → Sto → Prop) → Prop} (h : RO L K W t w) {σ : L2.St} {H : Hp} {ρ : Env} {S : Sto} {O : Ow} {R : XD} {Q : Option Int → Sto → Prop} {Q' : Option Int → Hp → Prop} (A : At L K W σ H ρ S O R) (hw : w ρ S R Q)
    (k : ∀ o H1 S1 O1, At L K W σ H1 ρ S1 O1 R → Ev S O H S1 O1 H1 → Q o S1 → Q' o H1) : t σ H Q' :=
  h σ H ρ S O R Q Q' A hw fun v H' S' O' s e q => k v H' S' O' (A.next s e) e q
/-- a value that is a bool -/
theorem tst_bl {v : V} {d : D} {O : Ow} {H : Hp} {k : Bool → Prop} (r : Rp K O H v d) (h : tstD d k) : ∃ b, v = .bl b ∧ d = .bl b ∧ k b := by
  cases d with
  | bl b => cases r; exact ⟨b, rfl, rfl, h⟩
  | _ => exact h.elim
/-- from a value's reading to a test's -/
theorem RE.tB (h : RE L K W t w) : RT L K W (tB t) w := fun σ H ρ S O R Q Q' A hw k =>
  h σ H ρ S O R _ _ A hw fun v H' d S' O' r s e q => by
    obtain ⟨b, rfl, rfl, q⟩ := tst_bl r q
    exact ⟨b, rfl, k b H' S' O' s e q⟩

/-! ### the value forms -/
theorem re_var {i : Nat} : RE L K W (tVar i) fun ρ S _ Q => match getV ρ i with
    | some d => Q d S
    | none => False := fun σ H ρ S O R Q Q' A hw k => by
  cases e : getV ρ i with
  | none => simp only [e] at hw
  | some d =>
    simp only [e] at hw
    obtain ⟨x, ex, r⟩ := A.env.get e
    exact ⟨x, ex, k x H d S O r A.sok .refl hw⟩
theorem re_c {v : V} {d : D} (h : ∀ O H, Rp K O H v d) : RE L K W (tC v) fun _ S _ Q => Q d S := fun σ H ρ S O R Q Q' A hw k => k v H d S O (h O H) A.sok .refl hw
theorem re_op {r : R2} {f : Sto → D → D → (D → Prop) → Prop} (ha : RE L K W ta wa) (hb : RE L K W tb wb)
    (hr : ∀ x y dx dy H S O (P : D → Prop) (Q' : VK), Sok K S O H → Rp K O H x dx → Rp K O H y dy → f S dx dy P → (∀ v H' d, Rp K O H' v d → Sok K S O H' → Ev S O H S O H' → P d → Q' v H') → r x y H Q') :
    RE L K W (tOp r ta tb) fun ρ S R Q => wa ρ S R fun x S1 => wb ρ S1 R fun y S2 => f S2 x y fun z => Q z S2 := fun σ H ρ S O R Q Q' A hw k => by
  refine ha.go A hw fun x H1 dx S1 O1 r1 A1 e1 q1 => ?_
  refine hb.go A1 q1 fun y H2 dy S2 O2 r2 A2 e2 q2 => ?_
  refine hr x y dx dy H2 S2 O2 _ Q' A2.sok (r1.mono (A1.mo e2)) r2 q2 fun v H' d rv s e q => ?_
  exact k v H' d S2 O2 rv s ((e1.trans A1.sok e2).trans A2.sok e) q
theorem re_not (ha : RE L K W ta wa) : RE L K W (tNotV ta) fun ρ S R Q => wa ρ S R fun x S1 => tstD x fun b => Q (.bl (!b)) S1 := fun σ H ρ S O R Q Q' A hw k => by
  refine ha.go A hw fun x H1 dx S1 O1 r1 A1 e1 q1 => ?_
  obtain ⟨b, rfl, rfl, q⟩ := tst_bl r1 q1
  exact ⟨b, rfl, k _ H1 _ S1 O1 (.bl _) A1.sok e1 q⟩
theorem rt_not {t : TT} (ha : RT L K W t wa) : RT L K W (tNot t) fun ρ S R Q => wa ρ S R fun x S1 => tstD x fun b => Q (.bl (!b)) S1 := fun σ H ρ S O R Q Q' A hw k =>
  ha.go (Q := fun b S1 => Q (!b) S1) A hw fun b H1 S1 O1 A1 e1 q1 => k _ H1 S1 O1 A1.sok e1 q1
theorem re_and (ha : RE L K W ta wa) (hb : RE L K W tb wb) : RE L K W (tAndV ta tb) fun ρ S R Q => wa ρ S R fun x S1 => tstD x fun c => if c = true then wb ρ S1 R Q else Q (.bl false) S1 := fun σ H ρ S O R Q Q' A hw k => by
  refine ha.go A hw fun x H1 dx S1 O1 r1 A1 e1 q1 => ?_
  obtain ⟨b, rfl, rfl, q⟩ := tst_bl r1 q1
  refine ⟨b, rfl, ?_⟩
  cases b with
  | true => exact hb.go A1 q fun v H2 d S2 O2 r2 A2 e2 q2 => k v H2 d S2 O2 r2 A2.sok (e1.trans A1.sok e2) q2
  | false => exact k _ H1 _ S1 O1 (.bl _) A1.sok e1 q
theorem re_or (ha : RE L K W ta wa) (hb : RE L K W tb wb) : RE L K W (tOrV ta tb) fun ρ S R Q => wa ρ S R fun x S1 => tstD x fun c => if c = true then Q (.bl true) S1 else wb ρ S1 R Q := fun σ H ρ S O R Q Q' A hw k => by
  refine ha.go A hw fun x H1 dx S1 O1 r1 A1 e1 q1 => ?_
  obtain ⟨b, rfl, rfl, q⟩ := tst_bl r1 q1
  refine ⟨b, rfl, ?_⟩
  cases b with
  | false => exact hb.go A1 q fun v H2 d S2 O2 r2 A2 e2 q2 => k v H2 d S2 O2 r2 A2.sok (e1.trans A1.sok e2) q2
  | true => exact k _ H1 _ S1 O1 (.bl _) A1.sok e1 q
theorem rt_and {t u : TT} (ha : RT L K W t wa) (hb : RT L K W u wb) : RT L K W (tAnd t u) fun ρ S R Q => wa ρ S R fun x S1 => tstD x fun c => if c = true then wb ρ S1 R Q else Q (.bl false) S1 := fun σ H ρ S O R Q Q' A hw k => by
  refine ha.go (Q := fun c S1 => if c = true then wb ρ S1 R (fun d S' => tstD d fun b => Q b S') else Q false S1) A hw fun b H1 S1 O1 A1 e1 q => ?_
  cases b with
  | true => exact hb.go A1 q fun b H2 S2 O2 A2 e2 q2 => k b H2 S2 O2 A2.sok (e1.trans A1.sok e2) q2
  | false => exact k _ H1 S1 O1 A1.sok e1 q
theorem rt_or {t u : TT} (ha : RT L K W t wa) (hb : RT L K W u wb) : RT L K W (tOr t u) fun ρ S R Q => wa ρ S R fun x S1 => tstD x fun c => if c = true then Q (.bl true) S1 else wb ρ S1 R Q := fun σ H ρ S O R Q Q' A hw k => by
  refine ha.go (Q := fun c S1 => if c = true then Q true S1 else wb ρ S1 R (fun d S' => tstD d fun b => Q b S')) A hw fun b H1 S1 O1 A1 e1 q => ?_
  cases b with
  | false => exact hb.go A1 q fun b H2 S2 O2 A2 e2 q2 => k b H2 S2 O2 A2.sok (e1.trans A1.sok e2) q2
  | true => exact k _ H1 S1 O1 A1.sok e1 q
theorem re_ite {t : TT} (hc : RT L K W t wc) (ha : RE L K W ta wa) (hb : RE L K W tb wb) : RE L K W (tIf t ta tb) fun ρ S R Q => wc ρ S R fun x S1 => tstD x fun z => if z = true then wa ρ S1 R Q else wb ρ S1 R Q := fun σ H ρ S O R Q Q' A hw k => by
  refine hc.go (Q := fun z S1 => if z = true then wa ρ S1 R Q else wb ρ S1 R Q) A hw fun b H1 S1 O1 A1 e1 q => ?_
  cases b with
  | true => exact ha.go A1 q fun v H2 d S2 O2 r2 A2 e2 q2 => k v H2 d S2 O2 r2 A2.sok (e1.trans A1.sok e2) q2
  | false => exact hb.go A1 q fun v H2 d S2 O2 r2 A2 e2 q2 => k v H2 d S2 O2 r2 A2.sok (e1.trans A1.sok e2) q2
theorem re_neg (ha : RE L K W ta wa) : RE L K W (tUn (rU fun i => .int (-i)) ta) fun ρ S R Q => wa ρ S R fun x S1 => match x with
    | .int i => Q (.int (-i)) S1
    | _ => False := fun σ H ρ S O R Q Q' A hw k => by
  refine ha.go A hw fun x H1 dx S1 O1 r1 A1 e1 q1 => ?_
  cases dx with
  | int i => cases r1; exact ⟨i, rfl, k _ H1 _ S1 O1 (.int _) A1.sok e1 q1⟩
  | _ => exact q1.elim

/-! ### argument lists -/
theorem ra_nil : RA L K W tNil fun _ S _ Q => Q [] S := fun σ H ρ S O R Q Q' A hw k => k [] H [] S O .nil A.sok .refl hw
theorem ra_cons {t : TE} {u : TA} {wr : Env → Sto → XD → (List D → Sto → Prop) → Prop} (h : RE L K W t w) (hr : RA L K W u wr) : RA L K W (tCons t u) fun ρ S R Q => w ρ S R fun x S1 => wr ρ S1 R fun xs S2 => Q (x :: xs) S2 := fun σ H ρ S O R Q Q' A hw k => by
  refine h.go A hw fun x H1 dx S1 O1 r1 A1 e1 q1 => ?_
  refine hr.go A1 q1 fun xs H2 ds S2 O2 r2 A2 e2 q2 => ?_
  exact k _ H2 _ S2 O2 (.cons (r1.mono (A1.mo e2)) r2) A2.sok (e1.trans A1.sok e2) q2
/-- an owned list, or a value, read as a sequence -/
theorem seq_of {v : V} {d : D} {S : Sto} {O : Ow} {H : Hp} (r : Rp K O H v d) (s : Sok K S O H) : 
    (∀ ds, res S d = .lst ds → ∃ a xs, v = .ref a ∧ H a = some (.lst xs) ∧ xs.length ≤ sizeLine ∧ Rps K O H xs ds) ∧ (∀ ds, res S d = .tup ds → ∃ a xs, v = .ref a ∧ SqT K H a xs ∧ xs.length ≤ sizeLine ∧ Rps K O H xs ds) ∧
    (∀ ns, res S d = .scr ns → ∃ a, v = .ref a ∧ SqL K H a (ns.map V.int)) := by
  cases r with
  | ref =>
    rename_i a
    cases q : S a with
    | none => simp only [res, q]; exact ⟨(fun _ e => nomatch e), (fun _ e => nomatch e), (fun _ e => nomatch e)⟩
    | some o =>
      cases o with
      | lst es =>
        simp only [res, q]
        obtain ⟨_, xs, h1, h2, h3⟩ := s.dom _ _ q
        exact ⟨(fun ds e => by cases e; exact ⟨a, xs, rfl, h1, h2, h3⟩), (fun _ e => nomatch e), (fun _ e => nomatch e)⟩
      | _ => simp only [res, q]; exact ⟨(fun _ e => nomatch e), (fun _ e => nomatch e), (fun _ e => nomatch e)⟩
  | tup h1 h2 h3 => exact ⟨(fun _ e => nomatch e), (fun ds e => by cases e; exact ⟨_, _, rfl, h1, h2, h3⟩), (fun _ e => nomatch e)⟩
  | lst h1 _ h2 h3 => exact ⟨(fun ds e => by cases e; exact ⟨_, _, rfl, h1, h2, h3⟩), (fun _ e => nomatch e), (fun _ e => nomatch e)⟩
  | scr _ h => exact ⟨(fun _ e => nomatch e), (fun _ e => nomatch e), (fun ns e => by cases e; exact ⟨_, rfl, .inl (.inr ⟨_, h⟩)⟩)⟩
  | scrL _ h n => exact ⟨(fun _ e => nomatch e), (fun _ e => nomatch e), (fun ns e => by cases e; exact ⟨_, rfl, SqL.of h⟩)⟩
  | scrK _ h => exact ⟨(fun _ e => nomatch e), (fun _ e => nomatch e), (fun ns e => by cases e; exact ⟨_, rfl, h _⟩)⟩
  | _ => exact ⟨(fun _ e => nomatch e), (fun _ e => nomatch e), (fun _ e => nomatch e)⟩
theorem ra_star {t : TE} {u : TA} {wr : Env → Sto → XD → (List D → Sto → Prop) → Prop} (h : RE L K W t w) (hr : RA L K W u wr) : RA L K W (StX.tStar K t u) fun ρ S R Q => w ρ S R fun x S1 => match res S1 x with
    | .tup ys => wr ρ S1 R fun xs S2 => Q (ys ++ xs) S2
    | .lst ys => wr ρ S1 R fun xs S2 => Q (ys ++ xs) S2
    | _ => False := fun σ H ρ S O R Q Q' A hw k => by
  refine h.go A hw fun x H1 dx S1 O1 r1 A1 e1 q1 => ?_
  obtain ⟨hl, ht, _⟩ := seq_of r1 A1.sok
  cases e : res S1 dx with
  | tup ys =>
    simp only [e] at q1
    obtain ⟨a, xs, rfl, h1, h2, h3⟩ := ht _ e
    refine ⟨a, xs, rfl, .inl h1, ?_⟩
    refine hr.go A1 q1 fun vs H2 ds S2 O2 r2 A2 e2 q2 => ?_
    exact k _ H2 _ S2 O2 ((h3.mono (A1.mo e2)).append r2) A2.sok (e1.trans A1.sok e2) q2
  | lst ys =>
    simp only [e] at q1
    obtain ⟨a, xs, rfl, h1, h2, h3⟩ := hl _ e
    refine ⟨a, xs, rfl, .inr (SqL.of h1), ?_⟩
    refine hr.go A1 q1 fun vs H2 ds S2 O2 r2 A2 e2 q2 => ?_
    exact k _ H2 _ S2 O2 ((h3.mono (A1.mo e2)).append r2) A2.sok (e1.trans A1.sok e2) q2
  | _ => simp only [e] at q1
/-- new tuples -/
theorem rp_new {S : Sto} {O : Ow} {H : Hp} {p : Addr} {xs : List V} {ds : List D} (s : Sok K S O H) (hp : H p = none) (z : xs.length ≤ sizeLine) (r : Rps K O H xs ds) : Rp K O (upd H p (.tup xs)) (.ref p) (.tup ds) :=
  .tup (SqT.of upd_same) z (r.mono ((ev_new hp s).mo s))
theorem re_tup {t : TA} {ws : Env → Sto → XD → (List D → Sto → Prop) → Prop} (h : RA L K W t ws) : RE L K W (tTup t) fun ρ S R Q => ws ρ S R fun ds S1 => ds.length ≤ sizeLine ∧ Q (.tup ds) S1 := fun σ H ρ S O R Q Q' A hw k => by
  refine h.go A hw fun xs H1 ds S1 O1 r1 A1 e1 ⟨z, q1⟩ => ?_
  have z' : xs.length ≤ sizeLine := by rw [r1.len]; exact z
  refine ⟨z', fun p hp => k _ _ _ S1 O1 (rp_new A1.sok hp z' r1) (A1.sok.new hp) (e1.trans A1.sok (ev_new hp A1.sok)) q1⟩
end
end DL

set_option maxHeartbeats 4000000
/-! DL17: tuple * int, any int. -/
namespace L2
open PySem PySem.Spec PyProof.Rows
theorem tuple_mul_same (l : Addr) (items : Array Value) (n : Nat) (dd : Option Addr) (sl : Array (Option Value)) (x : Int) (u : Tok) (c0 : (decide (x < -(2 ^ 63)) || decide (x ≥ 2 ^ 63)) = false) (c1 : (items.isEmpty || x == 1) = true) :
    Meets (Builtin.«tuple.__mul__» ⟨[.ref l, .int x u], []⟩) (fun _ R s => s.heap.get? l = some { cls := .type "tuple", dict := dd, data := .seq items n, slots := sl } ∧ R (.ok (.ret (Value.ref l))) s) :=
  .of_wp fun prog w A R s h => by
    obtain ⟨hp, g, d, tk, os⟩ := s
    obtain ⟨hl, h⟩ := h
    have f1 := AutoSeq1.idx_int
    have ht : ({ heap := hp, gens := g, drawn := d, toks := tk, os := os } : Shared).TypeIs (.ref l) "tuple" := ⟨_, hl, rfl⟩
    wp_walk using wpAny_loadPart' hl
    repeat (first
      | (refine wpAny_ite_false (decide_eq_false (by rw [c0]; exact Bool.false_ne_true)) ?_; wp_walk using wpAny_loadPart' hl)
      | (refine wpAny_ite_true (decide_eq_true (by rw [c1])) ?_; wp_walk using wpAny_loadPart' hl))
    all_goals first
      | exact ⟨_, rfl, h⟩
      | skip
theorem tuple_mul_none (l : Addr) (items : Array Value) (n : Nat) (dd : Option Addr) (sl : Array (Option Value)) (x : Int) (u : Tok) (c0 : (decide (x < -(2 ^ 63)) || decide (x ≥ 2 ^ 63)) = false) (c1 : (items.isEmpty || x == 1) = false) (c2 : (decide (x ≤ 0) || items.isEmpty) = true) :
    Meets (Builtin.«tuple.__mul__» ⟨[.ref l, .int x u], []⟩) (fun _ R s => s.heap.get? l = some { cls := .type "tuple", dict := dd, data := .seq items n, slots := sl } ∧
      R (.ok (.ret (Value.ref s.heap.objs.size))) { s with heap := s.heap.push { cls := Value.type "tuple", data := Data.seq #[] }, toks := s.toks }) :=
  .of_wp fun prog w A R s h => by
    obtain ⟨hp, g, d, tk, os⟩ := s
    obtain ⟨hl, h⟩ := h
    have f1 := AutoSeq1.idx_int
    wp_walk using wpAny_loadPart' hl
    repeat (first
      | (refine wpAny_ite_false (decide_eq_false (by rw [c0]; exact Bool.false_ne_true)) ?_; wp_walk using wpAny_loadPart' hl)
      | (refine wpAny_ite_false (decide_eq_false (by rw [c1]; exact Bool.false_ne_true)) ?_; wp_walk using wpAny_loadPart' hl)
      | (refine wpAny_ite_true (decide_eq_true (by rw [c2])) ?_; wp_walk using wpAny_loadPart' hl))
    exact ⟨_, rfl, h⟩
/-- tuple * int, any -/
def rRepG (K : PySem.W.Frag) : R2 := fun x y H Q => ∃ l k xs, x = .ref l ∧ y = .int k ∧ SqT K H l xs ∧ -(2 ^ 63) ≤ k ∧ k < 2 ^ 63 ∧ xs.length * k.toNat ≤ sizeLine ∧
  ((xs = [] ∨ k = 1) → Q (.ref l) H) ∧ (¬ (xs = [] ∨ k = 1) → ∀ p, H p = none → Q (.ref p) (upd H p (.tup (List.replicate k.toNat xs).flatten)))
section
variable {X : Cx}
theorem op_repG : OpR X (binaryOp .Mult) (rRepG X.K) := by
  intro pins s σ H x y v u Q I rx ry h
  obtain ⟨l, k, xs, rfl, rfl, hT, h1, h2, hz, q1, q2⟩ := h
  cases rx
  obtain ⟨t, rfl⟩ := ry
  obtain ⟨its, r, ⟨⟨cls, dd, data, sl⟩, ho, hc, n, hd⟩, hs⟩ := I.tuple hT
  simp only at hc hd
  subst hc hd
  have hle : its.length = xs.length := r.length.symm
  have c0 : (decide (k < -(2 ^ 63)) || decide (k ≥ 2 ^ 63)) = false := by
    rw [decide_eq_false (by omega), decide_eq_false (by omega)] <;> rfl
  have hemp : its.toArray.isEmpty = decide (xs = []) := by
    cases xs with
    | nil => have : its = [] := List.eq_nil_of_length_eq_zero hle
             subst this; rfl
    | cons a b =>
      cases its with
      | nil => cases hle
      | cons c d => rfl
  have road : ∀ {Q' : Value → Shared → Prop}, wpAny (model X.prog X.w) X.A (call (.builtin "tuple.__mul__") [.ref l, .int k t]) Q' X.xe s → wpAny (model X.prog X.w) X.A (binaryOp .Mult (.ref l) (.int k t)) Q' X.xe s := fun {Q'} hq =>
    wpAny_binaryOp_repeat_ref (T := "tuple") (U := "int") (by decide) ⟨_, ho, rfl⟩ (fun s' => typeIs_int s' k t) noFill_tuple_mul F.fills_int_mul F.slot_int_rmul repeat_tuple F.slot_int_index.lookup
      (call_meets F.slot_int_rmul (typeIs_int s k t) F.entry_int_rmul (F.args_int_rmul_2 _ _) (int_rmul_tuple k t l its.toArray n dd sl) ⟨ho, rfl, ⟨_, ho, rfl⟩, hq⟩)
  by_cases c1 : xs = [] ∨ k = 1
  · refine road (call_meets F.slot_tuple_mul ⟨_, ho, rfl⟩ F.entry_tuple_mul (F.args_tuple_mul_2 _ _) (tuple_mul_same l its.toArray n dd sl k t c0 ?_) ⟨ho, ?_⟩)
    · rw [hemp]
      rcases c1 with c1 | c1
      · rw [decide_eq_true c1, Bool.true_or]
      · rw [c1]; simp
    · exact ⟨.ref l, H, I, rfl, q1 c1⟩
  · have hx : xs ≠ [] := fun e => c1 (.inl e)
    have hk : k ≠ 1 := fun e => c1 (.inr e)
    have e1 : (its.toArray.isEmpty || k == 1) = false := by
      rw [hemp, decide_eq_false hx, Bool.false_or]
      exact beq_eq_false_iff_ne.mpr hk
    have fin := q2 c1
    by_cases c2 : k ≤ 0
    · refine road (call_meets F.slot_tuple_mul ⟨_, ho, rfl⟩ F.entry_tuple_mul (F.args_tuple_mul_2 _ _) (tuple_mul_none l its.toArray n dd sl k t c0 e1 (by rw [decide_eq_true c2, Bool.true_or])) ⟨ho, ?_⟩)
      have hz0 : k.toNat = 0 := by omega
      rw [hz0] at fin
      refine ⟨.ref s.heap.objs.size, _, I.laid (t' := s.toks) (o := .tup (List.replicate 0 xs).flatten) (fun b ob q => Heap.get?_push_of_some _ q) (Nat.le_refl _) ?_, rfl, fin _ (I.hok.fresh (Nat.le_refl _))⟩
      exact ⟨Nat.zero_le _, [], .nil, IsTup.new _ _⟩
    · have hm : ((its.toArray.size : Nat) : Int) * k = ((xs.length * k.toNat : Nat) : Int) := by
        rw [List.size_toArray, hle, Int.natCast_mul, Int.toNat_of_nonneg (by omega)]
      have flen : (List.replicate k.toNat its).flatten.length ≤ sizeLine := by
        rw [PyProof.Rows.lm_len_rep_flat, hle, Nat.mul_comm]; exact hz
      have hz' : xs.length * k.toNat ≤ 16777216 := by rw [← sizeLine_eq]; exact hz
      have c4 : Builtin.Tuple.tupleTooMany (((its.toArray.size : Nat) : Int) * k) = false := by
        unfold Builtin.Tuple.tupleTooMany
        rw [hm]
        exact decide_eq_false (by omega)
      refine road (call_meets F.slot_tuple_mul ⟨_, ho, rfl⟩ F.entry_tuple_mul (F.args_tuple_mul_2 _ _) (tuple_mulW l its.toArray n dd sl k t c0 e1 (by rw [hemp, decide_eq_false hx, Bool.or_false]; exact decide_eq_false c2) (by rw [hm]; omega) c4 (by rw [size_rep, List.size_toArray]; exact flen)) ⟨ho, ?_⟩)
      rw [size_rep]
      refine ⟨.ref s.heap.objs.size, _, I.laid (t' := s.toks) (o := .tup (List.replicate k.toNat xs).flatten) (fun b ob q => Heap.get?_push_of_some _ q) (Nat.le_refl _) ?_, rfl, fin _ (I.hok.fresh (Nat.le_refl _))⟩
      exact ⟨by rw [PyProof.Rows.lm_len_rep_flat, Nat.mul_comm]; exact hz, _, r.rep k.toNat, IsTup.new _ _⟩
theorem op_isB : OpR X (compareOp .Is) (fun x y H Q => ∃ a b, x = .bl a ∧ y = .bl b ∧ Q (.bl (a == b)) H) := by
  intro pins s σ H x y v u Q I rx ry h
  obtain ⟨a, b, rfl, rfl, q⟩ := h
  cases (show v = Value.bool a from rx)
  cases (show u = Value.bool b from ry)
  exact is_bool ⟨.bl _, H, I, rfl, q⟩
theorem op_notB : OpR X (compareOp .IsNot) (fun x y H Q => ∃ a b, x = .bl a ∧ y = .bl b ∧ Q (.bl (a != b)) H) := by
  intro pins s σ H x y v u Q I rx ry h
  obtain ⟨a, b, rfl, rfl, q⟩ := h
  cases (show v = Value.bool a from rx)
  cases (show u = Value.bool b from ry)
  exact isnot_bool ⟨.bl _, H, I, rfl, q⟩
end
end L2

/-! DL4: operators, comparisons, items, slices, built-ins over data. -/
namespace DL
open PySem PySem.Spec PyProof.Rows L2
section
variable {X : Cx} {K : PySem.W.Frag} {S : Sto} {O : Ow} {H : Hp}
/-- a rule by values keeps what data say: the store and the owned stay -/
def Hr (K : PySem.W.Frag) (r : R2) (f : Sto → D → D → (D → Prop) → Prop) : Prop :=
  ∀ x y dx dy H S O (P : D → Prop) (Q' : VK), Sok K S O H → Rp K O H x dx → Rp K O H y dy → f S dx dy P → (∀ v H' d, Rp K O H' v d → Sok K S O H' → Ev S O H S O H' → P d → Q' v H') → r x y H Q'
theorem op_mulI : OpR X (binaryOp .Mult) (rI IntMulOk fun i j => .int (i * j)) := opI fun _ _ _ _ _ _ _ hc q => mul_int q hc
theorem iop_mulI : OpR X (inplaceOp .Mult) (rI IntMulOk fun i j => .int (i * j)) := opI fun _ _ _ _ _ _ _ hc q => imul_int q hc
/-- a context in which a division of great integers finds room -/
structure PyX (X : Cx) : Prop where
  env : ∃ e l, X.stack = e :: l ∧ e.scope.isGenerator = false ∧ e.scope.isCoroutine = false ∧ e.builtins = builtinsNs ∧ e.globals = mainGlobals
  seer : X.base.NoSeer
  tree : X.prog.given.tree = none
  deep : X.A.depth + Builtin.pylongFrames < recursionLimit
theorem PyX.room (x : PyX X) {pins : List (Addr × Obj)} {s : Shared} {σ : L2.St} {H : Hp} (I : Inv X pins σ H s) : PylongRoom (model X.prog X.w) X.A s := by
  obtain ⟨e, l, hs, h1, h2, h3, h4⟩ := x.env
  exact PylongRoom.of I.nolimit x.deep (SeerAt.of (x.seer.keeps I.bk) x.tree (by rw [I.ok.frames, hs]) h1 h2 h3 h4)
theorem op_fdivI (hp : PyX X) : OpR X (binaryOp .FloorDiv) (rI (fun _ j => j ≠ 0) fun i j => .int (i.fdiv j)) := by
  intro pins s σ H x y v u Q I rx ry h
  obtain ⟨i, j, rfl, rfl, hc, q⟩ := h
  obtain ⟨t, rfl⟩ := rx
  obtain ⟨t', rfl⟩ := ry
  exact floordiv_int hc ⟨.int (i.fdiv j), H, I.tok _, ⟨_, rfl⟩, q⟩ (.inr (hp.room I))
theorem op_powW : OpR X (binaryOp .Pow) (rI (fun i j => 0 ≤ j ∧ (Builtin.Int.intBits i : Int) * j ≤ 2 ^ 27) fun i j => .int (i ^ j.toNat)) := opI fun _ _ _ _ _ _ _ hc q => pow_int hc.1 hc.2 q
def bop : BOp → Operator
  | .add => .Add | .sub => .Sub | .mul => .Mult | .fdiv => .FloorDiv | .mod => .Mod | .pow => .Pow
theorem hr_int {C : Int → Int → Prop} {g : Int → Int → Int} {x y : V} {dx dy : D} {H : Hp} {P : D → Prop} {Q' : VK} (s : Sok K S O H) (rx : Rp K O H x dx) (ry : Rp K O H y dy) {i j : Int} (ex : dx = .int i) (ey : dy = .int j) (hc : C i j) (hp : P (.int (g i j)))
    (k : ∀ v H' d, Rp K O H' v d → Sok K S O H' → Ev S O H S O H' → P d → Q' v H') : rI C (fun i j => .int (g i j)) x y H Q' := by
  subst ex ey
  cases rx; cases ry
  exact ⟨i, j, rfl, rfl, hc, k _ H _ (.int _) s .refl hp⟩
theorem flat_rep_nil {α : Type} : ∀ n : Nat, (List.replicate n ([] : List α)).flatten = []
  | 0 => rfl
  | n + 1 => by rw [List.replicate_succ, List.flatten_cons, flat_rep_nil n]; rfl
theorem rep_rp {xs : List V} {ds : List D} (r : Rps K O H xs ds) : ∀ n : Nat, Rps K O H (List.replicate n xs).flatten (List.replicate n ds).flatten
  | 0 => .nil
  | n + 1 => by rw [List.replicate_succ, List.flatten_cons, List.replicate_succ, List.flatten_cons]; exact r.append (rep_rp r n)
theorem bin_ok (hp : PyX X) (op : BOp) : ∃ r, OpR X (binaryOp (bop op)) r ∧ Hr X.K r fun _ dx dy P => binD op dx dy P := by
  cases op with
  | add =>
    refine ⟨_, (op_add.or (op_catA.or op_add_str)), fun x y dx dy H S O P Q' s rx ry h k => ?_⟩
    cases dx <;> cases dy <;> try exact h.elim
    · cases rx; cases ry
      exact .inl ⟨_, _, rfl, rfl, k _ H _ (.int _) s .refl h⟩
    · cases rx; cases ry
      exact .inr (.inr ⟨_, _, rfl, rfl, h.1, k _ H _ (.str _) s .refl h.2⟩)
    · rename_i xs ys
      cases rx with
      | tup h1 z1 r1 =>
      cases ry with
      | tup h2 z2 r2 =>
      rename_i a xs' b ys'
      refine .inr (.inl ⟨a, b, xs', ys', rfl, rfl, h1, h2, by rw [r1.len, r2.len]; exact h.1, fun e => ?_, fun _ e => ?_, fun _ _ p hp => ?_⟩)
      · subst e; cases r1; exact k _ H _ (.tup h2 z2 r2) s .refl h.2
      · subst e; cases r2; refine k _ H _ (.tup h1 z1 ?_) s .refl h.2; rw [List.append_nil]; exact r1
      · exact k _ _ _ (rp_new s hp (by rw [List.length_append, r1.len, r2.len]; exact h.1) (r1.append r2)) (s.new hp) (ev_new hp s) h.2
  | sub =>
    refine ⟨_, op_sub, fun x y dx dy H S O P Q' s rx ry h k => ?_⟩
    cases dx <;> cases dy <;> try exact h.elim
    cases rx; cases ry
    exact ⟨_, _, rfl, rfl, k _ H _ (.int _) s .refl h⟩
  | mul =>
    refine ⟨_, op_mulI.or op_repG, fun x y dx dy H S O P Q' s rx ry h k => ?_⟩
    cases dx <;> cases dy <;> try exact h.elim
    · cases rx; cases ry
      exact .inl ⟨_, _, rfl, rfl, h.1, k _ H _ (.int _) s .refl h.2⟩
    · rename_i xs n
      cases ry
      cases rx with
      | tup h1 z1 r1 =>
      rename_i a xs'
      obtain ⟨l1, l2, l3, hk⟩ := h
      have e3 : xs'.length * n.toNat ≤ sizeLine := by rw [r1.len]; exact l3
      refine .inr ⟨a, n, xs', rfl, rfl, h1, l1, l2, e3, fun hc => ?_, fun hc p hp => ?_⟩
      · rcases hc with rfl | rfl
        · cases r1
          refine k _ H _ (.tup h1 z1 ?_) s .refl hk
          rw [flat_rep_nil]; exact .nil
        · refine k _ H _ (.tup h1 z1 ?_) s .refl hk
          have e1 : Int.toNat 1 = 0 + 1 := rfl
          rw [e1, List.replicate_succ, List.flatten_cons, List.replicate_zero, List.flatten_nil, List.append_nil]; exact r1
      · exact k _ _ _ (rp_new s hp (by rw [PyProof.Rows.lm_len_rep_flat, Nat.mul_comm]; exact e3) (rep_rp r1 _)) (s.new hp) (ev_new hp s) hk
  | fdiv =>
    refine ⟨_, op_fdivI hp, fun x y dx dy H S O P Q' s rx ry h k => ?_⟩
    cases dx <;> cases dy <;> try exact h.elim
    cases rx; cases ry
    exact ⟨_, _, rfl, rfl, h.1, k _ H _ (.int _) s .refl h.2.2⟩
  | mod =>
    refine ⟨_, op_modN, fun x y dx dy H S O P Q' s rx ry h k => ?_⟩
    cases dx <;> cases dy <;> try exact h.elim
    cases rx; cases ry
    exact ⟨_, _, rfl, rfl, h.1, k _ H _ (.int _) s .refl h.2⟩
  | pow =>
    refine ⟨_, op_powW, fun x y dx dy H S O P Q' s rx ry h k => ?_⟩
    cases dx <;> cases dy <;> try exact h.elim
    cases rx; cases ry
    exact ⟨_, _, rfl, rfl, h.1, k _ H _ (.int _) s .refl h.2⟩
/-- in place, on ints -/
theorem iop_ok (op : BOp) (ho : op = .add ∨ op = .sub ∨ op = .mul) : ∃ r, OpR X (inplaceOp (bop op)) r ∧ Hr X.K r fun _ dx dy P => ∃ a b, dx = .int a ∧ dy = .int b ∧ binD op dx dy P := by
  rcases ho with rfl | rfl | rfl
  · refine ⟨_, iop_add, fun x y dx dy H S O P Q' s rx ry h k => ?_⟩
    obtain ⟨a, b, rfl, rfl, h⟩ := h
    cases rx; cases ry
    exact ⟨_, _, rfl, rfl, k _ H _ (.int _) s .refl h⟩
  · refine ⟨_, iop_sub, fun x y dx dy H S O P Q' s rx ry h k => ?_⟩
    obtain ⟨a, b, rfl, rfl, h⟩ := h
    cases rx; cases ry
    exact ⟨_, _, rfl, rfl, k _ H _ (.int _) s .refl h⟩
  · refine ⟨_, iop_mulI, fun x y dx dy H S O P Q' s rx ry h k => ?_⟩
    obtain ⟨a, b, rfl, rfl, h⟩ := h
    cases rx; cases ry
    exact ⟨_, _, rfl, rfl, h.1, k _ H _ (.int _) s .refl h.2⟩

/-! ### data as PyData -/
mutual
theorem dp_of : ∀ {v : V} {d : D} {p : PyData}, Rp K O H v d → d.py = some p → Dp K H v p
  | _, _, _, .non, e => by cases e; exact .non
  | _, _, _, .bl b, e => by cases e; exact .bl b
  | _, _, _, .int i, e => by cases e; exact .int i
  | _, _, _, .str x, e => by cases e; exact .str x
  | _, _, _, .ty n, e => nomatch e
  | _, _, _, .ref, e => nomatch e
  | _, _, _, .scr _ _, e => nomatch e
  | _, _, _, .scrK _ _, e => nomatch e
  | _, _, _, .scrL _ _ _, e => nomatch e
  | _, _, _, .obj _ _ _ _ _ _, e => nomatch e
  | _, _, _, .dct _ _, e => nomatch e
  | _, _, _, .fn, e => nomatch e
  | _, _, _, .exc _ _, e => nomatch e
  | _, _, _, .excV _ _ _ _ _ _, e => nomatch e
  | _, .tup ds, _, .tup h z r, e => by
    simp only [D.py] at e
    cases q : D.py.pys ds with
    | none => rw [q] at e; cases e
    | some ps => rw [q] at e; cases e; exact .tup h (dps_of r q)
  | _, .lst ds, _, .lst h n z r, e => by
    simp only [D.py] at e
    cases q : D.py.pys ds with
    | none => rw [q] at e; cases e
    | some ps => rw [q] at e; cases e; exact .lst (SqL.of h) (dps_of r q)
theorem dps_of : ∀ {vs : List V} {ds : List D} {ps : List PyData}, Rps K O H vs ds → D.py.pys ds = some ps → DpAll K H vs ps
  | _, _, _, .nil, e => by cases e; exact .nil
  | _, d :: ds, _, .cons r t, e => by
    simp only [D.py.pys] at e
    cases q : d.py with
    | none => rw [q] at e; cases e
    | some p =>
      cases q2 : D.py.pys ds with
      | none => rw [q, q2] at e; cases e
      | some ps => rw [q, q2] at e; cases e; exact .cons (dp_of r q) (dps_of t q2)
end
theorem rp_res {v : V} {d : D} {p : PyData} (s : Sok K S O H) (r : Rp K O H v d) (e : (res S d).py = some p) : Dp K H v p := by
  cases r with
  | ref =>
    rename_i a
    cases q : S a with
    | none => simp only [res, q] at e; cases e
    | some o =>
      cases o with
      | lst ds =>
        simp only [res, q] at e
        obtain ⟨_, xs, h1, h2, h3⟩ := s.dom _ _ q
        simp only [D.py] at e
        cases q2 : D.py.pys ds with
        | none => rw [q2] at e; cases e
        | some ps => rw [q2] at e; cases e; exact .lst (SqL.of h1) (dps_of h3 q2)
      | _ => simp only [res, q] at e; cases e
  | obj _ _ _ _ _ _ => exact nomatch e
  | dct _ _ => exact nomatch e
  | fn => exact nomatch e
  | exc _ _ => exact nomatch e
  | excV _ _ _ _ _ _ => exact nomatch e
  | non => exact dp_of (O := O) .non e
  | bl b => exact dp_of (O := O) (.bl b) e
  | int i => exact dp_of (O := O) (.int i) e
  | str x => exact dp_of (O := O) (.str x) e
  | ty n => exact dp_of (O := O) (.ty n) e
  | scr _ h => exact nomatch e
  | scrK _ h => exact nomatch e
  | scrL _ _ _ => exact nomatch e
  | tup h z r => exact dp_of (O := O) (.tup h z r) e
  | lst h n z r => exact dp_of (O := O) (.lst h n z r) e
def cop : COp → CmpOp
  | .eq => .Eq | .ne => .NotEq | .lt => .Lt | .le => .LtE | .gt => .Gt | .ge => .GtE | .is => .Is | .isn => .IsNot | .inn => .In | .nin => .NotIn
theorem res_int {d : D} {i : Int} (h : res S d = .int i) : d = .int i := by
  cases d with
  | ref p => simp only [res] at h; split at h <;> cases h
  | int j => exact h
  | _ => cases h
theorem res_non {d : D} (h : res S d = .non) : d = .non := by
  cases d with
  | ref p => simp only [res] at h; split at h <;> cases h
  | non => rfl
  | _ => cases h
theorem res_bl {d : D} {b : Bool} (h : res S d = .bl b) : d = .bl b := by
  cases d with
  | ref p => simp only [res] at h; split at h <;> cases h
  | bl j => exact h
  | _ => cases h
theorem res_str {d : D} {x : Str} (h : res S d = .str x) : d = .str x := by
  cases d with
  | ref p => simp only [res] at h; split at h <;> cases h
  | str y => exact h
  | _ => cases h
theorem res_tup {d : D} {xs : List D} (h : res S d = .tup xs) : d = .tup xs := by
  cases d with
  | ref p => simp only [res] at h; split at h <;> cases h
  | tup y => exact h
  | _ => cases h
theorem flat_ints {ns : List Int} : (ns.map V.int).all flatV = true := by
  rw [List.all_map]
  exact List.all_eq_true.mpr fun _ _ => rfl
theorem inV_ints {ns : List Int} {i : Int} : inV (.int i) (ns.map V.int) = ns.any fun a => a == i := by
  unfold inV
  rw [List.any_map]
  rfl
/-- what a comparison asks -/
theorem cmp_ok (op : COp) (hu : X.A.units + 65 < cLine) : ∃ r, OpR X (compareOp (cop op)) r ∧ Hr X.K r fun S dx dy P => cmpD op (res S dx) (res S dy) fun z => P (.bl z) := by
  have eqs : ∀ (x y : V) (dx dy : D) (H : Hp) (S : Sto) (O : Ow) (P : Bool → Prop), Sok X.K S O H → Rp X.K O H x dx → Rp X.K O H y dy → eqD (res S dx) (res S dy) P →
      ∃ d e, Dp X.K H x d ∧ Dp X.K H y e ∧ SeqAt.shaped d = true ∧ SeqAt.shaped e = true ∧ P (PyData.eqv d e) := fun x y dx dy H S O P s rx ry h => by
    obtain ⟨p, q, ep, eq, h1, h2, h⟩ := h
    exact ⟨p, q, rp_res s rx ep, rp_res s ry eq, h1, h2, h⟩
  have itOf : ∀ {x : V} {dx : D} {H : Hp} {S : Sto} {O : Ow} {i : Int}, Rp X.K O H x dx → res S dx = .int i → x = .int i := fun {x dx H S O i} rx e => by
    have := res_int e; subst this; cases rx; rfl
  cases op with
  | lt =>
    refine ⟨_, op_lt, fun x y dx dy H S O P Q' s rx ry h k => ?_⟩
    replace h : cmpD _ (res S dx) (res S dy) (fun z => P (.bl z)) := h
    cases e1 : res S dx <;> cases e2 : res S dy <;> rw [e1, e2] at h <;> try exact h.elim
    exact ⟨_, _, itOf rx e1, itOf ry e2, k _ H _ (.bl _) s .refl h⟩
  | le =>
    refine ⟨_, op_le, fun x y dx dy H S O P Q' s rx ry h k => ?_⟩
    replace h : cmpD _ (res S dx) (res S dy) (fun z => P (.bl z)) := h
    cases e1 : res S dx <;> cases e2 : res S dy <;> rw [e1, e2] at h <;> try exact h.elim
    exact ⟨_, _, itOf rx e1, itOf ry e2, k _ H _ (.bl _) s .refl h⟩
  | gt =>
    refine ⟨_, op_gt, fun x y dx dy H S O P Q' s rx ry h k => ?_⟩
    replace h : cmpD _ (res S dx) (res S dy) (fun z => P (.bl z)) := h
    cases e1 : res S dx <;> cases e2 : res S dy <;> rw [e1, e2] at h <;> try exact h.elim
    exact ⟨_, _, itOf rx e1, itOf ry e2, k _ H _ (.bl _) s .refl h⟩
  | ge =>
    refine ⟨_, op_ge, fun x y dx dy H S O P Q' s rx ry h k => ?_⟩
    replace h : cmpD _ (res S dx) (res S dy) (fun z => P (.bl z)) := h
    cases e1 : res S dx <;> cases e2 : res S dy <;> rw [e1, e2] at h <;> try exact h.elim
    exact ⟨_, _, itOf rx e1, itOf ry e2, k _ H _ (.bl _) s .refl h⟩
  | eq =>
    refine ⟨_, op_eqD (by omega), fun x y dx dy H S O P Q' s rx ry h k => ?_⟩
    replace h : cmpD _ (res S dx) (res S dy) (fun z => P (.bl z)) := h
    have h' : eqD (res S dx) (res S dy) fun z => P (.bl z) := by
      cases e1 : res S dx <;> cases e2 : res S dy <;> rw [e1, e2] at h <;> try exact h
      exact ⟨_, _, rfl, rfl, rfl, rfl, by
        rename_i i j
        have e : PyData.eqv (.int i) (.int j) = decide (i = j) := by simp only [PyData.eqv]; exact Bool.beq_eq_decide_eq _ _
        rw [e]; exact h⟩
    obtain ⟨d, e, h1, h2, h3, h4, h5⟩ := eqs x y dx dy H S O _ s rx ry h'
    exact ⟨d, e, h1, h2, h3, h4, k _ H _ (.bl _) s .refl h5⟩
  | ne =>
    refine ⟨_, op_neD (by omega), fun x y dx dy H S O P Q' s rx ry h k => ?_⟩
    replace h : cmpD _ (res S dx) (res S dy) (fun z => P (.bl z)) := h
    have h' : eqD (res S dx) (res S dy) fun z => P (.bl (!z)) := by
      cases e1 : res S dx <;> cases e2 : res S dy <;> rw [e1, e2] at h <;> try exact h
      exact ⟨_, _, rfl, rfl, rfl, rfl, by
        rename_i i j
        have e : PyData.eqv (.int i) (.int j) = decide (i = j) := by simp only [PyData.eqv]; exact Bool.beq_eq_decide_eq _ _
        rw [e]; exact h⟩
    obtain ⟨d, e, h1, h2, h3, h4, h5⟩ := eqs x y dx dy H S O _ s rx ry h'
    exact ⟨d, e, h1, h2, h3, h4, k _ H _ (.bl _) s .refl h5⟩
  | is =>
    refine ⟨_, op_isN.or op_isB, fun x y dx dy H S O P Q' s rx ry h k => ?_⟩
    replace h : cmpD _ (res S dx) (res S dy) (fun z => P (.bl z)) := h
    cases e2 : res S dy <;> rw [e2] at h <;> try (cases e1 : res S dx <;> rw [e1] at h <;> exact h.elim)
    case' bl b =>
      cases e1 : res S dx <;> rw [e1] at h <;> try exact h.elim
      have e3 := res_bl e1
      have e4 := res_bl e2
      subst e3 e4
      cases rx; cases ry
      exact .inr ⟨_, _, rfl, rfl, k _ H _ (.bl _) s .refl h⟩
    refine .inl ?_
    have e3 := res_non e2
    subst e3
    cases ry
    refine ⟨rfl, ?_⟩
    have e : decide (x = V.non) = (match res S dx with | .non => true | _ => false) := by
      cases rx with
      | ref =>
        rename_i a
        cases q : S a with
        | none => simp only [res, q]; rfl
        | some o => cases o <;> simp only [res, q] <;> rfl
      | _ => rfl
    rw [e]
    exact k _ H _ (.bl _) s .refl (by cases e4 : res S dx <;> rw [e4] at h <;> exact h)
  | isn =>
    refine ⟨_, op_notN.or op_notB, fun x y dx dy H S O P Q' s rx ry h k => ?_⟩
    replace h : cmpD _ (res S dx) (res S dy) (fun z => P (.bl z)) := h
    cases e2 : res S dy <;> rw [e2] at h <;> try (cases e1 : res S dx <;> rw [e1] at h <;> exact h.elim)
    case' bl b =>
      cases e1 : res S dx <;> rw [e1] at h <;> try exact h.elim
      have e3 := res_bl e1
      have e4 := res_bl e2
      subst e3 e4
      cases rx; cases ry
      exact .inr ⟨_, _, rfl, rfl, k _ H _ (.bl _) s .refl h⟩
    refine .inl ?_
    have e3 := res_non e2
    subst e3
    cases ry
    refine ⟨rfl, ?_⟩
    have e : (!decide (x = V.non)) = (match res S dx with | .non => false | _ => true) := by
      cases rx with
      | ref =>
        rename_i a
        cases q : S a with
        | none => simp only [res, q]; rfl
        | some o => cases o <;> simp only [res, q] <;> rfl
      | _ => rfl
    rw [e]
    exact k _ H _ (.bl _) s .refl (by cases e4 : res S dx <;> rw [e4] at h <;> exact h)
  | inn =>
    refine ⟨_, ((op_inD hu).or op_in_sign).or op_in_seq, fun x y dx dy H S O P Q' s rx ry h k => ?_⟩
    replace h : cmpD _ (res S dx) (res S dy) (fun z => P (.bl z)) := h
    have hh : inD (res S dx) (res S dy) fun z => P (.bl z) := by cases e1 : res S dx <;> cases e2 : res S dy <;> rw [e1, e2] at h <;> exact h
    cases e2 : res S dy <;> rw [e2] at hh <;> try exact hh.elim
    · obtain ⟨c, e1, hh⟩ := hh
      have e3 := res_str e2
      have e4 := res_str e1
      subst e3 e4
      cases rx; cases ry
      exact .inl (.inr ⟨c, _, rfl, rfl, k _ H _ (.bl _) s .refl hh⟩)
    · obtain ⟨i, ns, e1, e3, hh⟩ := hh
      have e4 := res_tup e2
      have e5 := res_int e1
      subst e4 e5 e3
      cases rx
      cases ry with
      | tup h1 h2 h3 =>
        obtain rfl := h3.ints
        refine .inr ⟨_, _, rfl, .inr h1, rfl, flat_ints, ?_⟩
        rw [inV_ints]
        exact k _ H _ (.bl _) s .refl hh
    · obtain ⟨p, ps, e1, e3, h1, h2, hh⟩ := hh
      refine .inl (.inl ⟨p, ps, rp_res s rx e1, rp_res s ry ?_, h1, h2, k _ H _ (.bl _) s .refl hh⟩)
      rw [e2]; simp only [D.py, e3]; rfl
  | nin =>
    refine ⟨_, ((op_notInD hu).or op_notIn_sign).or op_notIn_seq, fun x y dx dy H S O P Q' s rx ry h k => ?_⟩
    replace h : cmpD _ (res S dx) (res S dy) (fun z => P (.bl z)) := h
    have hh : inD (res S dx) (res S dy) fun z => P (.bl (!z)) := by cases e1 : res S dx <;> cases e2 : res S dy <;> rw [e1, e2] at h <;> exact h
    cases e2 : res S dy <;> rw [e2] at hh <;> try exact hh.elim
    · obtain ⟨c, e1, hh⟩ := hh
      have e3 := res_str e2
      have e4 := res_str e1
      subst e3 e4
      cases rx; cases ry
      exact .inl (.inr ⟨c, _, rfl, rfl, k _ H _ (.bl _) s .refl hh⟩)
    · obtain ⟨i, ns, e1, e3, hh⟩ := hh
      have e4 := res_tup e2
      have e5 := res_int e1
      subst e4 e5 e3
      cases rx
      cases ry with
      | tup h1 h2 h3 =>
        obtain rfl := h3.ints
        refine .inr ⟨_, _, rfl, .inr h1, rfl, flat_ints, ?_⟩
        rw [inV_ints]
        exact k _ H _ (.bl _) s .refl hh
    · obtain ⟨p, ps, e1, e3, h1, h2, hh⟩ := hh
      refine .inl (.inl ⟨p, ps, rp_res s rx e1, rp_res s ry ?_, h1, h2, k _ H _ (.bl _) s .refl hh⟩)
      rw [e2]; simp only [D.py, e3]; rfl
end
end DL

/-! DL5: canonical readings; items, slices, new lists, what is walked. -/
namespace DL
open PySem PySem.Spec PyProof.Rows L2
/-- the canonical readings of weakest preconditions -/
def tO (L : Lnk) (K : PySem.W.Frag) (W : WX) (w : WE') : TE := fun σ H Q' => ∃ ρ S O R Q, At L K W σ H ρ S O R ∧ w ρ S R Q ∧ ∀ v H' d S' O', Rp K O' H' v d → Sok K S' O' H' → Ev S O H S' O' H' → Q d S' → Q' v H'
def tOT (L : Lnk) (K : PySem.W.Frag) (W : WX) (w : WE') : TT := fun σ H Q' => ∃ ρ S O R, ∃ Q : Bool → Sto → Prop, At L K W σ H ρ S O R ∧ w ρ S R (fun d S' => tstD d fun b => Q b S') ∧ ∀ b H' S' O', Sok K S' O' H' → Ev S O H S' O' H' → Q b S' → Q' b H'
def tOA (L : Lnk) (K : PySem.W.Frag) (W : WX) (w : Env → Sto → XD → (List D → Sto → Prop) → Prop) : TA := fun σ H Q' => ∃ ρ S O R Q, At L K W σ H ρ S O R ∧ w ρ S R Q ∧ ∀ vs H' ds S' O', Rps K O' H' vs ds → Sok K S' O' H' → Ev S O H S' O' H' → Q ds S' → Q' vs H'
def tOL (L : Lnk) (K : PySem.W.Frag) (W : WX) (w : Env → Sto → XD → (List D → Sto → Prop) → Prop) : TE := fun σ H Q' => ∃ ρ S O R Q, At L K W σ H ρ S O R ∧ w ρ S R Q ∧ ∀ p xs H' ds S' O', H p = none → O' p → S' p = none → H' p = some (.lst xs) → xs.length ≤ sizeLine → Rps K O' H' xs ds → Sok K S' O' H' → Ev S O H S' O' H' → Q ds S' → Q' (.ref p) H'
def tOO (L : Lnk) (K : PySem.W.Frag) (W : WX) (w : Env → Sto → XD → (Option Int → Sto → Prop) → Prop) : TO := fun σ H Q' => ∃ ρ S O R Q, At L K W σ H ρ S O R ∧ w ρ S R Q ∧ ∀ o H' S' O', Sok K S' O' H' → Ev S O H S' O' H' → Q o S' → Q' o H'
section
variable {L : Lnk} {K : PySem.W.Frag} {W : WX} {X : Cx} {e : Expr} {es : List Expr} {w wa wb : WE'}
theorem re_tO : RE L K W (tO L K W w) w := fun σ H ρ S O R Q Q' A hw k => ⟨ρ, S, O, R, Q, A, hw, k⟩
theorem rt_tO : RT L K W (tOT L K W w) w := fun σ H ρ S O R Q Q' A hw k => ⟨ρ, S, O, R, Q, A, hw, k⟩
theorem ra_tO {w : Env → Sto → XD → (List D → Sto → Prop) → Prop} : RA L K W (tOA L K W w) w := fun σ H ρ S O R Q Q' A hw k => ⟨ρ, S, O, R, Q, A, hw, k⟩
theorem rl_tO {w : Env → Sto → XD → (List D → Sto → Prop) → Prop} : RL L K W (tOL L K W w) w := fun σ H ρ S O R Q Q' A hw k => ⟨ρ, S, O, R, Q, A, hw, k⟩
theorem ro_tO {w : Env → Sto → XD → (Option Int → Sto → Prop) → Prop} : RO L K W (tOO L K W w) w := fun σ H ρ S O R Q Q' A hw k => ⟨ρ, S, O, R, Q, A, hw, k⟩
theorem _root_.L2.PE.can {t : TE} (h : PE X e t) (r : RE L K W t w) : PE X e (tO L K W w) := ⟨fun pins s σ H Q' I ⟨ρ, S, O, R, Q, A, hw, k⟩ => h.run pins s σ H Q' I (r σ H ρ S O R Q Q' A hw k)⟩
theorem _root_.L2.PT.can {t : TT} (h : PT X e t) (r : RT L K W t w) : PT X e (tOT L K W w) := ⟨fun pins s σ H Q' I ⟨ρ, S, O, R, Q, A, hw, k⟩ => h.run pins s σ H Q' I (r σ H ρ S O R Q Q' A hw k)⟩
theorem _root_.L2.PW.can {t : TT} (h : PW X e t) (r : RT L K W t w) : PW X e (tOT L K W w) := ⟨fun wh pins s σ H Q' I ⟨ρ, S, O, R, Q, A, hw, k⟩ => h.run wh pins s σ H Q' I (r σ H ρ S O R Q Q' A hw k)⟩
theorem _root_.L2.PA.can {t : TA} {w : Env → Sto → XD → (List D → Sto → Prop) → Prop} (h : PA X es t) (r : RA L K W t w) : PA X es (tOA L K W w) := ⟨fun pos pins s σ H Q' I ⟨ρ, S, O, R, Q, A, hw, k⟩ => h.run pos pins s σ H Q' I (r σ H ρ S O R Q Q' A hw k)⟩
theorem _root_.L2.PE.canL {t : TE} {w : Env → Sto → XD → (List D → Sto → Prop) → Prop} (h : PE X e t) (r : RL L K W t w) : PE X e (tOL L K W w) := ⟨fun pins s σ H Q' I ⟨ρ, S, O, R, Q, A, hw, k⟩ => h.run pins s σ H Q' I (r σ H ρ S O R Q Q' A hw k)⟩
theorem _root_.L2.PO.can {o : Option Expr} {t : TO} {w : Env → Sto → XD → (Option Int → Sto → Prop) → Prop} (h : PO X o t) (r : RO L K W t w) : PO X o (tOO L K W w) := by
  refine ⟨?_⟩
  intro pins s σ H Q' I ⟨ρ, S, O, R, Q, A, hw, k⟩
  exact h.run pins s σ H Q' I (r σ H ρ S O R Q Q' A hw k)

/-! ### lists: kept as values, owned -/
theorem re_frz {t : TE} {w : Env → Sto → XD → (List D → Sto → Prop) → Prop} (h : RL L K W t w) : RE L K W t fun ρ S R Q => w ρ S R fun ds S1 => Q (.lst ds) S1 := fun σ H ρ S O R Q Q' A hw k =>
  h σ H ρ S O R _ Q' A hw fun p xs H' ds S' O' hp ho hs hl z r s e q => by
    have ne : ∀ a, O a → a ≠ p := fun a ha q => by rw [q] at ha; exact A.sok.notO hp ha
    refine k _ H' _ S' (orem O' p) (.lst hl (fun q => q.2 rfl) z (r.mono mo_free)) (s.free hs) ⟨e.keep, fun a h => e.own a h.1, fun a h n => ⟨⟨(e.res a h n).1, ne a h⟩, (e.res a h n).2⟩, e.there⟩ q
theorem re_own {t : TE} {w : Env → Sto → XD → (List D → Sto → Prop) → Prop} (h : RL L K W t w) : RE L K W t fun ρ S R Q => w ρ S R fun ds S1 => ∀ p, S1 p = none → Q (.ref p) (sup S1 p (.lst ds)) := fun σ H ρ S O R Q Q' A hw k =>
  h σ H ρ S O R _ Q' A hw fun p xs H' ds S' O' hp ho hs hl z r s e q => by
    have ne : ∀ a, O a → a ≠ p := fun a ha q => by rw [q] at ha; exact A.sok.notO hp ha
    exact k _ H' _ _ O' .ref (s.take ho hl z r) ⟨e.keep, e.own, fun a h n => ⟨(e.res a h n).1, by rw [sup_ne (ne a h)]; exact (e.res a h n).2⟩, e.there⟩ (q p hs)
/-- a new list laid at once -/
theorem rl_new {σ : L2.St} {H H1 : Hp} {ρ : Env} {S S1 : Sto} {O O1 : Ow} {R : XD} {xs : List V} {ds : List D} {Q' : VK} {P : Prop} (A : At L K W σ H1 ρ S1 O1 R) (e : Ev S O H S1 O1 H1) (z : xs.length ≤ sizeLine) (r : Rps K O1 H1 xs ds) (q : P)
    (k : ∀ p xs H' ds' S' O', H p = none → O' p → S' p = none → H' p = some (.lst xs) → xs.length ≤ sizeLine → Rps K O' H' xs ds' → Sok K S' O' H' → Ev S O H S' O' H' → ds' = ds ∧ S' = S1 → Q' (.ref p) H') : ∀ p, H1 p = none → Q' (.ref p) (upd H1 p (.lst xs)) := fun p hp =>
  k p xs _ ds S1 (oadd O1 p) (e.there p hp) (.inr rfl) (A.sok.noneH hp) upd_same z (r.mono ((ev_res hp A.sok).mo A.sok)) (A.sok.resv hp) (e.trans A.sok (ev_res hp A.sok)) ⟨rfl, rfl⟩
theorem rl_disp {t : TA} {ws : Env → Sto → XD → (List D → Sto → Prop) → Prop} (h : RA L K W t ws) : RL L K W (tLst t) fun ρ S R Q => ws ρ S R fun ds S1 => ds.length ≤ sizeLine ∧ Q ds S1 := fun σ H ρ S O R Q Q' A hw k => by
  refine h.go A hw fun xs H1 ds S1 O1 r1 A1 e1 ⟨z, q1⟩ => ?_
  have z' : xs.length ≤ sizeLine := by rw [r1.len]; exact z
  exact ⟨z', rl_new A1 e1 z' r1 trivial fun p xs H' ds' S' O' a b c d e f g i j => k p xs H' ds' S' O' a b c d e f g i (by rw [j.1, j.2]; exact q1)⟩
theorem rl_rep {ta tb : TE} (ha : RE L K W ta wa) (hb : RE L K W tb wb) : RL L K W (tOp rRep ta tb) fun ρ S R Q => wa ρ S R fun x S1 => wb ρ S1 R fun y S2 => match res S2 x, y with
    | .lst xs, .int k => -(2 ^ 63) ≤ k ∧ k < 2 ^ 63 ∧ xs.length * k.toNat ≤ sizeLine ∧ Q (List.replicate k.toNat xs).flatten S2
    | _, _ => False := fun σ H ρ S O R Q Q' A hw k => by
  refine ha.go A hw fun x H1 dx S1 O1 r1 A1 e1 q1 => ?_
  refine hb.go A1 q1 fun y H2 dy S2 O2 r2 A2 e2 q2 => ?_
  have r1 := r1.mono (A1.mo e2)
  cases e : res S2 dx <;> rw [e] at q2 <;> try exact q2.elim
  cases dy <;> try exact q2.elim
  cases r2
  obtain ⟨h1, h2, h3, q2⟩ := q2
  obtain ⟨a, xs, rfl, g1, g2, g3⟩ := (seq_of r1 A2.sok).1 _ e
  rw [← g3.len] at h3
  refine ⟨a, _, xs, rfl, rfl, g1, h1, h2, h3, rl_new A2 (e1.trans A1.sok e2) ?_ (g3.rep _) trivial fun p xs H' ds' S' O' a b c d e f g i j => k p xs H' ds' S' O' a b c d e f g i (by rw [j.1, j.2]; exact q2)⟩
  rw [PyProof.Rows.lm_len_rep_flat, Nat.mul_comm]; exact h3
theorem rl_cat {ta tb : TE} (ha : RE L K W ta wa) (hb : RE L K W tb wb) : RL L K W (tOp rCat ta tb) fun ρ S R Q => wa ρ S R fun x S1 => wb ρ S1 R fun y S2 => match res S2 x, res S2 y with
    | .lst xs, .lst ys => xs.length + ys.length ≤ sizeLine ∧ Q (xs ++ ys) S2
    | _, _ => False := fun σ H ρ S O R Q Q' A hw k => by
  refine ha.go A hw fun x H1 dx S1 O1 r1 A1 e1 q1 => ?_
  refine hb.go A1 q1 fun y H2 dy S2 O2 r2 A2 e2 q2 => ?_
  have r1 := r1.mono (A1.mo e2)
  cases e : res S2 dx <;> rw [e] at q2 <;> try exact q2.elim
  cases e' : res S2 dy <;> rw [e'] at q2 <;> try exact q2.elim
  obtain ⟨h3, q2⟩ := q2
  obtain ⟨a, xs, rfl, g1, g2, g3⟩ := (seq_of r1 A2.sok).1 _ e
  obtain ⟨b, ys, rfl, f1, f2, f3⟩ := (seq_of r2 A2.sok).1 _ e'
  rw [← g3.len, ← f3.len] at h3
  refine ⟨a, b, xs, ys, rfl, rfl, g1, f1, h3, rl_new A2 (e1.trans A1.sok e2) ?_ (g3.append f3) trivial fun p xs H' ds' S' O' a b c d e f g i j => k p xs H' ds' S' O' a b c d e f g i (by rw [j.1, j.2]; exact q2)⟩
  rw [List.length_append]; exact h3
theorem rl_ofSeq {ta : TE} (ha : RE L K W ta wa) : RL L K W (tCB (fun xs H Q => ∃ p ys, xs = [.ref p] ∧ (SqL K H p ys ∨ SqT K H p ys) ∧ ∀ l, H l = none → Q (.ref l) (upd H l (.lst ys))) (tCons ta tNil)) fun ρ S R Q => wa ρ S R fun x S1 => match res S1 x with
    | .tup xs => Q xs S1
    | .lst xs => Q xs S1
    | _ => False := fun σ H ρ S O R Q Q' A hw k => by
  refine ha.go A hw fun x H1 dx S1 O1 r1 A1 e1 q1 => ?_
  obtain ⟨hl, ht, _⟩ := seq_of r1 A1.sok
  cases e : res S1 dx <;> rw [e] at q1 <;> try exact q1.elim
  · obtain ⟨a, xs, rfl, g1, g2, g3⟩ := ht _ e
    exact ⟨a, xs, rfl, .inr g1, rl_new A1 e1 g2 g3 trivial fun p xs H' ds' S' O' a b c d e f g i j => k p xs H' ds' S' O' a b c d e f g i (by rw [j.1, j.2]; exact q1)⟩
  · obtain ⟨a, xs, rfl, g1, g2, g3⟩ := hl _ e
    exact ⟨a, xs, rfl, .inl (SqL.of g1), rl_new A1 e1 g2 g3 trivial fun p xs H' ds' S' O' a b c d e f g i j => k p xs H' ds' S' O' a b c d e f g i (by rw [j.1, j.2]; exact q1)⟩
theorem Rps.cut {O : Ow} {H : Hp} {vs : List V} {ds : List D} (h : Rps K O H vs ds) (lo hi : Option Int) : Rps K O H (cutV vs lo hi) (cutD ds lo hi) := by
  unfold cutV cutD
  rw [h.len]
  exact (h.drop _).take _
theorem rl_slc {te : TE} {tl th : TO} {wl wh : Env → Sto → XD → (Option Int → Sto → Prop) → Prop} (ha : RE L K W te wa) (hl : RO L K W tl wl) (hh : RO L K W th wh) : RL L K W (tSl (rSlL K) te tl th) fun ρ S R Q => wa ρ S R fun x S1 => wl ρ S1 R fun l S2 => wh ρ S2 R fun h S3 => match res S3 x with
    | .lst xs => Q (cutD xs l h) S3
    | _ => False := fun σ H ρ S O R Q Q' A hw k => by
  refine ha.go A hw fun x H1 dx S1 O1 r1 A1 e1 q1 => ?_
  refine hl.go A1 q1 fun l H2 S2 O2 A2 e2 q2 => ?_
  refine hh.go A2 q2 fun h H3 S3 O3 A3 e3 q3 => ?_
  have r1 := (r1.mono (A1.mo e2)).mono (A2.mo e3)
  cases e : res S3 dx <;> rw [e] at q3 <;> try exact q3.elim
  obtain ⟨a, xs, rfl, g1, g2, g3⟩ := (seq_of r1 A3.sok).1 _ e
  refine ⟨a, xs, rfl, SqL.of g1, rl_new A3 ((e1.trans A1.sok e2).trans A2.sok e3) ?_ (g3.cut l h) trivial fun p xs H' ds' S' O' a b c d e f g i j => k p xs H' ds' S' O' a b c d e f g i (by rw [j.1, j.2]; exact q3)⟩
  exact Nat.le_trans (cutV_length _ _ _) g2
/-! ### items, slices -/
theorem ro_no : RO L K W tNoPart fun _ S _ Q => Q none S := fun σ H ρ S O R Q Q' A hw k => k none H S O A.sok .refl hw
theorem ro_so {t : TE} (h : RE L K W t w) : RO L K W (tPart t) fun ρ S R Q => w ρ S R fun x S1 => match x with
    | .int i => Q (some i) S1
    | _ => False := fun σ H ρ S O R Q Q' A hw k => by
  refine h.go A hw fun x H1 dx S1 O1 r1 A1 e1 q1 => ?_
  cases dx <;> try exact q1.elim
  cases r1
  exact ⟨_, rfl, k _ H1 S1 O1 A1.sok e1 q1⟩
theorem re_slcT {te : TE} {tl th : TO} {wl wh : Env → Sto → XD → (Option Int → Sto → Prop) → Prop} (ha : RE L K W te wa) (hl : RO L K W tl wl) (hh : RO L K W th wh) : RE L K W (tSl (rSlA K) te tl th) fun ρ S R Q => wa ρ S R fun x S1 => wl ρ S1 R fun l S2 => wh ρ S2 R fun h S3 => match x with
    | .tup xs => Q (.tup (cutD xs l h)) S3
    | _ => False := fun σ H ρ S O R Q Q' A hw k => by
  refine ha.go A hw fun x H1 dx S1 O1 r1 A1 e1 q1 => ?_
  refine hl.go A1 q1 fun l H2 S2 O2 A2 e2 q2 => ?_
  refine hh.go A2 q2 fun h H3 S3 O3 A3 e3 q3 => ?_
  have r1 := (r1.mono (A1.mo e2)).mono (A2.mo e3)
  obtain ⟨ds, rfl⟩ : ∃ ds, dx = .tup ds := by
    cases dx with
    | tup ds => exact ⟨ds, rfl⟩
    | _ => exact q3.elim
  cases r1 with
  | tup g1 g2 g3 =>
  rename_i a xs
  have ev := (e1.trans A1.sok e2).trans A2.sok e3
  refine ⟨a, xs, rfl, g1, fun hw => ?_, fun _ p hp => ?_⟩
  · refine k _ H3 _ S3 O3 (.tup g1 g2 ?_) A3.sok ev q3
    have e : cutD ds l h = ds := by
      unfold cutD
      rw [← g3.len, hw.1, hw.2, g3.len]
      simp
    rw [e]; exact g3
  · exact k _ _ _ S3 O3 (rp_new A3.sok hp (Nat.le_trans (cutV_length _ _ _) g2) (g3.cut l h)) (A3.sok.new hp) (ev.trans A3.sok (ev_new hp A3.sok)) q3
theorem re_slcG {te : TE} {tl th : TO} {wl wh : Env → Sto → XD → (Option Int → Sto → Prop) → Prop} (ha : RE L K W te wa) (hl : RO L K W tl wl) (hh : RO L K W th wh) : RE L K W (tSl (fun x lo hi H Q => rSlA K x lo hi H Q ∨ rSlL K x lo hi H Q) te tl th) fun ρ S R Q => wa ρ S R fun x S1 => wl ρ S1 R fun l S2 => wh ρ S2 R fun h S3 => match res S3 x with
    | .tup xs => Q (.tup (cutD xs l h)) S3
    | .lst xs => Q (.lst (cutD xs l h)) S3
    | _ => False := fun σ H ρ S O R Q Q' A hw k => by
  refine ha.go A hw fun x H1 dx S1 O1 r1 A1 e1 q1 => ?_
  refine hl.go A1 q1 fun l H2 S2 O2 A2 e2 q2 => ?_
  refine hh.go A2 q2 fun h H3 S3 O3 A3 e3 q3 => ?_
  have r1 := (r1.mono (A1.mo e2)).mono (A2.mo e3)
  have ev := (e1.trans A1.sok e2).trans A2.sok e3
  obtain ⟨hl, ht, _⟩ := seq_of r1 A3.sok
  cases e : res S3 dx <;> rw [e] at q3 <;> try exact q3.elim
  · rename_i ds
    obtain ⟨a, xs, rfl, g1, g2, g3⟩ := ht _ e
    refine .inl ⟨a, xs, rfl, g1, fun hw => ?_, fun _ p hp => ?_⟩
    · refine k _ H3 _ S3 O3 (.tup g1 g2 ?_) A3.sok ev q3
      have e : cutD ds l h = ds := by
        unfold cutD
        rw [← g3.len, hw.1, hw.2, g3.len]
        simp
      rw [e]; exact g3
    · exact k _ _ _ S3 O3 (rp_new A3.sok hp (Nat.le_trans (cutV_length _ _ _) g2) (g3.cut l h)) (A3.sok.new hp) (ev.trans A3.sok (ev_new hp A3.sok)) q3
  · obtain ⟨a, xs, rfl, g1, g2, g3⟩ := hl _ e
    refine .inr ⟨a, xs, rfl, SqL.of g1, fun p hp => ?_⟩
    exact k _ _ _ S3 O3 (.lst upd_same (A3.sok.notO hp) (Nat.le_trans (cutV_length _ _ _) g2) ((g3.cut l h).mono ((ev_new hp A3.sok).mo A3.sok))) (A3.sok.new hp) (ev.trans A3.sok (ev_new hp A3.sok)) q3
def ixD (S : Sto) (x y : D) (P : D → Prop) : Prop := match res S x, y with
    | .tup xs, .int n => ∃ d, atD xs n = some d ∧ P d
    | .lst xs, .int n => ∃ d, atD xs n = some d ∧ P d
    | .scr xs, .int n => ∃ m, L2.atI xs n = some m ∧ P (.int m)
    | _, _ => False
theorem at_of {O : Ow} {H : Hp} {xs : List V} {ds : List D} {n : Int} {d : D} (r : Rps K O H xs ds) (h : atD ds n = some d) : ∃ v, atI xs n = some v ∧ Rp K O H v d := by
  unfold atD atI at h
  unfold atI
  rw [r.len]
  cases e : ixN ds.length n with
  | none => rw [e] at h; cases h
  | some j =>
    rw [e] at h
    exact r.get (i := j) h
theorem hr_ix : ∀ x y dx dy H S O (P : D → Prop) (Q' : VK), Sok K S O H → Rp K O H x dx → Rp K O H y dy → ixD S dx dy P → (∀ v H' d, Rp K O H' v d → Sok K S O H' → Ev S O H S O H' → P d → Q' v H') → rIx K x y H Q' := fun x y dx dy H S O P Q' s rx ry h k => by
  unfold ixD at h
  obtain ⟨hl, ht, hs⟩ := seq_of rx s
  cases e : res S dx <;> rw [e] at h <;> try exact h.elim
  · cases dy <;> try exact h.elim
    cases ry
    obtain ⟨d, hd, q⟩ := h
    obtain ⟨a, xs, rfl, g1, g2, g3⟩ := ht _ e
    obtain ⟨v, hv, rv⟩ := at_of g3 hd
    exact .inr (.inl ⟨a, xs, _, v, rfl, rfl, g1, hv, k v H d rv s .refl q⟩)
  · cases dy <;> try exact h.elim
    cases ry
    obtain ⟨d, hd, q⟩ := h
    obtain ⟨a, xs, rfl, g1, g2, g3⟩ := hl _ e
    obtain ⟨v, hv, rv⟩ := at_of g3 hd
    exact .inl ⟨a, xs, _, v, rfl, rfl, SqL.of g1, hv, k v H d rv s .refl q⟩
  · cases dy <;> try exact h.elim
    cases ry
    obtain ⟨m, hm, q⟩ := h
    obtain ⟨a, rfl, g1⟩ := hs _ e
    refine .inl ⟨a, _, _, .int m, rfl, rfl, g1, ?_, k _ H _ (.int m) s .refl q⟩
    unfold atI at hm ⊢
    rw [List.length_map]
    revert hm
    generalize ixN _ _ = o
    intro hm
    cases o with
    | none => cases hm
    | some j =>
      show (List.map V.int _)[j]? = _
      rw [List.getElem?_map]
      exact congrArg (Option.map V.int) hm
end
end DL

/-! DL6: walks over a list or a tuple, in any mix. -/
namespace PySem
open Sem (wp)
set_option maxHeartbeats 1000000 in
theorem dl_meets_enum1 {v : Value} {o : Obj} {H : Heap → Prop} (B : Begins v o H) :
    Meets (Builtin.«enumerate.__new__» ⟨[.type "enumerate", v], []⟩) (fun _ R s => H s.heap ∧
      R (.ok (.ret (.ref (s.heap.push o).objs.size))) { s with heap := (s.heap.push o).push { cls := .type "enumerate", data := .fields #[.none, .bool false, .ref s.heap.objs.size, rawInt 0, .none, .none] } }) :=
  .of_wp fun prog w A R s h => by
    obtain ⟨hp, g, d, tk, os⟩ := s; obtain ⟨h1, h⟩ := h
    have hsub := sub_enumerate
    have q1 : ∀ {A' : Around} {E : Value → Shared → Prop} {Q : Value → Shared → Prop}, Q (.ref hp.objs.size) ⟨hp.push o, g, d, tk, os⟩ → wpAny (model prog w) A' (pyIter v) Q E ⟨hp, g, d, tk, os⟩ :=
      fun q => B.iter prog w _ _ ⟨hp, g, d, tk, os⟩ _ h1 q
    wp_walk using q1
    refine wpAny_stack_any fun st => wpAny_pure ?_
    split
    · rename_i c _ _ _ _ _
      cases (c == Value.type "enumerate")
      · wp_walk using q1
        exact ⟨_, rfl, h⟩
      · wp_walk using q1
        exact ⟨_, rfl, h⟩
    · wp_walk using q1
      exact ⟨_, rfl, h⟩
section
variable {prog : Program} {w : World} {A : Around} {E : Value → Shared → Prop} {s : Shared}
theorem dl_enum_begins1 {v : Value} {o : Obj} {H : Heap → Prop} {Q : Value → Shared → Prop} (B : Begins v o H) (h1 : H s.heap)
    (h : ∀ h', IsEnum h' (s.heap.objs.size + 1) s.heap.objs.size 0 .none → h'.get? s.heap.objs.size = some o → h'.objs.size = s.heap.objs.size + 2 →
      (∀ b o, s.heap.get? b = some o → h'.get? b = some o) → Q (.ref (s.heap.objs.size + 1)) { s with heap := h' }) :
    wpAny (model prog w) A (call (.type "enumerate") [v]) Q E s := by
  refine callType_new F.called_enumerate (by decide) (F.typeCall_enumerate_1 _) (F.newCall_enumerate_1 _) (fun obj => F.args_object_init_2 obj _) F.entry_enumerate_new
    (dl_meets_enum1 B) ⟨h1, ?_⟩
  have hz : (s.heap.push o).objs.size = s.heap.objs.size + 1 := Heap.size_push ..
  show _ ∧ _
  rw [hz]
  have he : IsEnum ((s.heap.push o).push { cls := .type "enumerate", data := .fields #[.none, .bool false, .ref s.heap.objs.size, rawInt 0, .none, .none] }) (s.heap.objs.size + 1) s.heap.objs.size 0 .none := by
    have := Heap.get?_push_size (s.heap.push o) (o := { cls := .type "enumerate", data := .fields #[.none, .bool false, .ref s.heap.objs.size, rawInt 0, .none, .none] }) rfl
    rw [hz] at this; exact this
  refine ⟨⟨_, he, rfl⟩, h _ he (Heap.get?_push_of_some _ (Heap.get?_push_size _ B.free)) (by rw [Heap.size_push, hz]) fun b o x => Heap.get?_push_of_some _ (Heap.get?_push_of_some _ x)⟩
end
end PySem

namespace DL
open PySem PySem.Spec PyProof.Rows L2
/-- a list (k) or a tuple -/
def Sq (K : PySem.W.Frag) (k : Bool) (H : Hp) (a : Addr) (xs : List V) : Prop := match k with
  | true => SqL K H a xs
  | false => SqT K H a xs
def IsIt (k : Bool) (h : Heap) (it a : Addr) (i : Nat) : Prop := match k with
  | true => h.IsListIter it a i
  | false => h.IsTupleIter it a i
def IsSq (k : Bool) (h : Heap) (a : Addr) (items : Array Value) : Prop := match k with
  | true => h.IsList a items
  | false => h.IsTuple a items
def itObj (k : Bool) (a : Addr) : Obj := match k with
  | true => { cls := .type "list_iterator", data := .fields #[.ref a, .int 0 0] }
  | false => { cls := .type "tuple_iterator", data := .fields #[.ref a, .int 0 0] }
section
variable {X : Cx} {pins : List (Addr × Obj)} {σ : L2.St} {H : Hp} {s : Shared} {k : Bool} {a : Addr} {xs : List V}
theorem inv_sq (I : Inv X pins σ H s) (h : Sq X.K k H a xs) : ∃ its : List Value, Vals xs its ∧ IsSq k s.heap a its.toArray ∧ xs.length ≤ sizeLine := by
  cases k with
  | true => obtain ⟨its, r, p, z⟩ := I.list h; exact ⟨its, r, p.isList, z⟩
  | false => obtain ⟨its, r, p, z⟩ := I.tuple h; exact ⟨its, r, p, z⟩
theorem inv_sq_inj {ys : List V} (I : Inv X pins σ H s) (h : Sq X.K k H a xs) (h' : Sq X.K k H a ys) : xs = ys := by
  cases k with
  | true => exact I.list_inj h h'
  | false => exact I.tuple_inj h h'
theorem sq_lt {items : Array Value} {h : Heap} (x : IsSq k h a items) : a < h.objs.size := by
  cases k with
  | true => obtain ⟨o, e, _⟩ := x; exact Heap.lt_size e
  | false => obtain ⟨o, e, _⟩ := x; exact Heap.lt_size e
theorem begins_sq (items : Array Value) : Begins (.ref a) (itObj k a) fun h => IsSq k h a items := by
  cases k with
  | true => exact begins_list a items
  | false => exact begins_tuple a items
theorem draws_sq {prog : Program} {w : World} {A : Around} (hh : A.handled = none) (it : Addr) (hne : a ≠ it) (items : Array Value) :
    Draws prog w A it [it, a] items.size (fun i v => items[i]? = some v) (fun i h => IsIt k h it a i ∧ IsSq k h a items) := by
  cases k with
  | true => exact Draws.list hh it a hne items
  | false => exact Draws.tuple hh it a hne items
theorem isIt_obj {h : Heap} {it : Addr} {i : Nat} (x : IsIt k h it a i) : ∃ o, h.get? it = some o ∧ ∀ v, o.data ≠ .cell v := by
  cases k with
  | true => obtain ⟨o, e, _, d⟩ := x; exact ⟨o, e, fun v q => by rw [d] at q; cases q⟩
  | false => obtain ⟨o, e, _, d⟩ := x; exact ⟨o, e, fun v q => by rw [d] at q; cases q⟩
theorem isIt_at {h h' : Heap} {it : Addr} {i : Nat} (x : IsIt k h it a i) (hk : ∀ o, h.get? it = some o → h'.get? it = some o) : IsIt k h' it a i := by
  cases k with
  | true => obtain ⟨o, e, r⟩ := x; exact ⟨o, hk o e, r⟩
  | false => obtain ⟨o, e, r⟩ := x; exact ⟨o, hk o e, r⟩
theorem isIt_new {h : Heap} {it : Addr} (e : h.get? it = some (itObj k a)) : IsIt k h it a 0 := by
  cases k with
  | true => exact ⟨_, e, rfl, rfl⟩
  | false => exact ⟨_, e, rfl, rfl⟩
end
/-- enumerate(a) -/
def IteG (K : PySem.W.Frag) (k : Bool) (a : Addr) : L2.It :=
  ⟨fun i H => ∃ xs x, Sq K k H a xs ∧ xs[i]? = some x, fun i H v H' => ∃ T x, v = .ref T ∧ H T = none ∧ H' = upd H T (.tup [.int (i : Nat), x]) ∧ ∀ xs, Sq K k H a xs → xs[i]? = some x, fun i H => ∃ xs, Sq K k H a xs ∧ xs.length = i⟩
theorem turn_enumG {P : Program} {w : World} {K : PySem.W.Frag} {elts : List Expr} {kk : Nat} {tpos : Pos} (k : Bool) (a e it : Addr) (n1 : e ≠ it) (n2 : a ≠ it) (n3 : a ≠ e) :
    Turn P w K (.Tuple elts kk tpos) (IteG K k a) [e, it] e (fun i h => (∃ old, IsEnum h e it ((i : Nat) : Int) old) ∧ IsIt k h it a i) where
  mem := by simp
  obj := fun i h st b hb => by
    obtain ⟨⟨old, he⟩, hi⟩ := st
    have e' : b = e ∨ b = it := by simpa using hb
    rcases e' with z | z
    · rw [z]; exact ⟨_, he, fun v q => nomatch q⟩
    · rw [z]; exact isIt_obj hi
  keep := fun i h h' st hk => let ⟨⟨old, he⟩, hi⟩ := st; ⟨⟨old, hk e (by simp) _ he⟩, isIt_at hi fun o q => hk it (by simp) o q⟩
  item := by
    intro X hP hw hK hc i pins s σ H E I hf st hg
    subst hP hw hK
    obtain ⟨⟨old, he⟩, hit⟩ := st
    obtain ⟨xs, x, hq, hx⟩ := hg
    obtain ⟨its, rv, p, hz⟩ := inv_sq I hq
    obtain ⟨u, hu, ru⟩ := rv.get hx
    have hh : X.A.in1.handled = none := I.ok.hd hc
    have G := GoesN.enumFrom (elts := elts) (x1 := kk) (pos := tpos) 0 (draws_sq (prog := X.prog) (w := X.w) (k := k) hh it n2 its.toArray) e n1 (by simp; exact ⟨n1, fun z => n3 z.symm⟩) (by simp)
    have hi : i < its.toArray.size := by
      have := (List.getElem?_eq_some_iff.mp hu).1
      simpa using this
    refine G.goes i s _ E hi ⟨⟨old, by rw [Int.zero_add]; exact he⟩, hit, p⟩ fun v h' tk hY st' hk htk => ?_
    obtain ⟨T, t, y, rfl, hT, hy, hTup⟩ := hY
    have ey : y = u := by
      have : its.toArray[i]? = some u := by simpa using hu
      rw [this] at hy; cases hy; rfl
    subst ey
    rw [Int.zero_add] at hTup
    have hTn : H T = none := I.hok.fresh hT
    have new : ObjOk X.prog X.w (upd H T (.tup [.int (i : Nat), x])) h' T (.tup [.int (i : Nat), x]) :=
      ⟨by show 2 ≤ sizeLine; decide, [.int i t, y], .cons ⟨_, rfl⟩ (.cons ru .nil), hTup⟩
    have I1 : Inv X pins σ (upd H T (.tup [.int (i : Nat), x])) { s with heap := h', toks := tk } := I.turnedNew (ch := [e, it]) hk hf hT new
    refine ⟨.ref T, _, I1, rfl, ⟨T, x, rfl, hTn, rfl, fun ys hy => by rw [inv_sq_inj I hy hq]; exact hx⟩, ⟨?_, st'.2.1⟩, fun b hb => ?_⟩
    · obtain ⟨old', he'⟩ := st'.1
      rw [Int.zero_add] at he'
      exact ⟨old', he'⟩
    · have hb' : b < s.heap.objs.size := by
        have e' : b = e ∨ b = it := by simpa using hb
        rcases e' with z | z
        · rw [z]; exact Heap.lt_size he
        · rw [z]; obtain ⟨o, q, _⟩ := isIt_obj hit; exact Heap.lt_size q
      rw [upd_ne (Nat.ne_of_lt (Nat.lt_of_lt_of_le hb' hT))]
      exact (hf b hb).1
  done := by
    intro X hP hw hK hc i pins s σ H E I hf st hg
    subst hP hw hK
    obtain ⟨⟨old, he⟩, hit⟩ := st
    obtain ⟨xs, hq, hx⟩ := hg
    obtain ⟨its, rv, p, hz⟩ := inv_sq I hq
    have hh : X.A.handled = none := I.ok.hd hc
    have hl := rv.length
    obtain ⟨f0, f1, f2, f3, f4, f5⟩ := hf it (by simp)
    have D := draws_sq (prog := X.prog) (w := X.w) (A := X.A.in1) (k := k) hh it n2 its.toArray
    have e : its.toArray.size = i := by rw [List.size_toArray]; omega
    exact wpAny_pyNext_enum_endD D he (by rw [e]; exact ⟨hit, p⟩) fun h' eb => ⟨rfl, I.turned (t' := s.toks) (fun b o hb q => eb b o hb q) f0 f1 f3 f4 f5⟩
  self := fun A i s Q E st h => let ⟨⟨_, he⟩, _⟩ := st; wpAny_pyIter_enum he h

def iEnumG (K : PySem.W.Frag) (ta : TA) : TI := fun σ H R => ta σ H fun vs H1 => ∃ k a xs, vs = [.ref a] ∧ Sq K k H1 a xs ∧ R (IteG K k a) H1
theorem pi_enumG {X : Cx} {e : Expr} {ta : TA} {p pos tpos : Pos} {elts : List Expr} {kk : Nat} (hg : Gl X "enumerate") (hm : X.mg "enumerate" = none) (ha : PA X [e] ta) (hs : starEach [e] X.env = [(false, eval e X.env)] := by rfl) :
    PI X (.Tuple elts kk tpos) (.Call (.Name "enumerate" p) [e] [] pos) (iEnumG X.K ta) := by
  refine ⟨fun pins s σ H R I h => ?_⟩
  refine Call_ (ld_blt I hg hm boot_enumerate (PyProof.Rows.callWith_type1 (thn (ha.run pos pins s σ H _ I h) fun us s1 ⟨vs, H1, I1, r1, q1⟩ => ?_) hs rfl))
  obtain ⟨k, a, xs, ex, hq, q⟩ := q1
  subst ex
  cases r1 with
  | cons r rr =>
    cases rr
    cases r
    obtain ⟨its, rv, p', hz⟩ := inv_sq I1 hq
    have la := sq_lt p'
    refine dl_enum_begins1 (begins_sq (k := k) its.toArray) p' fun h' he ho hsz hk => wpAny_pyIter_enum he ?_
    have I2 : Inv X pins σ H1 { s1 with heap := h' } := I1.kept (t' := s1.toks) hk
    refine ⟨s1.heap.objs.size + 1, [s1.heap.objs.size + 1, s1.heap.objs.size], _, _, H1, rfl, I2, turn_enumG k a (s1.heap.objs.size + 1) s1.heap.objs.size (Nat.succ_ne_self _) (Nat.ne_of_lt la) (Nat.ne_of_lt (Nat.lt_succ_of_lt la)), ⟨⟨.none, he⟩, isIt_new ho⟩, fun b hb => ?_, q⟩
    have e' : b = s1.heap.objs.size + 1 ∨ b = s1.heap.objs.size := by simpa using hb
    have hle : s1.heap.objs.size ≤ b := by
      rcases e' with z | z
      · rw [z]; exact Nat.le_add_right _ _
      · rw [z]; exact Nat.le_refl _
    exact I1.fpOk hle (I1.hok.fresh hle)
/-- zip(a, b) -/
def ItzG (K : PySem.W.Frag) (k1 k2 : Bool) (a b : Addr) : L2.It :=
  ⟨fun i H => (∃ xs x, Sq K k1 H a xs ∧ xs[i]? = some x) ∧ ∃ ys y, Sq K k2 H b ys ∧ ys[i]? = some y,
   fun i H v H' => ∃ T x y, v = .ref T ∧ H T = none ∧ H' = upd H T (.tup [x, y]) ∧ (∀ xs, Sq K k1 H a xs → xs[i]? = some x) ∧ ∀ ys, Sq K k2 H b ys → ys[i]? = some y,
   fun i H => ∃ xs ys, Sq K k1 H a xs ∧ Sq K k2 H b ys ∧ min xs.length ys.length = i⟩
theorem turn_zipG {P : Program} {w : World} {K : PySem.W.Frag} {elts : List Expr} {kk : Nat} {tpos : Pos} {k1 k2 : Bool} {a b z TI TO i1 i2 : Addr} (D : ZipSep2 z TI TO i1 i2 [i1, a] [i2, b]) (na : a ≠ i1) (nb : b ≠ i2) :
    Turn P w K (.Tuple elts kk tpos) (ItzG K k1 k2 a b) [z, TI, TO, i1, i2] z (fun i h => IsZip h z TI TO .none ∧ IsTupOf2 h TI (.ref i1) (.ref i2) ∧ (∃ x y, IsTupOf2 h TO x y) ∧ IsIt k1 h i1 a i ∧ IsIt k2 h i2 b i) where
  mem := by simp
  obj := fun i h st c hc => by
    obtain ⟨hz, hT, ⟨_, _, hO⟩, h1, h2⟩ := st
    have e' : c = z ∨ c = TI ∨ c = TO ∨ c = i1 ∨ c = i2 := by simpa using hc
    rcases e' with q | q | q | q | q
    · rw [q]; exact ⟨_, hz, fun v q => nomatch q⟩
    · rw [q]; exact ⟨_, hT, fun v q => nomatch q⟩
    · rw [q]; exact ⟨_, hO, fun v q => nomatch q⟩
    · rw [q]; exact isIt_obj h1
    · rw [q]; exact isIt_obj h2
  keep := fun i h h' st hk => let ⟨hz, hT, ⟨x, y, hO⟩, h1, h2⟩ := st
    ⟨hk z (by simp) _ hz, hk TI (by simp) _ hT, ⟨x, y, hk TO (by simp) _ hO⟩, isIt_at h1 fun o q => hk i1 (by simp) o q, isIt_at h2 fun o q => hk i2 (by simp) o q⟩
  item := by
    intro X hP hw hK hc i pins s σ H E I hf st hg
    subst hP hw hK
    obtain ⟨hz, hT, hO, h1, h2⟩ := st
    obtain ⟨⟨xs, x, hq, hx⟩, ys, y, hq2, hy⟩ := hg
    obtain ⟨its, rv, p, _⟩ := inv_sq I hq
    obtain ⟨its2, rv2, p2, _⟩ := inv_sq I hq2
    obtain ⟨u, hu, ru⟩ := rv.get hx
    obtain ⟨u2, hu2, ru2⟩ := rv2.get hy
    have hh : X.A.in1.handled = none := I.ok.hd hc
    have G := GoesN.zip2 (elts := elts) (x1 := kk) (pos := tpos) D (draws_sq (prog := X.prog) (w := X.w) (k := k1) hh i1 na its.toArray) (draws_sq (prog := X.prog) (w := X.w) (k := k2) hh i2 nb its2.toArray)
    have hi : i < min its.toArray.size its2.toArray.size := by
      have a1 := (List.getElem?_eq_some_iff.mp hu).1
      have a2 := (List.getElem?_eq_some_iff.mp hu2).1
      rw [List.size_toArray, List.size_toArray]; omega
    refine G.goes i s _ E hi ⟨hz, hT, hO, ⟨h1, p⟩, ⟨h2, p2⟩⟩ fun v h' tk hY st' hk htk => ?_
    obtain ⟨T, v1, v2, rfl, hTs, hv1, hv2, hTup⟩ := hY
    have e1 : v1 = u := by
      have : its.toArray[i]? = some u := by simpa using hu
      rw [this] at hv1; cases hv1; rfl
    have e2 : v2 = u2 := by
      have : its2.toArray[i]? = some u2 := by simpa using hu2
      rw [this] at hv2; cases hv2; rfl
    subst e1 e2
    have hTn : H T = none := I.hok.fresh hTs
    have new : ObjOk X.prog X.w (upd H T (.tup [x, y])) h' T (.tup [x, y]) := ⟨by show 2 ≤ sizeLine; decide, [v1, v2], .cons ru (.cons ru2 .nil), hTup⟩
    have I1 : Inv X pins σ (upd H T (.tup [x, y])) { s with heap := h', toks := tk } := I.turnedNew (ch := [z, TO, i1, i2]) hk (fun c hc => hf c (by
      have e' : c = z ∨ c = TO ∨ c = i1 ∨ c = i2 := by simpa using hc
      rcases e' with q | q | q | q <;> rw [q] <;> simp)) hTs new
    refine ⟨.ref T, _, I1, rfl, ⟨T, x, y, rfl, hTn, rfl, fun zs hs => by rw [inv_sq_inj I hs hq]; exact hx, fun zs hs => by rw [inv_sq_inj I hs hq2]; exact hy⟩, ⟨st'.1, st'.2.1, st'.2.2.1, st'.2.2.2.1.1, st'.2.2.2.2.1⟩, fun c hc => ?_⟩
    have hb' : c < s.heap.objs.size := by
      have e' : c = z ∨ c = TI ∨ c = TO ∨ c = i1 ∨ c = i2 := by simpa using hc
      rcases e' with q | q | q | q | q
      · rw [q]; exact Heap.lt_size hz
      · rw [q]; exact Heap.lt_size hT
      · rw [q]; obtain ⟨_, _, hO⟩ := hO; exact Heap.lt_size hO
      · rw [q]; obtain ⟨o, q, _⟩ := isIt_obj h1; exact Heap.lt_size q
      · rw [q]; obtain ⟨o, q, _⟩ := isIt_obj h2; exact Heap.lt_size q
    rw [upd_ne (Nat.ne_of_lt (Nat.lt_of_lt_of_le hb' hTs))]
    exact (hf c hc).1
  done := by
    intro X hP hw hK hc i pins s σ H E I hf st hg
    subst hP hw hK
    obtain ⟨hz, hT, hO, h1, h2⟩ := st
    obtain ⟨xs, ys, hq, hq2, hl⟩ := hg
    obtain ⟨its, rv, p, _⟩ := inv_sq I hq
    obtain ⟨its2, rv2, p2, _⟩ := inv_sq I hq2
    have l1 := rv.length
    have l2 := rv2.length
    have hh : X.A.in1.handled = none := I.ok.hd hc
    have G := GoesN.zip2 (elts := elts) (x1 := kk) (pos := tpos) D (draws_sq (prog := X.prog) (w := X.w) (k := k1) hh i1 na its.toArray) (draws_sq (prog := X.prog) (w := X.w) (k := k2) hh i2 nb its2.toArray)
    have e : min its.toArray.size its2.toArray.size = i := by rw [List.size_toArray, List.size_toArray]; omega
    refine G.stops s _ E (by rw [e]; exact ⟨hz, hT, hO, ⟨h1, p⟩, ⟨h2, p2⟩⟩) fun h' tk hk htk => ?_
    exact I.turnedL (ch := [z, TO, i1, i2]) hk (fun c hc => hf c (by
      have e' : c = z ∨ c = TO ∨ c = i1 ∨ c = i2 := by simpa using hc
      rcases e' with q | q | q | q <;> rw [q] <;> simp))
  self := fun A i s Q E st h => wpAny_pyIter_zip st.1 h
def iZipG (K : PySem.W.Frag) (ta : TA) : TI := fun σ H R => ta σ H fun vs H1 => ∃ k1 k2 a b xs ys, vs = [.ref a, .ref b] ∧ Sq K k1 H1 a xs ∧ Sq K k2 H1 b ys ∧ R (ItzG K k1 k2 a b) H1
theorem pi_zipG {X : Cx} {e e2 : Expr} {ta : TA} {p pos tpos : Pos} {elts : List Expr} {kk : Nat} (hg : Gl X "zip") (hm : X.mg "zip" = none) (ha : PA X [e, e2] ta)
    (hs : starEach [e, e2] X.env = (false, eval e X.env) :: starEach [e2] X.env) (hpl : (backTo pos (starEach [e2] X.env)).any (·.1) = false) :
    PI X (.Tuple elts kk tpos) (.Call (.Name "zip" p) [e, e2] [] pos) (iZipG X.K ta) := by
  refine ⟨fun pins s σ H R I h => ?_⟩
  refine Call_ (ld_blt I hg hm PyProof.Rows.boot_zip (PyProof.Rows.callWith_type1 (thn (ha.run pos pins s σ H _ I h) fun us s1 ⟨vs, H1, I1, r1, q1⟩ => ?_) hs hpl))
  obtain ⟨k1, k2, a, b, xs, ys, ex, hqx, hqy, q⟩ := q1
  subst ex
  cases r1 with
  | cons r rr =>
    cases rr with
    | cons r' rr =>
      cases rr
      cases r
      cases r'
      obtain ⟨its, rv, p1, _⟩ := inv_sq I1 hqx
      obtain ⟨its2, rv2, p2, _⟩ := inv_sq I1 hqy
      have la := sq_lt p1
      have lb := sq_lt p2
      refine zip_begins2 (begins_sq (k := k1) its.toArray) (begins_sq (k := k2) its2.toArray) p1 p2 fun h' hz hTI hTO h1 h2 hsz hk => wpAny_pyIter_zip hz ?_
      have I2 : Inv X pins σ H1 { s1 with heap := h' } := I1.kept (t' := s1.toks) hk
      have D : ZipSep2 (s1.heap.objs.size + 4) (s1.heap.objs.size + 2) (s1.heap.objs.size + 3) s1.heap.objs.size (s1.heap.objs.size + 1) [s1.heap.objs.size, a] [s1.heap.objs.size + 1, b] := zip_sep2 (fun c hc => by rw [List.mem_singleton.mp hc]; exact la) (fun c hc => by rw [List.mem_singleton.mp hc]; exact lb)
      refine ⟨s1.heap.objs.size + 4, [s1.heap.objs.size + 4, s1.heap.objs.size + 2, s1.heap.objs.size + 3, s1.heap.objs.size, s1.heap.objs.size + 1], _, _, H1, rfl, I2, turn_zipG D (Nat.ne_of_lt la) (Nat.ne_of_lt (Nat.lt_succ_of_lt lb)), ⟨hz, hTI, ⟨_, _, hTO⟩, isIt_new h1, isIt_new h2⟩, fun c hcm => ?_, q⟩
      have e' : c = s1.heap.objs.size + 4 ∨ c = s1.heap.objs.size + 2 ∨ c = s1.heap.objs.size + 3 ∨ c = s1.heap.objs.size ∨ c = s1.heap.objs.size + 1 := by simpa using hcm
      have hle : s1.heap.objs.size ≤ c := by
        rcases e' with z | z | z | z | z
        · rw [z]; exact Nat.le_add_right _ _
        · rw [z]; exact Nat.le_add_right _ _
        · rw [z]; exact Nat.le_add_right _ _
        · rw [z]; exact Nat.le_refl _
        · rw [z]; exact Nat.le_add_right _ _
      exact I1.fpOk hle (I1.hok.fresh hle)
/-- a list or a tuple -/
def iSeqG (K : PySem.W.Frag) (tl : TE) : TI := fun σ H R => tl σ H fun x H1 => ∃ a, x = .ref a ∧ (((∃ xs, SqL K H1 a xs) ∧ R (Itl K a) H1) ∨ ((∃ xs, SqT K H1 a xs) ∧ R (Itt K a) H1))
theorem pi_seqG {X : Cx} {tg l : Expr} {tl : TE} (hl : PE X l tl) : PI X tg l (iSeqG X.K tl) := by
  refine ⟨fun pins s σ H R I h => ?_⟩
  refine thn (hl.run pins s σ H _ I h) fun v s1 ⟨x, H1, I1, r1, q1⟩ => ?_
  obtain ⟨a, e, q⟩ := q1
  subst e
  cases r1
  rcases q with ⟨⟨xs, hq⟩, q⟩ | ⟨⟨xs, hq⟩, q⟩
  · obtain ⟨its, rv, p, hz⟩ := I1.list hq
    refine wpAny_pyIter_list p.isList ?_
    refine ⟨s1.heap.objs.size, [s1.heap.objs.size], _, _, H1, rfl, I1.kept (t' := s1.toks) fun b o e => Heap.get?_push_of_some _ e, turn_list a _, ⟨_, Heap.get?_push_size _ rfl, rfl, rfl⟩, fun b hb => ?_, q⟩
    have e : b = s1.heap.objs.size := by simpa using hb
    subst e
    exact I1.fpOk (Nat.le_refl _) (I1.hok.fresh (Nat.le_refl _))
  · obtain ⟨its, rv, p, hz⟩ := I1.tuple hq
    refine wpAny_pyIter_tuple (show s1.heap.IsTuple a its.toArray from p) ?_
    refine ⟨s1.heap.objs.size, [s1.heap.objs.size], _, _, H1, rfl, I1.kept (t' := s1.toks) fun b o e => Heap.get?_push_of_some _ e, turn_tuple a _, ⟨_, Heap.get?_push_size _ rfl, rfl, rfl⟩, fun b hb => ?_, q⟩
    have e : b = s1.heap.objs.size := by simpa using hb
    subst e
    exact I1.fpOk (Nat.le_refl _) (I1.hok.fresh (Nat.le_refl _))
end DL

/-! DL7: what is walked as data; comprehensions; targets. -/
namespace DL
open PySem PySem.Spec PyProof.Rows L2
/-- the turns of a walk are the items ds, while C holds of the store -/
structure ItOk (K : PySem.W.Frag) (J : L2.It) (ds : List D) (C : Sto → Prop) (O0 : Ow) (H0 : Hp) : Prop where
  go : ∀ i S O H, Sok K S O H → Mo O0 H0 O H → C S → i < ds.length → J.go i H ∧ ∀ x H', J.yld i H x H' → ∃ d, ds[i]? = some d ∧ Rp K O H' x d ∧ Sok K S O H' ∧ Ev S O H S O H'
  stop : ∀ i S O H, Sok K S O H → Mo O0 H0 O H → C S → ds.length = i → J.stop i H
abbrev WI := Env → Sto → XD → (List D → (Sto → Prop) → Sto → Prop) → Prop
def RI (L : Lnk) (K : PySem.W.Frag) (W : WX) (t : TI) (w : WI) : Prop :=
  ∀ (σ : L2.St) (H : Hp) (ρ : Env) (S : Sto) (O : Ow) (R : XD) (Q : List D → (Sto → Prop) → Sto → Prop) (R' : L2.It → Hp → Prop), At L K W σ H ρ S O R → w ρ S R Q →
    (∀ J H' ds C S' O', ItOk K J ds C O' H' → ds.length ≤ sizeLine → Sok K S' O' H' → Ev S O H S' O' H' → Q ds C S' → R' J H') → t σ H R'
def tOI (L : Lnk) (K : PySem.W.Frag) (W : WX) (w : WI) : TI := fun σ H R' => ∃ ρ S O R, ∃ Q : List D → (Sto → Prop) → Sto → Prop, At L K W σ H ρ S O R ∧ w ρ S R Q ∧ ∀ J H' ds C S' O', ItOk K J ds C O' H' → ds.length ≤ sizeLine → Sok K S' O' H' → Ev S O H S' O' H' → Q ds C S' → R' J H'
/-! ### a, b, .. = a list of that length -/
section
variable {prog : Program} {w : World} {A : Around} {E : Value → Shared → Prop} {s : Shared}
theorem draw_lst {it t : Addr} {items : Array Value} (hne : t ≠ it) : ∀ (n i : Nat) (s : Shared) (Q : List Value → Shared → Prop), s.heap.IsListIter it t i → s.heap.IsList t items → i + n ≤ items.size →
    (∀ h' : Heap, h'.IsListIter it t (i + n) → Heap.SameBut it s.heap h' → Q ((items.toList.drop i).take n) { s with heap := h' }) → wpAny (model prog w) A (draw (.ref it) n) Q E s
  | 0, i, s, Q, hit, _, _, hQ => by
    show wpAny _ _ (pure []) Q E s
    exact wpAny_pure (by simpa using hQ s.heap hit (Heap.SameBut.refl ..))
  | n + 1, i, s, Q, hit, ht, hle, hQ => by
    have hlt : i < items.size := by omega
    show wpAny _ _ (pyNext (.ref it) >>= _) Q E s
    refine wpAny_bind (wpAny_pyNext_list_item hit ht (x := items[i]) (by simp [hlt]) fun h₁ hit₁ hs₁ => ?_)
    refine wpAny_bind (wpAny_holding (draw_lst hne n (i + 1) _ _ hit₁ (ht.extBut hs₁.extBut hne) (by omega) fun h₂ hit₂ hs₂ => wpAny_pure ?_))
    have hd : items.toList.drop i = items[i] :: items.toList.drop (i + 1) := by simp [List.drop_eq_getElem_cons, hlt]
    have := hQ h₂ (by rw [show i + (n + 1) = i + 1 + n by omega]; exact hit₂) (hs₁.trans hs₂)
    rw [hd, List.take_succ_cons] at this
    exact this
theorem unpackItems_lst {t : Addr} {items : Array Value} {Q : List Value → Shared → Prop} (hh : A.handled = none) (ht : s.heap.IsList t items)
    (hQ : ∀ h', Heap.ExtBut s.heap.objs.size s.heap h' → Q items.toList { s with heap := h' }) : wpAny (model prog w) A (unpackItems (.ref t) items.size none) Q E s := by
  have hlt : t ≠ s.heap.objs.size := by obtain ⟨o, ho, _⟩ := ht; exact Nat.ne_of_lt (Heap.lt_size ho)
  unfold unpackItems
  refine wpAny_bind ?_
  · unfold notIterableAtAll
    refine wpAny_bind (wpAny_specialOf ht.typeIs slot_list_iter.lookup ?_)
    refine wpAny_pure ?_
    simp only [Bool.false_eq_true, if_false]
    refine wpAny_bind (wpAny_holding (wpAny_pyIter_list ht ?_))
    refine wpAny_bind (wpAny_holding (draw_lst hlt items.size 0 _ _ ⟨_, Heap.get?_push_size _ rfl, rfl, rfl⟩ (ht.push _) (by omega) fun h₁ hit₁ hs₁ => ?_))
    have hall : List.take items.size (List.drop 0 items.toList) = items.toList := by
      rw [List.drop_zero]; exact List.take_of_length_le (by simp)
    rw [hall]
    rw [if_neg (by simp)]
    have ht₁ : h₁.IsList t items := (ht.push _).extBut hs₁.extBut hlt
    refine wpAny_bind (wpAny_holding (wpAny_pyNext_list_end hh hit₁ ht₁ (by simp) fun h₂ he₂ => ?_))
    simp only [Option.isSome_none, Bool.false_eq_true, if_false]
    refine wpAny_pure (hQ h₂ fun b o hb e => he₂ b o hb (hs₁.extBut b o hb (Heap.get?_push_of_some _ e)))
theorem assign_Tuple_lst {env : PySem.Env} {elts : List Expr} {x1} {pos : Pos} {t : Addr} {items : Array Value} {Q : Unit → Shared → Prop} (hh : A.handled = none) (ht : s.heap.IsList t items)
    (hn : (assignEach elts env).length = items.size) (hstar : (assignEach elts env).findIdx? (·.1) = none)
    (h : ∀ h', Heap.ExtBut s.heap.objs.size s.heap h' → wpAny (model prog w) A (assignInOrder ((assignEach elts env).map (·.2)) items.toList) Q E { s with heap := h' }) :
    wpAny (model prog w) A (assign (.Tuple elts x1 pos) env (.ref t)) Q E s := by
  rw [assign_Tuple]
  refine wpAny_bind (wpAny_standAt ?_)
  unfold unpack
  rw [hn, hstar]
  exact wpAny_bind (wpAny_holding (unpackItems_lst hh ht h))
end
/-- (a, b, ..) = a tuple or a list of that length -/
def gSeq (K : PySem.W.Frag) (n : Nat) (t : TGs) : TG := fun v σ H Q => ∃ a xs, v = .ref a ∧ (SqT K H a xs ∨ SqL K H a xs) ∧ xs.length = n ∧ t xs σ H Q
theorem pg_seq {X : Cx} {es : List Expr} {k : Nat} {pos : Pos} {t : TGs} {n : Nat} (hc : X.calm = true) (h : PGs X es t)
    (hn : (assignEach es X.env).length = n := by rfl) (hst : (assignEach es X.env).findIdx? (·.1) = none := by rfl) : PG X (.Tuple es k pos) (gSeq X.K n t) := by
  refine ⟨fun pins s σ H v u Q I r hw => ?_⟩
  obtain ⟨a, xs, e1, hq, hl, hw⟩ := hw
  subst e1
  cases r
  rcases hq with hq | hq
  · obtain ⟨its, rv, ht, hz⟩ := I.tuple hq
    refine assign_Tuple_tuple (I.ok.hd hc) ht (by simp [hn, ← hl, rv.length]) hst fun h' hx => ?_
    have I1 : Inv X pins σ H { s with heap := h' } := I.kept (t' := s.toks) fun b o e => hx b o (Nat.ne_of_lt (Heap.lt_size e)) e
    exact h.run pins _ σ H xs _ Q I1 (by simpa using rv) hw
  · obtain ⟨its, rv, ht, hz⟩ := I.list hq
    refine assign_Tuple_lst (I.ok.hd hc) ht.isList (by simp [hn, ← hl, rv.length]) hst fun h' hx => ?_
    have I1 : Inv X pins σ H { s with heap := h' } := I.kept (t' := s.toks) fun b o e => hx b o (Nat.ne_of_lt (Heap.lt_size e)) e
    exact h.run pins _ σ H xs _ Q I1 (by simpa using rv) hw
section
variable {L : Lnk} {K : PySem.W.Frag} {W : WX} {X : Cx} {w wa wb wc : WE'} {ta tb tc : TE}
theorem ri_tO {w : WI} : RI L K W (tOI L K W w) w := fun σ H ρ S O R Q Q' A hw k => ⟨ρ, S, O, R, Q, A, hw, k⟩
theorem _root_.L2.PI.can {tg e : Expr} {t : TI} {w : WI} (h : PI X tg e t) (r : RI L K W t w) : PI X tg e (tOI L K W w) := ⟨fun pins s σ H R' I ⟨ρ, S, O, R, Q, A, hw, k⟩ => h.run pins s σ H R' I (r σ H ρ S O R Q R' A hw k)⟩
theorem rangeD_get {i c : Int} {n k : Nat} (h : k < n) : (rangeD i c n)[k]? = some (.int (i + (k : Nat) * c)) := by
  unfold rangeD
  rw [List.getElem?_map, List.getElem?_range h]; rfl
theorem rangeD_len {i c : Int} {n : Nat} : (rangeD i c n).length = n := by unfold rangeD; simp
theorem itOk_r {lo : Int} {n : Nat} {O : Ow} {H : Hp} : ItOk K (Itr lo n) (rangeD lo 1 n) (fun _ => True) O H where
  go := fun i S O H s m _ hi => by
    rw [rangeD_len] at hi
    refine ⟨hi, fun x H' y => ?_⟩
    obtain ⟨rfl, rfl⟩ := y
    exact ⟨_, rangeD_get hi, by rw [Int.mul_one]; exact .int _, s, .refl⟩
  stop := fun i S O H s m _ hi => by rw [rangeD_len] at hi; exact Nat.le_of_eq hi
theorem itOk_c {lo c : Int} {n : Nat} {O : Ow} {H : Hp} : ItOk K (Itc lo c n) (rangeD lo c n) (fun _ => True) O H where
  go := fun i S O H s m _ hi => by
    rw [rangeD_len] at hi
    refine ⟨hi, fun x H' y => ?_⟩
    obtain ⟨rfl, rfl⟩ := y
    exact ⟨_, rangeD_get hi, .int _, s, .refl⟩
  stop := fun i S O H s m _ hi => by rw [rangeD_len] at hi; exact Nat.le_of_eq hi
theorem ri_rng1 (ha : RE L K W ta wa) : RI L K W (iRng1 (tCons ta tNil)) fun ρ S R Q => wa ρ S R fun x S1 => ∃ j : Int, x = .int j ∧ -(2 ^ 62) ≤ j ∧ j ≤ 16777216 ∧ Q (rangeD 0 1 j.toNat) (fun _ => True) S1 := fun σ H ρ S O R Q Q' A hw k => by
  refine ha.go A hw fun x H1 dx S1 O1 r1 A1 e1 q1 => ?_
  obtain ⟨j, rfl, h1, h2, q⟩ := q1
  cases r1
  exact ⟨j, rfl, h1, by omega, k _ H1 _ _ S1 O1 itOk_r (by rw [rangeD_len, sizeLine_eq]; omega) A1.sok e1 q⟩
theorem ri_rng2 (ha : RE L K W ta wa) (hb : RE L K W tb wb) : RI L K W (iRng2 (tCons ta (tCons tb tNil))) fun ρ S R Q => wa ρ S R fun x S1 => wb ρ S1 R fun y S2 => ∃ i j : Int, x = .int i ∧ y = .int j ∧ (-(2 ^ 62) ≤ i ∧ i < 2 ^ 62 ∧ -(2 ^ 62) ≤ j ∧ j < 2 ^ 62) ∧ j - i ≤ 16777216 ∧ Q (rangeD i 1 (j - i).toNat) (fun _ => True) S2 := fun σ H ρ S O R Q Q' A hw k => by
  refine ha.go A hw fun x H1 dx S1 O1 r1 A1 e1 q1 => ?_
  refine hb.go A1 q1 fun y H2 dy S2 O2 r2 A2 e2 q2 => ?_
  obtain ⟨i, j, rfl, rfl, h1, h2, q⟩ := q2
  cases r1; cases r2
  exact ⟨i, j, rfl, h1, k _ H2 _ _ S2 O2 itOk_r (by rw [rangeD_len, sizeLine_eq]; omega) A2.sok (e1.trans A1.sok e2) q⟩
theorem ri_rng3 (ha : RE L K W ta wa) (hb : RE L K W tb wb) (hc : RE L K W tc wc) : RI L K W (iRng3 (tCons ta (tCons tb (tCons tc tNil)))) fun ρ S R Q => wa ρ S R fun x S1 => wb ρ S1 R fun y S2 => wc ρ S2 R fun z S3 => ∃ (i j c : Int) (n : Nat), x = .int i ∧ y = .int j ∧ z = .int c ∧ RgC i j c n ∧ n ≤ sizeLine ∧ Q (rangeD i c n) (fun _ => True) S3 := fun σ H ρ S O R Q Q' A hw k => by
  refine ha.go A hw fun x H1 dx S1 O1 r1 A1 e1 q1 => ?_
  refine hb.go A1 q1 fun y H2 dy S2 O2 r2 A2 e2 q2 => ?_
  refine hc.go A2 q2 fun z H3 dz S3 O3 r3 A3 e3 q3 => ?_
  obtain ⟨i, j, c, n, rfl, rfl, rfl, h1, h2, q⟩ := q3
  cases r1; cases r2; cases r3
  exact ⟨i, j, c, n, rfl, h1, k _ H3 _ _ S3 O3 itOk_c (by rw [rangeD_len]; exact h2) A3.sok ((e1.trans A1.sok e2).trans A2.sok e3) q⟩

/-! ### lists and tuples walked -/
/-- a sequence by data: a list or a tuple at a, its items at every later state -/
theorem sq_of {v : V} {d : D} {S : Sto} {O : Ow} {H : Hp} {k : List D → (Sto → Prop) → Prop} (r : Rp K O H v d) (s : Sok K S O H) (h : seqD S d k) : ∃ a b ds C, v = .ref a ∧ C S ∧ ds.length ≤ sizeLine ∧
    (∀ S' O' H', Sok K S' O' H' → Mo O H O' H' → C S' → ∃ xs, Sq K b H' a xs ∧ Rps K O' H' xs ds) ∧ k ds C := by
  cases d with
  | tup ds =>
    cases r with
    | tup h1 z h2 => exact ⟨_, false, ds, fun _ => True, rfl, trivial, by rw [← h2.len]; exact z, fun S' O' H' _ m _ => ⟨_, m.sqT h1, h2.mono m⟩, h⟩
  | lst ds =>
    cases r with
    | lst h1 n z h2 => exact ⟨_, true, ds, fun _ => True, rfl, trivial, by rw [← h2.len]; exact z, fun S' O' H' _ m _ => ⟨_, SqL.of (m.k _ _ h1 n nt_lst), h2.mono m⟩, h⟩
  | scr ns =>
    cases r with
    | scr z h1 => exact ⟨_, true, ns.map .int, fun _ => True, rfl, trivial, by rw [List.length_map]; exact z, fun S' O' H' _ m _ => ⟨_, .inl (.inr ⟨_, m.t _ _ h1 (.inr (.inl ⟨_, _, rfl⟩))⟩), Rps.ofInts ns⟩, h⟩
    | scrL z h1 n => exact ⟨_, true, ns.map .int, fun _ => True, rfl, trivial, by rw [List.length_map]; exact z, fun S' O' H' _ m _ => ⟨_, SqL.of (m.k _ _ h1 n nt_lst), Rps.ofInts ns⟩, h⟩
    | scrK z h1 => exact ⟨_, true, ns.map .int, fun _ => True, rfl, trivial, by rw [List.length_map]; exact z, fun S' O' H' _ m _ => ⟨_, h1 _, Rps.ofInts ns⟩, h⟩
  | ref p =>
    cases r
    unfold seqD at h
    cases q : S p with
    | none => simp only [q] at h
    | some o =>
      cases o with
      | lst ds =>
        simp only [q] at h
        obtain ⟨_, xs, h1, z, h2⟩ := s.dom _ _ q
        refine ⟨p, true, ds, fun S' => S' p = some (.lst ds), rfl, q, by rw [← h2.len]; exact z, fun S' O' H' s' m c => ?_, h⟩
        obtain ⟨_, ys, g1, _, g2⟩ := s'.dom _ _ c
        exact ⟨ys, SqL.of g1, g2⟩
      | _ => simp only [q] at h
  | _ => exact h.elim
theorem itOk_seq {b : Bool} {a : Addr} {ds : List D} {C : Sto → Prop} {O : Ow} {H : Hp} (h : ∀ S' O' H', Sok K S' O' H' → Mo O H O' H' → C S' → ∃ xs, Sq K b H' a xs ∧ Rps K O' H' xs ds) : ItOk K (if b = true then Itl K a else Itt K a) ds C O H := by
  cases b with
  | true =>
    refine ⟨fun i S O' H' s m c hi => ?_, fun i S O' H' s m c hi => ?_⟩
    · obtain ⟨xs, hq, hr⟩ := h S O' H' s m c
      obtain ⟨v, hv, rv⟩ := hr.get (i := i) (List.getElem?_eq_getElem hi)
      refine ⟨⟨xs, v, hq, hv⟩, fun x H2 y => ?_⟩
      obtain ⟨rfl, y⟩ := y
      have := y xs hq
      rw [hv] at this; cases this
      exact ⟨_, List.getElem?_eq_getElem hi, rv, s, .refl⟩
    · obtain ⟨xs, hq, hr⟩ := h S O' H' s m c
      exact ⟨xs, hq, by rw [hr.len]; exact Nat.le_of_eq hi⟩
  | false =>
    refine ⟨fun i S O' H' s m c hi => ?_, fun i S O' H' s m c hi => ?_⟩
    · obtain ⟨xs, hq, hr⟩ := h S O' H' s m c
      obtain ⟨v, hv, rv⟩ := hr.get (i := i) (List.getElem?_eq_getElem hi)
      refine ⟨⟨xs, v, hq, hv⟩, fun x H2 y => ?_⟩
      obtain ⟨rfl, y⟩ := y
      have := y xs hq
      rw [hv] at this; cases this
      exact ⟨_, List.getElem?_eq_getElem hi, rv, s, .refl⟩
    · obtain ⟨xs, hq, hr⟩ := h S O' H' s m c
      exact ⟨xs, hq, by rw [hr.len]; exact Nat.le_of_eq hi⟩
theorem ri_seq (ha : RE L K W ta wa) : RI L K W (iSeqG K ta) fun ρ S R Q => wa ρ S R fun x S1 => seqD S1 x fun ds C => Q ds C S1 := fun σ H ρ S O R Q Q' A hw k => by
  refine ha.go A hw fun x H1 dx S1 O1 r1 A1 e1 q1 => ?_
  obtain ⟨a, b, ds, C, rfl, c, z, h, q⟩ := sq_of r1 A1.sok q1
  have I := itOk_seq h
  obtain ⟨xs, hq, hr⟩ := h S1 O1 H1 A1.sok Mo.refl c
  cases b with
  | true => exact ⟨a, rfl, .inl ⟨⟨xs, hq⟩, k _ H1 ds C S1 O1 I z A1.sok e1 q⟩⟩
  | false => exact ⟨a, rfl, .inr ⟨⟨xs, hq⟩, k _ H1 ds C S1 O1 I z A1.sok e1 q⟩⟩
theorem enumD_len : ∀ (n : Nat) (ds : List D), (enumD n ds).length = ds.length
  | _, [] => rfl
  | n, _ :: r => by rw [enumD, List.length_cons, List.length_cons, enumD_len (n + 1) r]
theorem enumD_get : ∀ (n : Nat) (ds : List D) (i : Nat) (d : D), ds[i]? = some d → (enumD n ds)[i]? = some (.tup [.int ((n + i : Nat) : Int), d])
  | n, d :: r, 0, _, e => by cases e; rfl
  | n, _ :: r, i + 1, d, e => by
    have := enumD_get (n + 1) r i d e
    rw [show n + 1 + i = n + (i + 1) by omega] at this
    exact this
theorem ev_new' {S : Sto} {O : Ow} {H : Hp} {T : Addr} {u : HO} (s : Sok K S O H) (h : H T = none) : Sok K S O (upd H T u) ∧ Ev S O H S O (upd H T u) := ⟨s.new h, ev_new h s⟩
theorem ri_enum (ha : RE L K W ta wa) : RI L K W (iEnumG K (tCons ta tNil)) fun ρ S R Q => wa ρ S R fun x S1 => seqD S1 x fun ds C => Q (enumD 0 ds) C S1 := fun σ H ρ S O R Q Q' A hw k => by
  refine ha.go A hw fun x H1 dx S1 O1 r1 A1 e1 q1 => ?_
  obtain ⟨a, b, ds, C, rfl, c, z, h, q⟩ := sq_of r1 A1.sok q1
  obtain ⟨xs, hq, hr⟩ := h S1 O1 H1 A1.sok Mo.refl c
  refine ⟨b, a, xs, rfl, hq, k _ H1 _ C S1 O1 ⟨fun i S O H' s m c hi => ?_, fun i S O H' s m c hi => ?_⟩ (by rw [enumD_len]; exact z) A1.sok e1 q⟩
  · rw [enumD_len] at hi
    obtain ⟨ys, hq, hr⟩ := h S O H' s m c
    obtain ⟨v, hv, rv⟩ := hr.get (i := i) (List.getElem?_eq_getElem hi)
    refine ⟨⟨ys, v, hq, hv⟩, fun x H2 y => ?_⟩
    obtain ⟨T, x', rfl, hT, rfl, y⟩ := y
    have := y ys hq
    rw [hv] at this; cases this
    refine ⟨_, enumD_get 0 ds i _ (List.getElem?_eq_getElem hi), ?_, s.new hT, ev_new hT s⟩
    rw [Nat.zero_add]
    exact rp_new s hT (by show 2 ≤ sizeLine; decide) (.cons (.int _) (.cons rv .nil))
  · rw [enumD_len] at hi
    obtain ⟨ys, hq, hr⟩ := h S O H' s m c
    exact ⟨ys, hq, by rw [hr.len]; exact hi⟩
theorem zipD_len (xs ys : List D) : (zipD xs ys).length = min xs.length ys.length := by unfold zipD; simp
theorem zipD_get {xs ys : List D} {i : Nat} {x y : D} (h1 : xs[i]? = some x) (h2 : ys[i]? = some y) : (zipD xs ys)[i]? = some (.tup [x, y]) := by
  unfold zipD
  rw [List.getElem?_zipWith, h1, h2]
theorem ri_zip (ha : RE L K W ta wa) (hb : RE L K W tb wb) : RI L K W (iZipG K (tCons ta (tCons tb tNil))) fun ρ S R Q => wa ρ S R fun x S1 => wb ρ S1 R fun y S2 => seqD S2 x fun ds C => seqD S2 y fun ds2 C2 => Q (zipD ds ds2) (fun S => C S ∧ C2 S) S2 := fun σ H ρ S O R Q Q' A hw k => by
  refine ha.go A hw fun x H1 dx S1 O1 r1 A1 e1 q1 => ?_
  refine hb.go A1 q1 fun y H2 dy S2 O2 r2 A2 e2 q2 => ?_
  have r1 := r1.mono (A1.mo e2)
  obtain ⟨a, b, ds, C, rfl, c, z, h, q⟩ := sq_of r1 A2.sok q2
  obtain ⟨a', b', ds', C', rfl, c', z', h', q⟩ := sq_of r2 A2.sok q
  obtain ⟨xs, hq, hr⟩ := h S2 O2 H2 A2.sok Mo.refl c
  obtain ⟨ys, hq', hr'⟩ := h' S2 O2 H2 A2.sok Mo.refl c'
  refine ⟨b, b', a, a', xs, ys, rfl, hq, hq', k _ H2 _ _ S2 O2 ⟨fun i S O H' s m c hi => ?_, fun i S O H' s m c hi => ?_⟩ (by rw [zipD_len]; omega) A2.sok (e1.trans A1.sok e2) q⟩
  · rw [zipD_len] at hi
    obtain ⟨us, hq, hr⟩ := h S O H' s m c.1
    obtain ⟨ws, hq', hr'⟩ := h' S O H' s m c.2
    have l1 : i < ds.length := by omega
    have l2 : i < ds'.length := by omega
    obtain ⟨v, hv, rv⟩ := hr.get (i := i) (List.getElem?_eq_getElem l1)
    obtain ⟨v', hv', rv'⟩ := hr'.get (i := i) (List.getElem?_eq_getElem l2)
    refine ⟨⟨⟨us, v, hq, hv⟩, ws, v', hq', hv'⟩, fun x H2 y => ?_⟩
    obtain ⟨T, x', y', rfl, hT, rfl, y1, y2⟩ := y
    have := y1 us hq
    rw [hv] at this; cases this
    have := y2 ws hq'
    rw [hv'] at this; cases this
    exact ⟨_, zipD_get (List.getElem?_eq_getElem l1) (List.getElem?_eq_getElem l2), rp_new s hT (by show 2 ≤ sizeLine; decide) (.cons rv (.cons rv' .nil)), s.new hT, ev_new hT s⟩
  · rw [zipD_len] at hi
    obtain ⟨us, hq, hr⟩ := h S O H' s m c.1
    obtain ⟨ws, hq', hr'⟩ := h' S O H' s m c.2
    exact ⟨us, ws, hq, hq', by rw [hr.len, hr'.len]; exact hi⟩

/-! ### targets -/
abbrev WG := D → Env → Sto → XD → (Env → Sto → Prop) → Prop
abbrev WGs := List D → Env → Sto → XD → (Env → Sto → Prop) → Prop
/-- the names keep apart from vs: their slots set, the rest as it was -/
def SetIn (vs : List Nat) (σ σ' : L2.St) : Prop := ∀ us : List Nat, (∀ v ∈ vs, v ∈ us) → wipe σ' us = wipe σ us
theorem wipe_set {σ : L2.St} {i : Nat} {v : Option V} : ∀ {us : List Nat}, i ∈ us → wipe (σ.set i v) us = wipe σ us := by
  intro us
  induction us with
  | nil => intro h; cases h
  | cons u us ih =>
    intro h
    unfold wipe
    by_cases e : i ∈ us
    · rw [ih e]
    · have e1 : i = u := by
        rcases List.mem_cons.mp h with z | z
        · exact z
        · exact absurd z e
      subst e1
      clear ih h
      have comm : ∀ us : List Nat, (wipe (σ.set i v) us).set i none = (wipe σ us).set i none := by
        intro us
        induction us with
        | nil => unfold wipe; rw [List.set_set]
        | cons w us ih =>
          unfold wipe
          by_cases q : w = i
          · subst q; rw [List.set_set, List.set_set, ih]
          · rw [List.set_comm _ _ (fun z => q z), ih, List.set_comm _ _ (fun z => q z.symm)]
      exact comm us
theorem wipe_idem (σ : L2.St) (us : List Nat) : wipe (wipe σ us) us = wipe σ us := by
  have key : ∀ (vs : List Nat) (τ : L2.St), (∀ v ∈ vs, ∀ x, τ[v]? = some x → x = none) → wipe τ vs = τ := by
    intro vs
    induction vs with
    | nil => intro τ _; rfl
    | cons w vs ih =>
      intro τ h
      unfold wipe
      rw [ih τ fun v hv => h v (List.mem_cons_of_mem _ hv)]
      apply List.ext_getElem?
      intro j
      by_cases e : w = j
      · subst e
        by_cases l : w < τ.length
        · rw [List.getElem?_set_self l, List.getElem?_eq_getElem l, h w List.mem_cons_self _ (List.getElem?_eq_getElem l)]
        · rw [List.getElem?_eq_none (by simpa using l), List.getElem?_eq_none (by omega)]
      · rw [List.getElem?_set_ne e]
  refine key us _ fun v hv x hx => ?_
  cases x with
  | none => rfl
  | some y => exact absurd hv (wipe_some hx).2
def RG (L : Lnk) (K : PySem.W.Frag) (W : WX) (vs : List Nat) (t : TG) (w : WG) : Prop :=
  ∀ (v : V) (d : D) (σ : L2.St) (H : Hp) (ρ : Env) (S : Sto) (O : Ow) (Q : Env → Sto → Prop) (Q' : L2.St → Hp → Prop), At L K W σ H ρ S O xNo → Rp K O H v d → w d ρ S xNo Q →
    (∀ σ' H' ρ' S' O', Sok K S' O' H' → Ev S O H S' O' H' → REnv K O' H' ρ' σ' → SetIn vs σ σ' → Q ρ' S' → Q' σ' H') → t v σ H Q'
def RGs (L : Lnk) (K : PySem.W.Frag) (W : WX) (vs : List Nat) (t : TGs) (w : WGs) : Prop :=
  ∀ (us : List V) (ds : List D) (σ : L2.St) (H : Hp) (ρ : Env) (S : Sto) (O : Ow) (Q : Env → Sto → Prop) (Q' : L2.St → Hp → Prop), At L K W σ H ρ S O xNo → Rps K O H us ds → w ds ρ S xNo Q →
    (∀ σ' H' ρ' S' O', Sok K S' O' H' → Ev S O H S' O' H' → REnv K O' H' ρ' σ' → SetIn vs σ σ' → Q ρ' S' → Q' σ' H') → t us σ H Q'
theorem At.no {σ : L2.St} {H : Hp} {ρ : Env} {S : Sto} {O : Ow} (s : Sok K S O H) (e : REnv K O H ρ σ) : At L K W σ H ρ S O xNo := ⟨s, e, fun _ _ _ _ _ _ _ _ _ _ z => z.elim⟩
theorem SetIn.refl {vs : List Nat} {σ : L2.St} : SetIn vs σ σ := fun _ _ => rfl
theorem SetIn.trans {vs us : List Nat} {σ σ1 σ2 : L2.St} (a : SetIn vs σ σ1) (b : SetIn us σ1 σ2) : SetIn (vs ++ us) σ σ2 := fun ws h =>
  (b ws fun v hv => h v (List.mem_append_right _ hv)).trans (a ws fun v hv => h v (List.mem_append_left _ hv))
theorem rg_nm {i : Nat} : RG L K W [i] (gName i) fun d ρ S _ Q => Q (setV ρ i d) S := fun v d σ H ρ S O Q Q' A r hw k =>
  k _ H _ S O A.sok .refl (A.env.set i r) (fun us h => wipe_set (h i (by simp))) hw
theorem rgs_nil : RGs L K W [] gNil fun ds ρ S _ Q => match ds with
    | [] => Q ρ S
    | _ => False := fun vs ds σ H ρ S O Q Q' A r hw k => by
  cases r with
  | nil => exact ⟨rfl, k σ H ρ S O A.sok .refl A.env .refl hw⟩
  | cons _ _ => exact hw.elim
theorem rgs_cons {t : TG} {u : TGs} {w : WG} {wr : WGs} {vs us : List Nat} (h : RG L K W vs t w) (hr : RGs L K W us u wr) : RGs L K W (vs ++ us) (gCons t u) fun ds ρ S R Q => match ds with
    | d :: ds => w d ρ S R fun ρ' S' => wr ds ρ' S' R Q
    | [] => False := fun xs ds σ H ρ S O Q Q' A r hw k => by
  cases r with
  | nil => exact hw.elim
  | cons r1 rr =>
    refine ⟨_, _, rfl, h _ _ σ H ρ S O _ _ A r1 hw fun σ1 H1 ρ1 S1 O1 s1 e1 n1 i1 q1 => ?_⟩
    exact hr _ _ σ1 H1 ρ1 S1 O1 _ _ (At.no s1 n1) (rr.mono (e1.mo A.sok)) q1 fun σ2 H2 ρ2 S2 O2 s2 e2 n2 i2 q2 => k σ2 H2 ρ2 S2 O2 s2 (e1.trans s1 e2) n2 (i1.trans i2) q2
theorem rg_tup {n : Nat} {vs : List Nat} {t : TGs} {w : WGs} (h : RGs L K W vs t w) : RG L K W vs (gTup K n t) fun d ρ S R Q => match d with
    | .tup ds => ds.length = n ∧ w ds ρ S R Q
    | _ => False := fun v d σ H ρ S O Q Q' A r hw k => by
  cases d <;> try exact hw.elim
  cases r with
  | tup h1 z h2 => exact ⟨_, _, rfl, h1, by rw [h2.len]; exact hw.1, h _ _ σ H ρ S O Q Q' A h2 hw.2 k⟩
theorem rg_seq {n : Nat} {vs : List Nat} {t : TGs} {w : WGs} (h : RGs L K W vs t w) : RG L K W vs (gSeq K n t) fun d ρ S R Q => match d with
    | .tup ds => ds.length = n ∧ w ds ρ S R Q
    | .lst ds => ds.length = n ∧ w ds ρ S R Q
    | _ => False := fun v d σ H ρ S O Q Q' A r hw k => by
  cases d <;> try exact hw.elim
  case tup ds =>
    cases r with
    | tup h1 z h2 => exact ⟨_, _, rfl, .inl h1, by rw [h2.len]; exact hw.1, h _ _ σ H ρ S O Q Q' A h2 hw.2 k⟩
  case lst ds =>
    cases r with
    | lst h1 m z h2 => exact ⟨_, _, rfl, .inr (SqL.of h1), by rw [h2.len]; exact hw.1, h _ _ σ H ρ S O Q Q' A h2 hw.2 k⟩
theorem rg_sub {to ti : TE} {wo wi : WE'} (ho : RE L K W to wo) (hi : RE L K W ti wi) : RG L K W [] (gSub to ti rSetL) fun d ρ S R Q => wo ρ S R fun x S1 => wi ρ S1 R fun y S2 => ∃ p ds n j, x = .ref p ∧ y = .int n ∧ S2 p = some (.lst ds) ∧ ixN ds.length n = some j ∧ Q ρ (sup S2 p (.lst (ds.set j d))) := fun v d σ H ρ S O Q Q' A r hw k => by
  refine ho.go A hw fun x H1 dx S1 O1 r1 A1 e1 q1 => ?_
  refine hi.go A1 q1 fun y H2 dy S2 O2 r2 A2 e2 q2 => ?_
  obtain ⟨p, ds, n, j, rfl, rfl, hs, hj, q⟩ := q2
  cases r1; cases r2
  obtain ⟨ho, xs, h1, z, h2⟩ := A2.sok.dom _ _ hs
  have r2 := (r.mono (A.mo e1)).mono (A1.mo e2)
  have ev := ev_write (ys := xs.set j v) (es := ds.set j d) hs A2.sok
  have sk := A2.sok.write hs h1 (ys := xs.set j v) (es := ds.set j d) (by rw [List.length_set]; exact z) (h2.set j r2)
  exact ⟨p, xs, n, j, rfl, rfl, h1, by rw [h2.len]; exact hj, k σ _ ρ _ O2 sk ((e1.trans A1.sok e2).trans A2.sok ev) (A2.env.mono (ev.mo A2.sok)) .refl q⟩
abbrev WTs := Env → Sto → (Bool → Sto → Prop) → Prop
def RTs (L : Lnk) (K : PySem.W.Frag) (W : WX) (t : TT) (w : WTs) : Prop :=
  ∀ (σ : L2.St) (H : Hp) (ρ : Env) (S : Sto) (O : Ow) (Q : Bool → Sto → Prop) (Q' : Bool → Hp → Prop), At L K W σ H ρ S O xNo → w ρ S Q →
    (∀ b H' S' O', Sok K S' O' H' → Ev S O H S' O' H' → Q b S' → Q' b H') → t σ H Q'
theorem rts_nil : RTs L K W tYes fun _ S K => K true S := fun σ H ρ S O Q Q' A hw k => k true H S O A.sok .refl hw
theorem rts_one {t : TT} (h : RT L K W t w) : RTs L K W t fun ρ S K => w ρ S xNo fun x S1 => tstD x fun b => if b = true then K true S1 else K false S1 := fun σ H ρ S O Q Q' A hw k => by
  refine h.go (Q := fun b S1 => if b = true then Q true S1 else Q false S1) A hw fun b H1 S1 O1 A1 e1 q => ?_
  cases b with
  | true => exact k true H1 S1 O1 A1.sok e1 q
  | false => exact k false H1 S1 O1 A1.sok e1 q

/-! ### list comprehensions -/
theorem ev_wres {S S' : Sto} {O O' : Ow} {H H' : Hp} {p : Addr} {u : HO} (e : Ev S O H S' O' H') (hp : H p = none) : Ev S O H S' O' (upd H' p u) :=
  ⟨fun a v h n t => by rw [upd_ne (ne_of_none h hp)]; exact e.keep a v h n t, e.own, e.res, fun a h => by
    by_cases q : a = p
    · rw [q]; exact hp
    · rw [upd_ne q] at h; exact e.there a h⟩
theorem drop_cons {α : Type} {ds : List α} {i : Nat} (h : i < ds.length) : ds.drop i = ds[i] :: ds.drop (i + 1) := List.drop_eq_getElem_cons h
theorem rl_comp {W' : WX} {wi : TI} {g : TG} {tt : TT} {te : TE} {vs ts : List Nat} {wI : WI} {wG : WG} {wT : WTs} {wE : WE'} (hI : RI L K W wi wI) (hG : RG L K W' ts g wG) (hT : RTs L K W' tt wT) (hE : RE L K W' te wE) (hv : ∀ v ∈ ts, v ∈ vs) :
    RL L K W (tLc wi g tt te vs) fun ρ S R Q => wI ρ S R fun ds C S1 =>
      compL (fun d ρ S K => wG d ρ S xNo K) wT (fun ρ S K => wE ρ S xNo K) (fun _ => True) C Q (delVs ρ vs) ds S1 [] := fun σ H ρ S O R Q Q' A hw k => by
  refine hI σ H ρ S O R _ _ A hw fun J H1 ds C S1 O1 it z s1 e1 q1 => ?_
  intro Dl hD
  have env1 : REnv K O1 H1 (delVs ρ vs) (wipe σ vs) := (A.env.mono (A.mo e1)).dels vs
  refine ⟨fun i m H' => m = ds.length - i ∧ i ≤ ds.length ∧ ∃ S' O' acc accv, Sok K S' O' H' ∧ Ev S1 O1 H1 S' O' H' ∧ O' Dl ∧ S' Dl = none ∧ H' Dl = some (.lst accv) ∧ accv.length ≤ i ∧ Rps K O' H' accv acc ∧
      compL (fun d ρ S K => wG d ρ S xNo K) wT (fun ρ S K => wE ρ S xNo K) (fun _ => True) C Q (delVs ρ vs) (ds.drop i) S' acc,
    ⟨ds.length, rfl, Nat.zero_le _, S1, oadd O1 Dl, [], [], s1.resv hD, ev_res hD s1, .inr rfl, s1.noneH hD, upd_same, Nat.le_refl _, .nil, q1⟩, ?_⟩
  rintro i m H' ⟨rfl, hi, S', O', acc, accv, s', e', hO, hS, hH, hl, hr, q⟩
  by_cases hlt : i < ds.length
  · right
    rw [drop_cons hlt] at q
    obtain ⟨c, q⟩ := q
    obtain ⟨go, yl⟩ := it.go i S' O' H' s' (e'.mo s1) c hlt
    refine ⟨go, fun H2 => ∃ m', m' < ds.length - i ∧ _, fun H2 h => h, fun x H2 y => ?_⟩
    obtain ⟨d, hd, rx, s2, e2⟩ := yl x H2 y
    rw [List.getElem?_eq_getElem hlt] at hd
    cases hd
    have ee2 := e'.trans s' e2
    refine hG x _ (wipe σ vs) H2 (delVs ρ vs) S' O' _ _ (At.no s2 (env1.mono (ee2.mo s1))) rx q fun σ3 H3 ρ3 S3 O3 s3 e3 n3 i3 q3 => ?_
    have ee3 := e2.trans s2 e3
    refine ⟨by rw [i3 vs hv, wipe_idem], ?_⟩
    refine hT σ3 H3 ρ3 S3 O3 _ _ (At.no s3 n3) q3 fun b H4 S4 O4 s4 e4 q4 => ?_
    have ee4 := ee3.trans s3 e4
    cases b with
    | false =>
      rw [if_neg Bool.false_ne_true] at q4 ⊢
      exact ⟨ds.length - (i + 1), by omega, rfl, hlt, S4, O4, acc, accv, s4, e'.trans s' ee4, (ee4.res _ hO hS).1, (ee4.res _ hO hS).2, ee4.keep _ _ hH hS nt_lst, by omega, hr.mono (ee4.mo s'), q4⟩
    | true =>
      rw [if_pos rfl] at q4 ⊢
      refine hE.go (At.no s4 (n3.mono (e4.mo s3))) q4 fun y H5 dy S5 O5 r5 A5 e5 q5 => ?_
      have ee5 := ee4.trans s4 e5
      have hO5 := (ee5.res _ hO hS).1
      have hS5 := (ee5.res _ hO hS).2
      have hH5 := ee5.keep _ _ hH hS nt_lst
      have hr5 := hr.mono (ee5.mo s')
      refine ⟨accv, hH5, by omega, ds.length - (i + 1), by omega, rfl, hlt, S5, O5, acc ++ [dy], accv ++ [y], A5.sok.wres hH5 hO5 hS5, ev_wres (e'.trans s' ee5) hD, hO5, hS5, upd_same, by rw [List.length_append]; exact Nat.add_le_add hl (Nat.le_refl 1), (hr5.append (.cons r5 .nil)).mono (mo_write hH5 hO5), q5.2⟩
  · left
    have ei : i = ds.length := by omega
    subst ei
    rw [List.drop_length] at q
    exact ⟨it.stop _ S' O' H' s' (e'.mo s1) q.1 rfl, k Dl accv H' acc S' O' (e1.there _ hD) hO hS hH (by omega) hr s' (e1.trans s1 e') q.2⟩
end
end DL

/-! DL8: comprehensions of two clauses; statements. -/
namespace DL
open PySem PySem.Spec PyProof.Rows L2
section
variable {L : Lnk} {K : PySem.W.Frag} {W : WX} {X : Cx} {w wa wb wc : WE'} {ta tb tc : TE}
theorem rl_comp2 {W' : WX} {wi wi1 : TI} {g g1 : TG} {tt tt1 : TT} {te : TE} {vs vs1 ts ts1 : List Nat} {wI wI1 : WI} {wG wG1 : WG} {wT wT1 : WTs} {wE : WE'} (hI : RI L K W wi wI) (hG : RG L K W' ts g wG) (hT : RTs L K W' tt wT)
    (hI1 : RI L K W' wi1 wI1) (hG1 : RG L K W' ts1 g1 wG1) (hT1 : RTs L K W' tt1 wT1) (hE : RE L K W' te wE) (hv : ∀ v ∈ ts, v ∈ vs) (hv1 : ∀ v ∈ ts1, v ∈ vs1) :
    RL L K W (tLc2 wi g tt wi1 g1 tt1 te vs vs1) fun ρ S R Q => wI ρ S R fun ds C S1 =>
      compO (fun d ρ S K => wG d ρ S xNo K) wT (fun ρ S acc K => wI1 ρ S xNo fun ds2 C2 S2 => compL (fun d ρ S K => wG1 d ρ S xNo K) wT1 (fun ρ S K => wE ρ S xNo K) (fun acc => acc.length < sizeLine) C2 K (delVs ρ vs1) ds2 S2 acc) C Q (delVs ρ vs) ds S1 [] := fun σ H ρ S O R Q Q' A hw k => by
  refine hI σ H ρ S O R _ _ A hw fun J H1 ds C S1 O1 it z s1 e1 q1 => ?_
  intro Dl hD
  have env1 : REnv K O1 H1 (delVs ρ vs) (wipe σ vs) := (A.env.mono (A.mo e1)).dels vs
  refine ⟨fun i m H' => m = ds.length - i ∧ i ≤ ds.length ∧ ∃ S' O' acc accv, Sok K S' O' H' ∧ Ev S1 O1 H1 S' O' H' ∧ O' Dl ∧ S' Dl = none ∧ H' Dl = some (.lst accv) ∧ accv.length ≤ sizeLine ∧ Rps K O' H' accv acc ∧
      compO (fun d ρ S K => wG d ρ S xNo K) wT (fun ρ S acc K => wI1 ρ S xNo fun ds2 C2 S2 => compL (fun d ρ S K => wG1 d ρ S xNo K) wT1 (fun ρ S K => wE ρ S xNo K) (fun acc => acc.length < sizeLine) C2 K (delVs ρ vs1) ds2 S2 acc) C Q (delVs ρ vs) (ds.drop i) S' acc,
    ⟨ds.length, rfl, Nat.zero_le _, S1, oadd O1 Dl, [], [], s1.resv hD, ev_res hD s1, .inr rfl, s1.noneH hD, upd_same, Nat.zero_le _, .nil, q1⟩, ?_⟩
  rintro i m H' ⟨rfl, hi, S', O', acc, accv, s', e', hO, hS, hH, hl, hr, q⟩
  by_cases hlt : i < ds.length
  · right
    rw [drop_cons hlt] at q
    obtain ⟨c, q⟩ := q
    obtain ⟨go, yl⟩ := it.go i S' O' H' s' (e'.mo s1) c hlt
    refine ⟨go, fun H2 => ∃ m', m' < ds.length - i ∧ _, fun H2 h => h, fun x H2 y => ?_⟩
    obtain ⟨d, hd, rx, s2, e2⟩ := yl x H2 y
    rw [List.getElem?_eq_getElem hlt] at hd
    cases hd
    have ee2 := e'.trans s' e2
    refine hG x _ (wipe σ vs) H2 (delVs ρ vs) S' O' _ _ (At.no s2 (env1.mono (ee2.mo s1))) rx q fun σ3 H3 ρ3 S3 O3 s3 e3 n3 i3 q3 => ?_
    have ee3 := e2.trans s2 e3
    refine ⟨by rw [i3 vs hv, wipe_idem], ?_⟩
    refine hT σ3 H3 ρ3 S3 O3 _ _ (At.no s3 n3) q3 fun b H4 S4 O4 s4 e4 q4 => ?_
    have ee4 := ee3.trans s3 e4
    have hO4 := (ee4.res _ hO hS).1
    have hS4 := (ee4.res _ hO hS).2
    have hH4 := ee4.keep _ _ hH hS nt_lst
    have hr4 := hr.mono (ee4.mo s')
    have eS4 := e'.trans s' ee4
    cases b with
    | false =>
      rw [if_neg Bool.false_ne_true] at q4 ⊢
      exact ⟨ds.length - (i + 1), by omega, rfl, hlt, S4, O4, acc, accv, s4, eS4, hO4, hS4, hH4, hl, hr4, q4⟩
    | true =>
      rw [if_pos rfl] at q4 ⊢
      have n4 := n3.mono (e4.mo s3)
      refine hI1 σ3 H4 ρ3 S4 O4 xNo _ _ (At.no s4 n4) q4 fun J1 H5 ds2 C2 S5 O5 it1 z1 s5 e5 q5 => ?_
      have ee5 := ee4.trans s4 e5
      have eS5 := e'.trans s' ee5
      have n5 : REnv K O5 H5 (delVs ρ3 vs1) (wipe σ3 vs1) := (n4.mono (e5.mo s4)).dels vs1
      refine ⟨fun j k' H6 => k' = ds2.length - j ∧ j ≤ ds2.length ∧ ∃ S6 O6 acc6 accv6, Sok K S6 O6 H6 ∧ Ev S1 O1 H1 S6 O6 H6 ∧ Mo O5 H5 O6 H6 ∧ O6 Dl ∧ S6 Dl = none ∧ H6 Dl = some (.lst accv6) ∧ accv6.length ≤ sizeLine ∧ Rps K O6 H6 accv6 acc6 ∧
          compL (fun d ρ S K => wG1 d ρ S xNo K) wT1 (fun ρ S K => wE ρ S xNo K) (fun acc => acc.length < sizeLine) C2 (fun acc' S3 => compO (fun d ρ S K => wG d ρ S xNo K) wT (fun ρ S acc K => wI1 ρ S xNo fun ds2 C2 S2 => compL (fun d ρ S K => wG1 d ρ S xNo K) wT1 (fun ρ S K => wE ρ S xNo K) (fun acc => acc.length < sizeLine) C2 K (delVs ρ vs1) ds2 S2 acc) C Q (delVs ρ vs) (ds.drop (i + 1)) S3 acc') (delVs ρ3 vs1) (ds2.drop j) S6 acc6,
        ⟨ds2.length, rfl, Nat.zero_le _, S5, O5, acc, accv, s5, eS5, .refl, (ee5.res _ hO hS).1, (ee5.res _ hO hS).2, ee5.keep _ _ hH hS nt_lst, hl, hr.mono (ee5.mo s'), q5⟩, ?_⟩
      rintro j k' H6 ⟨rfl, hj, S6, O6, acc6, accv6, s6, eS6, m6, hO6, hS6, hH6, hl6, hr6, q6⟩
      by_cases hlt1 : j < ds2.length
      · right
        rw [drop_cons hlt1] at q6
        obtain ⟨c6, q6⟩ := q6
        obtain ⟨go1, yl1⟩ := it1.go j S6 O6 H6 s6 m6 c6 hlt1
        refine ⟨go1, fun H7 => ∃ k'', k'' < ds2.length - j ∧ _, fun H7 h => h, fun x7 H7 y7 => ?_⟩
        obtain ⟨d7, hd7, rx7, s7, e7⟩ := yl1 x7 H7 y7
        rw [List.getElem?_eq_getElem hlt1] at hd7
        cases hd7
        have m7 : Mo O5 H5 O6 H7 := ⟨fun a u h n t => (e7.mo s6).k a u (m6.k a u h n t) (fun z => n (m6.o a u h z)) t, fun a u h n => (e7.mo s6).t a u (m6.t a u h n) n, fun a u h z => m6.o a u h z, fun a h => m6.th a (e7.there a h)⟩
        refine hG1 x7 _ (wipe σ3 vs1) H7 (delVs ρ3 vs1) S6 O6 _ _ (At.no s7 (n5.mono m7)) rx7 q6 fun σ8 H8 ρ8 S8 O8 s8 e8 n8 i8 q8 => ?_
        have ee8 := e7.trans s7 e8
        refine ⟨by rw [i8 vs1 hv1, wipe_idem], ?_⟩
        refine hT1 σ8 H8 ρ8 S8 O8 _ _ (At.no s8 n8) q8 fun b H9 S9 O9 s9 e9 q9 => ?_
        have ee9 := ee8.trans s8 e9
        have mtr : ∀ {O2 : Ow} {H2 : Hp}, Mo O6 H6 O2 H2 → Mo O5 H5 O2 H2 := fun {O2 H2} m => ⟨fun a u h n t => m.k a u (m6.k a u h n t) (fun z => n (m6.o a u h z)) t, fun a u h n => m.t a u (m6.t a u h n) n, fun a u h z => by
          cases q : H6 a with
          | none => by_cases ho : O5 a
                    · exact ho
                    · have := m6.th a q; rw [h] at this; cases this
          | some u' =>
            have := m.o a u' q z
            exact m6.o a u h this, fun a h => m6.th a (m.th a h)⟩
        cases b with
        | false =>
          rw [if_neg Bool.false_ne_true] at q9 ⊢
          exact ⟨ds2.length - (j + 1), by omega, rfl, hlt1, S9, O9, acc6, accv6, s9, eS6.trans s6 ee9, mtr (ee9.mo s6), (ee9.res _ hO6 hS6).1, (ee9.res _ hO6 hS6).2, ee9.keep _ _ hH6 hS6 nt_lst, hl6, hr6.mono (ee9.mo s6), q9⟩
        | true =>
          rw [if_pos rfl] at q9 ⊢
          refine hE.go (At.no s9 (n8.mono (e9.mo s8))) q9 fun y H10 dy S10 O10 r10 A10 e10 q10 => ?_
          have ee10 := ee9.trans s9 e10
          have hO10 := (ee10.res _ hO6 hS6).1
          have hS10 := (ee10.res _ hO6 hS6).2
          have hH10 := ee10.keep _ _ hH6 hS6 nt_lst
          have hr10 := hr6.mono (ee10.mo s6)
          have hlen : accv6.length < sizeLine := by rw [hr6.len]; exact q10.1
          refine ⟨accv6, hH10, hlen, ds2.length - (j + 1), by omega, rfl, hlt1, S10, O10, acc6 ++ [dy], accv6 ++ [y], A10.sok.wres hH10 hO10 hS10, ev_wres (eS6.trans s6 ee10) hD, ?_, hO10, hS10, upd_same, by rw [List.length_append]; exact hlen, (hr10.append (.cons r10 .nil)).mono (mo_write hH10 hO10), q10.2⟩
          have mm := mtr (ee10.mo s6)
          have dl5 : ∀ a u, H5 a = some u → ¬ O5 a → a ≠ Dl := fun a u h n e => by
            subst e
            exact n (m6.o _ u h hO6)
          exact ⟨fun a u h n t => by rw [upd_ne (dl5 a u h n)]; exact mm.k a u h n t, fun a u h n => by
            rw [upd_ne fun e => ?_]
            · exact mm.t a u h n
            · subst e
              have := mm.t _ u h n
              rw [hH10] at this; cases this; exact imm_lst n, mm.o, fun a h => mm.th a (by
              by_cases e : a = Dl
              · rw [e, upd_same] at h; cases h
              · rwa [upd_ne e] at h)⟩
      · left
        have ej : j = ds2.length := by omega
        subst ej
        rw [List.drop_length] at q6
        refine ⟨it1.stop _ S6 O6 H6 s6 m6 q6.1 rfl, ds.length - (i + 1), by omega, rfl, hlt, S6, O6, acc6, accv6, s6, eS6, hO6, hS6, hH6, hl6, hr6, q6.2⟩
  · left
    have ei : i = ds.length := by omega
    subst ei
    rw [List.drop_length] at q
    exact ⟨it.stop _ S' O' H' s' (e'.mo s1) q.1 rfl, k Dl accv H' acc S' O' (e1.there _ hD) hO hS hH hl hr s' (e1.trans s1 e') q.2⟩

/-! ### statements -/
structure AtS (L : Lnk) (K : PySem.W.Frag) (W : WX) (σ : L2.St) (H : Hp) (ρ : Env) (S : Sto) (O : Ow) (X : XS) : Prop where
  sok : Sok K S O H
  env : REnv K O H ρ σ
  x : ∀ k d σ' ρ' S' O' H' c dd, Sok K S' O' H' → Ev S O H S' O' H' → REnv K O' H' ρ' σ' → L.xr O' H' k d c dd → X k d ρ' S' → W c dd σ' H'
/-- the wanted ends, over data, of a state (S, O, H) on -/
structure EndsOk (K : PySem.W.Frag) (S : Sto) (O : Ow) (H : Hp) (E : DEnd) (D : Ends) : Prop where
  nx : ∀ σ' H' ρ' S' O', Sok K S' O' H' → Ev S O H S' O' H' → REnv K O' H' ρ' σ' → E.nx ρ' S' → D.nx σ' H'
  rt : ∀ v H' d S' O', Rp K O' H' v d → Sok K S' O' H' → Ev S O H S' O' H' → E.rt d S' → D.rt v H'
  bk : ∀ σ' H' ρ' S' O', Sok K S' O' H' → Ev S O H S' O' H' → REnv K O' H' ρ' σ' → E.bk ρ' S' → D.bk σ' H'
  ct : ∀ σ' H' ρ' S' O', Sok K S' O' H' → Ev S O H S' O' H' → REnv K O' H' ρ' σ' → E.ct ρ' S' → D.ct σ' H'
abbrev WS' := DEnd → XS → Env → Sto → Prop
def RS (L : Lnk) (K : PySem.W.Frag) (W : WX) (t : TS) (w : WS') : Prop :=
  ∀ (σ : L2.St) (H : Hp) (ρ : Env) (S : Sto) (O : Ow) (X : XS) (E : DEnd) (D : Ends), AtS L K W σ H ρ S O X → w E X ρ S → EndsOk K S O H E D → t D σ H
def tOS (L : Lnk) (K : PySem.W.Frag) (W : WX) (w : WS') : TS := fun D σ H => ∃ ρ S O X E, AtS L K W σ H ρ S O X ∧ w E X ρ S ∧ EndsOk K S O H E D
theorem rs_tO {w : WS'} : RS L K W (tOS L K W w) w := fun σ H ρ S O X E D A hw k => ⟨ρ, S, O, X, E, A, hw, k⟩
theorem _root_.L2.PS.can {st : Stmt} {t : TS} {w : WS'} (h : PS X st t) (r : RS L K W t w) : PS X st (tOS L K W w) := ⟨fun pins s σ H D I ⟨ρ, S, O, XX, E, A, hw, k⟩ => h.run pins s σ H D I (r σ H ρ S O XX E D A hw k)⟩
theorem _root_.L2.PSs.can {st : List Stmt} {t : TS} {w : WS'} (h : PSs X st t) (r : RS L K W t w) : PSs X st (tOS L K W w) := ⟨fun pins s σ H D I ⟨ρ, S, O, XX, E, A, hw, k⟩ => h.run pins s σ H D I (r σ H ρ S O XX E D A hw k)⟩
section
variable {σ : L2.St} {H H1 : Hp} {ρ ρ1 : Env} {S S1 : Sto} {O O1 : Ow} {XX : XS} {E : DEnd} {D : Ends}
theorem AtS.ex (A : AtS L K W σ H ρ S O XX) : At L K W σ H ρ S O (fun k d S => XX k d ρ S) :=
  ⟨A.sok, A.env, fun k d S' O' H' c dd s e x r => A.x k d σ ρ S' O' H' c dd s e (A.env.mono (e.mo A.sok)) x r⟩
theorem AtS.next {σ1 : L2.St} (A : AtS L K W σ H ρ S O XX) (s : Sok K S1 O1 H1) (e : Ev S O H S1 O1 H1) (n : REnv K O1 H1 ρ1 σ1) : AtS L K W σ1 H1 ρ1 S1 O1 XX :=
  ⟨s, n, fun k d σ' ρ' S' O' H' c dd s' e' n' x r => A.x k d σ' ρ' S' O' H' c dd s' (e.trans s e') n' x r⟩
theorem EndsOk.next (k : EndsOk K S O H E D) (s : Sok K S1 O1 H1) (e : Ev S O H S1 O1 H1) : EndsOk K S1 O1 H1 E D :=
  ⟨fun σ' H' ρ' S' O' s' e' n q => k.nx σ' H' ρ' S' O' s' (e.trans s e') n q, fun v H' d S' O' r s' e' q => k.rt v H' d S' O' r s' (e.trans s e') q, fun σ' H' ρ' S' O' s' e' n q => k.bk σ' H' ρ' S' O' s' (e.trans s e') n q, fun σ' H' ρ' S' O' s' e' n q => k.ct σ' H' ρ' S' O' s' (e.trans s e') n q⟩
end
theorem rs_asg {te : TE} {g : TG} {vs : List Nat} {wG : WG} (h : RE L K W te w) (hg : RG L K W vs g wG) : RS L K W (tAsg te g) fun E X ρ S => w ρ S (fun k d S => X k d ρ S) fun d S1 => wG d ρ S1 xNo E.nx := fun σ H ρ S O X E D A hw k => by
  refine h.go A.ex hw fun v H1 d S1 O1 r1 A1 e1 q1 => ?_
  exact hg v d σ H1 ρ S1 O1 _ _ (At.no A1.sok A1.env) r1 q1 fun σ2 H2 ρ2 S2 O2 s2 e2 n2 _ q2 => k.nx σ2 H2 ρ2 S2 O2 s2 (e1.trans A1.sok e2) n2 q2
theorem rs_ret {te : TE} (h : RE L K W te w) : RS L K W (tRet te) fun E X ρ S => w ρ S (fun k d S => X k d ρ S) fun d S1 => E.rt d S1 := fun σ H ρ S O X E D A hw k =>
  h.go A.ex hw fun v H1 d S1 O1 r1 A1 e1 q1 => k.rt v H1 d S1 O1 r1 A1.sok e1 q1
theorem rs_retF {te : TE} (h : RE L K W te w) : RS L K W (tRet te) fun E X ρ S => w ρ S (fun k d S => X k d ρ S) fun d S1 => ∃ p ds, d = .ref p ∧ S1 p = some (.lst ds) ∧ E.rt (.lst ds) (sdel S1 p) := fun σ H ρ S O X E D A hw k => by
  refine h.go A.ex hw fun v H1 d S1 O1 r1 A1 e1 q1 => ?_
  obtain ⟨p, ds, rfl, hs, q⟩ := q1
  cases r1
  obtain ⟨ho, xs, h1, z, h2⟩ := A1.sok.dom _ _ hs
  have s' : Sok K (sdel S1 p) (orem O1 p) H1 := (A1.sok.sdel (by rw [hs]; intro _ z; cases z)).free sdel_same
  refine k.rt _ H1 _ _ (orem O1 p) (.lst h1 (fun q => q.2 rfl) z (h2.mono mo_free)) s' ⟨e1.keep, fun a h => e1.own a h.1, fun a h n => ?_, e1.there⟩ q
  have := e1.res a h n
  have ne : a ≠ p := fun q => by rw [q] at this; rw [hs] at this; cases this.2
  exact ⟨⟨this.1, ne⟩, by rw [sdel_ne ne]; exact this.2⟩
theorem rs_retN : RS L K W tRetN fun E _ _ S => E.rt .non S := fun σ H ρ S O X E D A hw k => k.rt _ H _ S O .non A.sok .refl hw
theorem rs_ex {te : TE} (h : RE L K W te w) : RS L K W (tDrop te) fun E X ρ S => w ρ S (fun k d S => X k d ρ S) fun _ S1 => E.nx ρ S1 := fun σ H ρ S O X E D A hw k =>
  h.go A.ex hw fun v H1 d S1 O1 r1 A1 e1 q1 => k.nx σ H1 ρ S1 O1 A1.sok e1 A1.env q1
theorem rs_nx : RS L K W tNext fun E _ ρ S => E.nx ρ S := fun σ H ρ S O X E D A hw k => k.nx σ H ρ S O A.sok .refl A.env hw
theorem rs_bk : RS L K W tBreak fun E _ ρ S => E.bk ρ S := fun σ H ρ S O X E D A hw k => k.bk σ H ρ S O A.sok .refl A.env hw
theorem rs_ct : RS L K W tCont fun E _ ρ S => E.ct ρ S := fun σ H ρ S O X E D A hw k => k.ct σ H ρ S O A.sok .refl A.env hw
theorem rs_seq {t u : TS} {w1 w2 : WS'} (h1 : RS L K W t w1) (h2 : RS L K W u w2) : RS L K W (tSeq t u) fun E X ρ S => w1 { E with nx := w2 E X } X ρ S := fun σ H ρ S O X E D A hw k =>
  h1 σ H ρ S O X _ _ A hw ⟨fun σ' H' ρ' S' O' s e n q => h2 σ' H' ρ' S' O' X E D (A.next s e n) q (k.next s e), k.rt, k.bk, k.ct⟩
theorem rs_if {c : TT} {t u : TS} {w1 w2 : WS'} (hc : RT L K W c w) (h1 : RS L K W t w1) (h2 : RS L K W u w2) : RS L K W (tIfS c t u) fun E X ρ S => w ρ S (fun k d S => X k d ρ S) fun d S1 => tstD d fun z => if z = true then w1 E X ρ S1 else w2 E X ρ S1 := fun σ H ρ S O X E D A hw k => by
  refine hc.go (Q := fun z S1 => if z = true then w1 E X ρ S1 else w2 E X ρ S1) A.ex hw fun b H1 S1 O1 A1 e1 q => ?_
  cases b with
  | true => exact h1 σ H1 ρ S1 O1 X E D (A.next A1.sok e1 A1.env) q (k.next A1.sok e1)
  | false => exact h2 σ H1 ρ S1 O1 X E D (A.next A1.sok e1 A1.env) q (k.next A1.sok e1)
theorem rs_whl {c : TT} {t : TS} {w1 : WS'} (hc : RT L K W c w) (h1 : RS L K W t w1) : RS L K W (tWhile c t) fun E X ρ S => ∃ W : Nat → Env → Sto → Prop, (∃ m, W m ρ S) ∧ ∀ m ρ S, W m ρ S → w ρ S (fun k d S => X k d ρ S) fun d S1 => tstD d fun z =>
      if z = true then w1 { nx := fun ρ' S' => ∃ m', m' < m ∧ W m' ρ' S', ct := fun ρ' S' => ∃ m', m' < m ∧ W m' ρ' S', bk := E.nx, rt := E.rt } X ρ S1 else E.nx ρ S1 := fun σ H ρ S O X E D A hw k => by
  obtain ⟨Wd, ⟨m0, w0⟩, turn⟩ := hw
  refine ⟨fun m σ' H' => ∃ ρ' S' O', Sok K S' O' H' ∧ Ev S O H S' O' H' ∧ REnv K O' H' ρ' σ' ∧ Wd m ρ' S', ⟨m0, ρ, S, O, A.sok, .refl, A.env, w0⟩, ?_⟩
  rintro m σ' H' ⟨ρ', S', O', s', e', n', w'⟩
  have A' := A.next s' e' n'
  refine hc.go (Q := fun z S1 => if z = true then w1 { nx := fun ρ' S' => ∃ m', m' < m ∧ Wd m' ρ' S', ct := fun ρ' S' => ∃ m', m' < m ∧ Wd m' ρ' S', bk := E.nx, rt := E.rt } X ρ' S1 else E.nx ρ' S1) A'.ex (turn m ρ' S' w') fun b H1 S1 O1 A1 e1 q => ?_
  have ee := e'.trans s' e1
  cases b with
  | false => exact k.nx σ' H1 ρ' S1 O1 A1.sok ee A1.env q
  | true =>
    rw [if_pos rfl] at q ⊢
    refine ⟨fun σ2 H2 => ∃ m', m' < m ∧ ∃ ρ' S' O', Sok K S' O' H2 ∧ Ev S O H S' O' H2 ∧ REnv K O' H2 ρ' σ2 ∧ Wd m' ρ' S', fun σ2 H2 h => h, ?_⟩
    refine h1 σ' H1 ρ' S1 O1 X _ _ (A.next A1.sok ee A1.env) q ⟨fun σ2 H2 ρ2 S2 O2 s2 e2 n2 q2 => ?_, (k.next A1.sok ee).rt, (k.next A1.sok ee).nx, fun σ2 H2 ρ2 S2 O2 s2 e2 n2 q2 => ?_⟩
    · obtain ⟨m', hm, q2⟩ := q2
      exact ⟨m', hm, ρ2, S2, O2, s2, ee.trans A1.sok e2, n2, q2⟩
    · obtain ⟨m', hm, q2⟩ := q2
      exact ⟨m', hm, ρ2, S2, O2, s2, ee.trans A1.sok e2, n2, q2⟩
theorem rs_for {wi : TI} {g : TG} {tb : TS} {ts : List Nat} {wI : WI} {wG : WG} {wB : WS'} (hI : RI L K W wi wI) (hG : RG L K W ts g wG) (hB : RS L K W tb wB) :
    RS L K W (tFor wi g tb) fun E X ρ S => wI ρ S (fun k d S => X k d ρ S) fun ds C S1 => forL (fun d ρ S K => wG d ρ S xNo K) (fun E' ρ S => wB E' X ρ S) C E ds ρ S1 := fun σ H ρ S O X E D A hw k => by
  refine hI σ H ρ S O _ _ _ A.ex hw fun J H1 ds C S1 O1 it z s1 e1 q1 => ?_
  refine ⟨fun i m σ' H' => m = ds.length - i ∧ i ≤ ds.length ∧ ∃ ρ' S' O', Sok K S' O' H' ∧ Ev S1 O1 H1 S' O' H' ∧ REnv K O' H' ρ' σ' ∧ forL (fun d ρ S K => wG d ρ S xNo K) (fun E' ρ S => wB E' X ρ S) C E (ds.drop i) ρ' S',
    ⟨ds.length, rfl, Nat.zero_le _, ρ, S1, O1, s1, .refl, A.env.mono (e1.mo A.sok), q1⟩, ?_⟩
  rintro i m σ' H' ⟨rfl, hi, ρ', S', O', s', e', n', q⟩
  have et := e1.trans s1 e'
  by_cases hlt : i < ds.length
  · right
    rw [drop_cons hlt] at q
    obtain ⟨c, q⟩ := q
    obtain ⟨go, yl⟩ := it.go i S' O' H' s' (e'.mo s1) c hlt
    refine ⟨go, fun σ2 H2 => ∃ m', m' < ds.length - i ∧ _, fun σ2 H2 h => h, fun x H2 y => ?_⟩
    obtain ⟨d, hd, rx, s2, e2⟩ := yl x H2 y
    rw [List.getElem?_eq_getElem hlt] at hd
    cases hd
    refine hG x _ σ' H2 ρ' S' O' _ _ (At.no s2 (n'.mono (e2.mo s'))) rx q fun σ3 H3 ρ3 S3 O3 s3 e3 n3 i3 q3 => ?_
    have ee3 := (et.trans s' e2).trans s2 e3
    have ei3 := (e'.trans s' e2).trans s2 e3
    have k3 := k.next s3 ee3
    refine hB σ3 H3 ρ3 S3 O3 X _ _ (A.next s3 ee3 n3) q3 ⟨fun σ4 H4 ρ4 S4 O4 s4 e4 n4 q4 => ?_, k3.rt, k3.nx, fun σ4 H4 ρ4 S4 O4 s4 e4 n4 q4 => ?_⟩
    · exact ⟨ds.length - (i + 1), by omega, rfl, hlt, ρ4, S4, O4, s4, ei3.trans s3 e4, n4, q4⟩
    · exact ⟨ds.length - (i + 1), by omega, rfl, hlt, ρ4, S4, O4, s4, ei3.trans s3 e4, n4, q4⟩
  · left
    have ei : i = ds.length := by omega
    subst ei
    rw [List.drop_length] at q
    exact ⟨it.stop _ S' O' H' s' (e'.mo s1) q.1 rfl, k.nx σ' H' ρ' S' O' s' et n' q.2⟩
theorem rs_aug {i : Nat} {te : TE} {op : BOp} {r : R2} (h : RE L K W te w) (hr : Hr K r fun _ dx dy P => ∃ a b, dx = .int a ∧ dy = .int b ∧ binD op dx dy P) : RS L K W (tAug i te r) fun E X ρ S => match getV ρ i with
    | some x => w ρ S (fun k d S => X k d ρ S) fun y S1 => ∃ a b, x = .int a ∧ y = .int b ∧ binD op x y fun z => E.nx (setV ρ i z) S1
    | none => False := fun σ H ρ S O X E D A hw k => by
  cases e : getV ρ i with
  | none => simp only [e] at hw
  | some x =>
    simp only [e] at hw
    obtain ⟨v, hv, rv⟩ := A.env.get e
    refine ⟨v, hv, h.go A.ex hw fun y H1 dy S1 O1 r1 A1 e1 q1 => ?_⟩
    refine hr v y x dy H1 S1 O1 (fun z => E.nx (setV ρ i z) S1) _ A1.sok (rv.mono (e1.mo A.sok)) r1 q1 fun z H2 dz r2 s2 e2 q2 => ?_
    exact k.nx _ H2 _ S1 O1 s2 (e1.trans A1.sok e2) ((A1.env.mono (e2.mo A1.sok)).set i r2) q2
end
end DL

/-! DL9: own rules: tuple[lo:hi:step]; if-expressions as tests; calls without arguments; built-ins over data. -/
namespace DL
open PySem PySem.Spec PyProof.Rows L2
section
variable {prog : Program} {w : World} {A : Around} {E : Value → Shared → Prop} {s : Shared}
theorem sliceApplied_step {sl : Addr} {vl vu vs : Value} {lo hi : Option Int} {st : Int} {n : Nat} {Q : Int × Int × Nat → Shared → Prop} (hs : s.heap.IsSliceOf sl vl vu vs) (pl : IsPart vl lo) (pu : IsPart vu hi) (ps : IsPart vs (some st)) (h0 : st ≠ 0)
    (h : Q ((Builtin.Slice.sliceAdjust lo hi st (n : Int)).1, st, Builtin.Slice.slicePlaces (Builtin.Slice.sliceAdjust lo hi st (n : Int)).1 (Builtin.Slice.sliceAdjust lo hi st (n : Int)).2 st) s) : wpAny (model prog w) A (Builtin.Slice.sliceApplied (.ref sl) (pure (n : Int))) Q E s := by
  obtain ⟨os, hos, hcs, hds⟩ := id hs
  unfold Builtin.Slice.sliceApplied Builtin.Slice.sliceFields
  refine wpAny_bind (wpAny_bind (wpAny_field hos hds (x := vl) rfl (wpAny_bind (wpAny_field hos hds (x := vu) rfl (wpAny_bind (wpAny_field hos hds (x := vs) rfl (wpAny_pure ?_)))))))
  refine wpAny_bind (HT.slicePart_ ps ?_)
  show wpAny _ _ (if (st == 0) = true then _ else _) _ _ s
  rw [if_neg (by simpa using h0)]
  refine wpAny_bind (HT.slicePart_ pl (wpAny_bind (HT.slicePart_ pu (wpAny_bind (wpAny_pure ?_)))))
  show wpAny _ _ (match Builtin.Slice.sliceAdjust lo hi st (n : Int) with | (lo, hi) => pure (lo, st, Builtin.Slice.slicePlaces lo hi st)) _ _ s
  exact wpAny_pure h
theorem adj_pos (lo hi : Option Int) (st : Int) (n : Nat) (h : 0 < st) : 0 ≤ (Builtin.Slice.sliceAdjust lo hi st (n : Int)).1 ∧ (Builtin.Slice.sliceAdjust lo hi st (n : Int)).2 ≤ n := by
  have hn : ¬ st < 0 := by omega
  unfold Builtin.Slice.sliceAdjust
  simp only [hn, if_false]
  cases lo <;> cases hi <;> simp only [] <;> constructor <;> (try split) <;> omega
theorem adj_neg (lo hi : Option Int) (st : Int) (n : Nat) (h : st < 0) : (Builtin.Slice.sliceAdjust lo hi st (n : Int)).1 ≤ (n : Int) - 1 ∧ -1 ≤ (Builtin.Slice.sliceAdjust lo hi st (n : Int)).2 := by
  unfold Builtin.Slice.sliceAdjust
  simp only [h, if_true]
  cases lo <;> cases hi <;> simp only [] <;> constructor <;> (try split) <;> omega
theorem places_le (lo hi : Option Int) (st : Int) (n : Nat) (h0 : st ≠ 0) : Builtin.Slice.slicePlaces (Builtin.Slice.sliceAdjust lo hi st (n : Int)).1 (Builtin.Slice.sliceAdjust lo hi st (n : Int)).2 st ≤ n := by
  have key : ∀ (d k : Int), 1 ≤ k → 0 < d → d ≤ n → (d - 1) / k + 1 ≤ n := fun d k hk h1 h2 => by
    have := Int.ediv_le_self (a := d - 1) k (by omega)
    omega
  unfold Builtin.Slice.slicePlaces
  by_cases hp : st > 0
  · obtain ⟨ha, hb⟩ := adj_pos lo hi st n hp
    revert ha hb
    generalize (Builtin.Slice.sliceAdjust lo hi st (n : Int)).1 = a
    generalize (Builtin.Slice.sliceAdjust lo hi st (n : Int)).2 = b
    intro ha hb
    simp only [hp, if_true]
    split
    · have := key (b - a) st (by omega) (by omega) (by omega)
      omega
    · simp
  · have hn : st < 0 := by omega
    obtain ⟨ha, hb⟩ := adj_neg lo hi st n hn
    revert ha hb
    generalize (Builtin.Slice.sliceAdjust lo hi st (n : Int)).1 = a
    generalize (Builtin.Slice.sliceAdjust lo hi st (n : Int)).2 = b
    intro ha hb
    simp only [hp, if_false]
    split
    · have := key (a - b) (-st) (by omega) (by omega) (by omega)
      omega
    · simp
theorem pick_len {α : Type} (xs : List α) (lo hi : Option Int) (st : Int) (h0 : st ≠ 0) : (pick xs lo hi st).length ≤ xs.length := by
  unfold pick
  refine Nat.le_trans (List.length_filterMap_le _ _) ?_
  rw [List.length_range]
  exact places_le lo hi st xs.length h0
theorem getItem_tuple_step {t sl : Addr} {its : List Value} {vl vu vs : Value} {lo hi : Option Int} {st : Int} {Q : Value → Shared → Prop} (ht : IsTup s.heap t its.toArray) (hs : s.heap.IsSliceOf sl vl vu vs) (pl : IsPart vl lo) (pu : IsPart vu hi) (ps : IsPart vs (some st)) (h0 : st ≠ 0) (h1 : st ≠ 1)
    (h : Q (.ref s.heap.objs.size) { s with heap := s.heap.push { cls := .type "tuple", data := .seq (pick its lo hi st).toArray } })
    (hsz : its.length ≤ sizeLine) : wpAny (model prog w) A (getItem (.ref t) (.ref sl)) Q E s := by
  have htake : sizeOk (.seq (pick its lo hi st).toArray) := by
    show (pick its lo hi st).toArray.size ≤ sizeLine
    rw [List.size_toArray]
    exact Nat.le_trans (pick_len its lo hi st h0) hsz
  obtain ⟨os, hos, hcs, hds⟩ := id hs
  have hTs : s.TypeIs (.ref sl) "slice" := ⟨os, hos, hcs⟩
  unfold getItem
  try with_reducible refine wpAny_holding ?_
  first | refine wpAny_bind (wpAny_pure ?_) | skip
  refine wpAny_bind (wpAny_sequenceKey ht.typeIs (by decide) ?_)
  refine wpAny_bind (wpAny_callSpecial?_slot (name := Str.ofString "__getitem__") ht.typeIs PyProof.Rows.slot_tuple_getitem
    (wpAny_call_entry PyProof.Rows.slot_tuple_getitem ht.typeIs entry_tuple_getitem ?_ (args_tuple_getitem _ _)))
  show wpAny _ _ (Builtin.Tuple.tupleItemsOf (.ref t) >>= _) _ _ s
  refine wpAny_bind (tupleItemsOf_ ht ?_)
  refine wpAny_bind (wpAny_typeOf hTs ?_)
  rw [if_pos (by decide)]
  refine wpAny_bind (sliceApplied_step hs pl pu ps h0 ?_)
  have hno : ¬ (((Builtin.Slice.sliceAdjust lo hi st (its.toArray.size : Int)).1 == 0 && st == 1 && Builtin.Slice.slicePlaces (Builtin.Slice.sliceAdjust lo hi st (its.toArray.size : Int)).1 (Builtin.Slice.sliceAdjust lo hi st (its.toArray.size : Int)).2 st == its.toArray.size) = true) := by
    intro q
    rw [Bool.and_eq_true, Bool.and_eq_true] at q
    exact h1 (eq_of_beq q.1.2)
  show wpAny _ _ (if ((Builtin.Slice.sliceAdjust lo hi st (its.toArray.size : Int)).1 == 0 && st == 1 && Builtin.Slice.slicePlaces (Builtin.Slice.sliceAdjust lo hi st (its.toArray.size : Int)).1 (Builtin.Slice.sliceAdjust lo hi st (its.toArray.size : Int)).2 st == its.toArray.size) = true then _ else _) _ _ s
  rw [if_neg hno]
  have e : ((List.range (Builtin.Slice.slicePlaces (Builtin.Slice.sliceAdjust lo hi st (its.toArray.size : Int)).1 (Builtin.Slice.sliceAdjust lo hi st (its.toArray.size : Int)).2 st)).filterMap fun (k : Nat) => its.toArray[((Builtin.Slice.sliceAdjust lo hi st (its.toArray.size : Int)).1 + (k : Int) * st).toNat]?).toArray = (pick its lo hi st).toArray := by
    simp [pick]
  rw [e]
  first
    | exact wpAny_bind (m := Builtin.Tuple.tupleExact _) (wpAny_newObj_type (wpAny_pure ⟨_, rfl, wpAny_pure h⟩) htake)
    | exact wpAny_bind (m := Builtin.Tuple.tupleExact _) (wpAny_newObj_type (wpAny_bind (wpAny_pure (wpAny_pure ⟨_, rfl, wpAny_pure h⟩))) htake)
    | exact wpAny_bind (wpAny_bind (m := Builtin.Tuple.tupleExact _) (wpAny_newObj_type (wpAny_pure (wpAny_pure ⟨_, rfl, wpAny_pure h⟩)) htake))
    | exact wpAny_bind (wpAny_bind (m := Builtin.Tuple.tupleExact _) (wpAny_newObj_type (wpAny_pure ⟨_, rfl, wpAny_pure h⟩) htake))
end
theorem filterMap_two {α β : Type} {R : α → β → Prop} {f : Nat → Option α} {g : Nat → Option β} (h : ∀ k, (f k = none ∧ g k = none) ∨ ∃ a b, f k = some a ∧ g k = some b ∧ R a b) : ∀ l : List Nat, Paired R (l.filterMap f) (l.filterMap g)
  | [] => .nil
  | k :: l => by
    rcases h k with ⟨e1, e2⟩ | ⟨a, b, e1, e2, r⟩
    · rw [List.filterMap_cons_none e1, List.filterMap_cons_none e2]; exact filterMap_two h l
    · rw [List.filterMap_cons_some e1, List.filterMap_cons_some e2]; exact .cons r (filterMap_two h l)
theorem vals_pick {xs : List V} {us : List Value} (r : Vals xs us) (lo hi : Option Int) (st : Int) : Vals (pick xs lo hi st) (pick us lo hi st) := by
  unfold pick
  rw [r.length]
  refine filterMap_two (fun k => ?_) _
  generalize (_ : Int).toNat = i
  cases e : xs[i]? with
  | none => exact .inl ⟨rfl, r.none_of e⟩
  | some a => obtain ⟨u, h1, h2⟩ := r.get e; exact .inr ⟨a, u, rfl, h1, h2⟩
theorem rps_of_paired {K : PySem.W.Frag} {O : Ow} {H : Hp} : ∀ {xs : List V} {ds : List D}, Paired (Rp K O H) xs ds → Rps K O H xs ds
  | _, _, .nil => .nil
  | _, _, .cons r t => .cons r (rps_of_paired t)
theorem Rps.pick {K : PySem.W.Frag} {O : Ow} {H : Hp} {xs : List V} {ds : List D} (r : Rps K O H xs ds) (lo hi : Option Int) (st : Int) : Rps K O H (DL.pick xs lo hi st) (DL.pick ds lo hi st) := by
  unfold DL.pick
  rw [r.len]
  refine rps_of_paired (filterMap_two (fun k => ?_) _)
  generalize (_ : Int).toNat = i
  cases e : xs[i]? with
  | none =>
    refine .inl ⟨rfl, ?_⟩
    have h1 := r.len
    have h2 := List.getElem?_eq_none_iff.mp e
    exact List.getElem?_eq_none_iff.mpr (by omega)
  | some a => obtain ⟨u, h1, h2⟩ := r.getV e; exact .inr ⟨a, u, rfl, h1, h2⟩
def tStp (K : PySem.W.Frag) (te : TE) (tl th ts : TO) : TE := fun σ H Q => te σ H fun x H1 => tl σ H1 fun l H2 => th σ H2 fun u H3 => ts σ H3 fun o H4 => ∃ a xs k, x = .ref a ∧ o = some k ∧ SqT K H4 a xs ∧ k ≠ 0 ∧ k ≠ 1 ∧ ∀ p, H4 p = none → Q (.ref p) (upd H4 p (.tup (pick xs l u k)))
section
variable {L : Lnk} {K : PySem.W.Frag} {W : WX} {X : Cx}
theorem pe_stp {e st : Expr} {lo hi : Option Expr} {te : TE} {tl th ts : TO} {p3 pos : Pos} (he : PE X e te) (hl : PO X lo tl) (hh : PO X hi th) (hst : PO X (some st) ts) : PE X (.Subscript e (.Slice lo hi (some st) p3) pos) (tStp X.K te tl th ts) := by
  refine ⟨fun pins s σ H Q I h => ?_⟩
  refine Subscript_ (thn (he.run pins s σ H _ I h) fun v s1 ⟨x, H1, I1, r1, q1⟩ => ?_)
  refine wpAny_Slice (thn (hl.run pins s1 σ H1 _ I1 q1) fun vl s2 ⟨l, H2, I2, pl, q2⟩ => ?_)
  refine thn (hh.run pins s2 σ H2 _ I2 q2) fun vu s3 ⟨u, H3, I3, pu, q3⟩ => ?_
  refine thn (hst.run pins s3 σ H3 _ I3 q3) fun vs s4 ⟨o, H4, I4, ps, a, xs, k, ex, eo, hx, h0, h1, q⟩ => ?_
  subst ex eo
  cases r1
  have I5 : Inv X pins σ H4 { s4 with heap := s4.heap.push { cls := .type "slice", data := .fields #[vl, vu, vs] } } := I4.kept (t' := s4.toks) fun b ob q => Heap.get?_push_of_some _ q
  obtain ⟨its, r, ht, hz⟩ := I5.tuple hx
  show wpAny (model X.prog X.w) X.A (subscriptTail e (.Slice lo hi (some st) p3) (.ref a) (.ref s4.heap.objs.size)) (EP X pins σ Q) X.xe { s4 with heap := s4.heap.push { cls := .type "slice", data := .fields #[vl, vu, vs] } }
  refine tail_any (ops := [.ref a, .ref s4.heap.objs.size]) ht.typeIs (PyProof.Rows.slot_tuple_getitem.lookup) ?_ (by with_unfolding_all rfl)
  refine getItem_tuple_step ht (Heap.IsSliceOf.new _ vl vu vs) pl pu ps h0 h1 ?_ (by rw [← r.length]; exact hz)
  refine ⟨.ref _, _, I5.laid (t' := s4.toks) (o := .tup (pick xs l u k)) (fun b ob q => Heap.get?_push_of_some _ q) (Nat.le_refl _) ?_, rfl, q _ (I5.hok.fresh (Nat.le_refl _))⟩
  exact ⟨Nat.le_trans (pick_len _ _ _ _ h0) hz, _, vals_pick r l u k, IsTup.new _ _⟩
theorem re_stp {te : TE} {tl th : TO} {ts : TE} {wa ws : WE'} {wl wh : Env → Sto → XD → (Option Int → Sto → Prop) → Prop} (ha : RE L K W te wa) (hl : RO L K W tl wl) (hh : RO L K W th wh) (hs : RE L K W ts ws) : RE L K W (tStp K te tl th (tPart ts)) fun ρ S R Q => wa ρ S R fun x S1 => wl ρ S1 R fun l S2 => wh ρ S2 R fun h S3 => ws ρ S3 R fun y S4 => match x, y with
    | .tup xs, .int k => k ≠ 0 ∧ k ≠ 1 ∧ Q (.tup (pick xs l h k)) S4
    | _, _ => False := fun σ H ρ S O R Q Q' A hw k => by
  refine ha.go A hw fun x H1 dx S1 O1 r1 A1 e1 q1 => ?_
  refine hl.go A1 q1 fun l H2 S2 O2 A2 e2 q2 => ?_
  refine hh.go A2 q2 fun h H3 S3 O3 A3 e3 q3 => ?_
  refine hs.go A3 q3 fun y H4 dy S4 O4 r4 A4 e4 q4 => ?_
  have r1 := ((r1.mono (A1.mo e2)).mono (A2.mo e3)).mono (A3.mo e4)
  cases dx <;> cases dy <;> try exact q4.elim
  cases r4
  obtain ⟨h0, h1, q⟩ := q4
  cases r1 with
  | tup g1 g2 g3 =>
  rename_i st _ a xs
  have ev := ((e1.trans A1.sok e2).trans A2.sok e3).trans A3.sok e4
  refine ⟨_, rfl, a, xs, _, rfl, rfl, g1, h0, h1, fun p hp => ?_⟩
  exact k _ _ _ S4 O4 (rp_new A4.sok hp (Nat.le_trans (pick_len _ _ _ _ h0) g2) (g3.pick l h _)) (A4.sok.new hp) (ev.trans A4.sok (ev_new hp A4.sok)) q

/-! ### c ? a : b as a test -/
theorem isTrue_ifExp (c a b : Expr) (pos : Pos) (env : PySem.Env) (wh : Sem Value) : isTrue (.IfExp c a b pos) env wh = (do if ← isTrue c env (eval c env) then isTrue a env (eval a env) else isTrue b env (eval b env)) := by first | rfl | simp [isTrue]
theorem pt_ite {c a b : Expr} {tc ta tb : TT} {pos : Pos} (hc : PT X c tc) (ha : PT X a ta) (hb : PT X b tb) : PT X (.IfExp c a b pos) fun σ H Q => tc σ H fun z H1 => if z = true then ta σ H1 Q else tb σ H1 Q := by
  refine ⟨fun pins s σ H Q I h => ?_⟩
  rw [isTrue_ifExp]
  refine wpAny_bind (thn (hc.run pins s σ H _ I h) fun d s1 ⟨H1, I1, q1⟩ => ?_)
  cases d with
  | true => exact ha.run pins s1 σ H1 Q I1 q1
  | false => exact hb.run pins s1 σ H1 Q I1 q1
theorem rt_ite {tc ta tb : TT} {wc wa wb : WE'} (hc : RT L K W tc wc) (ha : RT L K W ta wa) (hb : RT L K W tb wb) : RT L K W (fun σ H Q => tc σ H fun z H1 => if z = true then ta σ H1 Q else tb σ H1 Q) fun ρ S R Q => wc ρ S R fun x S1 => tstD x fun z => if z = true then wa ρ S1 R Q else wb ρ S1 R Q := fun σ H ρ S O R Q Q' A hw k => by
  refine hc.go (Q := fun z S1 => if z = true then wa ρ S1 R (fun d S' => tstD d fun b => Q b S') else wb ρ S1 R (fun d S' => tstD d fun b => Q b S')) A hw fun b H1 S1 O1 A1 e1 q => ?_
  cases b with
  | true => exact ha.go A1 q fun v H2 S2 O2 A2 e2 q2 => k v H2 S2 O2 A2.sok (e1.trans A1.sok e2) q2
  | false => exact hb.go A1 q fun v H2 S2 O2 A2 e2 q2 => k v H2 S2 O2 A2.sok (e1.trans A1.sok e2) q2

/-! ### chains -/
theorem re_chn {ta tb tc : TE} {wa wb wc : WE'} {r r' : R2} {o1 o2 : COp} (ha : RE L K W ta wa) (hb : RE L K W tb wb) (hc : RE L K W tc wc) (h1 : Hr K r fun S dx dy P => cmpD o1 (res S dx) (res S dy) fun z => P (.bl z)) (h2 : Hr K r' fun S dx dy P => cmpD o2 (res S dx) (res S dy) fun z => P (.bl z)) :
    RE L K W (tChain r r' ta tb tc) fun ρ S R Q => wa ρ S R fun x S1 => wb ρ S1 R fun y S2 => cmpD o1 (res S2 x) (res S2 y) fun z => if z = true then wc ρ S2 R fun u S3 => cmpD o2 (res S3 y) (res S3 u) fun v => Q (.bl v) S3 else Q (.bl false) S2 := fun σ H ρ S O R Q Q' A hw k => by
  refine ha.go A hw fun x H1 dx S1 O1 r1 A1 e1 q1 => ?_
  refine hb.go A1 q1 fun y H2 dy S2 O2 r2 A2 e2 q2 => ?_
  have ev := e1.trans A1.sok e2
  refine h1 x y dx dy H2 S2 O2 (fun d => ∃ z, d = .bl z ∧ if z = true then wc ρ S2 R fun u S3 => cmpD o2 (res S3 dy) (res S3 u) fun v => Q (.bl v) S3 else Q (.bl false) S2) _ A2.sok (r1.mono (A1.mo e2)) r2 ?_ fun v H3 d rv s e q => ?_
  · revert q2
    generalize hF : (fun z => if z = true then wc ρ S2 R fun u S3 => cmpD o2 (res S3 dy) (res S3 u) fun v => Q (.bl v) S3 else Q (.bl false) S2) = F
    have : (fun z => ∃ z', D.bl z = .bl z' ∧ if z' = true then wc ρ S2 R fun u S3 => cmpD o2 (res S3 dy) (res S3 u) fun v => Q (.bl v) S3 else Q (.bl false) S2) = F := by
      rw [← hF]
      funext z
      exact propext ⟨fun ⟨z', e, h⟩ => by cases e; exact h, fun h => ⟨z, rfl, h⟩⟩
    show cmpD o1 (res S2 dx) (res S2 dy) F → cmpD o1 (res S2 dx) (res S2 dy) fun z => ∃ z', D.bl z = .bl z' ∧ if z' = true then wc ρ S2 R fun u S3 => cmpD o2 (res S3 dy) (res S3 u) fun v => Q (.bl v) S3 else Q (.bl false) S2
    rw [this]
    exact id
  · obtain ⟨z, rfl, q⟩ := q
    cases rv
    refine ⟨z, rfl, ?_⟩
    have A3 := A2.next s e
    cases z with
    | false => exact k _ H3 _ S2 O2 (.bl _) s (ev.trans A2.sok e) q
    | true =>
      rw [if_pos rfl] at q ⊢
      refine hc.go A3 q fun u H4 du S4 O4 r4 A4 e4 q4 => ?_
      refine h2 y u dy du H4 S4 O4 (fun d => Q d S4) _ A4.sok ((r2.mono (e.mo A2.sok)).mono (A3.mo e4)) r4 q4 fun v H5 d rv s5 e5 q5 => ?_
      exact k v H5 d S4 O4 rv s5 (((ev.trans A2.sok e).trans s e4).trans A4.sok e5) q5

/-! ### xs.append(y) -/
theorem re_app {to te : TE} {wo we : WE'} (ho : RE L K W to wo) (he : RE L K W te we) : RE L K W (tBM K "list" rAppend to (tCons te tNil)) fun ρ S R Q => wo ρ S R fun x S1 => ∃ p, x = .ref p ∧ (∃ ds, S1 p = some (.lst ds)) ∧ we ρ S1 R fun y S2 => ∃ ds, S2 p = some (.lst ds) ∧ ds.length < sizeLine ∧ Q .non (sup S2 p (.lst (ds ++ [y]))) := fun σ H ρ S O R Q Q' A hw k => by
  refine ho.go A hw fun x H1 dx S1 O1 r1 A1 e1 q1 => ?_
  obtain ⟨p, rfl, ⟨ds, hs⟩, q1⟩ := q1
  cases r1
  obtain ⟨_, xs, h1, _, _⟩ := A1.sok.dom _ _ hs
  refine ⟨.inl ⟨rfl, xs, SqL.of h1⟩, ?_⟩
  refine he.go A1 q1 fun y H2 dy S2 O2 r2 A2 e2 q2 => ?_
  obtain ⟨ds, hs, hz, q⟩ := q2
  obtain ⟨ho, xs, h1, z, h2⟩ := A2.sok.dom _ _ hs
  have hl : xs.length < sizeLine := by rw [h2.len]; exact hz
  refine ⟨p, xs, y, rfl, rfl, h1, hl, ?_⟩
  have ev := ev_write (ys := xs ++ [y]) (es := ds ++ [dy]) hs A2.sok
  have sk := A2.sok.write hs h1 (ys := xs ++ [y]) (es := ds ++ [dy]) (by rw [List.length_append]; exact hl) (h2.append (.cons r2 .nil))
  exact k _ _ _ _ O2 .non sk ((e1.trans A1.sok e2).trans A2.sok ev) q
end
end DL

/-! DL10: built-ins over data. -/
namespace DL
open PySem PySem.Spec PyProof.Rows L2
section
variable {X : Cx} {K : PySem.W.Frag} {S : Sto} {O : Ow} {H : Hp}
def HB (K : PySem.W.Frag) (r : List V → Hp → VK → Prop) (b : BI) : Prop := ∀ (vs : List V) (ds : List D) (H : Hp) (S : Sto) (O : Ow) (P : D → Prop) (Q' : VK), Sok K S O H → Rps K O H vs ds → biD b S ds P → (∀ v H' d, Rp K O H' v d → Sok K S O H' → Ev S O H S O H' → P d → Q' v H') → r vs H Q'
def biName : BI → Str
  | .len => "len" | .abs => "abs" | .max => "max" | .min => "min" | .int => "int" | .sum => "sum" | .all => "all" | .any => "any" | .tuple => "tuple" | .isinst => "isinstance" | .repr => "repr" | .str => "str" | .reprG => "repr"
def biVal : BI → Value
  | .len => .builtin "len" | .abs => .builtin "abs" | .max => .builtin "max" | .min => .builtin "min" | .int => .type "int" | .sum => .builtin "sum" | .all => .builtin "all" | .any => .builtin "any" | .tuple => .type "tuple" | .isinst => .builtin "isinstance" | .repr => .builtin "repr" | .str => .type "str" | .reprG => .builtin "repr"
theorem bi_boot (b : BI) : bootBuiltins (biName b) = some (biVal b) := by
  cases b
  · exact boot_len
  · exact boot_abs
  · exact boot_max
  · exact boot_min
  · decide +kernel
  · exact boot_sum
  · exact boot_all
  · exact boot_any
  · decide +kernel
  · exact boot_isinstance
  · exact boot_repr
  · decide +kernel
  · exact boot_repr
theorem kitB_all : (["NoneType", "bool", "int", "str", "tuple", "list", "dict"].all fun t => isiTys.all fun n => kitB t n == some (isiB t n)) = true := by decide +kernel
theorem typD_mem {d : D} {t : String} (h : typD d = some t) : t ∈ ["NoneType", "bool", "int", "str", "tuple", "list", "dict"] := by
  cases d <;> simp only [typD] at h <;> first | (cases h; decide) | cases h
theorem kitB_of {d : D} {t n : String} (h : typD d = some t) (hn : n ∈ isiTys) : kitB t n = some (isiB t n) := by
  have := List.all_eq_true.mp (List.all_eq_true.mp kitB_all t (typD_mem h)) n hn
  exact eq_of_beq this
theorem tyx_of {v : V} {d : D} {t : String} (s : Sok K S O H) (r : Rp K O H v d) (e : typD (res S d) = some t) : TyX K H v (.type t) := by
  cases r with
  | non => cases e; exact .base .non
  | bl b => cases e; exact .base (.bl b)
  | int b => cases e; exact .base (.int b)
  | str b => cases e; exact .base (.str b)
  | ty n => cases e
  | ref =>
    rename_i a
    cases q : S a with
    | none => simp only [res, q] at e; cases e
    | some o =>
      cases o with
      | lst ds =>
        simp only [res, q] at e
        cases e
        obtain ⟨_, xs, h1, _, _⟩ := s.dom _ _ q
        exact .base (.lst h1)
      | _ => simp only [res, q] at e; cases e
  | obj _ _ _ _ _ _ => cases e
  | dct h _ => cases e; exact .base (.dK h)
  | fn => cases e
  | exc => cases e
  | excV => cases e
  | scr _ h => cases e
  | scrK _ h => cases e
  | scrL _ _ _ => cases e
  | tup h z r =>
    cases e
    rcases h with (h | ⟨o, h⟩) | ⟨o, its, n, h, c, _⟩
    · exact .base (.tup h)
    · exact .fTuple h
    · exact .kTuple h c
  | lst h n z r => cases e; exact .base (.lst h)
theorem rps1 {vs : List V} {d : D} (r : Rps K O H vs [d]) : ∃ v, vs = [v] ∧ Rp K O H v d := by
  cases r with
  | cons r t => cases t; exact ⟨_, rfl, r⟩
theorem rps2 {vs : List V} {d e : D} (r : Rps K O H vs [d, e]) : ∃ v u, vs = [v, u] ∧ Rp K O H v d ∧ Rp K O H u e := by
  cases r with
  | cons r t =>
    cases t with
    | cons r2 t => cases t; exact ⟨_, _, rfl, r, r2⟩
theorem vals1' {x : V} {us : List Value} (r : Vals [x] us) : ∃ u, us = [u] ∧ RelV x u := Vals.one r
theorem call_repr_non : CallR X (.builtin "repr") (fun xs H Q => xs = [.non] ∧ Q (.str "None") H) := by
  intro pins s σ H xs us Q I r h
  obtain ⟨rfl, q⟩ := h
  obtain ⟨u, rfl, rfl⟩ := vals1 r
  exact PySem.P.repr_of_none ⟨.str _, H, I.tok _, ⟨_, rfl⟩, q⟩
theorem call_repr_str : CallR X (.builtin "repr") (fun xs H Q => ∃ a, xs = [.str a] ∧ (reprText a).length ≤ 8000000 ∧ Q (.str (reprText a)) H) := by
  intro pins s σ H xs us Q I r h
  obtain ⟨a, rfl, hz, q⟩ := h
  obtain ⟨u, rfl, t, rfl⟩ := vals1 r
  exact PySem.P.repr_of_str ⟨.str _, H, I.tok _, ⟨_, rfl⟩, q⟩ (Nat.le_trans hz (by rw [sizeLine_eq]; decide))
theorem call_repr_bl : CallR X (.builtin "repr") (fun xs H Q => ∃ b : Bool, xs = [.bl b] ∧ Q (.str (if b then "True" else "False")) H) := by
  intro pins s σ H xs us Q I r h
  obtain ⟨b, rfl, q⟩ := h
  obtain ⟨u, rfl, hu⟩ := Vals.one r
  cases hu
  exact PySem.P.repr_of_bool ⟨.str _, H, I.tok _, ⟨_, rfl⟩, q⟩
/-- repr of a value that is data, where it is known that no repr is under way -/
theorem call_repr_any (hg : X.A.guards = some []) (hu : X.A.units + 40 < cLine) : CallR X (.builtin "repr") (fun xs H Q => ∃ v p, xs = [v] ∧ Dp X.K H v p ∧ shB p = true ∧ Q (.str p.shown) H) := by
  intro pins s σ H xs us Q I r h
  obtain ⟨v, p, rfl, hd, hs, q⟩ := h
  cases r with
  | @cons _ u _ _ ru rr =>
    cases rr
    unfold shB at hs
    simp only [Bool.and_eq_true, Bool.not_eq_true', decide_eq_true_eq] at hs
    obtain ⟨h1, h2, h3, h4⟩ := hs
    obtain ⟨as, rd⟩ := Dp.reads I p v u hd ru
    have fin : ∀ h' tk tk', (∀ b o, s.heap.get? b = some o → h'.get? b = some o) → EP X pins σ Q (.str p.shown tk) { s with heap := h', toks := tk' } := fun h' tk tk' k => ⟨.str p.shown, H, I.kept (t' := tk') k, ⟨_, rfl⟩, q⟩
    have hz : p.shown.length ≤ sizeLine := Nat.le_trans h4 (by rw [sizeLine_eq]; decide)
    cases rd with
    | none => exact PySem.P.repr_of_none (fin _ _ _ fun _ _ z => z)
    | bool b => exact PySem.P.repr_of_bool (fin _ _ _ fun _ _ z => z)
    | int i t =>
      have hi : i.natAbs.log2 < 1920 := by simpa [PyData.showable] using h1
      exact PySem.P.repr_of_int hi (fin _ _ _ fun _ _ z => z)
    | str x t => exact PySem.P.repr_of_str (fin _ _ _ fun _ _ z => z) hz
    | list a b c d => exact repr_of_reads' (.list a b c d) h1 (fun z => by rw [h2] at z; cases z) hg (by omega) (fun _ _ z => z) (fun h' u tk k => fin _ _ _ k) hz
    | tuple a b c d => exact repr_of_reads' (.tuple a b c d) h1 (fun z => by rw [h2] at z; cases z) hg (by omega) (fun _ _ z => z) (fun h' u tk k => fin _ _ _ k) hz
    | dict a b c d e => cases hd
theorem bi_ok (b : BI) (hc : X.calm = true) (hgd : b = .reprG → X.A.guards = some [] ∧ X.A.units + 40 < cLine) : ∃ r, CallR X (biVal b) r ∧ HB X.K r b := by
  cases b with
  | len =>
    refine ⟨_, call_len_seq.or call_len_str, fun vs ds H S O P Q' s rs h k => ?_⟩
    match ds, h with
    | [d], h =>
      obtain ⟨v, rfl, r⟩ := rps1 rs
      replace h : (match res S d with
        | .tup xs => P (.int xs.length)
        | .lst xs => P (.int xs.length)
        | .scr xs => P (.int xs.length)
        | .str x => x.length ≤ sizeLine ∧ P (.int x.length)
        | _ => False) := h
      obtain ⟨hl, ht, hs⟩ := seq_of r s
      cases e : res S d <;> rw [e] at h <;> try exact h.elim
      · have e3 := res_str e
        subst e3
        cases r
        exact .inr ⟨_, rfl, h.1, k _ H _ (.int _) s .refl h.2⟩
      · obtain ⟨a, xs, rfl, g1, g2, g3⟩ := ht _ e
        exact .inl ⟨a, xs, rfl, .inr g1, by rw [g3.len]; exact k _ H _ (.int _) s .refl h⟩
      · obtain ⟨a, xs, rfl, g1, g2, g3⟩ := hl _ e
        exact .inl ⟨a, xs, rfl, .inl (SqL.of g1), by rw [g3.len]; exact k _ H _ (.int _) s .refl h⟩
      · obtain ⟨a, rfl, g1⟩ := hs _ e
        exact .inl ⟨a, _, rfl, .inl g1, by rw [List.length_map]; exact k _ H _ (.int _) s .refl h⟩
  | abs =>
    refine ⟨_, call_abs, fun vs ds H S O P Q' s rs h k => ?_⟩
    match ds, h with
    | [.int i], h =>
      obtain ⟨v, rfl, r⟩ := rps1 rs
      cases r
      exact ⟨i, rfl, k _ H _ (.int _) s .refl h⟩
  | max =>
    refine ⟨_, (call_max2 hc).or (cr_max hc), fun vs ds H S O P Q' s rs h k => ?_⟩
    match ds, h with
    | [x, y], h =>
      obtain ⟨i, j, rfl, rfl, h⟩ := h
      obtain ⟨v, u, rfl, r, r2⟩ := rps2 rs
      cases r; cases r2
      exact .inl ⟨i, j, rfl, k _ H _ (.int _) s .refl h⟩
    | [d], h =>
      obtain ⟨v, rfl, r⟩ := rps1 rs
      replace h : ∃ ns : List Int, res S d = .lst (ns.map .int) ∧ 0 < ns.length ∧ ∀ m ∈ ns, (∀ y ∈ ns, y ≤ m) → P (.int m) := h
      obtain ⟨ns, e, hp, h⟩ := h
      obtain ⟨a, xs, rfl, g1, g2, g3⟩ := (seq_of r s).1 _ e
      rw [g3.ints] at g1
      exact .inr ⟨a, ns, rfl, SqL.of g1, hp, fun m h1 h2 => k _ H _ (.int _) s .refl (h m h1 h2)⟩
  | min =>
    refine ⟨_, (call_min2 hc).or (cr_min hc), fun vs ds H S O P Q' s rs h k => ?_⟩
    match ds, h with
    | [x, y], h =>
      obtain ⟨i, j, rfl, rfl, h⟩ := h
      obtain ⟨v, u, rfl, r, r2⟩ := rps2 rs
      cases r; cases r2
      exact .inl ⟨i, j, rfl, k _ H _ (.int _) s .refl h⟩
    | [d], h =>
      obtain ⟨v, rfl, r⟩ := rps1 rs
      replace h : ∃ ns : List Int, res S d = .lst (ns.map .int) ∧ 0 < ns.length ∧ ∀ m ∈ ns, (∀ y ∈ ns, m ≤ y) → P (.int m) := h
      obtain ⟨ns, e, hp, h⟩ := h
      obtain ⟨a, xs, rfl, g1, g2, g3⟩ := (seq_of r s).1 _ e
      rw [g3.ints] at g1
      exact .inr ⟨a, ns, rfl, SqL.of g1, hp, fun m h1 h2 => k _ H _ (.int _) s .refl (h m h1 h2)⟩
  | int =>
    refine ⟨_, call_int1, fun vs ds H S O P Q' s rs h k => ?_⟩
    match ds, h with
    | [.int i], h =>
      obtain ⟨v, rfl, r⟩ := rps1 rs
      cases r
      exact .inl ⟨i, rfl, k _ H _ (.int _) s .refl h⟩
    | [.bl i], h =>
      obtain ⟨v, rfl, r⟩ := rps1 rs
      cases r
      exact .inr ⟨i, rfl, k _ H _ (.int _) s .refl h⟩
  | sum =>
    refine ⟨_, cr_sum hc, fun vs ds H S O P Q' s rs h k => ?_⟩
    match ds, h with
    | [d], h =>
      obtain ⟨v, rfl, r⟩ := rps1 rs
      obtain ⟨ns, e, h⟩ := h
      obtain ⟨a, xs, rfl, g1, g2, g3⟩ := (seq_of r s).1 _ e
      rw [g3.ints] at g1
      exact ⟨a, ns, rfl, SqL.of g1, k _ H _ (.int _) s .refl h⟩
  | all =>
    refine ⟨_, cr_all hc, fun vs ds H S O P Q' s rs h k => ?_⟩
    match ds, h with
    | [d], h =>
      obtain ⟨v, rfl, r⟩ := rps1 rs
      obtain ⟨ns, e, h⟩ := h
      obtain ⟨a, xs, rfl, g1, g2, g3⟩ := (seq_of r s).1 _ e
      rw [g3.bls] at g1
      exact ⟨a, ns, rfl, SqL.of g1, k _ H _ (.bl _) s .refl h⟩
  | any =>
    refine ⟨_, cr_any hc, fun vs ds H S O P Q' s rs h k => ?_⟩
    match ds, h with
    | [d], h =>
      obtain ⟨v, rfl, r⟩ := rps1 rs
      obtain ⟨ns, e, h⟩ := h
      obtain ⟨a, xs, rfl, g1, g2, g3⟩ := (seq_of r s).1 _ e
      rw [g3.bls] at g1
      exact ⟨a, ns, rfl, SqL.of g1, k _ H _ (.bl _) s .refl h⟩
  | tuple =>
    refine ⟨_, call_tuple_of, fun vs ds H S O P Q' s rs h k => ?_⟩
    match ds, h with
    | [d], h =>
      obtain ⟨v, rfl, r⟩ := rps1 rs
      replace h : (match res S d with
        | .tup xs => P (.tup xs)
        | .lst xs => P (.tup xs)
        | _ => False) := h
      obtain ⟨hl, ht, hs⟩ := seq_of r s
      cases e : res S d <;> rw [e] at h <;> try exact h.elim
      · obtain ⟨a, xs, rfl, g1, g2, g3⟩ := ht _ e
        exact ⟨a, xs, rfl, .inr ⟨g1, k _ H _ (.tup g1 g2 g3) s .refl h⟩⟩
      · obtain ⟨a, xs, rfl, g1, g2, g3⟩ := hl _ e
        exact ⟨a, xs, rfl, .inl ⟨SqL.of g1, fun p hp => k _ _ _ (rp_new s hp g2 g3) (s.new hp) (ev_new hp s) h⟩⟩
  | isinst =>
    refine ⟨_, call_isi, fun vs ds H S O P Q' s rs h k => ?_⟩
    match ds, h with
    | [x, .ty n], h =>
      obtain ⟨v, u, rfl, r, r2⟩ := rps2 rs
      cases r2
      obtain ⟨t, e, hn, h⟩ := h
      exact ⟨v, .ty n, .type t, .type n, isiB t n, rfl, .ty n, tyx_of s r e, kit_ty (kitB_of e hn), k _ H _ (.bl _) s .refl h⟩
  | repr =>
    refine ⟨_, (call_repr_bl.or SkE.call_repr_int).or (call_repr_non.or call_repr_str), fun vs ds H S O P Q' s rs h k => ?_⟩
    match ds, h with
    | [.bl b], h =>
      obtain ⟨v, rfl, r⟩ := rps1 rs
      cases r
      exact .inl (.inl ⟨b, rfl, k _ H _ (.str _) s .refl h⟩)
    | [.int i], h =>
      obtain ⟨v, rfl, r⟩ := rps1 rs
      cases r
      exact .inl (.inr ⟨i, rfl, h.1, k _ H _ (.str _) s .refl h.2⟩)
    | [.non], h =>
      obtain ⟨v, rfl, r⟩ := rps1 rs
      cases r
      exact .inr (.inl ⟨rfl, k _ H _ (.str _) s .refl h⟩)
    | [.str x], h =>
      obtain ⟨v, rfl, r⟩ := rps1 rs
      cases r
      exact .inr (.inr ⟨x, rfl, h.1, k _ H _ (.str _) s .refl h.2⟩)
  | reprG =>
    obtain ⟨hg, hu⟩ := hgd rfl
    refine ⟨_, call_repr_any hg hu, fun vs ds H S O P Q' s rs h k => ?_⟩
    match ds, h with
    | [d], h =>
      obtain ⟨v, rfl, r⟩ := rps1 rs
      obtain ⟨x, hx, h⟩ := h
      unfold shD at hx
      split at hx
      · rename_i p ep
        split at hx
        · rename_i hs
          cases hx
          exact ⟨v, p, rfl, rp_res s r ep, hs, k _ H _ (.str _) s .refl h⟩
        · cases hx
      · cases hx
  | str =>
    refine ⟨_, call_str_int.or SkE.call_str_str, fun vs ds H S O P Q' s rs h k => ?_⟩
    match ds, h with
    | [.int i], h =>
      obtain ⟨v, rfl, r⟩ := rps1 rs
      cases r
      exact .inl ⟨i, rfl, h.1, k _ H _ (.str _) s .refl h.2⟩
    | [.str x], h =>
      obtain ⟨v, rfl, r⟩ := rps1 rs
      cases r
      exact .inr ⟨x, rfl, k _ H _ (.str _) s .refl h⟩
theorem re_bi {L : Lnk} {W : WX} {b : BI} {r : List V → Hp → VK → Prop} {t : TA} {ws : Env → Sto → XD → (List D → Sto → Prop) → Prop} (h : RA L K W t ws) (hb : HB K r b) : RE L K W (tCB r t) fun ρ S R Q => ws ρ S R fun ds S1 => biD b S1 ds fun d => Q d S1 := fun σ H ρ S O R Q Q' A hw k => by
  refine h.go A hw fun vs H1 ds S1 O1 r1 A1 e1 q1 => ?_
  exact hb vs ds H1 S1 O1 _ _ A1.sok r1 q1 fun v H2 d rv s2 e2 q2 => k v H2 d S1 O1 rv s2 (e1.trans A1.sok e2) q2
end
end DL

set_option maxHeartbeats 1000000
/-! DL24: classes with slots whose instances never change: read, made, asked, their methods. -/
namespace DL
open PySem PySem.Spec PyProof.Rows L2
/-- stands behind the slots of a class with an own == and no own != -/
def neS : Str := "!="
/-- what of the text a class with slots must have -/
structure ClsG (K : PySem.W.Frag) (c : String) (sl : List Str) : Prop where
  sc : SlX.SCls K (He.ga K c)
  si : SlX.SIsi K (He.ga K c)
  ne : neS ∈ sl → PySem.W.findIn K (.ref (He.ga K c)) "__ne__" = some (some (.builtin "object.__ne__"))
  sl : ∀ (i : Nat) (f : Str), sl[i]? = some f → f ≠ neS → ∃ p, SlX.Slot1 K (He.ga K c) f p i
  nf : PySem.W.notFirst K (He.ga K c) (.ref (He.ga K c)) = true
def tys7 : List String := ["NoneType", "bool", "int", "str", "tuple", "list", "dict"]
structure ClsA (K : PySem.W.Frag) (cls : List (String × List Str)) : Prop where
  g : ∀ p ∈ cls, ClsG K p.1 p.2
  pr : ∀ p ∈ cls, ∀ r ∈ cls, PySem.W.kitOne K (.ref (He.ga K p.1)) (.ref (He.ga K r.1)) = some (p.1 == r.1)
  ty : ∀ t ∈ tys7, ∀ r ∈ cls, PySem.W.kitOne K (.type t) (.ref (He.ga K r.1)) = some false
  bt : ∀ t ∈ isiTys, ∀ r ∈ cls, PySem.W.kitOne K (.ref (He.ga K r.1)) (.type t) = some false
section
variable {L : Lnk} {K : PySem.W.Frag} {W : WX} {X : Cx} {t u : TE} {w w2 : WE'} {c : String} {sl : List Str}
theorem re_fld {f : Str} {i : Nat} (G : ClsG K c sl) (hi : sl[i]? = some f) (hn : f ≠ neS) (h : RE L K W t w) : RE L K W (SlX.tSl K t f) fun ρ S R Q => w ρ S R fun x S1 => match x with
    | .obj c' fs => c' = c ∧ (match fs[i]? with
      | some d => Q d S1
      | none => False)
    | _ => False := fun σ H ρ S O R Q Q' A hw k => by
  refine h.go A hw fun x H1 dx S1 O1 r1 A1 e1 q1 => ?_
  cases dx with
  | obj c' fs =>
    obtain ⟨rfl, q⟩ := q1
    cases r1 with
    | obj hs hd n n2 hv rs =>
      cases e : fs[i]? with
      | none => rw [e] at q; exact q.elim
      | some d =>
        rw [e] at q
        obtain ⟨v, h1, h2⟩ := rs.get e
        obtain ⟨p, sp⟩ := G.sl i f hi hn
        exact ⟨_, _, _, p, _, i, v, rfl, hs, G.sc, sp, hv i v h1, k v H1 d S1 O1 h2 A1.sok e1 q⟩
  | _ => exact q1.elim
/-- isinstance(x, C) -/
def rIsC (K : PySem.W.Frag) (C : Addr) : List V → Hp → VK → Prop := fun xs H Q => rIsi K xs H Q ∨ SlX.rIsiSl K (.ref C) xs H Q
theorem call_isC {C : Addr} : CallR X (.builtin "isinstance") (rIsC X.K C) := by
  intro pins s σ H xs us Q I r h
  rcases h with h | h
  · exact call_isi pins s σ H xs us Q I r h
  · exact SlX.call_isiSl (.ref C) pins s σ H xs us Q I r h
theorem has_mem {cls : List (String × List Str)} (h : (cls.any fun p => p.1 == c) = true) : ∃ p ∈ cls, p.1 = c := by
  obtain ⟨p, hp, e⟩ := List.any_eq_true.mp h
  exact ⟨p, hp, eq_of_beq e⟩
theorem re_isC (G : ClsA K L.Γ.cls) (hc : L.Γ.has c = true) (h : RE L K W t w) : RE L K W (tCB (rIsC K (He.ga K c)) (tCons t (tCons (tC (.ref (He.ga K c))) tNil))) fun ρ S R Q => w ρ S R fun x S1 => isCD L.Γ.has c (res S1 x) fun b => Q (.bl b) S1 := fun σ H ρ S O R Q Q' A hw k => by
  refine h.go A hw fun x H1 dx S1 O1 r1 A1 e1 q1 => ?_
  obtain ⟨pc, hpc, rfl⟩ := has_mem hc
  have gen : ∀ t, typD (res S1 dx) = some t → Q (.bl false) S1 → (tCB (rIsC K (He.ga K pc.1)) (tCons (fun σ H Q => Q x H1) (tCons (tC (.ref (He.ga K pc.1))) tNil))) σ H1 Q' := fun t ht q => by
    refine .inl ⟨x, .ref (He.ga K pc.1), .type t, .ref (He.ga K pc.1), false, rfl, .own _, tyx_of A1.sok r1 ht, G.ty t ?_ pc hpc, k _ H1 _ S1 O1 (.bl _) A1.sok e1 q⟩
    have := typD_mem ht
    exact this
  cases e : res S1 dx with
  | obj c' fs =>
    rw [e] at q1
    obtain ⟨hh, q⟩ := q1
    obtain ⟨p', hp', rfl⟩ := has_mem hh
    have e2 : dx = .obj p'.1 fs := by
      cases dx with
      | ref p => simp only [res] at e; split at e <;> cases e
      | _ => exact e
    subst e2
    cases r1 with
    | obj hs hd n n2 hv rs =>
      have G' := G.g p' hp'
      exact .inr ⟨_, _, _, _, .ref (He.ga K pc.1), p'.1 == pc.1, rfl, rfl, fun w' hw' => hw', hs, G'.sc, G'.si, G.pr p' hp' pc hpc, k _ H1 _ S1 O1 (.bl _) A1.sok e1 q⟩
  | _ => rw [e] at q1; obtain ⟨t, ht, q⟩ := q1; exact gen t (by rw [e]; exact ht) q
/-- isinstance(x, n), n a built-in class -/
def rIsB (K : PySem.W.Frag) (n : String) : List V → Hp → VK → Prop := fun xs H Q => rIsi K xs H Q ∨ SlX.rIsiSl K (.type n) xs H Q
theorem call_isB {n : String} : CallR X (.builtin "isinstance") (rIsB X.K n) := by
  intro pins s σ H xs us Q I r h
  rcases h with h | h
  · exact call_isi pins s σ H xs us Q I r h
  · exact SlX.call_isiSl (.type n) pins s σ H xs us Q I r h
theorem re_isB {n : String} (G : ClsA K L.Γ.cls) (h : RE L K W t w) : RE L K W (tCB (rIsB K n) (tCons t (tCons (tC (.ty n)) tNil))) fun ρ S R Q => w ρ S R fun x S1 => isBD L.Γ.has n (res S1 x) fun b => Q (.bl b) S1 := fun σ H ρ S O R Q Q' A hw k => by
  refine h.go A hw fun x H1 dx S1 O1 r1 A1 e1 q1 => ?_
  obtain ⟨hn, q1⟩ := q1
  have gen : ∀ t, typD (res S1 dx) = some t → Q (.bl (isiB t n)) S1 → (tCB (rIsB K n) (tCons (fun σ H Q => Q x H1) (tCons (tC (.ty n)) tNil))) σ H1 Q' := fun t ht q =>
    .inl ⟨x, .ty n, .type t, .type n, isiB t n, rfl, .ty n, tyx_of A1.sok r1 ht, kit_ty (kitB_of ht hn), k _ H1 _ S1 O1 (.bl _) A1.sok e1 q⟩
  cases e : res S1 dx with
  | obj c' fs =>
    rw [e] at q1
    obtain ⟨hh, q⟩ := q1
    obtain ⟨p', hp', rfl⟩ := has_mem hh
    have e2 : dx = .obj p'.1 fs := by
      cases dx with
      | ref p => simp only [res] at e; split at e <;> cases e
      | _ => exact e
    subst e2
    cases r1 with
    | obj hs hd n' n2 hv rs =>
      have G' := G.g p' hp'
      exact .inr ⟨_, _, _, _, .ty n, false, rfl, rfl, fun w' hw' => hw', hs, G'.sc, G'.si, G.bt n hn p' hp', k _ H1 _ S1 O1 (.bl _) A1.sok e1 q⟩
  | _ => rw [e] at q1; obtain ⟨t, ht, q⟩ := q1; exact gen t (by rw [e]; exact ht) q
/-! ### methods -/
theorem meth_eval {o : Expr} {name : Str} {apos pos : Pos} {args : List Expr} {env : PySem.Env} (hbase : attributeBase o name env (eval o env) = eval o env)
    (hfew : methodCallForm (args.length + ([] : List Keyword).length) (backTo pos (starEach args env)) (backToKw pos (keywordEach [] env)) = true) (hline : (apos.endLine == pos.line) = true) :
    eval (.Call (.Attribute o name apos) args [] pos) env = (do
      let ov ← eval o env
      standAt apos.atName
      let (f, first) ← holding [ov] (getMethod ov name (do return (← importBound o env).getD true))
      callWith pos f first (backTo pos (starEach args env)) (backToKw pos (keywordEach [] env))) := by
  rw [arm_eval_Call, hbase]
  have hpos : methodCallPos true o env apos pos = pure pos := by unfold methodCallPos; simp [hline]
  unfold methodCall calleeOf
  rw [hfew, hpos]
  rfl
theorem few_ok {es : List Expr} {env : PySem.Env} {pos : Pos} (hl : es.length < 30) (hs : (backTo pos (starEach es env)).any (·.1) = false) : methodCallForm (es.length + ([] : List Keyword).length) (backTo pos (starEach es env)) (backToKw pos (keywordEach [] env)) = true := by
  have h1 : (backTo pos (starEach es env)).all (fun x => !x.1) = true := by
    rw [List.all_eq_true]
    intro x hx
    have := List.any_eq_false.mp hs x hx
    simpa using this
  have h2 : backToKw pos (keywordEach [] env) = [] := rfl
  unfold methodCallForm
  rw [h1, h2]
  simp [hl]
/-- o.m(e, ..) -/
def tMethS (C : Addr) (sp : Sp) (E : L2.St → XK) (ta : TE) (t : TA) : TE := fun σ H Q => ta σ H fun x H1 => ∃ a dx vs, x = .ref a ∧ SlX.Slt H1 a C dx vs ∧ t σ H1 fun ws H2 => sp (x :: ws) H2 Q (E σ)
theorem pe_methC {o e : Expr} {es : List Expr} {m : Str} {apos pos : Pos} {CX : CXT} {k : Nat} {C g : Addr} {fd : FuncData} {ps : List Str} {sp : Sp} {E : L2.St → XK} {ta : TE} {t : TA} (he : PE X o ta) (c : SlX.SCls X.K C) (hm : Meth X.K C m g)
    (F : FnOk X.prog X.w X.K X.mg X.base CX k g fd ps sp) (hr : Room k X.A) (hb : Binds X.K fd ps []) (hx : ∀ σ, PassesAt CX X σ (E σ)) (ha : PA X (e :: es) t)
    (hbase : attributeBase o m X.env (eval o X.env) = eval o X.env) (hline : (apos.endLine == pos.line) = true) (hlen : (e :: es).length < 30)
    (hst : starEach (e :: es) X.env = (false, eval e X.env) :: starEach es X.env) (hpl : (backTo pos (starEach es X.env)).any (·.1) = false) :
    PE X (.Call (.Attribute o m apos) (e :: es) [] pos) (tMethS C sp E ta t) := by
  refine ⟨fun pins s σ H Q I h => ?_⟩
  refine PySem.W.methodCall_KW (thn (he.run pins s σ H _ I h) fun u s1 ⟨x, H1, I1, rx, a, dx, vs, ex, hsl, q⟩ => ?_) (meth_eval hbase (few_ok hlen (by rw [hst]; exact hpl)) hline)
  subst ex
  obtain rfl : u = Value.ref a := rx
  refine SlX.getmethsl_ok I1 hsl c hm ?_
  refine PySem.W.callWith_K (first := [.ref a]) (h₀ := X.base) I.ok.mod.kin hm.kp (thn (ha.run pos pins s1 σ H1 _ I1 q) fun us s2 ⟨ws, H2, I2, r, q2⟩ => ⟨I2.kIn, ?_⟩) hst hpl
  exact run_fnS (us := .ref a :: us) (vs := .ref a :: ws) F hr hb (hx σ) I2 (.cons rfl r) q2
theorem pe_methC0 {o : Expr} {m : Str} {apos pos : Pos} {CX : CXT} {k : Nat} {C g : Addr} {fd : FuncData} {ps : List Str} {sp : Sp} {E : L2.St → XK} {ta : TE} (he : PE X o ta) (c : SlX.SCls X.K C) (hm : Meth X.K C m g)
    (F : FnOk X.prog X.w X.K X.mg X.base CX k g fd ps sp) (hr : Room k X.A) (hb : Binds X.K fd ps []) (hx : ∀ σ, PassesAt CX X σ (E σ))
    (hbase : attributeBase o m X.env (eval o X.env) = eval o X.env) (hline : (apos.endLine == pos.line) = true) :
    PE X (.Call (.Attribute o m apos) [] [] pos) (tMethS C sp E ta tNil) := by
  refine ⟨fun pins s σ H Q I h => ?_⟩
  refine PySem.W.methodCall_KW (thn (he.run pins s σ H _ I h) fun u s1 ⟨x, H1, I1, rx, a, dx, vs, ex, hsl, q⟩ => ?_) (meth_eval hbase (few_ok (es := []) (by decide) rfl) hline)
  subst ex
  obtain rfl : u = Value.ref a := rx
  refine SlX.getmethsl_ok I1 hsl c hm ?_
  exact PySem.W.callWith_K0 (first := [.ref a]) I1.kIn hm.kp (run_fnS (us := [.ref a]) (vs := [.ref a]) F hr hb (hx σ) I1 (.cons rfl .nil) q)
end
end DL

set_option maxHeartbeats 2000000
/-! DL44: an own error class whose built-in base has no __new__ of its own (KeyError): it is made by the next base's. -/
namespace DL
open PySem PySem.Spec PyProof.Rows L2
/-- whose __new__ makes it: a built-in error among the class's row bl -/
structure NewX (newId : String) (bl : List Value) : Prop where
  ex : ∃ (B initId : String) (bm : List Value), ExcBaseFacts B newId initId bm ∧ bl.contains (.type B) = true
  na : bl.contains (.type "AttributeError") = false
  nn : bl.contains (.type "NameError") = false
/-- what of the base's __init__ is needed -/
structure IniX (B initId : String) : Prop where
  plain : plainId initId = true
  entry : entryFor table initId = some Builtin.«BaseException.__init__»
  kind : builtinKind initId = some .slot
  row : Manifest.signature? initId = some ⟨.positional, "*", B, .self, [⟨"args", .varPos, false⟩]⟩
  star : (B != "*") = true
theorem NewX.mono {newId : String} {bl bm : List Value} (F : NewX newId bm) (h : ∀ Y : String, bl.contains (.type Y) = bm.contains (.type Y)) : NewX newId bl := by
  obtain ⟨B, ii, b2, G, hb⟩ := F.ex
  exact ⟨⟨B, ii, b2, G, (h B).trans hb⟩, (h _).trans F.na, (h _).trans F.nn⟩
theorem NewX.of {B newId initId : String} {bm : List Value} (F : ExcBaseFacts B newId initId bm) : NewX newId bm := ⟨⟨B, initId, bm, F, F.hasB⟩, F.noAttr, F.noName⟩
theorem IniX.of {B newId initId : String} (F : ExcCallFacts B newId initId) : IniX B initId := ⟨F.init.plain, F.initEntry, F.initKind, F.initRow, F.noStar⟩
section
open PySem.W PySem.Calls
variable {prog : Program} {w : World} {A : Around} {R : Result → Shared → Prop} {E : Value → Shared → Prop} {h : Heap} {g : Array GenState} {d : Drawn} {t : Nat} {os : OsState}
variable {nm q : Str} {C N : Addr} {bs bl : List Value} {hdct : Bool} {sn : List Str} {sub : List Value} {ab : Bool} {col : Option Bool} {dd : Option Addr} {k0 k1 k2 k3 k5 : Option Value} {newId : String}
theorem newX_check {M : Model} (F : NewX newId bl) {rest : List Value} {Q : Unit → Shared → Prop} (hC : h.get? C = some (excClassObj nm q C N bs bl hdct sn sub ab col dd k0 k1 k2 k3 k5 newId)) (hq : Q () ⟨h, g, d, t, os⟩) :
    wpAny M A (checkBuiltinCall newId ⟨.ref C :: rest, []⟩) Q E ⟨h, g, d, t, os⟩ := by
  obtain ⟨B, ii, bm, G, hb⟩ := F.ex
  have e1 : (Value.ref C :: bl).contains (.type B) = true := by rw [List.contains_cons, hb, Bool.or_true]
  have e2 := G.noStar
  simp only [checkBuiltinCall, G.newKind, G.newSplit, G.newRow]
  repeat (first | refine wpAny_loadPart_at hC ?_ | (refine wpAny_isSubtype_exc hC ?_; rw [e1]) | refine wpAny_staticBase_exc hC ?_ | refine wpAny_madeBy_exc hC ?_ | simp only [bne_self_eq_false, Bool.false_eq_true, if_false] | wp_step)
  exact hq
theorem newX_new (F : NewX newId bl) {rest : List Value} (hC : h.get? C = some (excClassObj nm q C N bs bl hdct sn sub ab col dd k0 k1 k2 k3 k5 newId)) (hz : rest.length ≤ sizeLine)
    (hq : R (.ok (.ret (.ref (h.objs.size + 1)))) ⟨(h.push { cls := .type "tuple", data := .seq rest.toArray }).push { cls := .ref C, data := .fields #[.ref h.objs.size, .none, .none, .none, .bool false, .none] }, g, d, t, os⟩) :
    codeAny (model prog w) A (.builtin newId ⟨.ref C :: rest, []⟩) R ⟨h, g, d, t, os⟩ := by
  obtain ⟨B, ii, bm, G, hb⟩ := F.ex
  have e0 := G.ends
  have e1 : (Value.ref C :: bl).contains (.type B) = true := by rw [List.contains_cons, hb, Bool.or_true]
  have e2 : (Value.ref C :: bl).contains (.type "AttributeError") = false := by rw [List.contains_cons, F.na]; rfl
  have e3 : (Value.ref C :: bl).contains (.type "NameError") = false := by rw [List.contains_cons, F.nn]; rfl
  refine codeAny_builtinAt G.entry ?_
  unfold Builtin.«BaseException.__new__»
  refine PySem.wpAt_bind ?_
  show PySem.wpAt _ _ _ (stack >>= _) _ _ _
  refine PySem.wpAt_bind (PySem.wpAt_stack fun p below => PySem.wpAt_of_wpAny ?_)
  wp_walk
  refine PySem.wpAt_of_wpAny ?_
  rw [G.owner]
  repeat (first | with_reducible refine wpAny_madeHere_exc G.canon hC ?_ | with_reducible refine wpAny_loadPart_at hC ?_ | (with_reducible refine wpAny_isSubtype_exc hC ?_; first | rw [e1] | rw [e2] | rw [e3]) | wp_step)
  show R _ _
  rw [Heap.size_push]
  exact hq
theorem newX_type (F : NewX newId bl) {rest : List Value} {fI : Addr} {Q : Fin → Shared → Prop} (hC : h.get? C = some (excClassObj nm q C N bs bl hdct sn sub ab col dd k0 k1 k2 k3 k5 newId))
    (hi : Looks (model prog w) h (typeLookup (.ref C) "__init__") (some (.ref fI))) (hb : ∀ self, Looks (model prog w) h (bindSpecial (.ref fI) self) (.ref fI, [self])) (hz : rest.length ≤ sizeLine)
    (hq : codeAny (model prog w) A (.call (.ref fI) ⟨.ref (h.objs.size + 1) :: rest, []⟩)
      (fun r s' => match r with | .ok (.ret v) => v = .none ∧ Q (.done (.ret (.ref (h.objs.size + 1)))) s' | .ok _ => False | .error e => E e s')
      ⟨(h.push (kdv_tup rest)).push (HandSPX.excO C h.objs.size), g, d, t, os⟩) :
    wpAny (model prog w) A (Builtin.«type.__call__» ⟨.ref C :: rest, []⟩) Q E ⟨h, g, d, t, os⟩ := by
  obtain ⟨B, ii, bm, G, _⟩ := F.ex
  repeat (first | with_reducible refine wpAny_loadPart_at hC ?_ | with_reducible refine wpAny_madeBy_exc hC ?_ | wp_step)
  refine codeAny_call_builtin_code (Code.quiet_builtin _ G.quiet) (newX_check F hC ?_)
  refine newX_new F hC hz ?_
  show wpAny _ _ _ _ _ _
  have k : ∀ b o, h.get? b = some o → ((h.push (kdv_tup rest)).push (HandSPX.excO C h.objs.size)).get? b = some o := fun b o e => Heap.get?_push_of_some _ (Heap.get?_push_of_some _ e)
  have c1 := k _ _ hC
  have gx : ((h.push (kdv_tup rest)).push (HandSPX.excO C h.objs.size)).get? (h.objs.size + 1) = some (HandSPX.excO C h.objs.size) := by heap_get
  have cc : (Value.ref C :: bl).contains (.ref C) = true := by simp
  have i1 := hi.keeps k
  have b1 := (hb (.ref (h.objs.size + 1))).keeps k
  unfold isInstance
  repeat (first | with_reducible refine wpAny_loadPart_at gx ?_ | (with_reducible refine wpAny_isSubtype_exc c1 ?_; rw [cc]) | wp_step)
  show wpAny _ _ (typeLookup (.ref C) _) _ _ _
  refine i1.at ?_
  refine wpAny_holding (wpAny_bind (b1.at ?_))
  refine wpAny_bind (wpAny_call (codeAny_mono hq fun r s' z => ?_))
  rcases r with e | (v | _ | _ | _) <;> first | exact z | exact z.elim | skip
  obtain ⟨rfl, z⟩ := z
  first
    | exact wpAny_pure (wpAny_pure z)
    | (wp_walk; exact z)
theorem newX_call (F : NewX newId bl) {rest : List Value} {fI : Addr} (hC : h.get? C = some (excClassObj nm q C N bs bl hdct sn sub ab col dd k0 k1 k2 k3 k5 newId))
    (hi : Looks (model prog w) h (typeLookup (.ref C) "__init__") (some (.ref fI))) (hb : ∀ self, Looks (model prog w) h (bindSpecial (.ref fI) self) (.ref fI, [self])) (hz : rest.length ≤ sizeLine)
    (hq : codeAny (model prog w) (A.under (.builtin "type.__call__" ⟨.ref C :: rest, []⟩)) (.call (.ref fI) ⟨.ref (h.objs.size + 1) :: rest, []⟩) (InitBack (h.objs.size + 1) R)
      ⟨(h.push (kdv_tup rest)).push (HandSPX.excO C h.objs.size), g, d, t, os⟩) :
    codeAny (model prog w) A (.call (.ref C) ⟨rest, []⟩) R ⟨h, g, d, t, os⟩ := by
  have f1 := tc_lookup
  have f2 := tc_bind (.ref C)
  have hTy : (⟨h, g, d, t, os⟩ : Shared).TypeIs (.ref C) "type" := ⟨_, hC, rfl⟩
  refine codeAny_of_tree ?_
  show wpAny _ _ (callAny (.ref C) _) _ _ _
  repeat (any_goals (first | assumption | with_reducible refine wpAny_loadPart_at hC ?_ | wp_step))
  refine ⟨rfl, ?_⟩
  refine codeAny_call_builtin_at (Code.quiet_builtin _ (by decide +kernel)) entry_typeCall (wpAny_check_type_call_sub hC (newX_type F hC hi hb hz ?_))
  refine codeAny_mono hq fun r s' z => ?_
  rcases r with e | (v | _ | _ | _) <;> exact z
theorem iniX_check {M : Model} {B initId : String} (F : IniX B initId) {e : Addr} {oe : Obj} {rest : List Value} {Q : Unit → Shared → Prop} (hC : h.get? C = some (excClassObj nm q C N bs bl hdct sn sub ab col dd k0 k1 k2 k3 k5 newId)) (he : h.get? e = some oe)
    (hcls : oe.cls = .ref C) (hq : Q () ⟨h, g, d, t, os⟩) : wpAny M A (checkBoundCall initId ⟨.ref e :: rest, []⟩) Q E ⟨h, g, d, t, os⟩ := by
  have hs := F.star
  simp only [checkBoundCall, F.kind, F.row]
  repeat (first | (with_reducible refine wpAny_loadPart_at he ?_; rw [hcls]) | with_reducible refine wpAny_loadPart_at hC ?_ | wp_step)
  refine wpAny_onRaise ?_
  rw [show ∀ (a b : String) (n : Nat), Bind.check ⟨.positional, "*", B, .self, [⟨"args", .varPos, false⟩]⟩ a b n (List.map (fun x => x.fst) ({ pos := Value.ref e :: rest } : Args).kw) = pure () from fun a b n => check_star_args _ _ _ _ _ _]
  exact wpAny_pure hq
end
end DL

set_option maxHeartbeats 2000000
/-! DL28: errors whose own __init__ says super().__init__(text) and keeps the argument. -/
namespace DL
open PySem PySem.Spec PyProof.Rows L2
section
open Builtin Builtin.ObjectAttr
variable {prog : Program} {w : World} {A : Around} {E : Value → Shared → Prop} {R : Result → Shared → Prop} {hp : Heap} {g : Array GenState} {d : Drawn} {t : Nat} {os : OsState}
/-- the first field of an exception over a built-in one -/
theorem osa_newB {B : String} {bm bl : List Value} (SF : StoreFacts B bm "object.__setattr__" "object") {K : PySem.W.Frag} {name : Str} {tk : Tok} {v : Value} {x C : Addr} {fv : Array Value} {cd : ClassData}
    (X : K.In hp) (hx : hp.get? x = some { cls := .ref C, data := .fields fv }) (hcd : PySem.W.clsIn K C = some cd) (hm : cd.mro = .ref C :: bl) (hob : bl.contains (.type "object") = true) (hps : ∀ self : Value, refuseLoop self "__setattr__" bl = pure ()) (hh : cd.hasDict = true) (ha : PySem.W.findIn K (.ref C) name = some none)
    (hq : ∀ h' tk' dx, (∀ b o, b ≠ x → hp.get? b = some o → h'.get? b = some o) → hp.objs.size ≤ dx → dx ≠ x → h'.get? x = some { cls := .ref C, dict := some dx, data := .fields fv } →
      h'.Ns1 dx (fun y => if y = name then some v else none) → R (.ok (.ret .none)) ⟨h', g, d, tk', os⟩) :
    codeAny (model prog w) A (.call (.builtin "object.__setattr__") ⟨[.ref x, .str name tk, v], []⟩) R ⟨hp, g, d, t, os⟩ := by
  have I : PySem.W.InstAt hp x { cls := .ref C, data := .fields fv } C none := ⟨hx, rfl, rfl, trivial⟩
  have hxs : x ≠ hp.objs.size := Nat.ne_of_lt (Heap.lt_size hx)
  have SO := F.store_object
  have sub : PySem.W.Looks (model prog w) hp (isInstance (.ref x) (.type "object")) true := I.type.andThen (PySem.W.looks_mroIn X (by
    unfold PySem.W.mroIn
    rw [hcd, Option.bind_some, hm, if_neg (show ¬ (List.isEmpty (Value.ref C :: bl) = true) from Bool.false_ne_true), List.contains_cons, hob, Bool.or_true]))
  refine codeAny_call_builtin SO.slot.plain SO.entry (@PySem.W.check_slot (model prog w) _ _ ⟨hp, g, d, t, os⟩ "object.__setattr__" "object" "__setattr__" (.ref x) [.str name tk, v] [] _ SO.kind SO.split sub (SO.args (.ref x) (.str name tk) v) ?_)
  have hmr : PySem.W.Looks (model prog w) hp (mroOf (.ref C)) cd.mro := (PySem.W.looks_clsIn X hcd).andThen .now
  have L3 : PySem.W.Looks (model prog w) hp (storeTaker? none) none := .now
  have hpass : refuseLoop (.ref x) "__setattr__" cd.mro = pure () := by
    rw [hm, refuseLoop_ref]
    exact hps _
  rw [PySem.W.osa_eq, refuse_eq]
  refine wpAny_bind (wpAny_bind (I.type.at (wpAny_bind (hmr.at ?_))))
  rw [hpass]
  refine wpAny_pure (wpAny_bind (I.type.at (wpAny_bind ((PySem.W.looks_findIn X ha).at (wpAny_bind (L3.at ?_))))))
  show wpAny _ _ (storeInOwnDict (.ref x) (.ref C) (.str name tk) name v false) _ _ _
  have hcls : PySem.W.Looks (model prog w) hp (classData C) cd := PySem.W.looks_clsIn X hcd
  obtain ⟨nm, bs, mro, ns, qn, hd, sn, sb, ab, col, del⟩ := cd
  dsimp only at hh
  subst hh
  unfold storeInOwnDict ownDictForStores
  repeat (first | with_reducible refine HandSPX.store_in_new ?_ ?_ | with_reducible refine wpAny_loadPart_at hx ?_ | with_reducible refine hcls.at ?_ | wp_step)
  · exact ⟨_, #[], _, (Heap.get?_update_ne _ _ _ _ hxs.symm).trans (Heap.get?_push_at rfl rfl), rfl, fun e he => absurd he (by simp), fun _ => rfl⟩
  · intro h' tk' hn' hs
    have hx₁ : (hp.push { cls := .type "dict", data := .dict #[] }).get? x = some { cls := .ref C, data := .fields fv } := Heap.get?_push_of_some _ hx
    refine hq h' tk' hp.objs.size (fun b o hb ho => ?_) (Nat.le_refl _) hxs.symm ?_ hn'
    · exact (hs.2 b (Nat.ne_of_lt (Heap.lt_size ho))).trans ((Heap.get?_update_ne _ _ _ _ hb).trans (Heap.get?_push_of_some _ ho))
    · exact (hs.2 x hxs).trans (Heap.get?_update_self _ hx₁ rfl)
end
/-- what such an __init__ is -/
structure SupI (K : PySem.W.Frag) (prog : Program) (C fI : Addr) (scope : Scope) (f p0 p1 : Str) (je : Expr) : Prop where
  fn : ∃ (oc cl ccl : Value) (od cld cdd : Option Addr) (osl csl ccs : Array (Option Value)) (name qual file : Str) (params : Arguments) (dV kV doc pm ct : Value) (an : Option Addr) (cda cc : Addr) (vs : Array Value) (tf : Tok) (ar : Arg) (q1 q2 q3 q4 q5 q6 q7 q8 q9 : Pos),
    K.lookup fI = some ⟨oc, od, .func (PySem.W.ksFn name qual params [.Expr (.Call (.Attribute (.Call (.Name "super" q1) [] [] q2) "__init__" q3) [je] [] q4) q5, .Assign [.Attribute (.Name p0 q6) f q7] (.Name p1 q8) q9] scope dV kV doc pm an (.ref cda) ct cc), osl⟩ ∧
    PySem.W.codeIn K (.ref cda) qual = true ∧ K.lookup cda = some ⟨ccl, cdd, .fields vs, ccs⟩ ∧ vs[2]? = some (.str file tf) ∧ ((prog.main.file : Str) == file) = true ∧
    K.lookup cc = some ⟨cl, cld, .cell (some (.ref C)), csl⟩ ∧ (params.posonlyargs ++ params.args).head? = some ar ∧ ar.arg = p0 ∧
    (∀ a b : Value, bindArgs (PySem.W.ksFn name qual params [.Expr (.Call (.Attribute (.Call (.Name "super" q1) [] [] q2) "__init__" q3) [je] [] q4) q5, .Assign [.Attribute (.Name p0 q6) f q7] (.Name p1 q8) q9] scope dV kV doc pm an (.ref cda) ct cc) ⟨[a, b], []⟩ = pure [(p0, a), (p1, b)]) ∧
    (∀ env : PySem.Env, starEach [je] env = (false, eval je env) :: starEach [] env) ∧ (q3.endLine == q4.line) = true
  top : (prog.main.scope.names.lookup ("super" : Str)).isSome = false
  ks : scope.names.lookup ("super" : Str) = some .globalImplicit
  kc : scope.names.lookup ("__class__" : Str) = some .free
  k0 : scope.names.lookup p0 = some .local
  k1 : scope.names.lookup p1 = some .local
  ncl : ∀ x ∈ scope.names, x.2 ≠ .cell
  co : scope.isCoroutine = false
  gen : scope.isGenerator = false
  kind : scope.kind = .function
  ne : p0 ≠ p1
  d0 : (p0 == ("__debug__" : Str)) = false
  d1 : (p1 == ("__debug__" : Str)) = false
/-- what the class is -/
structure SupC (K : PySem.W.Frag) (B newId initId : String) (bm : List Value) (C fI : Addr) (f : Str) (bl : List Value) : Prop where
  hT : ∀ Y : String, bl.contains (.type Y) = bm.contains (.type Y)
  ps : ∀ self : Value, refuseLoop self "__setattr__" bl = pure ()
  ob : bl.contains (.type "object") = true
  cls : ∃ nm q N bs sn sub ab col dd k0 k1 k2 k3 k5, K.lookup C = some (excClassObj nm q C N bs bl true sn sub ab col dd k0 k1 k2 k3 k5 newId)
  sa : PySem.W.findIn K (.ref C) "__setattr__" = some (some (.builtin "object.__setattr__"))
  iC : PySem.W.findIn K (.ref C) "__init__" = some (some (.ref fI))
  tI : PySem.W.typeIn K (.ref fI) = some (.type "function")
  nf : PySem.W.findIn K (.ref C) f = some none
  sup : PySem.W.ks_superIn K C C "__init__" = some (some (.builtin initId))
  sB : PySem.W.subIn K (.ref C) (.type B) = some true
  own : PySem.W.mroIn K C (.ref C) = some true
  op : PySem.W.nsIn K cStatics "thirdparty.any" = some none
structure BasF (B newId initId : String) (bm : List Value) : Prop where
  nw : NewX newId bm
  ini : IniX B initId
  kf : PySem.W.KxsFacts B initId
  sf : StoreFacts B bm "object.__setattr__" "object"
theorem meth_evalS {o : Expr} {name : Str} {apos pos : Pos} {args : List Expr} {env : PySem.Env}
    (hfew : methodCallForm (args.length + ([] : List Keyword).length) (backTo pos (starEach args env)) (backToKw pos (keywordEach [] env)) = true) (hline : (apos.endLine == pos.line) = true) :
    eval (.Call (.Attribute o name apos) args [] pos) env = (do
      let ov ← attributeBase o name env (eval o env)
      standAt apos.atName
      let (f, first) ← holding [ov] (getMethod ov name (do return (← importBound o env).getD true))
      callWith pos f first (backTo pos (starEach args env)) []) := by
  rw [arm_eval_Call]
  have hpos : methodCallPos true o env apos pos = pure pos := by unfold methodCallPos; simp [hline]
  unfold methodCall calleeOf
  rw [hfew, hpos]
  rfl
section
open PySem.W PySem.Calls
variable {prog : Program} {w : World} {A : Around} {R : Result → Shared → Prop} {hp : Heap} {g : Array GenState} {d : Drawn} {t : Nat} {os : OsState} {K : PySem.W.Frag} {B newId initId : String} {bm : List Value} {C fI e t0 : Addr} {scope : Scope} {f p0 p1 : Str} {je : Expr} {u : Value} {mg mb : Str → Option Value}
theorem call_mw {bl : List Value} {nm q : Str} {N : Addr} {bs : List Value} {hdct : Bool} {sn : List Str} {sub : List Value} {ab : Bool} {col : Option Bool} {dd : Option Addr} {k0 k1 k2 k3 k5 : Option Value} {mw : Addr} {rest : List Value} {Q : Value → Shared → Prop} {E : Value → Shared → Prop} (FB : IniX B initId)
    (hC : hp.get? C = some (excClassObj nm q C N bs bl hdct sn sub ab col dd k0 k1 k2 k3 k5 newId)) (he : hp.get? e = some (HandSPX.excO C t0)) (hu : hp.get? mw = some (kxs_mw initId e)) (hz : rest.length ≤ sizeLine)
    (h : ∀ h' t1, (∀ b o, b ≠ e → hp.get? b = some o → h'.get? b = some o) → h'.get? e = some (HandSPX.excO C t1) → Q .none ⟨h', g, d, t, os⟩) :
    wpAny (model prog w) A (call (.ref mw) rest) Q E ⟨hp, g, d, t, os⟩ := by
  refine wpAny_call (codeAny_of_tree ?_)
  show wpAny _ A.in1 (callAny (.ref mw) ⟨rest, []⟩) _ _ _
  simp only [callAny]
  refine wpAny_bind (wpAny_load hu ?_)
  simp only [kxs_mw, show (Value.type "method-wrapper" == Value.type "method" || Value.type "method-wrapper" == Value.type "builtin_function_or_method" || Value.type "method-wrapper" == Value.type "method-wrapper") = true by decide, if_true]
  refine KFB.if_so (by decide) ?_
  refine wpAny_bind (iniX_check FB hC he rfl ?_)
  refine wpAny_bind (wpAny_pure (wpAny_pure ?_))
  refine ⟨plainId_quiet FB.plain _, codeAny_builtin FB.entry ?_⟩
  exact exc_init_tree (cls := .ref C) (t0 := t0) (dv := none) (c2 := .none) (c3 := .none) (b4 := .bool false) he hz fun h' k e' _ => h h' _ k e'
theorem sup_init (BF : BasF B newId initId bm) {bl : List Value} (T : SupC K B newId initId bm C fI f bl) (J : SupI K prog C fI scope f p0 p1 je) (X : K.In hp) (hg : hp.Ns mainGlobals mg) (hb : hp.Ns builtinsNs mb) (hbb : ∀ x : Str, x ≠ "__name__" → mb x = bootBuiltins x) (lim : hp.NoLimit)
    (ms : mg "super" = none) (hKe : K.lookup e = none) (he : hp.get? e = some (HandSPX.excO C t0)) (hroom : A.depth < recursionLimit)
    (hje : ∀ (env : PySem.Env) (s' : Shared) (m : Str → Option Value) (Q : Value → Shared → Prop) (E : Value → Shared → Prop), env.scope = scope → s'.heap.Ns env.locals m → m p1 = some u → (∀ b o, hp.get? b = some o → s'.heap.get? b = some o) →
      (∀ x tk h' tk', (∀ b o, s'.heap.get? b = some o → h'.get? b = some o) → Q (.str x tk) { s' with heap := h', toks := tk' }) → wpAny (model prog w) (A.deeper env) (eval je env) Q E s')
    (hq : ∀ h' tk' dx t1, (∀ b o, b ≠ e → hp.get? b = some o → h'.get? b = some o) → hp.objs.size ≤ dx → dx ≠ e → h'.get? e = some { cls := .ref C, dict := some dx, data := .fields #[.ref t1, .none, .none, .none, .bool false, .none] } →
      h'.Ns1 dx (fun y => if y = f then some u else none) → R (.ok (.ret .none)) ⟨h', g, d, tk', os⟩) :
    codeAny (model prog w) A (.call (.ref fI) ⟨[.ref e, u], []⟩) R ⟨hp, g, d, t, os⟩ := by
  obtain ⟨nm, q, N, bs, sn, sub, ab, col, dd, k0, k1, k2, k3, k5, hC⟩ := T.cls
  obtain ⟨oc, cl, ccl, od, cld, cdd, osl, csl, ccs, name, qual, file, params, dV, kV, doc, pm, ct, an, cda, cc, vs, tf, ar, q1, q2, q3, q4, q5, q6, q7, q8, q9, hf, hcd, hcode, hvs, hfile, hcell, hhead, har, hbind, hns, hline⟩ := J.fn
  have hcl : clsIn K C = some { name := nm, bases := bs, mro := .ref C :: bl, ns := N, qualname := q, hasDict := true, slotNames := sn, subclasses := sub, abstract := ab, collection := col, hasDel := false } := by unfold clsIn; rw [hC] <;> rfl
  refine ks_codeAny_call_defAt (binds := [(p0, .ref e), (p1, u)]) hroom (X _ _ hf) rfl lim (codeRec_of X hcd) rfl (BindsTo.of_eq (hbind _ _)) J.ncl (fun y hy => ?_) (fun h₁ hn1 hk1 => ?_) J.co J.gen J.kind
  · simp only [List.mem_cons, List.not_mem_nil, or_false] at hy
    rcases hy with rfl | rfl
    · exact J.k0
    · exact J.k1
  have m0 : (fun x => List.lookup x (List.reverse [(p0, Value.ref e), (p1, u)])) p0 = some (.ref e) := by
    show List.lookup p0 [(p1, u), (p0, Value.ref e)] = _
    have : (p0 == p1) = false := by simpa using J.ne
    simp [List.lookup, this]
  have m1 : (fun x => List.lookup x (List.reverse [(p0, Value.ref e), (p1, u)])) p1 = some u := by
    show List.lookup p1 [(p1, u), (p0, Value.ref e)] = _
    simp [List.lookup]
  have X1 : K.In h₁ := fun b o z => hk1 _ _ (X _ _ z)
  have hst := hns
  have hev := fun env => meth_evalS (o := .Call (.Name "super" q1) [] [] q2) (name := ("__init__" : Str)) (apos := q3) (pos := q4) (args := [je]) (env := env) (few_ok (es := [je]) (show 1 < 30 by decide) (by rw [hst]; rfl)) hline
  have hD1 := hk1 _ _ (X _ _ hC)
  have hLo : ∀ {b o}, hp.get? b = some o → b ≠ hp.objs.size := fun z => Nat.ne_of_lt (Heap.lt_size z)
  refine ks_wpAt_execs_cons (ks_wpAt_Expr_any (ks_wpAt_MethodCall ?_ (hev _)) ?_ ?_)
  · refine ks_wpAt_super_base J.ks J.kc (by decide) rfl (hk1 _ _ (X _ _ hf)) rfl hhead rfl (hk1 _ _ (X _ _ hcode)) rfl hvs hfile J.top ?_
    refine ks_loadName_global J.kind J.ks (loadGlobal_builtin (hg.keeps hk1) ms (hb.keeps hk1) ((hbb _ (by decide +kernel)).trans (by decide +kernel)) ⟨rfl, ?_⟩)
    refine wpAny_loadName_free J.kind J.kc rfl ⟨_, hk1 _ _ (X _ _ hcell), rfl⟩ ?_
    refine wpAny_loadName_local J.kind (by rw [har]; exact J.k0) hn1 (by rw [har]; exact m0) ?_
    refine ks_wpAny_isType_cls hD1 rfl ⟨rfl, ?_⟩
    refine ks_wpAny_call_super hD1 rfl (hk1 _ _ he) rfl (fun c z => by cases z) (looks_mroIn X1 T.own) (fun h2 e2 k2 => ?_)
    have hso : h2.get? h₁.objs.size = some (ks_superObj C e C) := e2
    have he2 := k2 _ _ (hk1 _ _ he)
    have hX2 : K.In h2 := fun b o z => k2 _ _ (X1 _ _ z)
    have I2 : InstAt h2 e (HandSPX.excO C t0) C none := ⟨he2, rfl, rfl, trivial⟩
    have hI : Looks (model prog w) h2 (isInstance (.ref e) (.type B)) true := I2.type.andThen (looks_subIn hX2 T.sB)
    have hsup := T.sup
    unfold ks_superIn at hsup
    rw [hcl] at hsup
    refine kxs_getMethod BF.kf hso (looks_opaque hX2 T.op) (l₀ := .ref C :: bl) ?_ rfl hX2 hsup hI (ks_ne hX2 I2 hcl) (by decide) ?_
    · exact fun A Q E s k q => wpAny_bind ((looks_clsIn hX2 hcl) A _ E s k (wpAny_pure q))
    have k3 : ∀ b o, h2.get? b = some o → (h2.push (kxs_mw initId e)).get? b = some o := fun b o z => Heap.get?_push_of_some _ z
    have hmw : (h2.push (kxs_mw initId e)).get? h2.objs.size = some (kxs_mw initId e) := Heap.get?_push_at rfl rfl
    refine kxs_callWith (i := initId) (x := e) (by rw [hst]; rfl) ?_
    rw [hst]
    refine evalArgs_plain ?_
    show wpAny _ _ (spliced ((false, eval je _) :: backTo q4 (starEach [] _))) _ _ _
    refine Calls.spliced_cons (hje _ _ _ _ _ rfl (hn1.keeps fun b o z => k3 _ _ (k2 _ _ z)) m1 (fun b o z => k3 _ _ (k2 _ _ (hk1 _ _ z))) fun x tk h4 tk' k4 => ?_)
    refine Calls.spliced_nil ⟨k4 _ _ hmw, ?_⟩
    refine call_mw (t := tk') BF.ini (k4 _ _ (k3 _ _ (k2 _ _ hD1))) (k4 _ _ (k3 _ _ he2)) (k4 _ _ hmw) (show 1 ≤ sizeLine by rw [sizeLine_eq]; decide) fun h5 t1 k5 e5 => ?_
    have kA : ∀ b o, b ≠ e → h₁.get? b = some o → h5.get? b = some o := fun b o hb z => k5 b o hb (k4 _ _ (k3 _ _ (k2 _ _ z)))
    have hLe : hp.objs.size ≠ e := Nat.ne_of_gt (Heap.lt_size he)
    obtain ⟨oL, esL, epL, hoL, hrL⟩ := hn1
    have hn5 : h5.Ns hp.objs.size fun x => List.lookup x (List.reverse [(p0, Value.ref e), (p1, u)]) := ⟨oL, esL, epL, kA _ _ hLe hoL, hrL⟩
    have X5 : K.In h5 := fun b o z => by
      refine kA b o ?_ (X1 b o z)
      rintro rfl
      rw [hKe] at z
      cases z
    refine ks_wpAt_execs_cons (ks_wpAt_Assign_Attr (wpAt_of_wpAny ?_) ?_)
    · refine ESX.ldL hn5 m1 ?_ J.kind J.k1 J.d1
      refine ESX.ldL hn5 m0 ?_ J.kind J.k0 J.d0
      refine set_plain (ox := HandSPX.excO C t1) (od := none) X5 ⟨e5, rfl, rfl, trivial⟩ T.sa ?_
      refine osa_newB BF.sf X5 e5 hcl rfl T.ob T.ps rfl T.nf fun h6 tk6 dx k6 ge ne e6 n6 => ?_
      show PySem.wpAt _ _ _ (execs [] _) _ _ _
      refine wpAt_of_wpAny (wpAny_execs_nil ?_)
      have kB : ∀ b o, b ≠ e → hp.get? b = some o → h6.get? b = some o := fun b o hb z => k6 b o hb (kA b o hb (hk1 b o z))
      refine hq h6 tk6 dx t1 kB ?_ ne e6 n6
      refine Nat.le_trans (Nat.le_of_lt (Heap.lt_size (show h5.get? hp.objs.size = some oL from kA _ _ hLe hoL))) ge
    · rfl
  · show interactive (ksEnv _ _ _ _ _ _) = false
    unfold interactive
    simp [J.kind]
  · rfl
end
end DL

set_option maxHeartbeats 2000000
/-! DL29: raise C(e) where C's own __init__ keeps e. -/
namespace DL
open PySem PySem.Spec PyProof.Rows L2
/-- repr(u) is told as some text, wherever the heap h goes on -/
def ShowR (P : Program) (w : World) (h : Heap) (u : Value) : Prop := ∀ (A : Around) (s : Shared) (Q : Value → Shared → Prop) (E : Value → Shared → Prop), A.units + 30 < cLine → (∀ b o, h.get? b = some o → s.heap.get? b = some o) →
  (∀ x tk h' tk', x.length ≤ 8000000 → (∀ b o, s.heap.get? b = some o → h'.get? b = some o) → Q (.str x tk) { s with heap := h', toks := tk' }) → wpAny (model P w) A (pyReprObj u) Q E s
/-- str(u) by an f-text is told as some text -/
def ShowF (P : Program) (w : World) (h : Heap) (u : Value) : Prop := ∀ (A : Around) (s : Shared) (Q : Value → Shared → Prop) (E : Value → Shared → Prop), A.units + 30 < cLine → (∀ b o, h.get? b = some o → s.heap.get? b = some o) →
  (∀ x tk h' tk', x.length ≤ 8000000 → (∀ b o, s.heap.get? b = some o → h'.get? b = some o) → Q (.str x tk) { s with heap := h', toks := tk' }) → wpAny (model P w) A (formatField u Str.empty) Q E s
structure Shows (P : Program) (w : World) (h : Heap) (u : Value) : Prop where
  r : ShowR P w h u
  f : ShowF P w h u
def jeB (p1 : Str) : Expr → Bool
  | .JoinedStr [.FormattedValue (.Name x _) 114 none _, .Constant (.str t) _ _] _ => decide (x = p1) && decide (t.length ≤ 1000)
  | .JoinedStr [.Constant (.str t) _ _, .FormattedValue (.Name x _) 114 none _] _ => decide (x = p1) && decide (t.length ≤ 1000)
  | .JoinedStr [.FormattedValue (.Name x _) 114 none _] _ => decide (x = p1)
  | .JoinedStr [.Constant (.str t) _ _, .FormattedValue (.Name x _) (.negSucc 0) none _] _ => decide (x = p1) && decide (t.length ≤ 1000)
  | _ => false
theorem str_len_app (a b : Str) : (a ++ b).length = a.length + b.length := by
  first | exact PySem.Str.length_append a b | simp
section
variable {prog : Program} {w : World} {A : Around} {hp : Heap} {p1 : Str} {je : Expr} {u : Value} {env : PySem.Env} {s' : Shared} {m : Str → Option Value} {Q : Value → Shared → Prop} {E : Value → Shared → Prop}
theorem fv_ok {pos p : Pos} (sh : Shows prog w hp u) (hu : A.units + 30 < cLine) (hk : env.scope.kind = .function) (k1 : env.scope.names.lookup p1 = some .local) (d1 : (p1 == ("__debug__" : Str)) = false) (hn : s'.heap.Ns env.locals m) (hm : m p1 = some u)
    (k : ∀ b o, hp.get? b = some o → s'.heap.get? b = some o) (q : ∀ x tk h' tk', x.length ≤ 8000000 → (∀ b o, s'.heap.get? b = some o → h'.get? b = some o) → Q (.str x tk) { s' with heap := h', toks := tk' }) :
    wpAny (model prog w) A (eval (.FormattedValue (.Name p1 p) 114 none pos) env) Q E s' := by
  refine wpAny_FormattedValue_repr (ESX.ldL hn hm ?_ hk k1 d1)
  refine sh.r _ _ _ _ hu k fun x tk h' tk' hx k' => ?_
  exact wpAny_formatField_str (q x tk h' tk' hx k') (q x tk' h' (tk' + 1) hx k') (Nat.le_trans hx (by rw [sizeLine_eq]; decide))
theorem fvf_ok {pos p : Pos} (sh : Shows prog w hp u) (hu : A.units + 30 < cLine) (hk : env.scope.kind = .function) (k1 : env.scope.names.lookup p1 = some .local) (d1 : (p1 == ("__debug__" : Str)) = false) (hn : s'.heap.Ns env.locals m) (hm : m p1 = some u)
    (k : ∀ b o, hp.get? b = some o → s'.heap.get? b = some o) (q : ∀ x tk h' tk', x.length ≤ 8000000 → (∀ b o, s'.heap.get? b = some o → h'.get? b = some o) → Q (.str x tk) { s' with heap := h', toks := tk' }) :
    wpAny (model prog w) A (eval (.FormattedValue (.Name p1 p) (-1) none pos) env) Q E s' := by
  refine wpAny_FormattedValue_plain (ESX.ldL hn hm ?_ hk k1 d1)
  exact sh.f _ _ _ _ hu k fun x tk h' tk' hx k' => q x tk h' tk' hx k'
theorem je_ok (hj : jeB p1 je = true) (sh : Shows prog w hp u) (hu : A.units + 30 < cLine) (hk : env.scope.kind = .function) (k1 : env.scope.names.lookup p1 = some .local) (d1 : (p1 == ("__debug__" : Str)) = false) (hn : s'.heap.Ns env.locals m) (hm : m p1 = some u)
    (k : ∀ b o, hp.get? b = some o → s'.heap.get? b = some o) (q : ∀ x tk h' tk', (∀ b o, s'.heap.get? b = some o → h'.get? b = some o) → Q (.str x tk) { s' with heap := h', toks := tk' }) :
    wpAny (model prog w) A (eval je env) Q E s' := by
  unfold jeB at hj
  split at hj
  · rename_i x p pos t j p' pos'
    simp only [Bool.and_eq_true, decide_eq_true_eq] at hj
    obtain ⟨rfl, ht⟩ := hj
    refine wpAny_JoinedStr ?_
    show Joins _ _ _ [eval _ env, eval _ env] _ _ _
    refine fv_ok sh hu hk k1 d1 hn hm k fun y tk h' tk' hy k' => ⟨y, tk, rfl, ?_, ?_⟩
    · rw [str_len_app, sizeLine_eq]; show 0 + y.length ≤ _; omega
    · refine wpAny_Constant_str ⟨t, _, rfl, ?_, ?_, ?_⟩
      · rw [str_len_app, str_len_app, sizeLine_eq]; show 0 + y.length + t.length ≤ _; omega
      · rw [str_len_app, str_len_app, sizeLine_eq]; show 0 + y.length + t.length ≤ _; omega
      · exact q _ _ h' _ k'
  · rename_i t j p' x p pos pos'
    simp only [Bool.and_eq_true, decide_eq_true_eq] at hj
    obtain ⟨rfl, ht⟩ := hj
    refine wpAny_JoinedStr ?_
    show Joins _ _ _ [eval _ env, eval _ env] _ _ _
    refine wpAny_Constant_str ⟨t, _, rfl, ?_, ?_⟩
    · rw [str_len_app, sizeLine_eq]; show 0 + t.length ≤ _; omega
    · refine fv_ok (s' := { s' with toks := s'.toks + 1 }) sh hu hk k1 d1 hn hm k fun y tk h' tk' hy k' => ⟨y, tk, rfl, ?_, ?_, ?_⟩
      · rw [str_len_app, str_len_app, sizeLine_eq]; show 0 + t.length + y.length ≤ _; omega
      · rw [str_len_app, str_len_app, sizeLine_eq]; show 0 + t.length + y.length ≤ _; omega
      · exact q _ _ h' _ k'
  · rename_i x p pos pos'
    rw [decide_eq_true_eq] at hj
    subst hj
    exact wpAny_JoinedStr_one (fv_ok sh hu hk k1 d1 hn hm k fun y tk h' tk' hy k' => q _ _ h' _ k')
  · rename_i t j p' x p pos pos'
    simp only [Bool.and_eq_true, decide_eq_true_eq] at hj
    obtain ⟨rfl, ht⟩ := hj
    refine wpAny_JoinedStr ?_
    show Joins _ _ _ [eval _ env, eval _ env] _ _ _
    refine wpAny_Constant_str ⟨t, _, rfl, ?_, ?_⟩
    · rw [str_len_app, sizeLine_eq]; show 0 + t.length ≤ _; omega
    · refine fvf_ok (s' := { s' with toks := s'.toks + 1 }) sh hu hk k1 d1 hn hm k fun y tk h' tk' hy k' => ⟨y, tk, rfl, ?_, ?_, ?_⟩
      · rw [str_len_app, str_len_app, sizeLine_eq]; show 0 + t.length + y.length ≤ _; omega
      · rw [str_len_app, str_len_app, sizeLine_eq]; show 0 + t.length + y.length ≤ _; omega
      · exact q _ _ h' _ k'
  · cases hj
end
/-! ### the making -/
/-- what the text says of the class n, whose __init__ keeps its argument under f -/
structure SupG (K : PySem.W.Frag) (prog : Program) (C : Addr) (f : Str) : Prop where
  ex : ∃ (B newId initId : String) (bm bl : List Value) (fI : Addr) (scope : Scope) (p0 p1 : Str) (je : Expr), BasF B newId initId bm ∧ SupC K B newId initId bm C fI f bl ∧ SupI K prog C fI scope f p0 p1 je ∧ jeB p1 je = true
  exC : PySem.W.subIn K (.ref C) (.type "BaseException") = some true
  tyC : PySem.W.typeIn K (.ref C) = some (.type "type")
  kC : PySem.W.keepIn K (.ref C) = true
/-- C(e), C's own __init__ keeping e under f -/
def tMkS (X : Cx) (C : Addr) (f : Str) (ta : TA) : L2.St → Hp → XK → Prop := fun σ H Q => ta σ H fun vs H1 => ∃ v, vs = [v] ∧ (∀ (h : Heap) (u : Value), HOk X.prog X.w H1 h → X.K.In h → RelV v u → Shows X.prog X.w h u) ∧ ∀ d, H1 d = none → Q (.ref C) (some d) (upd H1 d (.xd [(f, v)]))
section
variable {X : Cx} {e : Expr} {ta : TA} {f : Str} {p pos : Pos}
open PySem.W in
theorem pmk_sup {x : Str} {C : Addr} {k : Nat} (T : SupG X.K X.prog C f) (hr : Room (k + 3) X.A) (ms : X.mg "super" = none) (hg : Gl X x) (hm : X.mg x = some (.ref C)) (ha : PA X [e] ta)
    (hdb : (x == ("__debug__" : Str)) = false) (he : starEach [e] X.env = (false, eval e X.env) :: starEach [] X.env) :
    PMk X (.Call (.Name x p) [e] [] pos) (tMkS X C f ta) := by
  intro pins s σ H Q I h
  obtain ⟨B, newId, initId, bm, bl, fI, scope, p0, p1, je, BF, TC, J, hj⟩ := T.ex
  obtain ⟨nm, q, N, bs, sn, sub, ab, col, dd, k0, k1, k2, k3, k5, hC⟩ := TC.cls
  refine wpAny_Call_Name_kw (ld_glob I hg hm ?_ hdb)
  refine PySem.W.callWith_K (h₀ := X.base) I.ok.mod.kin T.kC (thn (ha.run pos pins s σ H _ I h) fun us s1 ⟨vs, H1, I1, r1, v, ev, sh, hq⟩ => ⟨I1.kIn, ?_⟩) he rfl
  subst ev
  cases r1 with
  | @cons _ u _ ur ru rr =>
    cases rr
    show wpAny _ _ (call (.ref C) [u]) _ _ _
    obtain ⟨hp, g, dr, tk, os⟩ := s1
    have kk : ∀ b o, hp.get? b = some o → ((hp.push (PySem.W.kdv_tup [u])).push (PySem.HandSPX.excO C hp.objs.size)).get? b = some o := fun b o e => Heap.get?_push_of_some _ (Heap.get?_push_of_some _ e)
    have hget : ((hp.push (PySem.W.kdv_tup [u])).push (PySem.HandSPX.excO C hp.objs.size)).get? (hp.objs.size + 1) = some (PySem.HandSPX.excO C hp.objs.size) := by heap_get
    have nK : X.K.lookup (hp.objs.size + 1) = none := by
      cases z : X.K.lookup (hp.objs.size + 1) with
      | none => rfl
      | some o => exact absurd (Heap.lt_size (I1.kIn _ _ z)) (by show ¬ (hp.objs.size + 1 < hp.objs.size); omega)
    have X2 : X.K.In ((hp.push (PySem.W.kdv_tup [u])).push (PySem.HandSPX.excO C hp.objs.size)) := fun b o z => kk b o (I1.kIn b o z)
    refine wpAny_call (newX_call (BF.nw.mono TC.hT) (I1.kIn _ _ hC) (PySem.W.looks_findIn I1.kIn TC.iC) (fun self => PySem.W.bind_fn I1.kIn self TC.tI) (show 1 ≤ sizeLine by rw [sizeLine_eq]; decide) ?_)
    obtain ⟨mb, hmb, hbb⟩ := I1.mod.blt
    have hrU := hr.make (k := k + 2) C [u] []
    have hsh : Shows X.prog X.w hp u := sh hp u I1.hok I1.kIn ru
    refine sup_init (g := g) (d := dr) (t := tk) (os := os) (mg := X.mg) (mb := mb) BF TC J X2 ((I1.mod.glob.keeps I1.bk).keeps kk) ((hmb.keeps I1.bk).keeps kk) hbb (I1.nolimit.keeps kk) ms nK hget hrU.depth ?_ fun h6 tk6 dx t1 k6 ge ne e6 n6 => ?_
    · intro env s' m Q' E' he' hns hm1 k' hq'
      refine je_ok (hp := hp) hj hsh ?_ (by rw [he']; exact J.kind) (by rw [he']; exact J.k1) J.d1 hns hm1 (fun b o z => k' b o (kk b o z)) hq'
      have h1 := (hrU.deeper (k := k + 1) env).un
      omega
    · refine ⟨rfl, ?_⟩
      have ge1 : hp.objs.size ≤ dx := by
        rw [Heap.size_push, Heap.size_push] at ge
        omega
      obtain ⟨G, g1, g2⟩ := restrict h6 fun b => decide (b ≠ hp.objs.size + 1)
      have gk : ∀ b, b ≠ hp.objs.size + 1 → G.get? b = h6.get? b := fun b hb => g1 b (decide_eq_true hb)
      have gn : G.get? (hp.objs.size + 1) = none := g2 _ (by simp)
      have na : ∀ {b : Addr} {o : Obj}, hp.get? b = some o → b ≠ hp.objs.size + 1 := fun {b o} z => Nat.ne_of_lt (Nat.lt_succ_of_lt (Heap.lt_size z))
      have kG : ∀ b o, hp.get? b = some o → G.get? b = some o := fun b o z => by rw [gk b (na z)]; exact k6 b o (na z) (kk b o z)
      have rel : ∀ y, RelO (List.lookup y [(f, v)]) (if y = f then some u else none) := fun y => relO_put (fs := []) (mA := fun _ => none) ru (fun g => True.intro) y
      have nG : G.Ns1 dx (fun y => if y = f then some u else none) := n6.at fun o z => (gk dx ne).trans z
      have J1 : Inv X pins σ (upd H1 dx (.xd [(f, v)])) ⟨G, g, dr, tk6, os⟩ := I1.laid (t' := tk6) (a := dx) (o := .xd [(f, v)]) (h' := G) kG ge1 ⟨_, nG, rel⟩
      have hd1 : H1 dx = none := I1.hok.fresh ge1
      have ha1 : H1 (hp.objs.size + 1) = none := I1.hok.fresh (Nat.le_succ _)
      refine ⟨hp.objs.size + 1, _, _, ⟨G, g, dr, tk6, os⟩, _, .ref C, some dx, rfl, J1, fun b o z => ?_, gn, e6, ⟨rfl, rfl⟩, rfl, rfl, by rw [upd_ne (Ne.symm ne)]; exact ha1, rfl, I1.bare, raises_own T.exC T.tyC, hq dx hd1⟩
      by_cases hb : b = hp.objs.size + 1
      · rw [hb] at z
        rw [show G.get? (hp.objs.size + 1) = none from gn] at z
        cases z
      · exact (gk b hb).symm.trans z
end
end DL

set_option maxHeartbeats 2000000
/-! DL30: what the text says of such a class, looked at by the kernel. -/
namespace DL
open PySem PySem.Spec PyProof.Rows L2
def xFile : Str := "/claim/cut.py"
def newOf : String → String
  | "IndexError" => "IndexError.__new__"
  | "OverflowError" => "OverflowError.__new__"
  | "ValueError" => "ValueError.__new__"
  | "KeyError" => "LookupError.__new__"
  | "ArithmeticError" => "ArithmeticError.__new__"
  | "LookupError" => "LookupError.__new__"
  | _ => ""
def iniOf : String → String
  | "IndexError" => "IndexError.__init__"
  | "OverflowError" => "OverflowError.__init__"
  | "ValueError" => "ValueError.__init__"
  | "KeyError" => "KeyError.__init__"
  | "ArithmeticError" => "ArithmeticError.__init__"
  | "LookupError" => "LookupError.__init__"
  | _ => ""
def bmOf : String → List Value
  | "IndexError" => [.type "IndexError", .type "LookupError", .type "Exception", .type "BaseException", .type "object"]
  | "OverflowError" => [.type "OverflowError", .type "ArithmeticError", .type "Exception", .type "BaseException", .type "object"]
  | "ValueError" => [.type "ValueError", .type "Exception", .type "BaseException", .type "object"]
  | "KeyError" => [.type "KeyError", .type "LookupError", .type "Exception", .type "BaseException", .type "object"]
  | "ArithmeticError" => [.type "ArithmeticError", .type "Exception", .type "BaseException", .type "object"]
  | "LookupError" => [.type "LookupError", .type "Exception", .type "BaseException", .type "object"]
  | _ => []
def bases : List String := ["IndexError", "OverflowError", "ValueError", "KeyError", "ArithmeticError", "LookupError"]
theorem ini_KeyError : IniX "KeyError" "KeyError.__init__" where
  plain := by decide +kernel
  entry := entryFor_alias (id' := "BaseException.__init__") (by rw [fastTable_eq_tree]; kernel_rfl) (by first | rfl | decide +kernel) (by decide +kernel) (by rw [fastTable_eq_tree]; kernel_rfl)
  kind := by kernel_rfl
  row := by kernel_rfl
  star := by decide +kernel
theorem new_KeyError : NewX "LookupError.__new__" [.type "KeyError", .type "LookupError", .type "Exception", .type "BaseException", .type "object"] := ⟨⟨_, _, _, F.excBase_LookupError, by decide +kernel⟩, by decide +kernel, by decide +kernel⟩
open PySem.W in
theorem kxs_KeyError : KxsFacts "KeyError" "KeyError.__init__" := ⟨by show builtinType _ = _; rw [builtinType_eq_fast]; kernel_rfl, by first | kernel_rfl | rfl⟩
open PySem.F in
theorem store_KeyError : StoreFacts "KeyError" [.type "KeyError", .type "LookupError", .type "Exception", .type "BaseException", .type "object"] "object.__setattr__" "object" where
  mro := by kernel_rfl
  slot := .of (owner := "object") (n := "__setattr__") (by rw [typeLookup_type, builtinLookup_eq_fast]; kernel_rfl) (by decide +kernel) (by decide +kernel) (by decide +kernel)
    (by first | exact .inl (by decide +kernel) | exact .inr (by decide +kernel)) (by rw [isSubtype_type]; kernel_rfl)
  entry := entry_object_sa
  kind := by decide +kernel
  split := by decide +kernel
  hasOwner := by decide +kernel
  args := fun a b c => by unfold argsOk; kernel_rfl
  passes := fun self => by kernel_rfl
theorem bas_ok {B : String} (h : B ∈ bases) : BasF B (newOf B) (iniOf B) (bmOf B) := by
  simp only [bases, List.mem_cons, List.not_mem_nil, or_false] at h
  rcases h with rfl | rfl | rfl | rfl | rfl | rfl
  · exact ⟨.of F.excBase_IndexError, .of F.excBase_IndexError.toExcCallFacts, PySem.W.kxs_IndexError, PySem.F.store_IndexError⟩
  · exact ⟨.of F.excBase_OverflowError, .of F.excBase_OverflowError.toExcCallFacts, PySem.W.kxs_OverflowError, PySem.F.store_OverflowError⟩
  · exact ⟨.of F.excBase_ValueError, .of F.excBase_ValueError.toExcCallFacts, PySem.W.kxs_ValueError, PySem.F.store_ValueError⟩
  · exact ⟨new_KeyError, ini_KeyError, kxs_KeyError, store_KeyError⟩
  · exact ⟨.of F.excBase_ArithmeticError, .of F.excBase_ArithmeticError.toExcCallFacts, PySem.W.kxs_ArithmeticError, PySem.F.store_ArithmeticError⟩
  · exact ⟨.of F.excBase_LookupError, .of F.excBase_LookupError.toExcCallFacts, PySem.W.kxs_LookupError, PySem.F.store_LookupError⟩
/-- own classes, then the built-in base's own row -/
def chB : List Value → List Value → Bool
  | [], bm => decide (([] : List Value) = bm)
  | v :: t, bm => match v with
    | .ref _ => chB t bm
    | _ => decide (v :: t = bm)
theorem chB_T : ∀ {bl bm : List Value}, chB bl bm = true → (∀ Y : String, bl.contains (.type Y) = bm.contains (.type Y)) ∧ ((∀ self : Value, refuseLoop self "__setattr__" bm = pure ()) → ∀ self : Value, refuseLoop self "__setattr__" bl = pure ())
  | [], bm, h => by unfold chB at h; rw [of_decide_eq_true h]; exact ⟨fun _ => rfl, fun q => q⟩
  | v :: t, bm, h => by
    unfold chB at h
    split at h
    · rename_i R
      obtain ⟨a, b⟩ := chB_T h
      refine ⟨fun Y => ?_, fun q self => ?_⟩
      · rw [List.contains_cons, a]; rfl
      · rw [refuseLoop_ref]; exact b q self
    · rw [of_decide_eq_true h]; exact ⟨fun _ => rfl, fun q => q⟩
/-- the class object -/
def supO (C : Addr) (bm : List Value) (newId : String) : Option Obj → Bool
  | some ⟨.type "type", _, .cls cd, sl⟩ => (match cd.mro, sl.toList with
    | .ref C' :: bm', [_, _, _, _, some (.builtin n), _] => decide (C' = C) && decide (n = newId) && !cd.hasDel && cd.hasDict && chB bm' bm
    | _, _ => false)
  | _ => false
theorem supO_ok {C : Addr} {bm : List Value} {newId : String} {o : Option Obj} (h : supO C bm newId o = true) : ∃ bl, chB bl bm = true ∧ ∃ nm q N bs sn sub ab col dd k0 k1 k2 k3 k5, o = some (excClassObj nm q C N bs bl true sn sub ab col dd k0 k1 k2 k3 k5 newId) := by
  unfold supO at h
  split at h
  · rename_i dd cd sl
    split at h
    · rename_i C' bm' k0 k1 k2 k3 n k5 hm hs
      simp only [Bool.and_eq_true, decide_eq_true_eq, Bool.not_eq_true'] at h
      obtain ⟨⟨⟨⟨rfl, rfl⟩, hdel⟩, hd⟩, hch⟩ := h
      obtain ⟨nm, bs, mro, ns, qn, hd', sn, sub, ab, col, del⟩ := cd
      dsimp only at hm hdel hd
      subst hm hdel hd
      have hsl : sl = #[k0, k1, k2, k3, some (.builtin n), k5] := by
        obtain ⟨l⟩ := sl
        simp only at hs
        rw [hs]
      subst hsl
      exact ⟨bm', hch, _, _, _, _, _, _, _, _, _, _, _, _, _, _, rfl⟩
    · cases h
  · cases h
/-- the code and the cell -/
def supCd (K : PySem.W.Frag) (cda : Addr) (qual : Str) : Bool := PySem.W.codeIn K (.ref cda) qual && (match K.lookup cda with
  | some ⟨_, _, .fields vs, _⟩ => (match (vs[2]? : Option Value) with
    | some (.str file _) => decide (file = xFile)
    | _ => false)
  | _ => false)
def supCe (K : PySem.W.Frag) (cc C : Addr) : Bool := match K.lookup cc with
  | some ⟨_, _, .cell (some (.ref D)), _⟩ => decide (D = C)
  | _ => false
def supSc (scope : Scope) (p0 p1 : Str) : Bool := decide (scope.names.lookup ("super" : Str) = some .globalImplicit) && (decide (scope.names.lookup ("__class__" : Str) = some .free) && (decide (scope.names.lookup p0 = some .local) && (decide (scope.names.lookup p1 = some .local) &&
  ((scope.names.all fun x => decide (x.2 ≠ .cell)) && (!scope.isCoroutine && (!scope.isGenerator && (decide (scope.kind = .function) && (decide (p0 ≠ p1) && (!(p0 == ("__debug__" : Str)) && !(p1 == ("__debug__" : Str)))))))))))
def supNm : List Str := ["given", "limit", "wanted", "line", "reason"]
/-- the def __init__ -/
def supF (K : PySem.W.Frag) (C : Addr) (f : Str) : Option Obj → Bool
  | some ⟨_, _, .func fd, _⟩ => (match fd with
    | ⟨_, qual, params, .stmts [.Expr (.Call (.Attribute (.Call (.Name s1 _) [] [] _) s2 q3) [je] [] q4) _, .Assign [.Attribute (.Name a0 _) f' _] (.Name a1 _) _], scope, glb, [(s3, cc)], .none, _, _, _, _, .ref cda, _, bl⟩ => (match params with
      | ⟨[], [⟨p0, none, _⟩, ⟨p1, none, _⟩], none, [], [], none, []⟩ => decide (s1 = ("super" : Str)) && (decide (s2 = ("__init__" : Str)) && (decide (s3 = ("__class__" : Str)) && (decide (f' = f) && (decide (a0 = p0) && (decide (a1 = p1) && (decide (glb = mainGlobals) && (decide (bl = builtinsNs) && ((q3.endLine == q4.line) &&
        (decide (p0 = ("self" : Str)) && (decide (p1 ∈ supNm) && (jeB p1 je && (supCd K cda qual && (supCe K cc C && supSc scope p0 p1)))))))))))))
      | _ => false)
    | _ => false)
  | _ => false
def supB (K : PySem.W.Frag) (C : Addr) (f : Str) (B : String) : Bool :=
  supO C (bmOf B) (newOf B) (K.lookup C) && (decide (B ∈ bases) && (decide (PySem.W.findIn K (.ref C) "__setattr__" = some (some (.builtin "object.__setattr__"))) && (decide (PySem.W.findIn K (.ref C) f = some none) && (decide (PySem.W.ks_superIn K C C "__init__" = some (some (.builtin (iniOf B)))) &&
  (decide (PySem.W.subIn K (.ref C) (.type B) = some true) && (decide (PySem.W.mroIn K C (.ref C) = some true) && (decide (PySem.W.nsIn K cStatics "thirdparty.any" = some none) && (decide (PySem.W.subIn K (.ref C) (.type "BaseException") = some true) && (decide (PySem.W.typeIn K (.ref C) = some (.type "type")) &&
  (PySem.W.keepIn K (.ref C) && (match PySem.W.findIn K (.ref C) "__init__" with
  | some (some (.ref fI)) => decide (PySem.W.typeIn K (.ref fI) = some (.type "function")) && supF K C f (K.lookup fI)
  | _ => false)))))))))))
theorem supF_ok {K : PySem.W.Frag} {P : Program} {C fI : Addr} {f : Str} (hf : ((P.main.file : Str) == xFile) = true) (ht : (P.main.scope.names.lookup ("super" : Str)).isSome = false) (h : supF K C f (K.lookup fI) = true) : ∃ scope p0 p1 je, SupI K P C fI scope f p0 p1 je ∧ jeB p1 je = true := by
  unfold supF at h
  split at h
  · rename_i oc od fd osl e
    split at h
    · rename_i nm qual s1 q1 q2 s2 q3 je q4 q5 a0 q6 f' q7 a1 q8 q9 scope glb s3 cc kV doc pm an cda ct bl
      split at h
      · rename_i p0 x0 p1 x1
        simp only [Bool.and_eq_true, decide_eq_true_eq] at h
        obtain ⟨rfl, rfl, rfl, rfl, rfl, rfl, rfl, rfl, hl, h0, h1, hj, hcd, hce, hsc⟩ := h
        unfold supCd at hcd
        rw [Bool.and_eq_true] at hcd
        obtain ⟨hc1, hc2⟩ := hcd
        unfold supCe at hce
        unfold supSc at hsc
        simp only [Bool.and_eq_true, decide_eq_true_eq, Bool.not_eq_true', List.all_eq_true] at hsc
        obtain ⟨k1, k2, k3, k4, k5, k6, k7, k8, k9, k10, k11⟩ := hsc
        split at hc2
        · rename_i c1 c2 vs c3 ec
          split at hc2
          · rename_i file tf ev
            have hc2 := of_decide_eq_true hc2
            subst hc2
            split at hce
            · rename_i d1 d2 D d3 ed
              have hce := of_decide_eq_true hce
              subst hce
              refine ⟨scope, a0, a1, je, ⟨⟨_, _, _, _, _, _, _, _, _, _, _, _, _, _, _, _, _, _, _, _, _, _, _, _, _, _, _, _, _, _, _, _, _, e, hc1, ec, ev, hf, ed, rfl, rfl, ?_, ?_, hl⟩, ht, k1, k2, k3, k4, k5, k6, k7, k8, k9, k10, k11⟩, hj⟩
              · intro a b
                subst h0
                simp only [supNm, List.mem_cons, List.not_mem_nil, or_false] at h1
                rcases h1 with rfl | rfl | rfl | rfl | rfl <;> rfl
              · intro env
                unfold jeB at hj
                split at hj <;> first | rfl | cases hj
            · cases hce
          · cases hc2
        · cases hc2
      · cases h
    · cases h
  · cases h
theorem supB_ok {K : PySem.W.Frag} {P : Program} {C : Addr} {f : Str} {B : String} (hf : ((P.main.file : Str) == xFile) = true) (ht : (P.main.scope.names.lookup ("super" : Str)).isSome = false) (h : supB K C f B = true) : SupG K P C f := by
  unfold supB at h
  simp only [Bool.and_eq_true, decide_eq_true_eq] at h
  obtain ⟨h1, h2, h3, h4, h5, h6, h7, h8, h9, h10, h11, h12⟩ := h
  split at h12
  · rename_i fI e
    rw [Bool.and_eq_true, decide_eq_true_eq] at h12
    obtain ⟨scope, p0, p1, je, J, hj⟩ := supF_ok hf ht h12.2
    obtain ⟨bl, hc, h1⟩ := supO_ok h1
    have BO := bas_ok h2
    obtain ⟨hT, hp⟩ := chB_T hc
    exact ⟨⟨B, _, _, _, bl, fI, scope, p0, p1, je, BO, ⟨hT, hp BO.sf.passes, (hT "object").trans BO.sf.hasOwner, h1, h3, e, h12.1, h4, h5, h6, h7, h8⟩, J, hj⟩, h9, h10, h11⟩
  · cases h12
end DL

/-! DL31: several except clauses, some of them with a name. -/
namespace DL
open PySem PySem.Spec PyProof.Rows L2
abbrev ClT : Type := Value × Option Nat × (Addr → Value → Option Addr → TS)
/-- the ends of a suite whose clause binds the slot i -/
def endsAs (D : Ends) : Option Nat → Ends
  | none => D
  | some i => { nx := fun σ H => D.nx (σ.set i none) H, rt := D.rt, bk := fun σ H => D.bk (σ.set i none) H, ct := fun σ H => D.ct (σ.set i none) H }
def bindAs (σ : L2.St) (a : Addr) : Option Nat → L2.St
  | none => σ
  | some i => σ.set i (some (.ref a))
/-- what clauses wish of an exception, from the first on -/
def wMix (K : PySem.W.Frag) (Wout : WX) (D : Ends) : List ClT → WX
  | [], cls, d, σ, H => Wout cls d σ H
  | p :: r, cls, d, σ, H => ∃ hit, PySem.W.exmOne K cls p.1 = some hit ∧ (if hit = true then ∀ a, H a = none → p.2.2 a cls d (endsAs D p.2.1) (bindAs σ a p.2.1) H else wMix K Wout D r cls d σ H)
/-- a name of a clause: none, or a local one -/
def NmOk (X : Cx) : Option Str → Option Nat → Prop
  | none, none => True
  | some n, some i => X.N[i]? = some n ∧ X.env.scope.names.lookup n = some .local
  | _, _ => False
inductive HdsM (X : Cx) : List ExceptHandler → List ClT → Prop
  | nil : HdsM X [] []
  | cons {x : Str} {nm : Option Str} {i : Option Nat} {c : Value} {ts : Addr → Value → Option Addr → TS} {st : Stmt} {sts : List Stmt} {p1 p2 : Pos} {hs : List ExceptHandler} {l : List ClT} (hc : Names X x c) (hn : NmOk X nm i)
      (su : ∀ (a : Addr) (oe : Obj) (cls : Value) (d : Option Addr) (pn : List (Addr × Obj)), Zc cls d oe → (∃ vs, oe.data = .fields vs) → PSs (X.suite a ((a, oe) :: pn)) (st :: sts) (ts a cls d)) (r : HdsM X hs l) :
      HdsM X (.ExceptHandler (some (.Name x p1)) nm (st :: sts) p2 :: hs) ((c, i, ts) :: l)
/-- an exception that stands at the clauses of a try -/
structure Gr (X : Cx) (pins : List (Addr × Obj)) (B : Heap) (a : Addr) (cls : Value) (d : Option Addr) (σ : L2.St) (H : Hp) (sI s : Shared) : Prop where
  inv : Inv X pins σ H sI
  nb : ∀ b o, sI.heap.get? b = some o → b ∉ frs X.stack → B.get? b = some o
  up : sI.heap.UpToSlots s.heap
  fl : HandSPX.FlyingZ B (X.env :: X.outer) a (Zc cls d) s.heap
  na : H a = none
  os : s.os = sI.os
  ag : AllBare s.gens
section
variable {X : Cx} {pins : List (Addr × Obj)} {B : Heap} {a : Addr} {cls : Value} {d : Option Addr} {σ : L2.St} {H : Hp} {sI s : Shared}
theorem Gr.go (G : Gr X pins B a cls d σ H sI s) {h : Heap} (f : HandSPX.FlyingZ B (X.env :: X.outer) a (Zc cls d) h) (u : s.heap.UpToSlots h) : Gr X pins B a cls d σ H sI { s with heap := h } := ⟨G.inv, G.nb, G.up.trans u, f, G.na, G.os, G.ag⟩
theorem Gr.here (G : Gr X pins B a cls d σ H sI s) : Inv X pins σ H s := G.inv.landed G.nb G.fl.1 G.up G.os G.ag
theorem Gr.obj (G : Gr X pins B a cls d σ H sI s) : ∃ oe vs, s.heap.get? a = some oe ∧ Zc cls d oe ∧ oe.data = .fields vs := G.fl.there
theorem Gr.notIn (G : Gr X pins B a cls d σ H sI s) : a ∉ frs (X.env :: X.outer) := fun hm => by
  obtain ⟨oe, vs, he, _, hd⟩ := G.obj
  obtain ⟨_, o, ho, hn⟩ := G.fl.2.2.1.mem hm
  rw [he] at ho
  cases ho
  exact hn _ hd
theorem Gr.inSuite (G : Gr X pins B a cls d σ H sI s) (hf : X.env.frame = some X.env.locals) : ∃ oe, Zc cls d oe ∧ (∃ vs, oe.data = .fields vs) ∧ s.heap.get? a = some oe ∧ Inv (X.suite a ((a, oe) :: (X.pn ++ pins))) [] σ H s := by
  obtain ⟨oe, vs, he, hz, hd⟩ := G.obj
  have n1 : a ≠ X.env.locals := fun z => G.notIn (List.mem_filterMap.mpr ⟨X.env, List.mem_cons_self, by rw [hf, z]⟩)
  have n2 : a ∉ X.fs := fun hm => by
    obtain ⟨e, h1, h2⟩ := List.mem_filterMap.mp hm
    exact G.notIn (List.mem_filterMap.mpr ⟨e, List.mem_cons_of_mem _ h1, h2⟩)
  exact ⟨oe, hz, ⟨vs, hd⟩, he, G.here.suite he hd G.na n1 n2⟩
/-- no clause takes it -/
theorem Gr.on (G : Gr X pins B a cls d σ H sI s) {Wout : WX} {D : Ends} (hs : X.stack = X.env :: X.outer) (hf : X.env.frame = some X.env.locals) (tk : Takes X Wout) (w : Wout cls d σ H) :
    wpAny (model X.prog X.w) X.A (handleBy (.ref a) X.env []) (SP X pins D) X.xe s := by
  refine wpAny_handleBy_nil ?_
  obtain ⟨_, _, _, oe, vs, T, oT, ts', he, hz, hd, h1, _⟩ := id G.fl
  have last : wpAny (model X.prog X.w) X.A (setFlight (.ref a) X.env.frame) (fun _ s4 => wpAny (model X.prog X.w) X.A (throw (.ref a) : Sem Flow) (SP X pins D) X.xe s4) X.xe s := by
    rw [hf]
    exact HandSPX.setFlight_upZ G.fl fun h4 hh4 up4 => wpAny_throw (tk _ _ ⟨a, B, sI, pins, σ, H, cls, d, rfl, G.inv, G.nb, G.up.trans up4, .inr (.inr (by rw [hs]; exact hh4)), G.na, G.os, G.ag, w⟩)
  unfold PySem.passOn
  refine wpAny_bind (wpAny_field he hd h1 ?_)
  rw [if_neg (by simp)]
  first
    | exact wpAny_bind (wpAny_pure (wpAny_bind last))
    | exact wpAny_bind last
theorem Gr.name (G : Gr X pins B a cls d σ H sI s) (hf : X.env.frame = some X.env.locals) {x : Str} {c : Value} {p : Pos} {Q : Value → Shared → Prop} {E : Value → Shared → Prop} (hc : Names X x c) (q : Q c s) :
    wpAny (model X.prog X.w) (X.A.mark (some (.ref a))) (eval (.Name x p) X.env) Q E s := by
  obtain ⟨oe, _, _, _, J⟩ := G.inSuite hf
  obtain ⟨hg, hdb, hm | ⟨hm, hv, hn⟩⟩ := hc
  · exact ld_glob (X := X.suite a ((a, oe) :: (X.pn ++ pins))) J hg hm q hdb
  · exact ld_blt (X := X.suite a ((a, oe) :: (X.pn ++ pins))) J hg hm hv q hn hdb
/-- the clauses, one behind the other -/
theorem clauses {Wout : WX} {D : Ends} (ok : X.Ok) (hs : X.stack = X.env :: X.outer) (hf : X.env.frame = some X.env.locals) (hN : X.N.Nodup) (tk : Takes X Wout) {hds : List ExceptHandler} {l : List ClT} (hk : HdsM X hds l) :
    ∀ {s : Shared}, Gr X pins B a cls d σ H sI s → wMix X.K Wout D l cls d σ H → wpAny (model X.prog X.w) X.A (handleBy (.ref a) X.env hds) (SP X pins D) X.xe s := by
  induction hk with
  | nil => exact fun G w => G.on hs hf tk w
  | @cons x nm i c ts st sts p1 p2 hds l hc hn su r ih =>
    intro s G w
    obtain ⟨hit, h1, w⟩ := w
    obtain ⟨oe, hz, _, he, _⟩ := G.inSuite hf
    refine wpAny_handleBy_cons (codeAny_handlers_test (G.name hf hc ?_)) (by intro q; cases q)
    have ty : PySem.W.Looks (model X.prog X.w) s.heap (typeOf (.ref a)) cls := fun A Q E s' k q => wpAny_typeOf_ref (k _ _ he) (by rw [hz.1]; exact q)
    refine (PySem.W.exm_one G.here.kIn ty h1).here ?_
    cases hit with
    | false => exact ih G w
    | true =>
      have w : ∀ a, H a = none → ts a cls d (endsAs D i) (bindAs σ a i) H := w
      cases nm with
      | none =>
        cases i with
        | some i => exact hn.elim
        | none =>
          refine codeAny_handlers_suite (HandSPX.lands_againZ G.fl fun h4 fl4 up4 => ?_)
          obtain ⟨oe4, hz4, hv4, _, J4⟩ := (G.go fl4 up4).inSuite hf
          refine wpAny_mono ((su a oe4 cls d (X.pn ++ pins) hz4 hv4).run [] _ _ H _ J4 (w a G.na)) (fun fw s6 q => ?_) (fun _ _ z => z.elim)
          cases fw with
          | ret u => exact let ⟨v, σ6, H6, J, rv, q⟩ := q; ⟨v, _, _, J.unsuite ok, rv, q⟩
          | _ => exact let ⟨σ6, H6, J, q⟩ := q; ⟨_, _, J.unsuite ok, q⟩
      | some n =>
        cases i with
        | none => exact hn.elim
        | some i =>
          obtain ⟨hi, hl⟩ := hn
          refine codeAny_handlers_suite_as (HandSPX.lands_againZ G.fl fun h4 fl4 up4 => ?_)
          obtain ⟨oe4, hz4, hv4, _, J4⟩ := (G.go fl4 up4).inSuite hf
          refine store_ok (X := X.suite a ((a, oe4) :: (X.pn ++ pins))) (v := .ref a) J4 hN hi (.inl hl) rfl (fun s5 J5 => ?_) (.inr hl)
          refine wpAny_mono ((su a oe4 cls d (X.pn ++ pins) hz4 hv4).run [] s5 _ H _ J5 (w a G.na)) (fun fw s6 q => ?_) (fun _ _ z => z.elim)
          have gone : ∀ {σ6 : L2.St} {H6 : Hp} {Q : Shared → Prop}, Inv (X.suite a ((a, oe4) :: (X.pn ++ pins))) [] σ6 H6 s6 → (∀ s7, Inv X pins (σ6.set i none) H6 s7 → Q s7) →
              wpAny (model X.prog X.w) X.A (do bindName X.env n .none; unbindBehindTheSuite X.env n p2) (fun _ s7 => Q s7) X.xe s6 := fun J q => gone_ok (J.unsuite ok) hN hi hl q
          cases fw with
          | ret u => exact let ⟨v, σ6, H6, J, rv, q⟩ := q; gone J fun s7 J7 => ⟨v, _, _, J7, rv, q⟩
          | next => exact let ⟨σ6, H6, J, q⟩ := q; gone J fun s7 J7 => ⟨_, _, J7, q⟩
          | brk => exact let ⟨σ6, H6, J, q⟩ := q; gone J fun s7 J7 => ⟨_, _, J7, q⟩
          | cont => exact let ⟨σ6, H6, J, q⟩ := q; gone J fun s7 J7 => ⟨_, _, J7, q⟩
end
theorem ps_try_mix {X : Cx} {body : List Stmt} {h₀ : ExceptHandler} {hds : List ExceptHandler} {l : List ClT} {pos : Pos} {tb : WX → TS} {Wout : WX} (hs : X.stack = X.env :: X.outer) (hf : X.env.frame = some X.env.locals) (hN : X.N.Nodup) (tk : Takes X Wout)
    (hb : ∀ (W : WX) (pn : List (Addr × Obj)) (xe : Value → Shared → Prop), Takes (X.tr pn xe) W → PassesOwn (model X.prog X.w) X.A X.env xe → PSs (X.tr pn xe) body (tb W)) (hh : HdsM X (h₀ :: hds) l) :
    PS X (.Try body (h₀ :: hds) [] [] pos) (fun D σ H => tb (wMix X.K Wout D l) D σ H) := by
  refine ⟨fun pins s σ H D I h => wpAny_Try_except ?_⟩
  have ok := I.ok
  have fr : X.A.frames = some (X.env :: X.outer) := by rw [ok.frames, hs]
  refine wpAny_mono ((hb (wMix X.K Wout D l) (X.pn ++ pins) _ (fun u s' x => ?_) PassesOwn.looking).run [] s σ H D (I.toTry _) h) (fun fw s1 q => ?_) (fun e s1 q => q)
  · obtain ⟨a, B, sI, pins', σ', H', cls, d, rfl, J', nb, up, sky, na, os, ag, w⟩ := x
    have J : Inv X pins σ' H' sI := J'.ofTry ok
    have sky : Sky B (X.env :: X.outer) a (Zc cls d) X.env.locals s'.heap := by rw [← hs]; exact sky
    exact Sky.land Zc.steady fr hf sky fun h3 fl3 up3 => clauses (pins := pins) ok hs hf hN tk hh ⟨J, nb, up.trans up3, fl3, na, os, ag⟩ w
  · cases fw with
    | ret u => exact let ⟨v, σ', H', J, r, q⟩ := q; ⟨v, σ', H', J.ofTry ok, r, q⟩
    | next => exact let ⟨σ', H', J, q⟩ := q; wpAny_execs_nil ⟨σ', H', J.ofTry ok, q⟩
    | brk => exact let ⟨σ', H', J, q⟩ := q; ⟨σ', H', J.ofTry ok, q⟩
    | cont => exact let ⟨σ', H', J, q⟩ := q; ⟨σ', H', J.ofTry ok, q⟩
end DL

set_option maxHeartbeats 1000000
/-! DL32: a def that calls what it is handed, and turns errors into values. -/
namespace DL
open PySem PySem.Spec PyProof.Rows L2
/-- written values that a clause may return -/
def cst0 : D → Expr → Bool
  | .int i, .Constant (.int j) _ _ => decide (i = j)
  | .bl i, .Constant (.bool j) _ _ => decide (i = j)
  | .str i, .Constant (.str j) _ _ => decide (i = j)
  | .non, .Constant .none _ _ => true
  | _, _ => false
theorem cst0_ok {d : D} {x : Expr} (h : cst0 d x = true) : ∃ v : V, (∀ X : Cx, PE X x (tC v)) ∧ ∀ (K : PySem.W.Frag) (O : Ow) (H : Hp), Rp K O H v d := by
  unfold cst0 at h
  split at h
  · have e := of_decide_eq_true h; subst e; exact ⟨_, fun X => pe_int, fun _ _ _ => .int _⟩
  · have e := of_decide_eq_true h; subst e; exact ⟨_, fun X => pe_bl, fun _ _ _ => .bl _⟩
  · have e := of_decide_eq_true h; subst e; exact ⟨_, fun X => pe_str, fun _ _ _ => .str _⟩
  · exact ⟨_, fun X => pe_non, fun _ _ _ => .non⟩
  · cases h
/-- a written value stands for a datum, in any heap -/
def RpC (v : V) (d : D) : Prop := ∀ (K : PySem.W.Frag) (O : Ow) (H : Hp), Rp K O H v d
/-- what a clause makes of an error with the dict d -/
def hcT (K : PySem.W.Frag) (hc : HC) (d : Option Addr) (H : Hp) (Q : VK) : Prop := match hc with
  | .cst c => ∀ v, RpC v c → Q v H
  | .rep pre f => ∃ dd fs v p, d = some dd ∧ H dd = some (.xd fs) ∧ fs.lookup f = some v ∧ Dp K H v p ∧ shB p = true ∧ pre.length + p.shown.length ≤ sizeLine ∧ Q (.str (pre ++ p.shown)) H
  | .ifI f n a b => ∃ dd fs m, d = some dd ∧ H dd = some (.xd fs) ∧ fs.lookup f = some (.int m) ∧ ∀ v, RpC v (if m = n then a else b) → Q v H
def hcF : HC → Option Str
  | .cst _ => none
  | .rep _ f => some f
  | .ifI f _ _ _ => some f
/-- what the clauses make of it -/
def mW (K : PySem.W.Frag) (xc : List String) : List (Nat × HC) → Value → Option Addr → Hp → VK → Prop
  | [], _, _, _, _ => False
  | p :: r, cls, d, H, Q => ∃ n hit, xc[p.1]? = some n ∧ PySem.W.exmOne K cls (.ref (He.ga K n)) = some hit ∧ (if hit = true then ((hcF p.2).isSome = true → cls = .ref (He.ga K n)) ∧ hcT K p.2 d H Q else mW K xc r cls d H Q)
def xcL (xc : List String) (k : Nat) (x : Str) : Bool := match xc[k]? with
  | some n => decide ((n : Str) = x) && !(xc.contains "SeriesError")
  | none => false
def xfL (xc : List String) (k : Nat) (f : Str) : Bool := match xc[k]? with
  | some n => (match xsup n with
    | some p => decide (p.1 = f)
    | none => false)
  | none => false
def gloS (sg : Scope) (x : Str) : Bool := decide (sg.names.lookup x = some .globalImplicit) && !(x == ("__debug__" : Str))
def errC (N : List Str) (sg : Scope) (xc : List String) (k : Nat) (f : Str) (nm : Option Str) : Expr → Bool
  | .Attribute (.Name n' _) f' _ => (match nm with
    | some n => decide (n' = n) && (decide (f' = f) && (decide (N[1]? = some n) && (decide (sg.names.lookup n = some .local) && (xfL xc k f && (!(n == ("__debug__" : Str)) && !(n == ("__classdict__" : Str)))))))
    | none => false)
  | _ => false
def clB (xc : List String) (N : List Str) (sg : Scope) (p : Nat × HC) : ExceptHandler → Bool
  | .ExceptHandler (some (.Name x _)) nm [.Return (some ex) _] _ => gloS sg x && (xcL xc p.1 x && (match p.2 with
    | .cst c => (match nm with | none => true | some _ => false) && cst0 c ex
    | .rep pre f => (match ex with
      | .BinOp (.Constant (.str s) _ _) .Add (.Call (.Name r _) [e] [] _) _ => decide (s = pre) && (decide (r = ("repr" : Str)) && (gloS sg r && errC N sg xc p.1 f nm e))
      | _ => false)
    | .ifI f k a b => (match ex with
      | .IfExp (.Compare e [.Eq] [.Constant (.int k') _ _] _) ea eb _ => decide (k' = k) && (errC N sg xc p.1 f nm e && (cst0 a ea && cst0 b eb))
      | _ => false)))
  | _ => false
def mclsB (xc : List String) (N : List Str) (sg : Scope) : List (Nat × HC) → List ExceptHandler → Bool
  | [], hds => (match hds with | [] => true | _ => false)
  | p :: r, hds => (match hds with | h :: hds => clB xc N sg p h && mclsB xc N sg r hds | [] => false)
/-- the def's body -/
def metB (xc : List String) (N : List Str) (sg : Scope) (a : Str) (hs : List (Nat × HC)) (fin : Option D) : List Stmt → Bool
  | [.Try [.Expr (.Call (.Name x _) [] [] _) _] (h :: hds) [] [] _, .Return (some ex) _] => decide (x = a) && (mclsB xc N sg hs (h :: hds) && (match fin with | some c => cst0 c ex | none => false))
  | [.Try [.Return (some (.Call (.Name x _) [] [] _)) _] (h :: hds) [] [] _] => decide (x = a) && (mclsB xc N sg hs (h :: hds) && (match fin with | some _ => false | none => true))
  | _ => false
/-- what the def makes of a call's reading -/
def TTm (K : PySem.W.Frag) (xc : List String) (hs : List (Nat × HC)) (fin : Option D) : (XK → Hp → VK → Prop) → Hp → VK → Prop := fun tl H Q => match fin with
  | none => tl (fun cls d H' => mW K xc hs cls d H' Q) H Q
  | some c => ∀ v, RpC v c → tl (fun cls d H' => mW K xc hs cls d H' Q) H fun _ H' => Q v H'
/-- the slots are as many as the names -/
theorem pss_len {X : Cx} {st : List Stmt} {t : TS} (h : PSs X st t) : PSs X st fun D σ H => σ.length = X.N.length → t D σ H := ⟨fun pins s σ H D I q => h.run pins s σ H D I (q I.len)⟩
/-- what is asked of the classes -/
structure MetX (X : Cx) (xc : List String) : Prop where
  mg : ∀ n ∈ xc, X.mg n = some (.ref (He.ga X.K n))
  xf : ∀ n ∈ xc, ∀ p, xsup n = some p → XfC X.K (He.ga X.K n) ∧ PySem.W.findIn X.K (.ref (He.ga X.K n)) p.1 = some none
  rp : X.mg "repr" = none
  gd : X.A.guards = some []
  un : X.A.units + 60 < cLine
section
variable {X : Cx} {xc : List String} {N : List Str} {sg : Scope} {hs : List (Nat × HC)}
theorem gloS_ok {x : Str} (h : gloS sg x = true) : sg.names.lookup x = some .globalImplicit ∧ (x == ("__debug__" : Str)) = false := by
  unfold gloS at h
  simpa using h
theorem xcL_ok {k : Nat} {x : Str} (h : xcL xc k x = true) : ∃ n : String, xc[k]? = some n ∧ (n : Str) = x := by
  unfold xcL at h
  split at h
  · rename_i n e; rw [Bool.and_eq_true] at h; exact ⟨n, e, of_decide_eq_true h.1⟩
  · cases h
theorem xcL_ser {k : Nat} {x : Str} (h : xcL xc k x = true) : xc.contains "SeriesError" = false := by
  unfold xcL at h
  split at h
  · rw [Bool.and_eq_true, Bool.not_eq_true'] at h; exact h.2
  · cases h
/-- err.f in a clause -/
theorem err_ok (M : MetX X xc) (hN : X.N = N) (hsc : X.env.scope = sg) {k : Nat} {f : Str} {nm : Option Str} {e : Expr} {n : String} (hn : xc[k]? = some n) (h : errC N sg xc k f nm e = true) {a : Addr} {oe : Obj} {cls : Value} {d : Option Addr} {pn : List (Addr × Obj)} (hz : Zc cls d oe) (hv : ∃ vs, oe.data = .fields vs) :
    (∃ m, nm = some m ∧ NmOk X nm (some 1)) ∧ PE (X.suite a ((a, oe) :: pn)) e (tXf a cls d (He.ga X.K n) f (tVar 1)) := by
  unfold errC at h
  split at h
  · rename_i n' p f' pos
    split at h
    · rename_i m
      simp only [Bool.and_eq_true, decide_eq_true_eq, Bool.not_eq_true'] at h
      obtain ⟨rfl, rfl, h3, h4, h5, h6, h7⟩ := h
      unfold xfL at h5
      rw [hn] at h5
      simp only at h5
      split at h5
      · rename_i p' e5
        have h5 := of_decide_eq_true h5
        subst h5
        obtain ⟨xf, nf⟩ := M.xf n (List.mem_of_getElem? hn) _ e5
        have hl : X.env.scope.names.lookup n' = some .local := by rw [hsc]; exact h4
        refine ⟨⟨n', rfl, by rw [hN]; exact h3, hl⟩, pe_xf xf nf hz hv ?_⟩
        exact pe_var (X := X.suite a ((a, oe) :: pn)) (i := 1) (by show X.N[1]? = _; rw [hN]; exact h3) (.inl hl) h6 h7
      · cases h5
    · cases h
  · cases h
theorem err_star {k : Nat} {f : Str} {nm : Option Str} {e : Expr} (h : errC N sg xc k f nm e = true) (env : PySem.Env) : starEach [e] env = (false, eval e env) :: starEach [] env := by
  unfold errC at h
  split at h
  · rfl
  · cases h
theorem set_at {σ : L2.St} {i : Nat} {v : Option V} (h : i < σ.length) : (σ.set i v)[i]? = some v := by simp [h]
theorem cl_ok (M : MetX X xc) (hN : X.N = N) (hsc : X.env.scope = sg) (h2 : 1 < N.length) : ∀ (hs : List (Nat × HC)) {hds : List ExceptHandler}, mclsB xc N sg hs hds = true → ∃ l, HdsM X hds l ∧ ∀ (D : Ends) (cls : Value) (d : Option Addr) (σ : L2.St) (H : Hp) (Q : VK), D.rt = Q → mW X.K xc hs cls d H Q → wMix X.K (fun _ _ _ _ => False) D l cls d σ H := by
  intro hs
  induction hs with
  | nil =>
    intro hds h
    unfold mclsB at h
    split at h
    · exact ⟨[], .nil, fun D cls d σ H Q e w => w⟩
    · cases h
  | cons q r ih =>
    intro hds h
    unfold mclsB at h
    split at h
    · rename_i hd hds
      rw [Bool.and_eq_true] at h
      obtain ⟨l, hl, hw⟩ := ih h.2
      have hc := h.1
      unfold clB at hc
      split at hc
      · rename_i x p1 nm ex p2 p3
        simp only [Bool.and_eq_true] at hc
        obtain ⟨hg, hx, hb⟩ := hc
        obtain ⟨hg1, hg2⟩ := gloS_ok hg
        obtain ⟨n, hn, en⟩ := xcL_ok hx
        subst en
        have nms : Names X n (.ref (He.ga X.K n)) := ⟨by show X.env.scope.names.lookup _ = _; rw [hsc]; exact hg1, hg2, .inl (M.mg n (List.mem_of_getElem? hn))⟩
        have fin : ∀ {i : Option Nat} {ts : Addr → Value → Option Addr → TS}, NmOk X nm i →
            (∀ (a : Addr) (oe : Obj) (cls : Value) (d : Option Addr) (pn : List (Addr × Obj)), Zc cls d oe → (∃ vs, oe.data = .fields vs) → PSs (X.suite a ((a, oe) :: pn)) [.Return (some ex) p2] (ts a cls d)) →
            (∀ (D : Ends) (cls : Value) (d : Option Addr) (σ : L2.St) (H : Hp) (Q : VK) (a : Addr), D.rt = Q → ((hcF q.2).isSome = true → cls = .ref (He.ga X.K n)) → hcT X.K q.2 d H Q → ts a cls d (endsAs D i) (bindAs σ a i) H) →
            ∃ l, HdsM X (.ExceptHandler (some (.Name n p1)) nm [.Return (some ex) p2] p3 :: hds) l ∧ ∀ (D : Ends) (cls : Value) (d : Option Addr) (σ : L2.St) (H : Hp) (Q : VK), D.rt = Q → mW X.K xc (q :: r) cls d H Q → wMix X.K (fun _ _ _ _ => False) D l cls d σ H := fun {i ts} hi su k => by
          refine ⟨(.ref (He.ga X.K n), i, ts) :: l, .cons nms hi su hl, fun D cls d σ H Q e w => ?_⟩
          obtain ⟨n', hit, g1, g2, w⟩ := w
          rw [hn] at g1
          cases g1
          refine ⟨hit, g2, ?_⟩
          cases hit with
          | true => exact fun a _ => k D cls d σ H Q a e w.1 w.2
          | false => exact hw D cls d σ H Q e w
        have rtA : ∀ (D : Ends) (i : Option Nat), (endsAs D i).rt = D.rt := fun D i => by cases i <;> rfl
        split at hb
        · rename_i c ec
          rw [Bool.and_eq_true] at hb
          obtain ⟨hb1, hb⟩ := hb
          cases nm with
          | some _ => cases hb1
          | none =>
            obtain ⟨v, pv', rv⟩ := cst0_ok hb
            refine fin (i := none) (ts := fun _ _ _ => tRet (tC v)) trivial (fun a oe cls d pn _ _ => pss_one (ps_ret (pv' _))) fun D cls d σ H Q a e _ w => ?_
            rw [ec] at w
            show D.rt v H
            rw [e]
            exact w v rv
        · rename_i pre f ec
          split at hb
          · rename_i s0 _ _ rn _ e0 _ _
            simp only [Bool.and_eq_true, decide_eq_true_eq] at hb
            obtain ⟨rfl, rfl, hr, he⟩ := hb
            obtain ⟨hr1, hr2⟩ := gloS_ok hr
            obtain ⟨m0, hm0, hnm⟩ : ∃ m, nm = some m ∧ NmOk X nm (some 1) := (err_ok (a := 0) (oe := { cls := .none, data := .fields #[] }) (cls := .none) (d := none) (pn := []) M hN hsc hn he ⟨rfl, rfl⟩ ⟨_, rfl⟩).1
            refine fin (i := some 1) (ts := fun a cls d D σ H => σ.length = X.N.length → tRet (tOp (fun x y H Q => ∃ i j, x = .str i ∧ y = .str j ∧ i.length + j.length ≤ sizeLine ∧ Q (.str (i ++ j)) H) (tC (.str s0)) (tCB (fun xs H Q => ∃ v p, xs = [v] ∧ Dp X.K H v p ∧ shB p = true ∧ Q (.str p.shown) H) (tCons (tXf a cls d (He.ga X.K n) f (tVar 1)) tNil))) D σ H) hnm (fun a oe cls d pn hz hv => ?_) fun D cls d σ H Q a e hcl w => ?_
            · obtain ⟨_, pe⟩ := err_ok (pn := pn) M hN hsc hn he hz hv
              refine pss_len (pss_one (ps_ret (pe_op op_add_str pe_str (pe_callB (call_repr_any (X := X.suite a ((a, oe) :: pn)) M.gd (by have := M.un; show X.A.units + 40 < cLine; omega)) (by show X.env.scope.names.lookup _ = _; rw [hsc]; exact hr1) M.rp boot_repr (pa_cons pe pa_nil (err_star he _)) (by decide) (by decide) (err_star he _) rfl))))
            · intro hlen
              rw [ec] at w hcl
              obtain ⟨dd, fs, v, p, ed, hd, hf, hdp, hsb, hz, q⟩ := w
              show tXf a cls d (He.ga X.K n) f (tVar 1) (σ.set 1 (some (.ref a))) H _
              refine ⟨.ref a, set_at ?_, rfl, hcl rfl, dd, fs, v, ed, hd, hf, v, p, rfl, hdp, hsb, _, _, rfl, rfl, hz, ?_⟩
              · have : (σ.set 1 (some (V.ref a))).length = X.N.length := hlen
                rw [List.length_set] at this
                rw [this, hN]; exact h2
              · rw [rtA, e]; exact q
          · cases hb
        · rename_i f k a0 b0 ec
          split at hb
          · rename_i e0 k' j0 p0 p00 ea eb pos
            simp only [Bool.and_eq_true, decide_eq_true_eq] at hb
            obtain ⟨rfl, he, ha, hb⟩ := hb
            obtain ⟨va, pva, rva⟩ := cst0_ok ha
            obtain ⟨vb, pvb, rvb⟩ := cst0_ok hb
            obtain ⟨m0, hm0, hnm⟩ : ∃ m, nm = some m ∧ NmOk X nm (some 1) := (err_ok (a := 0) (oe := { cls := .none, data := .fields #[] }) (cls := .none) (d := none) (pn := []) M hN hsc hn he ⟨rfl, rfl⟩ ⟨_, rfl⟩).1
            refine fin (i := some 1) (ts := fun a cls d D σ H => σ.length = X.N.length → tRet (tIf (tB (tEqI (tXf a cls d (He.ga X.K n) f (tVar 1)) (tC (.int k')))) (tC va) (tC vb)) D σ H) hnm (fun a oe cls d pn hz hv => ?_) fun D cls d σ H Q a e hcl w => ?_
            · obtain ⟨_, pe⟩ := err_ok (pn := pn) M hN hsc hn he hz hv
              exact pss_len (pss_one (ps_ret (pe_ifExp (pt_cmp (pc_eqI pe pe_int)) (pva _) (pvb _))))
            · intro hlen
              rw [ec] at w hcl
              obtain ⟨dd, fs, m, ed, hd, hf, q⟩ := w
              refine ⟨.ref a, set_at ?_, rfl, hcl rfl, dd, fs, .int m, ed, hd, hf, ?_⟩
              · have : (σ.set 1 (some (V.ref a))).length = X.N.length := hlen
                rw [List.length_set] at this
                rw [this, hN]; exact h2
              · refine ⟨m, k', rfl, rfl, _, rfl, ?_⟩
                rw [rtA, e]
                by_cases hm : m = k'
                · subst hm
                  rw [if_pos rfl] at q
                  simp only [beq_self_eq_true, decide_true, if_true]
                  exact q va rva
                · rw [if_neg hm] at q
                  have hm2 : (m == k') = false := by simpa using hm
                  simp only [hm2, hm, decide_false, Bool.false_eq_true, if_false]
                  exact q vb rvb
          · cases hb
      · cases hc
    · cases h
end
/-- what the def with this body makes of a call that is handed to it -/
theorem met_gives {X : Cx} {xc : List String} {N : List Str} {sg : Scope} {hs : List (Nat × HC)} {fin : Option D} {bg : List Stmt} {a x q : Str} {g : Addr} {cdv : Value} (hun : X.A.units + 100 < cLine) (M : MetX X xc) (S : FnScope N [a] sg) (h2 : 1 < N.length) (hB : metB xc N sg a hs fin bg = true) :
    LamX.GivesTo X N x sg g cdv bg a q (TTm X.K xc hs fin) := by
  intro f c' s H Q tl act hc h
  have start0 : (L2.start N [V.ref f])[0]? = some (some (V.ref f)) := rfl
  have M' : MetX (cxOf C8.CX0 X.prog X.w X.K X.mg X.base N x sg g cdv X.A X.stack s H C8.E0).nox xc := ⟨M.mg, M.xf, M.rp, M.gd, by have := hun; show X.A.units + 3 + 60 < cLine; omega⟩
  unfold metB at hB
  split at hB
  · rename_i x' p1 p2 p3 hd hds p4 ex p5
    simp only [Bool.and_eq_true, decide_eq_true_eq] at hB
    obtain ⟨rfl, hcl, hf⟩ := hB
    cases fin with
    | none => cases hf
    | some c =>
      obtain ⟨v, pv', rv⟩ := cst0_ok hf
      obtain ⟨l, hl, hw⟩ := cl_ok M' rfl rfl h2 hs hcl
      refine ⟨_, pss_cons (ps_try_mix (X := (cxOf C8.CX0 X.prog X.w X.K X.mg X.base N x sg g cdv X.A X.stack s H C8.E0).nox) (Wout := fun _ _ _ _ => False)
        (tb := fun W D σ H => ∃ Ech : XK, (∀ cls d σ' H', Ech cls d H' → W cls d σ' H') ∧ σ[0]? = some (some (.ref f)) ∧ H c' = some (LamX.CodeO c' q) ∧ tl Ech H fun _ H' => D.nx σ H') rfl rfl S.nd LamX.takes0 (fun W pn xe tk _ => ?_) hl) (pss_one (ps_ret (pv' _))), ?_⟩
      · refine ⟨fun pins s' σ H' D I h' => ?_⟩
        obtain ⟨Ech, hW, h1, h2, h3⟩ := h'
        exact (pss_one (ps_expr (pos := p3) (act W pn xe Ech p1 p2 tk hW))).run pins s' σ H' D I ⟨h1, h2, h3⟩
      · exact ⟨fun cls d H' => mW X.K xc hs cls d H' Q, fun cls d σ' H' w => hw _ cls d σ' H' Q rfl w, start0, hc, h v rv⟩
  · rename_i x' p1 p2 p3 hd hds p4
    simp only [Bool.and_eq_true, decide_eq_true_eq] at hB
    obtain ⟨rfl, hcl, hf⟩ := hB
    cases fin with
    | some c => cases hf
    | none =>
      obtain ⟨l, hl, hw⟩ := cl_ok M' rfl rfl h2 hs hcl
      refine ⟨_, pss_one (ps_try_mix (X := (cxOf C8.CX0 X.prog X.w X.K X.mg X.base N x sg g cdv X.A X.stack s H C8.E0).nox) (Wout := fun _ _ _ _ => False)
        (tb := fun W D σ H => ∃ Ech : XK, (∀ cls d σ' H', Ech cls d H' → W cls d σ' H') ∧ σ[0]? = some (some (.ref f)) ∧ H c' = some (LamX.CodeO c' q) ∧ tl Ech H D.rt) rfl rfl S.nd LamX.takes0 (fun W pn xe tk _ => ?_) hl), ?_⟩
      · refine ⟨fun pins s' σ H' D I h' => ?_⟩
        obtain ⟨Ech, hW, h1, h2, h3⟩ := h'
        exact (pss_one (ps_ret (pos := p3) (act W pn xe Ech p1 p2 tk hW))).run pins s' σ H' D I ⟨h1, h2, h3⟩
      · exact ⟨fun cls d H' => mW X.K xc hs cls d H' Q, fun cls d σ' H' w => hw _ cls d σ' H' Q rfl w, start0, hc, h⟩
  · cases hB
end DL

set_option maxHeartbeats 2000000
/-! DL43: errors as values: made, asked for their class, their kept field read. -/
namespace DL
open PySem PySem.Spec PyProof.Rows L2
def xbts : List String := ["KeyError", "IndexError", "OverflowError", "ArithmeticError", "LookupError", "ValueError"]
/-- the class as isinstance is handed it -/
def xtV (K : PySem.W.Frag) (own : Bool) (t : String) : Value := if own then .ref (He.ga K t) else .type t
/-- what of the text a class must have whose errors are values -/
structure XvG (K : PySem.W.Frag) (n : String) : Prop where
  isx : ∀ q ∈ xtys, PySem.W.kitOne K (.ref (He.ga K n)) (xtV K q.1 q.2) = some ((xanc n).contains q.2)
  cl : (PySem.W.clsIn K (He.ga K n)).isSome = true
  ga : PySem.W.findIn K (.ref (He.ga K n)) "__getattribute__" = some (some (.builtin "BaseException.__getattribute__"))
  gg : PySem.W.findIn K (.ref (He.ga K n)) "__getattr__" = some none
  sb : PySem.W.subIn K (.ref (He.ga K n)) (.type "BaseException") = some true
  ca : PySem.W.findIn K (.ref (He.ga K n)) "__class__" = some (some (.builtin "object.__class__"))
  cn : PySem.W.specialIn K (.builtin "object.__class__") "__get__" = some (some (.builtin "getset_descriptor.__get__"))
  ct : PySem.W.takesIn K (.builtin "object.__class__") = some true
  cm : PySem.W.mroIn K (He.ga K n) (.type "object") = some true
def xvB (K : PySem.W.Frag) (n : String) : Bool := (xtys.all fun q => decide (PySem.W.kitOne K (.ref (He.ga K n)) (xtV K q.1 q.2) = some ((xanc n).contains q.2))) && ((PySem.W.clsIn K (He.ga K n)).isSome &&
  (decide (PySem.W.findIn K (.ref (He.ga K n)) "__getattribute__" = some (some (.builtin "BaseException.__getattribute__"))) && (decide (PySem.W.findIn K (.ref (He.ga K n)) "__getattr__" = some none) &&
  (decide (PySem.W.subIn K (.ref (He.ga K n)) (.type "BaseException") = some true) && (decide (PySem.W.findIn K (.ref (He.ga K n)) "__class__" = some (some (.builtin "object.__class__"))) &&
  (decide (PySem.W.specialIn K (.builtin "object.__class__") "__get__" = some (some (.builtin "getset_descriptor.__get__"))) && (decide (PySem.W.takesIn K (.builtin "object.__class__") = some true) &&
  decide (PySem.W.mroIn K (He.ga K n) (.type "object") = some true))))))))
theorem xvB_ok {K : PySem.W.Frag} {n : String} (h : xvB K n = true) : XvG K n := by
  unfold xvB at h
  simp only [Bool.and_eq_true, decide_eq_true_eq, List.all_eq_true] at h
  obtain ⟨h1, h2, h3, h4, h5, h6, h7, h8, h9⟩ := h
  exact ⟨h1, h2, h3, h4, h5, h6, h7, h8, h9⟩
/-- a simple value's repr is told -/
theorem reprIs_of {P : Program} {w : World} {K : PySem.W.Frag} {O : Ow} {H : Hp} {v : V} {d : D} {u : Value} (r : Rp K O H v d) {t : Str} (h : reprD d = some t) (ru : RelV v u) : ReprIs P w u t := by
  cases r with
  | non =>
    obtain rfl : u = Value.none := ru
    obtain rfl : "None" = t := Option.some.inj h
    exact .none
  | bl b =>
    obtain rfl : u = Value.bool b := ru
    cases Option.some.inj h
    exact .bool b
  | int i =>
    obtain ⟨t, rfl⟩ := ru
    have h : (if i.natAbs.log2 < 1920 then some ((toString i : String) : Str) else none) = some _ := h
    by_cases z : i.natAbs.log2 < 1920
    · rw [if_pos z] at h
      cases Option.some.inj h
      exact .int t z
    · rw [if_neg z] at h; cases h
  | str x =>
    obtain ⟨t, rfl⟩ := ru
    have h : (if (reprText x).length ≤ 8000000 then some (reprText x) else none) = some _ := h
    by_cases z : (reprText x).length ≤ 8000000
    · rw [if_pos z] at h
      cases Option.some.inj h
      exact .str x t (Nat.le_trans z (by rw [sizeLine_eq]; decide))
    · rw [if_neg z] at h; cases h
  | _ => cases h
theorem reprAll_of {P : Program} {w : World} {K : PySem.W.Frag} {O : Ow} {H : Hp} : ∀ {ds : List D} {xs : List V} {its : List Value}, Rps K O H xs ds → Vals xs its → (ds.all fun x => match reprD x with | some s => decide (s.length ≤ 100000) | none => false) = true → ∃ ts, ReprAll P w its ts ∧ piled ts ≤ ds.length * 100002
  | [], _, _, .nil, rv, _ => by
    cases rv
    exact ⟨[], .nil, Nat.zero_le _⟩
  | d :: ds, _, _, .cons r rs, rv, h => by
    cases rv with
    | cons r1 r2 =>
      rw [List.all_cons, Bool.and_eq_true] at h
      obtain ⟨h1, h2⟩ := h
      obtain ⟨ts, ha, hp⟩ := reprAll_of rs r2 h2
      cases e : reprD d with
      | none => rw [e] at h1; cases h1
      | some t =>
        rw [e] at h1
        have h1 : t.length ≤ 100000 := of_decide_eq_true h1
        refine ⟨t :: ts, .cons (reprIs_of r e r1) ha, ?_⟩
        rw [piled_cons, List.length_cons, Nat.add_mul]
        omega
theorem shows_of {P : Program} {w : World} {K : PySem.W.Frag} {O : Ow} {H : Hp} {v : V} {d : D} {u : Value} {hp : Heap} (r : Rp K O H v d) (hk : HOk P w H hp) (kin : K.In hp) (h : kpB d = true) (ru : RelV v u) : Shows P w hp u := by
  cases r with
  | non =>
    obtain rfl : u = Value.none := ru
    exact ⟨fun A s Q E hu kp q => pyReprObj_none (q _ _ _ _ (by decide) fun _ _ z => z), fun A s Q E hu kp q => wpAny_formatField_none (q _ _ _ _ (by decide) fun _ _ z => z)⟩
  | bl b =>
    obtain rfl : u = Value.bool b := ru
    exact ⟨fun A s Q E hu kp q => pyReprObj_bool (q _ _ _ _ (by cases b <;> decide) fun _ _ z => z), fun A s Q E hu kp q => wpAny_formatField_bool (q _ _ _ _ (by cases b <;> decide) fun _ _ z => z)⟩
  | int i =>
    obtain ⟨t, rfl⟩ := ru
    have hz : i.natAbs.log2 < 1920 := by
      by_cases z : i.natAbs.log2 < 1920
      · exact z
      · simp [kpB, rsvB, reprD, z] at h
    have hl : (Str.ofString (toString i)).length ≤ 8000000 := by
      have e := int_text_length_le (k := 1920) (by decide) hz
      rw [PySem.ofString_length]; omega
    exact ⟨fun A s Q E hu kp q => pyReprObj_int hz (q _ _ _ _ hl fun _ _ z => z), fun A s Q E hu kp q => wpAny_formatField_int hz (q _ _ _ _ hl fun _ _ z => z)⟩
  | str x =>
    obtain ⟨t, rfl⟩ := ru
    have hz : (reprText x).length ≤ 8000000 ∧ x.length ≤ 8000000 := by
      by_cases z : (reprText x).length ≤ 8000000
      · by_cases z2 : x.length ≤ 8000000
        · exact ⟨z, z2⟩
        · simp [kpB, rsvB, reprD, z2] at h
      · simp [kpB, rsvB, reprD, z] at h
    exact ⟨fun A s Q E hu kp q => pyReprObj_str (q _ _ _ _ hz.1 fun _ _ z => z) (Nat.le_trans hz.1 (by rw [sizeLine_eq]; decide)),
      fun A s Q E hu kp q => wpAny_formatField_str (q _ _ s.heap s.toks hz.2 fun _ _ z => z) (q _ _ s.heap _ hz.2 fun _ _ z => z) (Nat.le_trans hz.2 (by rw [sizeLine_eq]; decide))⟩
  | @tup a xs ds ht hl rs =>
    obtain rfl : u = Value.ref a := ru
    unfold kpB rsvB at h
    simp only [Bool.and_eq_true, decide_eq_true_eq] at h
    have key : ∃ its : List Value, Vals xs its ∧ IsTup hp a its.toArray := by
      rcases ht with h | ⟨o, its, n, hk, hc, hs, hz, r⟩
      · obtain ⟨z, its, r, p⟩ := h.ok hk
        exact ⟨its, r, p⟩
      · exact ⟨its.toList, r, ⟨o, kin a o hk, hc, n, by simpa using hs⟩⟩
    obtain ⟨its, rv, ⟨o, ho, hcl, n, hd⟩⟩ := key
    have hR := reprAll_of (P := P) (w := w) rs rv h.2
    obtain ⟨ts, hR, hp⟩ := hR
    have hln := rs.len
    have htx := fmt_text ts
    have hpz : piled ts ≤ 50 * 100002 := Nat.le_trans hp (Nat.mul_le_mul_right _ h.1)
    exact ⟨fun A s Q E hu kp q => wpAny_pyReprObj_slot (by omega) ⟨o, kp _ _ ho, hcl⟩ F.slot_tuple_repr (fmt_tuple_repr (kp _ _ ho) hcl hd (by simpa using hR) (by rw [sizeLine_eq]; omega) fun m u tk hm => ⟨m, u, rfl, q m u _ _ (by omega) fun _ _ z => z⟩),
      fun A s Q E hu kp q => fmt_tuple (by omega) (kp _ _ ho) hcl hd (by simpa using hR) (by rw [sizeLine_eq]; omega) fun m u tk hm => q m u _ _ (by omega) fun _ _ z => z⟩
  | @lst a xs ds h1 hn hl rs =>
    obtain rfl : u = Value.ref a := ru
    cases ds with
    | cons _ _ => cases h
    | nil =>
      cases rs
      obtain ⟨_, its, n, rv, ho⟩ := hk _ _ h1
      cases rv
      have z1 : ∀ s : Shared, (∀ b o, hp.get? b = some o → s.heap.get? b = some o) → s.TypeIs (.ref a) "list" := fun s kp => ⟨_, kp _ _ ho, rfl⟩
      exact ⟨fun A s Q E hu kp q => wpAny_pyReprObj_slot (by omega) (z1 s kp) F.slot_list_repr.toG (call_list_repr_empty (z1 s kp) (kp _ _ ho) rfl ⟨_, _, rfl, q _ _ _ _ (by decide) fun _ _ z => z⟩),
        fun A s Q E hu kp q => wpAny_formatField_slot (fun _ _ => nofun) (by omega) (z1 s kp) F.slot_list_format F.slot_list_str F.slot_list_repr.toG (call_list_repr_empty (s := { s with toks := s.toks + 1 }) (z1 s kp) (kp _ _ ho) rfl ⟨_, _, rfl, q _ _ _ _ (by decide) fun _ _ z => z⟩)⟩
  | _ => cases h
theorem kpB_of {d : D} (h : rsvB d = true) : kpB d = true := by
  cases d with
  | lst xs => cases h
  | _ => exact h
section
variable {L : Lnk} {K : PySem.W.Frag} {W : WX} {X : Cx} {t : TE} {w : WE'} {O : Ow} {H : Hp} {v : V} {c : String} {vs : List D}
/-- the object of such an error -/
theorem exc_inst {P : Program} {ww : World} {h : Heap} (hok : HOk P ww H h) (r : Rp K O H v (.exc c vs)) : ∃ a ox od, v = .ref a ∧ PySem.W.InstAt h a ox (He.ga K c) od := by
  cases r with
  | exc e n =>
    obtain ⟨⟨oe, fs, ho, hz, hd, _⟩, _, _⟩ := hok _ _ e
    refine ⟨_, oe, none, rfl, ?_⟩
    obtain ⟨oc, od, oda, osl⟩ := oe
    obtain ⟨z1, z2⟩ := hz
    dsimp only at z1 z2 hd
    subst z1 z2 hd
    exact ⟨ho, rfl, rfl, trivial⟩
  | excV p e1 e2 n1 n2 rv =>
    obtain ⟨t1, ho⟩ := exo_at hok e1
    obtain ⟨mA, hns, rel⟩ := exd_at hok e2
    obtain ⟨od, hod, _⟩ := lookIn_ns hns
    exact ⟨_, _, some od, rfl, ho, rfl, rfl, hod⟩
/-- isinstance(x, T), x such an error -/
def rIsX (K : PySem.W.Frag) (u : Value) : List V → Hp → VK → Prop := fun xs H Q => ∃ (y z : V) (n : String) (b : Bool), xs = [y, z] ∧ (∀ w, RelV z w → w = u) ∧ XvG K n ∧ (∃ O vs, Rp K O H y (.exc n vs)) ∧ PySem.W.kitOne K (.ref (He.ga K n)) u = some b ∧ Q (.bl b) H
theorem call_isX {u : Value} : CallR X (.builtin "isinstance") (rIsX X.K u) := by
  intro pins s σ H xs us Q I r h
  obtain ⟨y, z, n, b, rfl, one, G, ⟨O, vs, rp⟩, hk, q⟩ := h
  obtain ⟨u1, u2, rfl, r1, r2⟩ := r.two
  obtain ⟨a, ox, od, rfl, J⟩ := exc_inst I.hok rp
  cases (show u1 = Value.ref a from r1)
  cases one _ r2
  exact PySem.W.kia_one (PySem.W.kitx_exc (od := od) G.cl G.ga G.gg G.sb G.ca G.cn G.ct G.cm) I.kIn J hk (fun z => nomatch z) fun tk => ⟨.bl b, H, I.tok _, rfl, q⟩
/-- C(e), a class that keeps e under f, as a value -/
def tMkV (X : Cx) (C : Addr) (f : Str) (ta : TA) : TE := fun σ H Q => ta σ H fun vs H1 => ∃ v, vs = [v] ∧ (∀ (h : Heap) (u : Value), HOk X.prog X.w H1 h → X.K.In h → RelV v u → Shows X.prog X.w h u) ∧
  ∀ a dx, H1 a = none → H1 dx = none → a ≠ dx → Q (.ref a) (upd (upd H1 dx (exd dx [(f, v)])) a (exo a C (some dx)))
end
section
variable {X : Cx} {e : Expr} {ta : TA} {f : Str} {p pos : Pos}
open PySem.W in
theorem pe_mkV {x : Str} {C : Addr} {k : Nat} (T : SupG X.K X.prog C f) (hr : Room (k + 3) X.A) (ms : X.mg "super" = none) (hg : Gl X x) (hm : X.mg x = some (.ref C)) (ha : PA X [e] ta)
    (hdb : (x == ("__debug__" : Str)) = false) (he : starEach [e] X.env = (false, eval e X.env) :: starEach [] X.env) :
    PE X (.Call (.Name x p) [e] [] pos) (tMkV X C f ta) := by
  refine ⟨fun pins s σ H Q I h => ?_⟩
  obtain ⟨B, newId, initId, bm, bl, fI, scope, p0, p1, je, BF, TC, J, hj⟩ := T.ex
  obtain ⟨nm, q, N, bs, sn, sub, ab, col, dd, k0, k1, k2, k3, k5, hC⟩ := TC.cls
  refine wpAny_Call_Name_kw (ld_glob I hg hm ?_ hdb)
  refine PySem.W.callWith_K (h₀ := X.base) I.ok.mod.kin T.kC (thn (ha.run pos pins s σ H _ I h) fun us s1 ⟨vs, H1, I1, r1, v, ev, sh, hq⟩ => ⟨I1.kIn, ?_⟩) he rfl
  subst ev
  cases r1 with
  | @cons _ u _ ur ru rr =>
    cases rr
    show wpAny _ _ (call (.ref C) [u]) _ _ _
    obtain ⟨hp, g, dr, tk, os⟩ := s1
    have kk : ∀ b o, hp.get? b = some o → ((hp.push (PySem.W.kdv_tup [u])).push (PySem.HandSPX.excO C hp.objs.size)).get? b = some o := fun b o e => Heap.get?_push_of_some _ (Heap.get?_push_of_some _ e)
    have hget : ((hp.push (PySem.W.kdv_tup [u])).push (PySem.HandSPX.excO C hp.objs.size)).get? (hp.objs.size + 1) = some (PySem.HandSPX.excO C hp.objs.size) := by heap_get
    have nK : X.K.lookup (hp.objs.size + 1) = none := by
      cases z : X.K.lookup (hp.objs.size + 1) with
      | none => rfl
      | some o => exact absurd (Heap.lt_size (I1.kIn _ _ z)) (by show ¬ (hp.objs.size + 1 < hp.objs.size); omega)
    have X2 : X.K.In ((hp.push (PySem.W.kdv_tup [u])).push (PySem.HandSPX.excO C hp.objs.size)) := fun b o z => kk b o (I1.kIn b o z)
    refine wpAny_call (newX_call (BF.nw.mono TC.hT) (I1.kIn _ _ hC) (PySem.W.looks_findIn I1.kIn TC.iC) (fun self => PySem.W.bind_fn I1.kIn self TC.tI) (show 1 ≤ sizeLine by rw [sizeLine_eq]; decide) ?_)
    obtain ⟨mb, hmb, hbb⟩ := I1.mod.blt
    have hrU := hr.make (k := k + 2) C [u] []
    have hsh : Shows X.prog X.w hp u := sh hp u I1.hok I1.kIn ru
    refine sup_init (g := g) (d := dr) (t := tk) (os := os) (mg := X.mg) (mb := mb) BF TC J X2 ((I1.mod.glob.keeps I1.bk).keeps kk) ((hmb.keeps I1.bk).keeps kk) hbb (I1.nolimit.keeps kk) ms nK hget hrU.depth ?_ fun h6 tk6 dx t1 k6 ge ne e6 n6 => ?_
    · intro env s' m Q' E' he' hns hm1 k' hq'
      refine je_ok (hp := hp) hj hsh ?_ (by rw [he']; exact J.kind) (by rw [he']; exact J.k1) J.d1 hns hm1 (fun b o z => k' b o (kk b o z)) hq'
      have h1 := (hrU.deeper (k := k + 1) env).un
      omega
    · refine ⟨rfl, ?_⟩
      have ge1 : hp.objs.size ≤ dx := by
        rw [Heap.size_push, Heap.size_push] at ge
        omega
      obtain ⟨G, g1, g2⟩ := restrict h6 fun b => decide (b ≠ hp.objs.size + 1)
      have gk : ∀ b, b ≠ hp.objs.size + 1 → G.get? b = h6.get? b := fun b hb => g1 b (decide_eq_true hb)
      have gn : G.get? (hp.objs.size + 1) = none := g2 _ (by simp)
      have na : ∀ {b : Addr} {o : Obj}, hp.get? b = some o → b ≠ hp.objs.size + 1 := fun {b o} z => Nat.ne_of_lt (Nat.lt_succ_of_lt (Heap.lt_size z))
      have kG : ∀ b o, hp.get? b = some o → G.get? b = some o := fun b o z => by rw [gk b (na z)]; exact k6 b o (na z) (kk b o z)
      have rel : ∀ y, RelO (List.lookup y [(f, v)]) (if y = f then some u else none) := fun y => relO_put (fs := []) (mA := fun _ => none) ru (fun g => True.intro) y
      have nG : G.Ns1 dx (fun y => if y = f then some u else none) := n6.at fun o z => (gk dx ne).trans z
      have J1 : Inv X pins σ (upd H1 dx (exd dx [(f, v)])) ⟨G, g, dr, tk6, os⟩ := I1.laid (t' := tk6) (a := dx) (o := exd dx [(f, v)]) (h' := G) kG ge1 (exd_ok nG rel)
      have hd1 : H1 dx = none := I1.hok.fresh ge1
      have ha1 : H1 (hp.objs.size + 1) = none := I1.hok.fresh (Nat.le_succ _)
      have hn1 : upd H1 dx (exd dx [(f, v)]) (hp.objs.size + 1) = none := by rw [upd_ne (Ne.symm ne)]; exact ha1
      have J2 : Inv X pins σ (upd (upd H1 dx (exd dx [(f, v)])) (hp.objs.size + 1) (exo (hp.objs.size + 1) C (some dx))) ⟨h6, g, dr, tk6, os⟩ := J1.laidN (t' := tk6) (h' := h6) (a := hp.objs.size + 1) (fun b o z => by
        by_cases hb : b = hp.objs.size + 1
        · rw [hb] at z
          rw [show G.get? (hp.objs.size + 1) = none from gn] at z
          cases z
        · exact (gk b hb).symm.trans z) gn hn1 (exo_ok e6)
      exact ⟨.ref (hp.objs.size + 1), _, J2, rfl, hq (hp.objs.size + 1) dx ha1 hd1 (Ne.symm ne)⟩
/-- e.f of such an error -/
def tXfl (K : PySem.W.Frag) (f : Str) (te : TE) : TE := fun σ H Q => te σ H fun x H1 => ∃ a dx C v, x = .ref a ∧ H1 a = some (exo a C (some dx)) ∧ H1 dx = some (exd dx [(f, v)]) ∧ XfC K C ∧ PySem.W.findIn K (.ref C) f = some none ∧ Q v H1
theorem pe_xfl {te : TE} (he : PE X e te) (hb : attributeBase e f X.env (eval e X.env) = eval e X.env) : PE X (.Attribute e f pos) (tXfl X.K f te) := by
  refine ⟨fun pins s σ H Q I h => ?_⟩
  refine attr_of hb (thn (he.run pins s σ H _ I h) fun u s1 ⟨x, H1, I1, rx, a, dx, C, v, ex, h1, h2, T, hno, q⟩ => ?_)
  subst ex
  obtain rfl : u = Value.ref a := rx
  obtain ⟨t1, ho⟩ := exo_at I1.hok h1
  obtain ⟨mA, hns, rel⟩ := exd_at I1.hok h2
  obtain ⟨od, hod, hl⟩ := lookIn_ns hns
  have hr : RelO (some v) (mA f) := by
    have := rel f
    rw [show List.lookup f [(f, v)] = some v by simp [List.lookup]] at this
    exact this
  obtain ⟨u, hu, ru⟩ := RelO.some_of (v := v) (o := mA f) hr
  exact HandSPX.exc_get I1.kIn (od := some od) ⟨ho, rfl, rfl, hod⟩ T.ga T.gg T.exC (PySem.W.findObj_own T.hdC hno rfl (by rw [hl, hu])) (handed_of ru) ⟨v, H1, I1.tok _, ru, q⟩
end
section
variable {L : Lnk} {K : PySem.W.Frag} {W : WX} {t : TE} {w : WE'} {n : String}
theorem re_mk0 {k : Nat} (hL : L.Γ.xc[k]? = some n) (hs : xsup n = none) (h : RE L K W t w) : RE L K W (fun σ H Q => t σ H fun _ H1 => ∀ a, H1 a = none → Q (.ref a) (upd H1 a (ExO (.ref (He.ga K n)) a))) fun ρ S R Q => w ρ S R fun d S1 => ∃ n, L.Γ.xc[k]? = some n ∧ match xsup n with
    | none => Q (.exc n []) S1
    | some _ => kpB d = true ∧ Q (.exc n [d]) S1 := fun σ H ρ S O R Q Q' A hw kk => by
  refine h.go A hw fun x H1 dx S1 O1 r1 A1 e1 q1 => ?_
  intro a ha
  obtain ⟨m, em, q1⟩ := q1
  rw [hL] at em
  cases em
  rw [hs] at q1
  exact kk (.ref a) _ (.exc n []) S1 O1 (.exc upd_same (A1.sok.notO ha)) (A1.sok.new ha) (e1.trans A1.sok (ev_new ha A1.sok)) q1
theorem re_xfl {f : Str} (G : ∀ n p, L.Γ.xc.contains n = true → xsup n = some p → XfC K (He.ga K n) ∧ PySem.W.findIn K (.ref (He.ga K n)) p.1 = some none) (h : RE L K W t w) :
    RE L K W (tXfl K f t) fun ρ S R Q => w ρ S R fun x S1 => ∃ n v p, x = .exc n [v] ∧ xsup n = some p ∧ p.1 = f ∧ L.Γ.xc.contains n = true ∧ Q v S1 := fun σ H ρ S O R Q Q' A hw k => by
  refine h.go A hw fun x H1 dx S1 O1 r1 A1 e1 q1 => ?_
  obtain ⟨n, v, p, rfl, hp, rfl, hc, q⟩ := q1
  cases r1 with
  | excV p2 h1 h2 n1 n2 rv =>
    rw [hp] at p2
    cases p2
    obtain ⟨T, hno⟩ := G n p hc hp
    exact ⟨_, _, _, _, rfl, h1, h2, T, hno, k _ H1 v S1 O1 rv A1.sok e1 q⟩
theorem re_isX {own : Bool} {tn : String} {cv : V} (hv : ∀ w, RelV cv w → w = xtV K own tn) (G : ∀ n, L.Γ.xc.contains n = true → XvG K n) (h : RE L K W t w) : RE L K W (tCB (rIsX K (xtV K own tn)) (tCons t (tCons (tC cv) tNil))) fun ρ S R Q => w ρ S R fun x S1 =>
    ∃ n vs, x = .exc n vs ∧ (L.Γ.xc.contains n = true ∧ (own, tn) ∈ xtys) ∧ Q (.bl ((xanc n).contains tn)) S1 := fun σ H ρ S O R Q Q' A hw k => by
  refine h.go A hw fun x H1 dx S1 O1 r1 A1 e1 q1 => ?_
  obtain ⟨n, vs, rfl, ⟨hc, hm⟩, q⟩ := q1
  exact ⟨x, cv, n, _, rfl, hv, G n hc, ⟨_, _, r1⟩, (G n hc).isx _ hm, k _ H1 _ S1 O1 (.bl _) A1.sok e1 q⟩
theorem re_mkV {X : Cx} {p : Str × String} {k : Nat} (hL : L.Γ.xc[k]? = some n) (hp : xsup n = some p) (h : RE L X.K W t w) : RE L X.K W (tMkV X (He.ga X.K n) p.1 (tCons t tNil)) fun ρ S R Q => w ρ S R fun d S1 => ∃ n, L.Γ.xc[k]? = some n ∧ match xsup n with
    | none => Q (.exc n []) S1
    | some _ => kpB d = true ∧ Q (.exc n [d]) S1 := fun σ H ρ S O R Q Q' A hw kk => by
  refine h.go A hw fun x H1 d S1 O1 r1 A1 e1 q1 => ?_
  obtain ⟨m, em, q1⟩ := q1
  rw [hL] at em
  cases em
  rw [hp] at q1
  refine ⟨x, rfl, fun hh u ho ki ru => shows_of r1 ho ki q1.1 ru, fun a dx ha hd ne => ?_⟩
  have ha' : upd H1 dx (exd dx [(p.1, x)]) a = none := by rw [upd_ne ne]; exact ha
  have s1 := A1.sok.new (u := exd dx [(p.1, x)]) hd
  have s2 := s1.new (u := exo a (He.ga X.K n) (some dx)) ha'
  have ev1 := ev_new (u := exd dx [(p.1, x)]) hd A1.sok
  have ev2 := ev_new (u := exo a (He.ga X.K n) (some dx)) ha' s1
  exact kk (.ref a) _ (.exc n [d]) S1 O1 (.excV hp upd_same (by rw [upd_ne (Ne.symm ne)]; exact upd_same) (A1.sok.notO ha) (A1.sok.notO hd) ((r1.mono (ev1.mo A1.sok)).mono (ev2.mo s1))) s2 (e1.trans A1.sok (ev1.trans s1 ev2)) q1.2
end
end DL

set_option maxHeartbeats 1000000
/-! DL27: != of instances of a class with an own == and no own !=. -/
namespace DL
open PySem PySem.Spec PyProof.Rows L2
open PySem.W (InstAt findIn isFn mroIn notFirst Looks looks_findIn looks_mroIn looks_subIn subIn)
section
variable {prog : Program} {w : World} {A : Around} {E : Value → Shared → Prop} {s : Shared} {K : PySem.W.Frag} {x C f : Addr} {ox : Obj} {od : Option Obj} {b tb : Value}
theorem objNe_K {Q : PySem.Fin → Shared → Prop} (X : K.In s.heap) (I : InstAt s.heap x ox C od) (he : findIn K (.ref C) "__eq__" = some (some (.ref f))) (hf : isFn K (.ref f) = true) (hu : A.units < cLine)
    (h : wpAny (model prog w) A (call (.ref f) [.ref x, b]) (fun v s' => ∃ t, v = .bool t ∧ Q (.done (.ret (.bool (!t)))) s') E s) : wpAny (model prog w) A (Builtin.«object.__ne__» ⟨[.ref x, b], []⟩) Q E s := by
  unfold Builtin.«object.__ne__»
  repeat (first
    | with_reducible refine wpAny_cRoomFor hu ?_
    | (refine wpAny_bind (m := callSpecialIfBound? (.ref x) (Str.ofString "__eq__") [b])
        (PySem.W.ifBound_K X I he hf (wpAny_mono h (fun r s' hr => by
          obtain ⟨t, rfl, hq⟩ := hr
          repeat (first | exact hq | exact wpAny_pure hq | exact wpAny_truthy_bool hq | (refine wpAny_bind (m := truthy (.bool _)) (wpAny_truthy_bool ?_)) | wp_step)) fun _ _ e => e)))
    | wp_step)
theorem cmpNe_K {Q : Value → Shared → Prop} (hu : A.units + 1 < cLine) (X : K.In s.heap) (I : InstAt s.heap x ox C od) (hb : Looks (model prog w) s.heap (typeOf b) tb) (hn : notFirst K C tb = true)
    (hne : findIn K (.ref C) "__ne__" = some (some (.builtin "object.__ne__"))) (hs : findIn K (.ref C) "__eq__" = some (some (.ref f))) (hf : isFn K (.ref f) = true) (hm : mroIn K C (.type "object") = some true)
    (h : wpAny (model prog w) A.in1 (call (.ref f) [.ref x, b]) (fun v s' => ∃ t, v = .bool t ∧ Q (.bool (!t)) s') E s) : wpAny (model prog w) A (richCompare .NotEq (.ref x) b) Q E s := by
  have sub : Looks (model prog w) s.heap (isInstance (.ref x) (.type "object")) true := I.type.andThen (looks_mroIn X hm)
  have one : wpAny (model prog w) A (tryCompare (.ref x) (cmpInfo .NotEq).2.1 b) (fun r s' => ∃ v, r = some v ∧ Q v s') E s := by
    unfold tryCompare
    refine wpAny_bind ?_
    simp only [callSpecialIfBound?, bindSpecialIfBound?]
    refine wpAny_holding (wpAny_bind (wpAny_bind (wpAny_bind (I.type.here ((looks_findIn X hne).here ?_)))))
    simp only [PySem.F.cmp_object.ne.bind]
    have key : wpAny (model prog w) A (call (.builtin "object.__ne__") [.ref x, b]) (fun v s' => ∃ t : Bool, v = .bool t ∧ Q v s') E s := by
      refine wpAny_call (codeAny_call_builtin PySem.F.cmp_object.ne.plain PySem.F.cmpEntry_ne (@PySem.W.check_slot (model prog w) _ _ s "object.__ne__" "object" "__ne__" (.ref x) [b] [] _ PySem.F.cmpKind_ne PySem.F.cmpSplit_ne sub (PySem.F.cmpArgs_ne _ _) ?_))
      refine objNe_K (A := A.in1) X I hs hf hu (wpAny_mono h (fun v s' hv => ?_) fun _ _ e => e)
      obtain ⟨t, rfl, hq⟩ := hv
      exact ⟨t, rfl, _, rfl, hq⟩
    have fin : ∀ Q2 : Option Value → Shared → Prop, (∀ (t : Bool) s', Q (.bool t) s' → Q2 (some (.bool t)) s') → wpAny (model prog w) A (call (.builtin "object.__ne__") ([.ref x] ++ [b]) >>= fun v => pure (some v)) Q2 E s := fun Q2 k => by
      refine wpAny_bind (wpAny_mono key (fun v s' h' => ?_) fun _ _ h' => h')
      obtain ⟨t, rfl, hq⟩ := h'
      exact wpAny_pure (k t s' hq)
    refine wpAny_bind (wpAny_askSetting (wpAny_ite ?_))
    split
    · exact wpAny_bind (wpAny_pure (wpAny_pure (fin _ fun t s' hq => wpAny_pure ⟨_, rfl, hq⟩)))
    · exact wpAny_tryCatch (wpAny_bind (wpAny_pure (wpAny_pure (fin _ fun t s' hq => wpAny_pure ⟨_, rfl, hq⟩))))
  unfold richCompare
  simp only [oneThing_ref]
  refine wpAny_holding (wpAny_bind (wpAny_cRoomFor (by omega) ?_))
  refine wpAny_bind (I.type.here (wpAny_bind (hb.here ?_)))
  split
  · rename_i q
    have e : subIn K tb (.ref C) = some false := by
      rcases Bool.or_eq_true_iff.mp hn with e | e
      · rw [beq_iff_eq.mp e] at q; simp at q
      · exact beq_iff_eq.mp e
    refine wpAny_bind ((looks_subIn X e).here ?_)
    simp only [Bool.false_eq_true, if_false]
    refine wpAny_bind (wpAny_mono one (fun r s' z => ?_) fun _ _ e => e)
    obtain ⟨v, rfl, hq⟩ := z
    exact wpAny_pure hq
  · refine wpAny_bind (wpAny_pure ?_)
    simp only [Bool.false_eq_true, if_false]
    refine wpAny_bind (wpAny_mono one (fun r s' z => ?_) fun _ _ e => e)
    obtain ⟨v, rfl, hq⟩ := z
    exact wpAny_pure hq
end
section
variable {X : Cx}
/-- x != y, both instances of a class with an own == and no own != -/
def rOwnNe (K : PySem.W.Frag) (C : Addr) (sp : Sp) (E : XK) : R2 := fun x y H Q => ∃ a dx vs b C' dy ws, x = .ref a ∧ y = .ref b ∧ SlX.Slt H a C dx vs ∧ SlX.Slt H b C' dy ws ∧ notFirst K C (.ref C') = true ∧ sp [x, y] H (fun z H' => ∃ t, z = .bl t ∧ Q (.bl (!t)) H') E
theorem op_ownNe {CX : CXT} {C g : Addr} {n : Nat} {sp : Sp} {E : XK} (hne : findIn X.K (.ref C) "__ne__" = some (some (.builtin "object.__ne__"))) (hs : findIn X.K (.ref C) "__eq__" = some (some (.ref g))) (hf : isFn X.K (.ref g) = true) (hm : mroIn X.K C (.type "object") = some true)
    (F : FnR X.prog X.w X.K X.mg X.base CX n g sp) (hr : Room (n + 1) X.A) (hx : Passes CX X E) : OpR X (compareOp .NotEq) (rOwnNe X.K C sp E) := by
  intro pins s σ H x y v u Q I rx ry h
  obtain ⟨a, dx, vs, b, C', dy, ws, rfl, rfl, ha, hb, hn, q⟩ := h
  cases (show v = Value.ref a from rx)
  cases (show u = Value.ref b from ry)
  obtain ⟨sl, od, _, J, _⟩ := SlX.slt_inst I ha
  obtain ⟨sl', od', _, J', _⟩ := SlX.slt_inst I hb
  have hr1 : Room n X.A.in1 := Room.in1 hr
  have hu : X.A.units + 1 < cLine := by have := hr.units; omega
  show wpAny _ _ (richCompare .NotEq (.ref a) (.ref b)) _ _ _
  refine cmpNe_K (tb := .ref C') hu I.kIn J J'.type hn hne hs hf hm ?_
  refine wpAny_mono (wpAny_call (SlX.run_at (us := [.ref a, .ref b]) (ws := [.ref a, .ref b]) F hr1 I.env0.in1 hx I (.cons rfl (.cons rfl .nil)) q)) (fun w s' z => ?_) fun _ _ x => x
  obtain ⟨z', H', I', rz, t, et, qz⟩ := z
  subst et
  cases (show w = Value.bool t from rz)
  exact ⟨t, rfl, .bl (!t), H', I', rfl, qz⟩
end
end DL

/-! DL11: own syntax against the text: the check, and why it is enough (expressions). -/
namespace DL
open PySem PySem.Spec PyProof.Rows L2
structure Ck where
  N : List Str
  sc : Scope
  own : Option Scope
  fns : List (Nat × Str)
  gls : List (Nat × Str)
  cls : List (String × List Str) := []
  mts : List (Nat × String × Str) := []
  prs : List (Nat × String × Str) := []
  nws : List (Nat × String × Str) := []
  xc : List String := []
  nm : Option Str := none
  mets : List (Nat × Str) := []
  gd : Bool := false
  gns : List (Nat × Str) := []
def gdC (b : BI) (c : Ck) : Bool := match b with
  | .reprG => c.gd
  | _ => true
/-- the error keeps a value -/
def xsC (c : Ck) (k : Nat) : Bool := match c.xc[k]? with
  | some n => (xsup n).isSome
  | none => false
/-- a lambda's names -/
def Ck.lam (c : Ck) (scope : Scope) : Ck := { c with sc := scope, own := none, mets := [], gd := false, gns := [] }
def lamP : Arguments → Bool
  | ⟨[], [], none, [], [], none, []⟩ => true
  | _ => false
def noOwn (c : Ck) : Bool := match c.own with
  | none => true
  | some _ => false
def xcC (c : Ck) (k : Nat) (x : Str) : Bool := match c.xc[k]? with
  | some n => decide ((n : Str) = x)
  | none => false
def Ck.inn (c : Ck) (scope : Scope) : Ck := { c with sc := relS scope c.sc, own := some scope }
def visC (c : Ck) (x : Str) : Bool := match c.sc.names.lookup x with
  | some .local => true
  | some .cell => true
  | some .free => true
  | _ => false
def locC (c : Ck) (x : Str) : Bool := match c.sc.names.lookup x with
  | some .local => true
  | some .cell => (match c.own with
    | none => true
    | some s => decide (s.names.lookup x = some .cell))
  | _ => false
def dbg (x : Str) : Bool := x == ("__debug__" : Str)
def varC (c : Ck) (i : Nat) (x : Str) : Bool := decide (c.N[i]? = some x) && visC c x && !dbg x && !(x == ("__classdict__" : Str))
def gloC (c : Ck) (x : Str) : Bool := decide (c.sc.names.lookup x = some .globalImplicit) && !dbg x
def noStar : Expr → Bool
  | .Starred _ _ => false
  | _ => true
def noStars : List Expr → Bool
  | [] => true
  | x :: xs => noStar x && noStars xs
def noSet : Expr → Bool
  | .Set _ _ _ => false
  | _ => true
def noSlice : Expr → Bool
  | .Slice _ _ _ _ => false
  | _ => true
def noCall : Expr → Bool
  | .Call _ _ _ _ => false
  | _ => true
def noBase : Expr → Bool
  | .Call (.Name _ _) [] [] _ => false
  | _ => true
def isBO : Expr → Bool
  | .BoolOp _ _ _ => true
  | _ => false
def pairC (l : List (Nat × Str)) (k : Nat) (x : Str) : Bool := match l with
  | [] => false
  | p :: r => (Nat.beq p.1 k && decide (p.2 = x)) || pairC r k x
def mtC (l : List (Nat × String × Str)) (k : Nat) (c : String) (x : Str) : Bool := match l with
  | [] => false
  | p :: r => (Nat.beq p.1 k && decide (p.2.1 = c) && decide (p.2.2 = x)) || mtC r k c x
def hasC (l : List (String × List Str)) (c : String) : Bool := match l with
  | [] => false
  | p :: r => decide (p.1 = c) || hasC r c
def slC (l : List (String × List Str)) (c : String) (i : Nat) (f : Str) : Bool := match l with
  | [] => false
  | p :: r => (decide (p.1 = c) && (decide (p.2[i]? = some f) && decide (f ≠ neS))) || slC r c i f
/-- the class has no own != -/
def neC (l : List (String × List Str)) (c : String) : Bool := match l with
  | [] => false
  | p :: r => (decide (p.1 = c) && decide (neS ∈ p.2)) || neC r c
def isCS : Ex → Str → Bool
  | .cst (.str z), s => decide (z = s)
  | _, _ => false
theorem isCS_ok {e : Ex} {s : Str} (h : isCS e s = true) : e = .cst (.str s) := by
  unfold isCS at h
  split at h
  · rw [of_decide_eq_true h]
  · cases h
def cstC (c : Ck) : D → Expr → Bool
  | .int i, .Constant (.int j) _ _ => decide (i = j)
  | .bl i, .Constant (.bool j) _ _ => decide (i = j)
  | .str i, .Constant (.str j) _ _ => decide (i = j)
  | .non, .Constant .none _ _ => true
  | .ty n, .Name x _ => gloC c x && ((decide (n = "int") && decide (x = "int")) || (decide (n = "bool") && decide (x = "bool")) || (decide (n = "tuple") && decide (x = "tuple")) || (decide (n = "str") && decide (x = "str")) || (decide (n = "list") && decide (x = "list")))
  | _, _ => false
def ownP (c : Ck) : List Nat → List (Str × Nat)
  | [] => []
  | v :: vs => (c.N.getD v "", v) :: ownP c vs
theorem ownP_snd (c : Ck) : ∀ vs, (ownP c vs).map (·.2) = vs
  | [] => rfl
  | v :: vs => by rw [ownP, List.map_cons, ownP_snd c vs]
mutual
def tgV : Tg → List Nat
  | .nm i => [i]
  | .tp ts => tgsV ts
  | .sub _ _ => []
  | .fld _ _ _ => []
def tgsV : Tgs → List Nat
  | .nil => []
  | .cons t r => tgV t ++ tgsV r
end
def subV (us vs : List Nat) : Bool := us.all fun v => vs.contains v
mutual
def okE : Ex → Ck → Expr → Bool
  | .var i, c, x => match x with
    | .Name n _ => varC c i n
    | _ => false
  | .cst d, c, x => cstC c d x
  | .glb k, c, x => match x with
    | .Name n _ => gloC c n && pairC c.gls k n
    | _ => false
  | .bin op a b, c, x => match x with
    | .BinOp x o y _ => decide (o = bop op) && okE a c x && okE b c y
    | _ => false
  | .neg a, c, x => match x with
    | .UnaryOp .USub x _ => okE a c x
    | _ => false
  | .not a, c, x => match x with
    | .UnaryOp .Not x _ => okE a c x
    | _ => false
  | .cmp op a b, c, x => match x with
    | .Compare x [o] [y] _ => decide (o = cop op) && noSet y && okE a c x && okE b c y
    | _ => false
  | .chn o1 o2 a b d, c, x => match x with
    | .Compare x [p1, p2] [y, z] _ => decide (p1 = cop o1) && decide (p2 = cop o2) && noSet z && okE a c x && okE b c y && okE d c z
    | _ => false
  | .and a b, c, x => match x with
    | .BoolOp .And (x :: y :: r) p => okE a c x && (match r with
      | [] => okE b c y
      | z :: r => okE b c (.BoolOp .And (y :: z :: r) p))
    | _ => false
  | .or a b, c, x => match x with
    | .BoolOp .Or (x :: y :: r) p => okE a c x && (match r with
      | [] => okE b c y
      | z :: r => okE b c (.BoolOp .Or (y :: z :: r) p))
    | _ => false
  | .ite a b d, c, x => match x with
    | .IfExp x y z _ => okE a c x && okE b c y && okE d c z
    | _ => false
  | .idx a i, c, x => match x with
    | .Subscript x y _ => noSlice y && okE a c x && okE i c y
    | _ => false
  | .slc a lo hi, c, x => match x with
    | .Subscript x (.Slice l h none _) _ => okE a c x && okO lo c l && okO hi c h
    | _ => false
  | .stp a lo hi st, c, x => match x with
    | .Subscript x (.Slice l h (some s) _) _ => okE a c x && okO lo c l && okO hi c h && okE st c s
    | _ => false
  | .tup es, c, x => match x with
    | .Tuple xs _ _ => okEs es c xs
    | _ => false
  | .frz l, c, x => okL l c x
  | .own l, c, x => okL l c x
  | .call f es, c, x => match x with
    | .Call (.Name n _) (y :: xs) [] _ => gloC c n && pairC c.fns f n && noStars (y :: xs) && okEs es c (y :: xs)
    | .Call (.Name n _) [] [] _ => gloC c n && pairC c.fns f n && okEs es c []
    | _ => false
  | .bi b es, c, x => match x with
    | .Call (.Name n _) (y :: xs) [] _ => decide (n = biName b) && gloC c n && noStars (y :: xs) && okEs es c (y :: xs) && gdC b c
    | _ => false
  | .app o e, c, x => match x with
    | .Call (.Attribute x m ap) [y] [] p => decide (m = ("append" : Str)) && (ap.endLine == p.line) && noCall x && noStar y && okE o c x && okE e c y
    | _ => false
  | .fld cn i e, c, x => match x with
    | .Attribute y f _ => noBase y && slC c.cls cn i f && okE e c y
    | _ => false
  | .isC cn e, c, x => match x with
    | .Call (.Name n _) [y, .Name m _] [] _ => decide (n = ("isinstance" : Str)) && gloC c n && noStar y && okE e c y && decide (m = (cn : Str)) && gloC c m && hasC c.cls cn
    | _ => false
  | .meth f cn o es, c, x => match x with
    | .Call (.Attribute y m ap) xs [] p => mtC c.mts f cn m && hasC c.cls cn && (ap.endLine == p.line) && noBase y && okE o c y && noStars xs && Nat.blt xs.length 30 && okEs es c xs
    | _ => false
  | .prop f cn o, c, x => match x with
    | .Attribute y m _ => mtC c.prs f cn m && hasC c.cls cn && noBase y && okE o c y
    | _ => false
  | .new f cn _ es, c, x => match x with
    | .Call (.Name m _) (y :: xs) [] _ => decide (m = (cn : Str)) && gloC c m && mtC c.nws f cn m && hasC c.cls cn && noStars (y :: xs) && okEs es c (y :: xs)
    | _ => false
  | .cmpO op f cn a b, c, x => match x with
    | .Compare y [o] [z] _ => decide (o = cop op) && ((decide (op = .eq) && mtC c.mts f cn "__eq__") || (decide (op = .ne) && mtC c.mts f cn "__ne__")) && hasC c.cls cn && noSet z && okE a c y && okE b c z
    | _ => false
  | .neO f cn a b, c, x => match x with
    | .Compare y [o] [z] _ => decide (o = cop .ne) && mtC c.mts f cn "__eq__" && neC c.cls cn && noSet z && okE a c y && okE b c z
    | _ => false
  | .cmpOD op f cn a b, c, x => match x with
    | .Compare y [o] [z] _ => decide (o = cop op) && ((decide (op = .eq) && mtC c.mts f cn "__eq__") || (decide (op = .ne) && mtC c.mts f cn "__ne__")) && hasC c.cls cn && noSet z && okE a c y && okE b c z
    | _ => false
  | .lenO f cn o, c, x => match x with
    | .Call (.Name n _) [y] [] _ => decide (n = ("len" : Str)) && gloC c n && mtC c.mts f cn "__len__" && hasC c.cls cn && noStar y && okE o c y
    | _ => false
  | .strO f cn o, c, x => match x with
    | .Call (.Name n _) [y] [] _ => decide (n = ("str" : Str)) && gloC c n && mtC c.mts f cn "__str__" && hasC c.cls cn && noStar y && okE o c y
    | _ => false
  | .fst es, c, x => match x with
    | .JoinedStr (y :: z :: xs) _ => okFs es c (y :: z :: xs)
    | _ => false
  | .dct, c, x => match x with
    | .Dict [] [] _ => true
    | _ => false
  | .met j nm e, c, x => match x with
    | .Call (.Name n _) [.Lambda params body scope _] [] _ => gloC c n && (pairC c.mets j n && (decide (c.nm = some nm) && (noOwn c && (lamP params && (c.gd && (LamX.lamSB c.sc scope && okE e (c.lam scope) body))))))
    | _ => false
  | .callG f es, c, x => match x with
    | .Call (.Name n _) (y :: xs) [] _ => gloC c n && pairC c.gns f n && noStars (y :: xs) && okEs es c (y :: xs) && c.gd
    | _ => false
  | .mkx k e, c, x => match x with
    | .Call (.Name n _) [y] [] _ => gloC c n && (xcC c k n && (noStar y && okE e c y))
    | _ => false
  | .isX own t e, c, x => match x with
    | .Call (.Name f _) [y, .Name m p] [] _ => decide (f = ("isinstance" : Str)) && (gloC c f && (noStar y && (okE e c y && (gloC c m && (decide (m = (t : Str)) && (decide ((own, t) ∈ xtys) && (c.xc.contains "SeriesError" && (if own then c.xc.contains t else decide (t ∈ xbts)))))))))
    | _ => false
  | .xfl f e, c, x => match x with
    | .Attribute y g _ => decide (g = f) && (noBase y && (c.xc.contains "SeriesError" && okE e c y))
    | _ => false
  | .isB n e, c, x => match x with
    | .Call (.Name f _) [y, .Name m p] [] _ => decide (f = ("isinstance" : Str)) && gloC c f && noStar y && okE e c y && cstC c (.ty n) (.Name m p)
    | _ => false
  | .fnv f z, c, x => match x with
    | .Name n _ => gloC c n && decide (n = (z : Str)) && pairC c.fns f n
    | _ => false
  | .callV i fs es, c, x => match x with
    | .Call (.Name n _) (y :: xs) [] _ => varC c i n && (fs.all fun p => pairC c.fns p.2 (p.1 : Str)) && noStars (y :: xs) && okEs es c (y :: xs)
    | _ => false
def okFs : Exs → Ck → List Expr → Bool
  | .nil, _, xs => match xs with
    | [] => true
    | _ => false
  | .cons e r, c, xs => match xs with
    | .FormattedValue y k none _ :: xs => decide (k = -1) && okE e c y && okFs r c xs
    | .Constant (.str s) _ _ :: xs => isCS e s && okFs r c xs
    | _ => false
  | .star _ _, _, _ => false
def okEs : Exs → Ck → List Expr → Bool
  | .nil, _, xs => match xs with
    | [] => true
    | _ => false
  | .cons e r, c, xs => match xs with
    | x :: xs => noStar x && okE e c x && okEs r c xs
    | _ => false
  | .star e r, c, xs => match xs with
    | .Starred x _ :: xs => okE e c x && okEs r c xs
    | _ => false
def okO : Ox → Ck → Option Expr → Bool
  | .no, _, x => match x with
    | none => true
    | _ => false
  | .so e, c, x => match x with
    | some x => okE e c x
    | none => false
def okL : Lx → Ck → Expr → Bool
  | .disp es, c, x => match x with
    | .List xs _ => okEs es c xs
    | _ => false
  | .comp own tg it ts el, c, x => match x with
    | .ListComp elt [⟨tx, iter, ifs, a⟩] scope _ => decide (a = 0) && blkC c.N c.sc scope (ownP c own) && subV (tgV tg) own && noSet iter && okI it c tx iter && okG tg (c.inn scope) tx && okTs ts (c.inn scope) ifs && okE el (c.inn scope) elt
    | _ => false
  | .comp2 own own2 tg it ts tg2 it2 ts2 el, c, x => match x with
    | .ListComp elt [⟨tx, iter, ifs, a⟩, ⟨tx2, iter2, ifs2, a2⟩] scope _ => decide (a = 0) && decide (a2 = 0) && blkC c.N c.sc scope (ownP c own) && subV (tgV tg) own && subV own2 own && subV (tgV tg2) own2 && noSet iter && noSet iter2 &&
      okI it c tx iter && okG tg (c.inn scope) tx && okTs ts (c.inn scope) ifs && okI it2 (c.inn scope) tx2 iter2 && okG tg2 (c.inn scope) tx2 && okTs ts2 (c.inn scope) ifs2 && okE el (c.inn scope) elt
    | _ => false
  | .rep a n, c, x => match x with
    | .BinOp x .Mult y _ => okE a c x && okE n c y
    | _ => false
  | .cat a b, c, x => match x with
    | .BinOp x .Add y _ => okE a c x && okE b c y
    | _ => false
  | .ofSeq a, c, x => match x with
    | .Call (.Name n _) [y] [] _ => decide (n = ("list" : Str)) && gloC c n && noStar y && okE a c y
    | _ => false
  | .slc a lo hi, c, x => match x with
    | .Subscript x (.Slice l h none _) _ => okE a c x && okO lo c l && okO hi c h
    | _ => false
  | .sorted a, c, x => match x with
    | .Call (.Name n _) [y] [] _ => decide (n = ("sorted" : Str)) && gloC c n && noStar y && okE a c y
    | _ => false
  | .stpL a lo hi st, c, x => match x with
    | .Subscript x (.Slice l h (some s) _) _ => okE a c x && okO lo c l && okO hi c h && okE st c s
    | _ => false
  | .sortSet a, c, x => match x with
    | .Call (.Name n _) [.Call (.Name m _) [y] [] _] [] _ => decide (n = ("sorted" : Str)) && gloC c n && decide (m = ("set" : Str)) && gloC c m && noStar y && okE a c y
    | _ => false
  | .sortI a, c, x => match x with
    | .Call (.Name n _) [y] [] _ => decide (n = ("sorted" : Str)) && gloC c n && noStar y && okE a c y
    | _ => false
  | .sortK f a, c, x => match x with
    | .Call (.Name n _) [y] [⟨kn, .Name m _, _⟩] _ => decide (n = ("sorted" : Str)) && gloC c n && noStar y && okE a c y && decide (kn = some ("key" : Str)) && gloC c m && pairC c.fns f m
    | _ => false
def okI : It → Ck → Expr → Expr → Bool
  | .seq e, c, _, x => okE e c x
  | .rng1 a, c, _, x => match x with
    | .Call (.Name n _) [x] [] _ => decide (n = ("range" : Str)) && gloC c n && noStar x && okE a c x
    | _ => false
  | .rng2 a b, c, _, x => match x with
    | .Call (.Name n _) [x, y] [] _ => decide (n = ("range" : Str)) && gloC c n && noStar x && noStar y && okE a c x && okE b c y
    | _ => false
  | .rng3 a b d, c, _, x => match x with
    | .Call (.Name n _) [x, y, z] [] _ => decide (n = ("range" : Str)) && gloC c n && noStar x && noStar y && noStar z && okE a c x && okE b c y && okE d c z
    | _ => false
  | .enum e, c, t, x => match t with
    | .Tuple _ _ _ => (match x with
      | .Call (.Name n _) [x] [] _ => decide (n = ("enumerate" : Str)) && gloC c n && noStar x && okE e c x
      | _ => false)
    | _ => false
  | .zip a b, c, t, x => match t with
    | .Tuple _ _ _ => (match x with
      | .Call (.Name n _) [x, y] [] _ => decide (n = ("zip" : Str)) && gloC c n && noStar x && noStar y && okE a c x && okE b c y
      | _ => false)
    | _ => false
def okG : Tg → Ck → Expr → Bool
  | .nm i, c, x => match x with
    | .Name n _ => decide (c.N[i]? = some n) && locC c n
    | _ => false
  | .tp ts, c, x => match x with
    | .Tuple xs _ _ => okGs ts c xs
    | _ => false
  | .sub o i, c, x => match x with
    | .Subscript x y _ => noSlice y && okE o c x && okE i c y
    | _ => false
  | .fld o cn i, c, x => match x with
    | .Attribute y f _ => slC c.cls cn i f && okE o c y
    | _ => false
def okGs : Tgs → Ck → List Expr → Bool
  | .nil, _, xs => match xs with
    | [] => true
    | _ => false
  | .cons t r, c, xs => match xs with
    | x :: xs => noStar x && okG t c x && okGs r c xs
    | _ => false
def okTs : Exs → Ck → List Expr → Bool
  | .nil, _, xs => match xs with
    | [] => true
    | _ => false
  | .cons e r, c, xs => match r with
    | .nil => (match xs with
      | [x] => okE e c x
      | _ => false)
    | _ => false
  | .star _ _, _, _ => false
end

/-! ### what is asked of a context -/
/-- a def's promise, from data -/
def spOf (L : Lnk) (K : PySem.W.Frag) (F : FSp) : Sp := fun vs H Q' E => ∃ ds S O R, ∃ Q : QD, Sok K S O H ∧ Rps K O H vs ds ∧ F ds S R Q ∧
  (∀ k d S' O' H' c dd, Sok K S' O' H' → Ev S O H S' O' H' → L.xr O' H' k d c dd → R k d S' → E c dd H') ∧
  (∀ v H' d S' O', Rp K O' H' v d → Sok K S' O' H' → Ev S O H S' O' H' → Q d S' → Q' v H')
def FnSt (L : Lnk) (X : Cx) (k : Nat) (x : Str) : Prop :=
  ∃ (kk : Nat) (f : Addr) (fd : FuncData) (ps : List Str), FnOk X.prog X.w X.K X.mg X.base (L2.CX X.prog X.w) kk f fd ps (spOf L X.K (L.Γ.fn k)) ∧ Room (kk + 2) X.A ∧ X.mg x = some (.ref f) ∧ PySem.W.keepIn X.K (.ref f) = true ∧ Binds X.K fd ps []
/-- as FnOk, where it is known that no repr is under way -/
structure FnG (P : Program) (w : World) (K : PySem.W.Frag) (mg : Str → Option Value) (base : Heap) (CX : CXT) (k : Nat) (f : Addr) (fd : FuncData) (ps : List Str) (sp : Sp) : Prop where
  len : ∀ vs H Q E, sp vs H Q E → vs.length = ps.length
  run : ∀ (A : Around) (outer : List PySem.Env) (s : Shared) (H : Hp) (args : Args) (us : List Value) (vs : List V) (Q : VK) (E : XK), Room k A → A.guards = some [] → Env0 P w K mg base A outer s H → BindsTo s fd args (ps.zip us) → Vals vs us → sp vs H Q E →
    codeAny (model P w) A (.call (.ref f) args) (CR CX outer P w H s Q E) s
def GnSt (L : Lnk) (X : Cx) (k : Nat) (x : Str) : Prop :=
  ∃ (kk : Nat) (f : Addr) (fd : FuncData) (ps : List Str), FnG X.prog X.w X.K X.mg X.base (L2.CX X.prog X.w) kk f fd ps (spOf L X.K (L.Γ.fn k)) ∧ Room kk X.A ∧ X.mg x = some (.ref f) ∧ PySem.W.keepIn X.K (.ref f) = true ∧ Binds X.K fd ps []
def GlSt (L : Lnk) (X : Cx) (k : Nat) (x : Str) : Prop := ∃ (u : Value) (v : V), X.mg x = some u ∧ RelV v u ∧ ∀ O H, Rp X.K O H v (L.Γ.gl k)
def MtSt (L : Lnk) (X : Cx) (k : Nat) (c : String) (m : Str) : Prop :=
  ∃ (kk : Nat) (g : Addr) (fd : FuncData) (ps : List Str), FnOk X.prog X.w X.K X.mg X.base (L2.CX X.prog X.w) kk g fd ps (spOf L X.K (L.Γ.fn k)) ∧ Room (kk + 2) X.A ∧ Meth X.K (He.ga X.K c) m g ∧ Binds X.K fd ps []
def PrSt (L : Lnk) (X : Cx) (k : Nat) (c : String) (m : Str) : Prop :=
  ∃ (kk : Nat) (p g : Addr) (fd : FuncData) (ps : List Str), FnOk X.prog X.w X.K X.mg X.base (L2.CX X.prog X.w) kk g fd ps (spOf L X.K (L.Γ.fn k)) ∧ Room (kk + 2) X.A ∧ PropOf X.K (He.ga X.K c) m p g ∧ Binds X.K fd ps []
def NwSt (L : Lnk) (X : Cx) (k : Nat) (c : String) (m : Str) : Prop :=
  ∃ (kk : Nat) (g : Addr) (fd : FuncData) (ps : List Str), FnOk X.prog X.w X.K X.mg X.base (L2.CX X.prog X.w) kk g fd ps (spOf L X.K (L.Γ.fn k)) ∧ Room (kk + 2) X.A ∧ Mk X.K (He.ga X.K c) g ∧ Binds X.K fd ps []
def blts : List Str := ["len", "abs", "max", "min", "int", "sum", "all", "any", "tuple", "isinstance", "repr", "str", "range", "enumerate", "zip", "list", "bool", "sorted", "set", "super", "KeyError", "IndexError", "OverflowError", "ArithmeticError", "LookupError", "ValueError"]
/-- what of the text an error's class must have: over ValueError without own __init__, or one that keeps its argument -/
structure XcG (P : Program) (K : PySem.W.Frag) (n : String) : Prop where
  q : xsup n = none → PySem.W.excIn K (He.ga K n) [.type "ValueError", .type "Exception", .type "BaseException", .type "object"] "ValueError.__new__" = true
  kp : PySem.W.keepIn K (.ref (He.ga K n)) = true
  sb : PySem.W.subIn K (.ref (He.ga K n)) (.type "BaseException") = some true
  ty : PySem.W.typeIn K (.ref (He.ga K n)) = some (.type "type")
  sp : ∀ p, xsup n = some p → SupG K P (He.ga K n) p.1 ∧ XfC K (He.ga K n) ∧ PySem.W.findIn K (.ref (He.ga K n)) p.1 = some none
structure XcA (P : Program) (K : PySem.W.Frag) (xc : List String) : Prop where
  xv : xc.contains "SeriesError" = true → ∀ n, xc.contains n = true → XvG K n
  g : ∀ n ∈ xc, XcG P K n
  pr : xc.contains "SeriesError" = false → ∀ (i j : Nat) (n m : String), xc[i]? = some n → xc[j]? = some m → PySem.W.exmOne K (.ref (He.ga K n)) (.ref (He.ga K m)) = some (decide (i = j))
/-- how an exception lies -/
def xrOf (K : PySem.W.Frag) (xc : List String) : Ow → Hp → Nat → D → Value → Option Addr → Prop := fun O H k d c dd => ∃ n, xc[k]? = some n ∧ c = .ref (He.ga K n) ∧ ((xsup n = none ∧ d = .non ∧ dd = none) ∨ ∃ p a v, xsup n = some p ∧ dd = some a ∧ H a = some (.xd [(p.1, v)]) ∧ ¬ O a ∧ Rp K O H v d)
/-- the defs that are handed calls -/
def MetSt (L : Lnk) (X : Cx) (j : Nat) (x : Str) : Prop := ∃ (hs : List (Nat × HC)) (fin : Option D) (g : Addr) (pg : Arguments) (bg : List Stmt) (sg : Scope) (dV kV doc pm cdv ct oc : Value) (an od : Option Addr) (osl : Array (Option Value)) (a : Str) (N : List Str),
  L.Γ.mt[j]? = some (x, hs, fin) ∧ X.mg x = some (.ref g) ∧ PySem.W.keepIn X.K (.ref g) = true ∧ X.K.lookup g = some ⟨oc, od, .func (PySem.W.fnOf x x pg bg sg dV kV doc pm an cdv ct), osl⟩ ∧ PySem.W.codeIn X.K cdv x = true ∧
  L2.Binds X.K (PySem.W.fnOf x x pg bg sg dV kV doc pm an cdv ct) [a] [] ∧ FnScope N [a] sg ∧ N[0]? = some a ∧ Vis sg a ∧ (a == ("__debug__" : Str)) = false ∧ (a == ("__classdict__" : Str)) = false ∧ 1 < N.length ∧ metB L.Γ.xc N sg a hs fin bg = true
def FnK (L : Lnk) (X : Cx) (k0 k : Nat) (x : Str) : Prop :=
  ∃ (kk : Nat) (f : Addr) (fd : FuncData) (ps : List Str), FnOk X.prog X.w X.K X.mg X.base (L2.CX X.prog X.w) kk f fd ps (spOf L X.K (L.Γ.fn k)) ∧ kk + 2 ≤ k0 ∧ X.mg x = some (.ref f) ∧ PySem.W.keepIn X.K (.ref f) = true ∧ Binds X.K fd ps []
def MtK (L : Lnk) (X : Cx) (k0 k : Nat) (c : String) (m : Str) : Prop :=
  ∃ (kk : Nat) (g : Addr) (fd : FuncData) (ps : List Str), FnOk X.prog X.w X.K X.mg X.base (L2.CX X.prog X.w) kk g fd ps (spOf L X.K (L.Γ.fn k)) ∧ kk + 2 ≤ k0 ∧ Meth X.K (He.ga X.K c) m g ∧ Binds X.K fd ps []
def PrK (L : Lnk) (X : Cx) (k0 k : Nat) (c : String) (m : Str) : Prop :=
  ∃ (kk : Nat) (p g : Addr) (fd : FuncData) (ps : List Str), FnOk X.prog X.w X.K X.mg X.base (L2.CX X.prog X.w) kk g fd ps (spOf L X.K (L.Γ.fn k)) ∧ kk + 2 ≤ k0 ∧ PropOf X.K (He.ga X.K c) m p g ∧ Binds X.K fd ps []
def NwK (L : Lnk) (X : Cx) (k0 k : Nat) (c : String) (m : Str) : Prop :=
  ∃ (kk : Nat) (g : Addr) (fd : FuncData) (ps : List Str), FnOk X.prog X.w X.K X.mg X.base (L2.CX X.prog X.w) kk g fd ps (spOf L X.K (L.Γ.fn k)) ∧ kk + 2 ≤ k0 ∧ Mk X.K (He.ga X.K c) g ∧ Binds X.K fd ps []
/-- a def in which lambdas are made: its table of code objects, room for what they call -/
structure LamI (L : Lnk) (X : Cx) (c : Ck) (x : Str) (k0 : Nat) (cd P : Addr) : Prop where
  k32 : 32 ≤ k0
  room : Room (k0 + 2) X.A
  code : X.env.code = .ref cd
  qual : X.env.qual = x ++ ".<locals>."
  tab : PySem.W.tabIn X.K x = some (cd, P)
  tb : LamX.TabB X.base X.mg cd P
  fn : ∀ p ∈ c.fns, FnK L X k0 p.1 p.2
  mt : ∀ p ∈ c.mts, MtK L X k0 p.1 p.2.1 p.2.2
  pr : ∀ p ∈ c.prs, PrK L X k0 p.1 p.2.1 p.2.2
  nw : ∀ p ∈ c.nws, NwK L X k0 p.1 p.2.1 p.2.2
structure XC (c : Ck) (L : Lnk) (W : WX) (X : Cx) : Prop where
  N : X.N = c.N
  nd : c.N.Nodup
  sc : X.env.scope = c.sc
  calm : X.calm = true
  un : X.A.units + 70 < cLine
  py : PyX X
  tk : Takes X W
  st : ∀ x, locC c x = true → X.fn x = true ∨ X.env.scope.names.lookup x = some .local
  bl : ∀ x ∈ blts, X.mg x = none
  fn : ∀ p ∈ c.fns, FnSt L X p.1 p.2
  gl : ∀ p ∈ c.gls, GlSt L X p.1 p.2
  ca : ClsA X.K L.Γ.cls
  cs : ∀ p ∈ c.cls, p ∈ L.Γ.cls
  cm : ∀ p ∈ c.cls, X.mg p.1 = some (.ref (He.ga X.K p.1))
  mt : ∀ p ∈ c.mts, MtSt L X p.1 p.2.1 p.2.2
  pr : ∀ p ∈ c.prs, PrSt L X p.1 p.2.1 p.2.2
  nw : ∀ p ∈ c.nws, NwSt L X p.1 p.2.1 p.2.2
  xa : XcA X.prog X.K c.xc
  xm : ∀ n ∈ c.xc, X.mg n = some (.ref (He.ga X.K n))
  xr : L.xr = xrOf X.K c.xc
  rm : Room 3 X.A
  xg : L.Γ.xc = c.xc
  gd : c.gd = true → X.A.guards = some []
  gn : ∀ p ∈ c.gns, GnSt L X p.1 p.2
  met : ∀ p ∈ c.mets, MetSt L X p.1 p.2
  fa : ∀ p ∈ c.fns, X.mg p.2 = some (.ref (He.ga X.K p.2))
  lam : noOwn c = true → c.mets ≠ [] → ∀ y, c.nm = some y → ∃ k0 cd P, LamI L X c y k0 cd P
section
variable {c : Ck} {L : Lnk} {W : WX} {X : Cx}
theorem XC.blk (x : XC c L W X) (s : Shared) (H : Hp) (scope : Scope) (cl : List (Str × Addr)) (C : Addr) (fp : List Addr) : XC (c.inn scope) L (fun _ _ _ _ => False) (X.blk s H scope (compEnvC scope cl C X.env) fp) where
  N := x.N
  nd := x.nd
  sc := by show relS scope X.env.scope = relS scope c.sc; rw [x.sc]
  calm := x.calm
  un := x.un
  py := ⟨x.py.env, x.py.seer, x.py.tree, x.py.deep⟩
  tk := takes0
  st := fun y h => by
    show (scope.names.lookup y == some NameKind.cell) = true ∨ (relS scope X.env.scope).names.lookup y = some .local
    rw [x.sc]
    unfold locC Ck.inn at h
    simp only at h
    split at h
    · rename_i e; exact .inr e
    · left; simpa using h
    · cases h
  bl := x.bl
  fn := x.fn
  gl := x.gl
  ca := x.ca
  cs := x.cs
  cm := x.cm
  mt := x.mt
  pr := x.pr
  nw := x.nw
  xa := x.xa
  xm := x.xm
  xr := x.xr
  rm := x.rm
  xg := x.xg
  gd := x.gd
  gn := x.gn
  met := x.met
  fa := x.fa
  lam := fun h => nomatch h
theorem XC.tr (x : XC c L W X) {W' : WX} {pn : List (Addr × Obj)} {xe : Value → Shared → Prop} (tk : Takes (X.tr pn xe) W') : XC c L W' (X.tr pn xe) where
  N := x.N
  nd := x.nd
  sc := x.sc
  calm := x.calm
  un := x.un
  py := ⟨x.py.env, x.py.seer, x.py.tree, x.py.deep⟩
  tk := tk
  st := x.st
  bl := x.bl
  fn := x.fn
  gl := x.gl
  ca := x.ca
  cs := x.cs
  cm := x.cm
  mt := x.mt
  pr := x.pr
  nw := x.nw
  xa := x.xa
  xm := x.xm
  xr := x.xr
  rm := x.rm
  xg := x.xg
  gd := x.gd
  gn := x.gn
  met := x.met
  fa := x.fa
  lam := fun h1 h2 y hy => by
    obtain ⟨k0, cd, P, I⟩ := x.lam h1 h2 y hy
    exact ⟨k0, cd, P, I.k32, I.room, I.code, I.qual, I.tab, I.tb, I.fn, I.mt, I.pr, I.nw⟩
/-- within a lambda -/
theorem XC.inLam (x : XC c L W X) {y : Str} {k0 : Nat} {cd P : Addr} (I : LamI L X c y k0 cd P) {scope : Scope} (LS : LamX.LamS X.env.scope scope) {A : Around} {outer : List PySem.Env} {s : Shared} {H : Hp} {E : XK} {f c' : Addr} (hr : Room k0 (A.deeper (LamX.lamEnv X scope s.heap.objs.size f c'))) :
    XC (c.lam scope) L (fun cls d _ H => E cls d H) (LamX.lamCx X A outer s H E scope f c') where
  N := x.N
  nd := x.nd
  sc := rfl
  calm := rfl
  un := by have := hr.un; show (A.deeper _).units + 70 < cLine; omega
  py := ⟨⟨_, _, rfl, LS.gen, LS.co, rfl, rfl⟩, x.py.seer, x.py.tree, by have := hr.dp; have := I.k32; show (A.deeper _).depth + 100 < recursionLimit; omega⟩
  tk := takes_of rfl rfl rfl rfl
  st := fun y h => by
    exfalso
    unfold locC Ck.lam at h
    simp only at h
    split at h
    · rename_i e; exact (LS.own _ (PySem.mem_of_lookup e)).1 rfl
    · rename_i e; exact (LS.own _ (PySem.mem_of_lookup e)).2 rfl
    · cases h
  bl := x.bl
  fn := fun p hp => by
    obtain ⟨kk, g, fd, ps, F, l, r⟩ := I.fn p hp
    exact ⟨kk, g, fd, ps, F, hr.mono l, r⟩
  gl := x.gl
  ca := x.ca
  cs := x.cs
  cm := x.cm
  mt := fun p hp => by
    obtain ⟨kk, g, fd, ps, F, l, r⟩ := I.mt p hp
    exact ⟨kk, g, fd, ps, F, hr.mono l, r⟩
  pr := fun p hp => by
    obtain ⟨kk, q, g, fd, ps, F, l, r⟩ := I.pr p hp
    exact ⟨kk, q, g, fd, ps, F, hr.mono l, r⟩
  nw := fun p hp => by
    obtain ⟨kk, g, fd, ps, F, l, r⟩ := I.nw p hp
    exact ⟨kk, g, fd, ps, F, hr.mono l, r⟩
  xa := x.xa
  xm := x.xm
  xr := x.xr
  rm := hr.mono (by have := I.k32; omega)
  xg := x.xg
  gd := fun h => nomatch h
  gn := fun _ h => nomatch h
  met := fun _ h => nomatch h
  fa := x.fa
  lam := fun _ h => absurd rfl h
theorem xcC_ok {k : Nat} {y : Str} (h : xcC c k y = true) : ∃ n : String, c.xc[k]? = some n ∧ (n : Str) = y := by
  unfold xcC at h
  split at h
  · rename_i n e; exact ⟨n, e, of_decide_eq_true h⟩
  · cases h
theorem visC_ok {y : Str} (x : XC c L W X) (h : visC c y = true) : Vis X.env.scope y := by
  unfold visC at h
  unfold Vis
  rw [x.sc]
  split at h
  · rename_i e; exact .inl e
  · rename_i e; exact .inr (.inl e)
  · rename_i e; exact .inr (.inr e)
  · cases h
theorem locC_ok {y : Str} (x : XC c L W X) (h : locC c y = true) : L2.Loc X.env.scope y := by
  unfold locC at h
  unfold L2.Loc
  rw [x.sc]
  split at h
  · rename_i e; exact .inl e
  · rename_i e; exact .inr e
  · cases h
theorem gloC_ok {y : Str} (x : XC c L W X) (h : gloC c y = true) : Gl X y ∧ (y == ("__debug__" : Str)) = false := by
  unfold gloC dbg at h
  simp only [Bool.and_eq_true, decide_eq_true_eq, Bool.not_eq_true'] at h
  refine ⟨?_, h.2⟩
  show X.env.scope.names.lookup y = _
  rw [x.sc]
  exact h.1
theorem pairC_ok : ∀ {l : List (Nat × Str)} {k : Nat} {x : Str}, pairC l k x = true → (k, x) ∈ l
  | p :: r, k, x, h => by
    unfold pairC at h
    rw [Bool.or_eq_true, Bool.and_eq_true] at h
    rcases h with ⟨h1, h2⟩ | h
    · have e1 := Nat.eq_of_beq_eq_true h1
      have e2 := of_decide_eq_true h2
      rw [← e1, ← e2]
      exact List.mem_cons_self
    · exact List.mem_cons_of_mem _ (pairC_ok h)
theorem noStar_each {e : Expr} {es : List Expr} {env : PySem.Env} (h : noStar e = true) : starEach (e :: es) env = (false, eval e env) :: starEach es env := by
  cases e <;> first | rfl | cases h
theorem noStar_assign {e : Expr} {es : List Expr} {env : PySem.Env} (h : noStar e = true) : assignEach (e :: es) env = (false, assign e env) :: assignEach es env := by
  cases e <;> first | rfl | cases h
theorem noStars_each {env : PySem.Env} : ∀ {es : List Expr}, noStars es = true → ∀ pos, (backTo pos (starEach es env)).any (·.1) = false
  | [], _, _ => rfl
  | e :: es, h, pos => by
    unfold noStars at h
    rw [Bool.and_eq_true] at h
    rw [noStar_each h.1]
    show (false || (backTo pos (starEach es env)).any (·.1)) = false
    rw [noStars_each h.2, Bool.false_or]
theorem noSet_marks {e : Expr} (h : noSet e = true) (op : CmpOp) : behindInMarks op e = false := by
  cases e <;> first | rfl | cases h
theorem noSet_last {e f : Expr} (h : noSet f = true) (o1 o2 : CmpOp) : lastMarks [o1, o2] [e, f] = false := by
  show behindInMarks o2 f = false
  exact noSet_marks h o2
theorem noSet_fold {e : Expr} (h : noSet e = true) (env : PySem.Env) (x : Value) : foldedSetIterable e env x = pure x := by
  cases e <;> first | rfl | cases h
theorem noSlice_ix {e : Expr} (h : noSlice e = true) : PlainIx e := fun o i => by
  cases e <;> first | rfl | cases h
theorem noCall_base {e : Expr} (h : noCall e = true) (m : Str) (env : PySem.Env) (t : Sem Value) : attributeBase e m env t = t := by
  cases e <;> first | rfl | cases h
theorem noBase_ok {e : Expr} (h : noBase e = true) (m : Str) (env : PySem.Env) (t : Sem Value) : attributeBase e m env t = t := by
  cases e with
  | Call f args kws pos =>
    cases f with
    | Name n p =>
      cases args with
      | nil =>
        cases kws with
        | nil => cases h
        | cons _ _ => rfl
      | cons _ _ => rfl
    | _ => rfl
  | _ => rfl
theorem mtC_ok : ∀ {l : List (Nat × String × Str)} {k : Nat} {c : String} {x : Str}, mtC l k c x = true → (k, c, x) ∈ l
  | p :: r, k, c, x, h => by
    unfold mtC at h
    simp only [Bool.or_eq_true, Bool.and_eq_true, decide_eq_true_eq] at h
    rcases h with ⟨⟨h1, h2⟩, h3⟩ | h
    · have e1 := Nat.eq_of_beq_eq_true h1
      rw [← e1, ← h2, ← h3]
      exact List.mem_cons_self
    · exact List.mem_cons_of_mem _ (mtC_ok h)
theorem hasC_ok : ∀ {l : List (String × List Str)} {c : String}, hasC l c = true → ∃ p ∈ l, p.1 = c
  | p :: r, c, h => by
    unfold hasC at h
    simp only [Bool.or_eq_true, decide_eq_true_eq] at h
    rcases h with h | h
    · exact ⟨p, List.mem_cons_self, h⟩
    · obtain ⟨q, h1, h2⟩ := hasC_ok h
      exact ⟨q, List.mem_cons_of_mem _ h1, h2⟩
theorem slC_ok : ∀ {l : List (String × List Str)} {c : String} {i : Nat} {f : Str}, slC l c i f = true → ∃ p ∈ l, p.1 = c ∧ p.2[i]? = some f ∧ f ≠ neS
  | p :: r, c, i, f, h => by
    unfold slC at h
    simp only [Bool.or_eq_true, Bool.and_eq_true, decide_eq_true_eq] at h
    rcases h with h | h
    · exact ⟨p, List.mem_cons_self, h⟩
    · obtain ⟨q, h1, h2⟩ := slC_ok h
      exact ⟨q, List.mem_cons_of_mem _ h1, h2⟩
theorem neC_ok : ∀ {l : List (String × List Str)} {c : String}, neC l c = true → ∃ p ∈ l, p.1 = c ∧ neS ∈ p.2
  | p :: r, c, h => by
    unfold neC at h
    simp only [Bool.or_eq_true, Bool.and_eq_true, decide_eq_true_eq] at h
    rcases h with h | h
    · exact ⟨p, List.mem_cons_self, h⟩
    · obtain ⟨q, h1, h2⟩ := neC_ok h
      exact ⟨q, List.mem_cons_of_mem _ h1, h2⟩
theorem neC_g {n : String} (x : XC c L W X) (h : neC c.cls n = true) : ∃ sl, ClsG X.K n sl ∧ neS ∈ sl := by
  obtain ⟨p, hp, rfl, e⟩ := neC_ok h
  exact ⟨_, x.ca.g p (x.cs p hp), e⟩
theorem hasC_has {n : String} (x : XC c L W X) (h : hasC c.cls n = true) : L.Γ.has n = true := by
  obtain ⟨p, hp, e⟩ := hasC_ok h
  exact List.any_eq_true.mpr ⟨p, x.cs p hp, by rw [e]; exact beq_self_eq_true n⟩
theorem hasC_g {n : String} (x : XC c L W X) (h : hasC c.cls n = true) : ∃ sl, ClsG X.K n sl := by
  obtain ⟨p, hp, rfl⟩ := hasC_ok h
  exact ⟨_, x.ca.g p (x.cs p hp)⟩
theorem hasC_mg {n : String} (x : XC c L W X) (h : hasC c.cls n = true) : X.mg n = some (.ref (He.ga X.K n)) := by
  obtain ⟨p, hp, rfl⟩ := hasC_ok h
  exact x.cm p hp
theorem slC_g {n : String} {i : Nat} {f : Str} (x : XC c L W X) (h : slC c.cls n i f = true) : ∃ sl, ClsG X.K n sl ∧ sl[i]? = some f ∧ f ≠ neS := by
  obtain ⟨p, hp, rfl, e⟩ := slC_ok h
  exact ⟨_, x.ca.g p (x.cs p hp), e⟩
theorem subV_ok {us vs : List Nat} (h : subV us vs = true) : ∀ v ∈ us, v ∈ vs := fun v hv => by
  have := List.all_eq_true.mp h v hv
  simpa using this
theorem bl_of (x : XC c L W X) {n : Str} (h : n ∈ blts) : X.mg n = none := x.bl n h
end
end DL

set_option maxHeartbeats 1000000
/-! DL25: readings of methods, properties, new instances, own == and len and str, f-texts, stores into slots. -/
namespace DL
open PySem PySem.Spec PyProof.Rows L2
section
variable {L : Lnk} {K : PySem.W.Frag} {W : WX} {X : Cx} {to ta tb : TE} {t : TA} {wo wa wb : WE'} {ws : Env → Sto → XD → (List D → Sto → Prop) → Prop} {c : String} {f : Nat}
theorem re_meth (h : RE L K W to wo) (hs : RA L K W t ws) : RE L K W (tMethS (He.ga K c) (spOf L K (L.Γ.fn f)) (WE W) to t) fun ρ S R Q => wo ρ S R fun x S1 => (∃ fs, x = .obj c fs) ∧ ws ρ S1 R fun ds S2 => L.Γ.fn f (x :: ds) S2 R Q := fun σ H ρ S O R Q Q' A hw k => by
  refine h.go A hw fun x H1 dx S1 O1 r1 A1 e1 ⟨⟨fs, he⟩, q1⟩ => ?_
  subst he
  have r0 := r1
  cases r1 with
  | obj hsl hd n n2 hv rs =>
    refine ⟨_, _, _, rfl, hsl, hs.go A1 q1 fun vs H2 ds S2 O2 r2 A2 e2 q2 => ?_⟩
    exact ⟨_ :: ds, S2, O2, R, Q, A2.sok, .cons (r0.mono (A1.mo e2)) r2, q2, fun k' d S' O' H' cc dd s' e' x r => A2.x k' d S' O' H' cc dd s' e' x r, fun v H' d S' O' r' s' e' q' => k v H' d S' O' r' s' ((e1.trans A1.sok e2).trans A2.sok e') q'⟩
/-- a promise used where nothing may be raised -/
theorem sp_use {F : FSp} {vs : List V} {ds : List D} {S S1 : Sto} {O O1 : Ow} {H H1 : Hp} {Q : QD} {Q' : VK} (s : Sok K S1 O1 H1) (r : Rps K O1 H1 vs ds) (h : F ds S1 xNo Q) (e : Ev S O H S1 O1 H1)
    (k : ∀ v H' d S' O', Rp K O' H' v d → Sok K S' O' H' → Ev S O H S' O' H' → Q d S' → Q' v H') : spOf L K F vs H1 Q' E0 :=
  ⟨ds, S1, O1, xNo, Q, s, r, h, fun _ _ _ _ _ _ _ _ _ _ z => z.elim, fun v H' d S' O' r' s' e' q' => k v H' d S' O' r' s' (e.trans s e') q'⟩
theorem passE0 {X : Cx} : Passes (L2.CX X.prog X.w) X E0 := fun _ _ _ _ _ _ _ ⟨_, _, _, _, _, _, _, _, _, _, _, _, z⟩ => z.elim
theorem re_prop (h : RE L K W to wo) : RE L K W (SlX.tPropSl (He.ga K c) (spOf L K (L.Γ.fn f)) E0 to) fun ρ S R Q => wo ρ S R fun x S1 => (∃ fs, x = .obj c fs) ∧ L.Γ.fn f [x] S1 xNo Q := fun σ H ρ S O R Q Q' A hw k => by
  refine h.go A hw fun x H1 dx S1 O1 r1 A1 e1 ⟨⟨fs, he⟩, q1⟩ => ?_
  subst he
  have r0 := r1
  cases r1 with
  | obj hsl hd n n2 hv rs => exact ⟨_, _, _, rfl, hsl, sp_use A1.sok (.cons r0 .nil) q1 e1 k⟩
theorem re_cmpO (ha : RE L K W ta wa) (hb : RE L K W tb wb) (nf : PySem.W.notFirst K (He.ga K c) (.ref (He.ga K c)) = true) : RE L K W (tOp (SlX.rOwn K (He.ga K c) (spOf L K (L.Γ.fn f)) E0) ta tb) fun ρ S R Q => wa ρ S R fun x S1 => wb ρ S1 R fun y S2 => (∃ fs, x = .obj c fs) ∧ (∃ fs, y = .obj c fs) ∧ L.Γ.fn f [x, y] S2 xNo Q := fun σ H ρ S O R Q Q' A hw k => by
  refine ha.go A hw fun x H1 dx S1 O1 r1 A1 e1 q1 => ?_
  refine hb.go A1 q1 fun y H2 dy S2 O2 r2 A2 e2 ⟨⟨fs, he⟩, ⟨gs, hg⟩, q2⟩ => ?_
  subst he hg
  have r1 := r1.mono (A1.mo e2)
  have a := r1
  have b := r2
  cases r1 with
  | obj hsl hd n n2 hv rs =>
    cases r2 with
    | obj hsl2 hd2 m m2 hv2 rs2 => exact ⟨_, _, _, _, _, _, _, rfl, rfl, hsl, hsl2, nf, sp_use A2.sok (.cons a (.cons b .nil)) q2 (e1.trans A1.sok e2) k⟩
/-- x op y, x an instance; y of a built-in class -/
def rOwnT (K : PySem.W.Frag) (C : Addr) (sp : Sp) (E : XK) : R2 := fun x y H Q => ∃ a dx vs t, x = .ref a ∧ SlX.Slt H a C dx vs ∧ TyX K H y t ∧ PySem.W.notFirst K C t = true ∧ sp [x, y] H Q E
theorem op_ownT {op : CmpOp} {CX : CXT} {C g : Addr} {n : Nat} {sp : Sp} {E : XK} (hop : ∀ a b, compareOp op a b = richCompare op a b) (hs : PySem.W.findIn X.K (.ref C) (cmpInfo op).2.1 = some (some (.ref g))) (hf : PySem.W.isFn X.K (.ref g) = true) (F : FnR X.prog X.w X.K X.mg X.base CX n g sp)
    (hr : Room n X.A) (hx : Passes CX X E) : OpR X (compareOp op) (rOwnT X.K C sp E) := fun pins s σ H x y v u Q I rx ry ⟨a, dx, vs, t, ex, ha, ty, hn, q⟩ => by
  subst ex
  cases (show v = Value.ref a from rx)
  obtain ⟨_, _, _, J, _⟩ := SlX.slt_inst I ha
  obtain ⟨P, Z, p, _⟩ := kit_of I ry ty
  obtain ⟨_, hF⟩ := I.fr
  rw [hop]
  exact PySem.W.cmp_K (op := op) (tb := t) hr.units0 hF I.ok.mod.kin J (Z.ty _ _ I.kIn p) hn hs hf (wpAny_mono (wpAny_call (run_fnR (us := [.ref a, u]) (vs := [.ref a, y]) F hr hx I (.cons rfl (.cons ry .nil)) q)) (fun w s' (hh : EP X pins σ Q w s') => by obtain ⟨z', H', I', rz, qz⟩ := hh; exact SlX.cmpback rz ⟨z', H', I', rz, qz⟩) fun _ _ x => x)
theorem not_first (G : ClsA K L.Γ.cls) (hc : L.Γ.has c = true) {t : String} (ht : t ∈ tys7) : PySem.W.notFirst K (He.ga K c) (.type t) = true := by
  obtain ⟨p, hp, rfl⟩ := has_mem hc
  have h := G.ty t ht p hp
  unfold PySem.W.kitOne at h
  rw [if_neg (by intro z; exact nomatch (eq_of_beq z))] at h
  unfold PySem.W.kitCls at h
  simp only at h
  split at h
  · unfold PySem.W.notFirst
    rw [h]; simp
  · cases h
theorem re_cmpOD {op : COp} {r : R2} (hr : Hr K r fun S dx dy P => cmpD op (res S dx) (res S dy) fun z => P (.bl z)) (G : ClsA K L.Γ.cls) (hc : L.Γ.has c = true) (ha : RE L K W ta wa) (hb : RE L K W tb wb) (nf : PySem.W.notFirst K (He.ga K c) (.ref (He.ga K c)) = true) :
    RE L K W (tOp (fun x y H Q => (SlX.rOwn K (He.ga K c) (spOf L K (L.Γ.fn f)) E0 x y H Q ∨ rOwnT K (He.ga K c) (spOf L K (L.Γ.fn f)) E0 x y H Q) ∨ r x y H Q) ta tb) fun ρ S R Q => wa ρ S R fun x S1 => wb ρ S1 R fun y S2 => ((∃ fs, x = .obj c fs) ∧ ((∃ fs, y = .obj c fs) ∨ ∃ t, typD (res S2 y) = some t) ∧ L.Γ.fn f [x, y] S2 xNo Q) ∨ cmpD op (res S2 x) (res S2 y) fun z => Q (.bl z) S2 := fun σ H ρ S O R Q Q' A hw k => by
  refine ha.go A hw fun x H1 dx S1 O1 r1 A1 e1 q1 => ?_
  refine hb.go A1 q1 fun y H2 dy S2 O2 r2 A2 e2 q => ?_
  have r1 := r1.mono (A1.mo e2)
  rcases q with ⟨⟨fs, he⟩, hy, q2⟩ | q
  · subst he
    have a := r1
    have b := r2
    have go := sp_use (L := L) (S := S) (O := O) (H := H) A2.sok (.cons a (.cons b .nil)) q2 (e1.trans A1.sok e2) k
    left
    cases r1 with
    | obj hsl hd n n2 hv rs =>
      rcases hy with ⟨gs, hg⟩ | ⟨t, ht⟩
      · subst hg
        cases r2 with
        | obj hsl2 hd2 m m2 hv2 rs2 => exact .inl ⟨_, _, _, _, _, _, _, rfl, rfl, hsl, hsl2, nf, go⟩
      · exact .inr ⟨_, _, _, _, rfl, hsl, tyx_of A2.sok r2 ht, not_first G hc (typD_mem ht), go⟩
  · right
    exact hr x y dx dy H2 S2 O2 (fun d => Q d S2) Q' A2.sok r1 r2 q fun v H' d rv s e qd => k v H' d S2 O2 rv s ((e1.trans A1.sok e2).trans A2.sok e) qd
theorem re_neO (ha : RE L K W ta wa) (hb : RE L K W tb wb) (nf : PySem.W.notFirst K (He.ga K c) (.ref (He.ga K c)) = true) : RE L K W (tOp (rOwnNe K (He.ga K c) (spOf L K (L.Γ.fn f)) E0) ta tb) fun ρ S R Q => wa ρ S R fun x S1 => wb ρ S1 R fun y S2 => (∃ fs, x = .obj c fs) ∧ (∃ fs, y = .obj c fs) ∧ L.Γ.fn f [x, y] S2 xNo fun d S3 => ∃ t, d = .bl t ∧ Q (.bl (!t)) S3 := fun σ H ρ S O R Q Q' A hw k => by
  refine ha.go A hw fun x H1 dx S1 O1 r1 A1 e1 q1 => ?_
  refine hb.go A1 q1 fun y H2 dy S2 O2 r2 A2 e2 ⟨⟨fs, he⟩, ⟨gs, hg⟩, q2⟩ => ?_
  subst he hg
  have r1 := r1.mono (A1.mo e2)
  have a := r1
  have b := r2
  cases r1 with
  | obj hsl hd n n2 hv rs =>
    cases r2 with
    | obj hsl2 hd2 m m2 hv2 rs2 =>
      refine ⟨_, _, _, _, _, _, _, rfl, rfl, hsl, hsl2, nf, sp_use A2.sok (.cons a (.cons b .nil)) q2 (e1.trans A1.sok e2) fun v H' d S' O' r s e q => ?_⟩
      obtain ⟨t, rfl, q⟩ := q
      cases r
      exact ⟨t, rfl, k _ _ _ _ _ (.bl _) s e q⟩
/-! ### a new instance -/
def tMakeS (C : Addr) (sp : Sp) (E : L2.St → XK) (t : TA) : TE := fun σ H Q => t σ H fun vs H1 => ∀ x dx, H1 x = none → H1 dx = none → dx ≠ x → sp (.ref x :: vs) (upd (upd H1 dx (.own x)) x (.ins C dx [])) (fun v H2 => v = .non ∧ Q (.ref x) H2) (E σ)
theorem run_mk {CX : CXT} {k : Nat} {C g : Addr} {fd : FuncData} {ps : List Str} {sp : Sp} {E : L2.St → XK} {pins : List (Addr × Obj)} {σ : L2.St} {H : Hp} {s : Shared} {Q : VK} {us : List Value} {vs : List V} (M : Mk X.K C g)
    (F : FnOk X.prog X.w X.K X.mg X.base CX k g fd ps sp) (hr : Room (k + 1) X.A) (hb : Binds X.K fd ps []) (hx : ∀ σ, PassesAt CX X σ (E σ)) (I : Inv X pins σ H s) (r : Vals vs us)
    (h : ∀ x dx, H x = none → H dx = none → dx ≠ x → sp (.ref x :: vs) (upd (upd H dx (.own x)) x (.ins C dx [])) (fun v H2 => v = .non ∧ Q (.ref x) H2) (E σ)) : wpAny (model X.prog X.w) X.A (call (.ref C) us) (EP X pins σ Q) X.xe s := by
  have i1 := I.hok.fresh (Nat.le_succ s.heap.objs.size)
  have i2 := I.hok.fresh (Nat.le_refl s.heap.objs.size)
  have hq := h (s.heap.objs.size + 1) s.heap.objs.size i1 i2 (Nat.ne_of_lt (Nat.lt_succ_self _))
  have J := Inv.made (C := C) I
  have rr : Vals (V.ref (s.heap.objs.size + 1) :: vs) (Value.ref (s.heap.objs.size + 1) :: us) := .cons rfl r
  have hl : (Value.ref (s.heap.objs.size + 1) :: us).length = ps.length := by
    rw [← rr.length]
    exact F.len _ _ _ _ hq
  have bb := hb _ (Value.ref (s.heap.objs.size + 1) :: us) J.kIn (by rw [List.append_nil]; exact hl)
  rw [List.append_nil] at bb
  refine wpAny_call (make_map (f := g) I.kIn M.makes M.init (beq_iff_eq.mp M.fn) (codeAny_mono (F.run _ X.stack _ _ ⟨_ :: us, []⟩ _ _ _ (E σ) (hr.make C us []) (J.env0.make C us []) bb rr hq) fun r s' z => ?_))
  cases r with
  | error e => exact hx σ pins _ _ e s' J z
  | ok fl =>
    cases fl with
    | ret u =>
      obtain ⟨v, H', J2, rv, ev, q3⟩ := J.after z
      cases ev
      exact ⟨rv, .ref (s.heap.objs.size + 1), H', J2, rfl, q3⟩
    | _ => exact z.elim
theorem pe_new {CX : CXT} {k : Nat} {C g : Addr} {fd : FuncData} {ps : List Str} {sp : Sp} {E : L2.St → XK} {x : Str} {p pos : Pos} {e : Expr} {es : List Expr} (M : Mk X.K C g)
    (F : FnOk X.prog X.w X.K X.mg X.base CX k g fd ps sp) (hr : Room (k + 1) X.A) (hb : Binds X.K fd ps []) (hx : ∀ σ, PassesAt CX X σ (E σ)) (hg : Gl X x) (hm : X.mg x = some (.ref C)) (ha : PA X (e :: es) t) (hdb : (x == ("__debug__" : Str)) = false)
    (he : starEach (e :: es) X.env = (false, eval e X.env) :: starEach es X.env) (hpl : (backTo pos (starEach es X.env)).any (·.1) = false) : PE X (.Call (.Name x p) (e :: es) [] pos) (tMakeS C sp E t) := by
  refine ⟨fun pins s σ H Q I h => wpAny_Call_Name_kw (ld_glob I hg hm ?_ hdb)⟩
  exact PySem.W.callWith_K (h₀ := X.base) I.ok.mod.kin M.kp (thn (ha.run pos pins s σ H _ I h) fun us s1 ⟨vs, H1, I1, r, q⟩ => ⟨I1.kIn, run_mk M F hr hb hx I1 r q⟩) he hpl
theorem fs_of {O : Ow} {H : Hp} : ∀ {vs : List (Option V)} (fs : List D), (∀ (i : Nat) (d : D), (fs.map some)[i]? = some (some d) → ∃ v, vs[i]? = some (some v) ∧ Rp K O H v d) → ∃ us : List V, (∀ (i : Nat) (v : V), us[i]? = some v → vs[i]? = some (some v)) ∧ Rps K O H us fs
  | vs, [], _ => ⟨[], fun _ _ h => by simp at h, .nil⟩
  | vs, d :: fs, h => by
    obtain ⟨v, h1, h2⟩ := h 0 d rfl
    obtain ⟨us, h3, h4⟩ := fs_of (vs := vs.drop 1) fs fun i d e => by
      obtain ⟨v, h1, h2⟩ := h (i + 1) d e
      exact ⟨v, by rw [List.getElem?_drop, Nat.add_comm]; exact h1, h2⟩
    refine ⟨v :: us, fun i w e => ?_, .cons h2 h4⟩
    cases i with
    | zero => cases e; exact h1
    | succ i =>
      have := h3 i w e
      rwa [List.getElem?_drop, Nat.add_comm] at this
theorem no_imm_own {x : Addr} : ¬ Imm (.own x) := imm_own
theorem no_imm_ins {C dx : Addr} {fs : List (Str × V)} : ¬ Imm (.ins C dx fs) := imm_ins
/-- the store behind the making of an instance -/
theorem new_sok {S : Sto} {O : Ow} {H : Hp} {x dx : Addr} (n : Nat) (s : Sok K S O H) (hx : H x = none) (hd : H dx = none) (ne : dx ≠ x) :
    Sok K (sup (sup S dx .dx) x (.obj c dx (List.replicate n none))) (oadd (oadd O dx) x) (upd (upd H dx (.own x)) x (.ins (He.ga K c) dx [])) ∧
    Ev S O H (sup (sup S dx .dx) x (.obj c dx (List.replicate n none))) (oadd (oadd O dx) x) (upd (upd H dx (.own x)) x (.ins (He.ga K c) dx [])) := by
  have hx1 : upd H dx (.own x) x = none := by rw [upd_ne (Ne.symm ne)]; exact hx
  have s1 := s.resvU (u := .own x) hd no_imm_own
  have s2 := s1.resvU (u := .ins (He.ga K c) dx []) hx1 no_imm_ins
  have e1 := ev_resU (u := .own x) hd s
  have e2 := e1.trans s1 (ev_resU (u := .ins (He.ga K c) dx []) hx1 s1)
  have nx := s.noneH hx
  have nd := s.noneH hd
  refine ⟨⟨fun a ds h => ?_, s2.ex, fun a c' q fs h => ?_, fun a h => ?_, fun a a' c' c'' q fs fs' h h' => ?_, fun a T h => ?_⟩, ⟨fun a u h n t => e2.keep a u h ?_ t, e2.own, fun a h n => ⟨(e2.res a h n).1, ?_⟩, e2.there⟩⟩
  · by_cases z : a = x
    · rw [z, sup_same] at h; cases h
    · rw [sup_ne z] at h
      by_cases z2 : a = dx
      · rw [z2, sup_same] at h; cases h
      · rw [sup_ne z2] at h; exact s2.dom a ds h
  · by_cases z : a = x
    · rw [z, sup_same] at h; cases h
      subst z
      refine ⟨.inr rfl, ⟨.own a, by rw [upd_ne ne]; exact upd_same⟩, [], .inl ⟨upd_same, rfl⟩, fun i d e => ?_⟩
      rw [List.getElem?_replicate] at e
      split at e <;> cases e
    · rw [sup_ne z] at h
      by_cases z2 : a = dx
      · rw [z2, sup_same] at h; cases h
      · rw [sup_ne z2] at h; exact s2.obj a c' q fs h
  · by_cases z : a = x
    · rw [z, sup_same] at h; cases h
    · rw [sup_ne z] at h
      by_cases z2 : a = dx
      · subst z2; exact ⟨.inl (.inr rfl), .inl ⟨x, by rw [upd_ne z]; exact upd_same⟩⟩
      · rw [sup_ne z2] at h; exact s2.dx a h
  · have old : ∀ a c' q fs, sup (sup S dx .dx) x (.obj c dx (List.replicate n none)) a = some (.obj c' q fs) → (a = x ∧ q = dx) ∨ (S a = some (.obj c' q fs) ∧ q ≠ dx) := fun a c' q fs h => by
      by_cases z : a = x
      · rw [z, sup_same] at h; cases h; exact .inl ⟨z, rfl⟩
      · rw [sup_ne z] at h
        by_cases z2 : a = dx
        · rw [z2, sup_same] at h; cases h
        · rw [sup_ne z2] at h
          refine .inr ⟨h, fun e => ?_⟩
          obtain ⟨_, ⟨u, hu⟩, _⟩ := s.obj a c' q fs h
          rw [e, hd] at hu; cases hu
    rcases old a c' q fs h with ⟨h1, h2⟩ | ⟨h1, h2⟩ <;> rcases old a' c'' q fs' h' with ⟨g1, g2⟩ | ⟨g1, g2⟩
    · rw [h1, g1]
    · exact absurd h2 g2
    · exact absurd g2 h2
    · exact s.inj a a' c' c'' q fs fs' h1 g1
  · have z1 : a ≠ x := fun z => by rw [z, sup_same] at h; cases h
    rw [sup_ne z1] at h
    have z2 : a ≠ dx := fun z => by rw [z, sup_same] at h; cases h
    rw [sup_ne z2] at h
    refine (s2.tb a T h).imp (fun t => (t.chgS (p := dx) (fun _ n => sup_ne n) ?_ ?_).chgS (p := x) (fun _ n => sup_ne n) ?_ ?_) id
    · rw [nd]; intro _ z; cases z
    · rw [sup_same]; intro _ z; cases z
    · rw [sup_ne (Ne.symm ne), nx]; intro _ z; cases z
    · rw [sup_same]; intro _ z; cases z
  · exact n
  · rw [sup_ne, sup_ne]
    · exact n
    · intro z; rw [z] at h; exact s.notO hd h
    · intro z; rw [z] at h; exact s.notO hx h
theorem re_new {n : Nat} (hs : RA L K W t ws) : RE L K W (tMakeS (He.ga K c) (spOf L K (L.Γ.fn f)) (WE W) t) fun ρ S R Q => ws ρ S R fun ds S1 => ∀ p q, S1 p = none → S1 q = none → q ≠ p → L.Γ.fn f (.ref p :: ds) (sup (sup S1 q .dx) p (.obj c q (List.replicate n none))) R fun v S2 => v = .non ∧ ∃ fs, S2 p = some (.obj c q (fs.map some)) ∧ S2 q = some .dx ∧ Q (.obj c fs) (sdel (sdel S2 p) q) := fun σ H ρ S O R Q Q' A hw k => by
  refine hs.go A hw fun vs H1 ds S1 O1 r1 A1 e1 q1 => ?_
  intro x dx hx hd ne
  obtain ⟨s2, e2⟩ := new_sok (c := c) n A1.sok hx hd ne
  have ee := e1.trans A1.sok e2
  refine ⟨.ref x :: ds, _, _, R, _, s2, .cons .ref (r1.mono (A1.mo e2)), q1 x dx (A1.sok.noneH hx) (A1.sok.noneH hd) ne, fun k' d S' O' H' cc dd s' e' xr r => A1.x k' d S' O' H' cc dd s' (e2.trans s2 e') xr r, fun v H' d S' O' rv s' e' ⟨hv, fs, hp, hq, q⟩ => ?_⟩
  subst hv
  cases rv
  refine ⟨rfl, ?_⟩
  have e3 := ee.trans s2 e'
  obtain ⟨ho, hdx, us, sl, fr⟩ := s'.obj _ _ _ _ hp
  have hodx := (s'.dx _ hq).1
  obtain ⟨zs, z1, z2⟩ := fs_of fs fr
  have s4 : Sok K (sdel (sdel S' x) dx) (orem (orem O' x) dx) H' := ((s'.sdel (p := x) (by rw [hp]; intro _ z; cases z)).sdel (p := dx) (by rw [sdel_ne ne, hq]; intro _ z; cases z)).free (p := x) (by rw [sdel_ne (Ne.symm ne)]; exact sdel_same) |>.free (p := dx) sdel_same
  refine k (.ref x) H' (.obj c fs) _ _ ?_ s4 ⟨e3.keep, fun a h => e3.own a h.1.1, fun a h n => ?_, e3.there⟩ q
  · exact .obj sl hdx (fun h => h.1.2 rfl) (fun h => h.2 rfl) z1 ((z2.mono mo_free).mono mo_free)
  · have nx : a ≠ x := fun z => by rw [z] at h; exact A.sok.notO (e1.there x hx) h
    have nd : a ≠ dx := fun z => by rw [z] at h; exact A.sok.notO (e1.there dx hd) h
    exact ⟨⟨⟨(e3.res a h n).1, nx⟩, nd⟩, by rw [sdel_ne nd, sdel_ne nx]; exact (e3.res a h n).2⟩
/-! ### a slot stored -/
def gFld (K : PySem.W.Frag) (to : TE) (f : Str) : TG := fun v σ H Q => to σ H fun x H1 => ∃ a C dx p vs i, x = .ref a ∧ SlX.Slt H1 a C dx vs ∧ SlX.SCls K C ∧ SlX.Slot1 K C f p i ∧ Q σ (SlX.slH H1 a C dx (SlX.putS i v vs))
theorem pg_fld {o : Expr} {f : Str} {pos : Pos} (ho : PE X o to) : PG X (.Attribute o f pos) (gFld X.K to f) := by
  refine ⟨fun pins s σ H v u Q I r h => ?_⟩
  rw [arm_assign_Attribute]
  refine wpAny_bind (wpAny_holding (thn (ho.run pins s σ H _ I h) fun ov s1 ⟨x, H1, I1, rx, a, C, dx, p, vs, i, ex, hsl, cl, sl, q⟩ => ?_))
  subst ex
  obtain rfl : ov = Value.ref a := rx
  refine wpAny_bind (wpAny_standAt (wpAny_bind (wpAny_holding (SlX.setslot_ok I1 hsl cl sl r fun s2 I2 => ?_))))
  exact wpAny_release ⟨σ, _, I2, q⟩
theorem slH_none {H : Hp} {a C dx b : Addr} {vs : List (Option V)} (h : SlX.slH H a C dx vs b = none) : H b = none ∨ b = a ∨ b = dx := by
  by_cases h1 : b = a
  · exact .inr (.inl h1)
  · by_cases h2 : b = dx
    · exact .inr (.inr h2)
    · rw [SlX.slH_ne h1 h2] at h; exact .inl h
theorem rg_fld {f : Str} {i : Nat} {sl : List Str} (G : ClsG K c sl) (hi : sl[i]? = some f) (hn : f ≠ neS) (h : RE L K W to wo) : RG L K W [] (gFld K to f) fun d ρ S R Q => wo ρ S R fun x S1 => ∃ p q fs, x = .ref p ∧ S1 p = some (.obj c q fs) ∧ S1 q = some .dx ∧ i < fs.length ∧ Q ρ (sup S1 p (.obj c q (fs.set i (some d)))) := fun v d σ H ρ S O Q Q' A r hw k => by
  refine h.go A hw fun x H1 dx S1 O1 r1 A1 e1 ⟨p, q, fs, hx, hp, hq, hi', q1⟩ => ?_
  subst hx
  cases r1
  obtain ⟨ho, hu, vs, slt, fr⟩ := A1.sok.obj _ _ _ _ hp
  obtain ⟨hoq, hqd⟩ := A1.sok.dx _ hq
  obtain ⟨pd, sd⟩ := G.sl i f hi hn
  have ne : q ≠ p := fun z => by rw [z, hp] at hq; cases hq
  have ia : ∃ u, H1 p = some u ∧ ¬ Imm u := slt_some slt
  have iq : ∃ u, H1 q = some u ∧ ¬ Imm u := by
    rcases hqd with ⟨y, e⟩ | e
    · exact ⟨_, e, no_imm_own⟩
    · exact ⟨_, e, imm_xd⟩
  have rv := r.mono (A.mo e1)
  have ev : Ev S1 O1 H1 (sup S1 p (.obj c q (fs.set i (some d)))) O1 (SlX.slH H1 p (He.ga K c) q (SlX.putS i v vs)) := by
    refine ⟨fun a u h n _ => ?_, fun _ h => .inl h, fun a h n => ⟨h, ?_⟩, fun a h => ?_⟩
    · rw [SlX.slH_ne (fun z => by rw [z, hp] at n; cases n) (fun z => by rw [z, hq] at n; cases n)]; exact h
    · rw [sup_ne (fun z => by rw [z, hp] at n; cases n)]; exact n
    · rcases slH_none h with e | e | e
      · exact e
      · rw [e] at h; unfold SlX.slH at h; rw [upd_same] at h; cases h
      · rw [e] at h; unfold SlX.slH at h; rw [upd_ne ne, upd_same] at h; cases h
  have m : Mo O1 H1 O1 (SlX.slH H1 p (He.ga K c) q (SlX.putS i v vs)) := by
    obtain ⟨u, hu, nu⟩ := ia
    obtain ⟨w, hw, nw⟩ := iq
    refine ⟨fun a z h n _ => ?_, fun a z h n => ?_, fun _ _ _ z => z, ev.there⟩
    · rw [SlX.slH_ne (fun e => n (by rw [e]; exact ho)) (fun e => n (by rw [e]; exact hoq))]; exact h
    · rw [SlX.slH_ne (fun e => by rw [e, hu] at h; cases h; exact nu n) (fun e => by rw [e, hw] at h; cases h; exact nw n)]; exact h
  have keepH : ∀ a, a ≠ p → a ≠ q → SlX.slH H1 p (He.ga K c) q (SlX.putS i v vs) a = H1 a := fun a h1 h2 => SlX.slH_ne h1 h2
  have sk : Sok K (sup S1 p (.obj c q (fs.set i (some d)))) O1 (SlX.slH H1 p (He.ga K c) q (SlX.putS i v vs)) := by
    refine ⟨fun a ds h => ?_, fun a h => ?_, fun a c' q' fs' h => ?_, fun a h => ?_, fun a a' c' c'' q' fs' fs'' h h' => ?_, fun a T h => ?_⟩
    · have n1 : a ≠ p := fun z => by rw [z, sup_same] at h; cases h
      rw [sup_ne n1] at h
      have n2 : a ≠ q := fun z => by rw [z, hq] at h; cases h
      obtain ⟨o, xs, e, z, rr⟩ := A1.sok.dom a ds h
      exact ⟨o, xs, by rw [keepH a n1 n2]; exact e, z, rr.mono m⟩
    · by_cases n1 : a = p
      · exact ⟨SlX.SlO p (He.ga K c) q (SlX.putS i v vs), by rw [n1]; exact upd_same, imm_slO⟩
      · by_cases n2 : a = q
        · exact ⟨.xd [], by rw [n2]; unfold SlX.slH; rw [upd_ne ne, upd_same], imm_xd⟩
        · obtain ⟨u, e, n⟩ := A1.sok.ex a h
          exact ⟨u, by rw [keepH a n1 n2]; exact e, n⟩
    · by_cases n1 : a = p
      · rw [n1, sup_same] at h; cases h
        subst n1
        refine ⟨ho, ⟨.xd [], by unfold SlX.slH; rw [upd_ne ne, upd_same]⟩, _, SlX.slH_slt ne, fun j d' e => ?_⟩
        by_cases ej : j = i
        · subst ej
          rw [List.getElem?_set_self hi'] at e
          cases e
          exact ⟨v, SlX.putS_get _ _ _, rv.mono m⟩
        · rw [List.getElem?_set_ne (Ne.symm ej)] at e
          obtain ⟨v', h1, h2⟩ := fr j d' e
          exact ⟨v', (SlX.putS_ne ej).mpr h1, h2.mono m⟩
      · rw [sup_ne n1] at h
        have n2 : a ≠ q := fun z => by rw [z, hq] at h; cases h
        have n3 : q' ≠ q := fun z => n1 (A1.sok.inj _ _ _ _ _ _ _ (z ▸ h) hp)
        obtain ⟨o, hu', vs', sl', fr'⟩ := A1.sok.obj a c' q' fs' h
        by_cases n4 : q' = p
        · refine ⟨o, ⟨SlX.SlO p (He.ga K c) q (SlX.putS i v vs), by rw [n4]; exact upd_same⟩, [], ?_, fun j d' e => ?_⟩
          · rcases sl' with ⟨e, _⟩ | ⟨e, e2⟩
            · exact .inl ⟨by rw [keepH a n1 n2]; exact e, rfl⟩
            · obtain ⟨u, hu2, _⟩ := ia
              rw [n4] at e2
              rcases slt with ⟨z, _⟩ | ⟨z, _⟩
              · rw [z] at e2; cases e2
              · rw [z] at e2; exact absurd (Option.some.inj e2) SlX.slO_not
          · obtain ⟨v', h1, h2⟩ := fr' j d' e
            rcases sl' with ⟨_, e3⟩ | ⟨_, e2⟩
            · rw [e3] at h1; simp at h1
            · rw [n4] at e2
              rcases slt with ⟨z, _⟩ | ⟨z, _⟩
              · rw [z] at e2; cases e2
              · rw [z] at e2; exact absurd (Option.some.inj e2) SlX.slO_not
        · refine ⟨o, ?_, vs', ?_, fr'.mono m⟩
          · obtain ⟨u, hu'⟩ := hu'; exact ⟨u, by rw [keepH q' n4 n3]; exact hu'⟩
          · rcases sl' with ⟨e, z⟩ | ⟨e, z⟩
            · exact .inl ⟨by rw [keepH a n1 n2]; exact e, z⟩
            · exact .inr ⟨by rw [keepH a n1 n2]; exact e, by rw [keepH q' n4 n3]; exact z⟩
    · have n1 : a ≠ p := fun z => by rw [z, sup_same] at h; cases h
      rw [sup_ne n1] at h
      by_cases n2 : a = q
      · exact ⟨(A1.sok.dx a h).1, .inr (by rw [n2]; unfold SlX.slH; rw [upd_ne ne, upd_same])⟩
      · have := A1.sok.dx a h
        rw [keepH a n1 n2]; exact this
    · have old : ∀ a c' q' fs', sup S1 p (.obj c q (fs.set i (some d))) a = some (.obj c' q' fs') → ∃ g, S1 a = some (.obj c' q' g) := fun a c' q' fs' h => by
        by_cases z : a = p
        · rw [z, sup_same] at h; cases h; rw [z]; exact ⟨_, hp⟩
        · rw [sup_ne z] at h; exact ⟨_, h⟩
      obtain ⟨g1, h1⟩ := old _ _ _ _ h
      obtain ⟨g2, h2⟩ := old _ _ _ _ h'
      exact A1.sok.inj _ _ _ _ _ _ _ h1 h2
    · have n1 : a ≠ p := fun z => by rw [z, sup_same] at h; cases h
      rw [sup_ne n1] at h
      obtain ⟨tk, z⟩ := A1.sok.tb a T h
      refine ⟨⟨fun r hr => ?_, tk.un, fun a R h => by
        have m1 : a ≠ p := fun e => by rw [e, sup_same] at h; cases h
        rw [sup_ne m1] at h; exact tk.one a R h⟩, z⟩
      obtain ⟨h1, h2, h3, h4⟩ := tk.all r hr
      have m1 : r.1 ≠ p := fun z => by rw [z, hp] at h2; cases h2
      have m2 : r.1 ≠ q := fun z => by rw [z, hq] at h2; cases h2
      exact ⟨h1, by rw [sup_ne m1]; exact h2, h3.go m fun u hu => by rw [keepH _ m1 m2]; exact hu, h4⟩
  exact ⟨p, _, q, pd, vs, i, rfl, slt, G.sc, sd, k σ _ ρ _ O1 sk (e1.trans A1.sok ev) (A1.env.mono (ev.mo A1.sok)) .refl q1⟩
end
end DL

set_option maxHeartbeats 1000000
/-! DL26: len and str of own instances, f-texts, the empty dict. -/
namespace DL
open PySem PySem.Spec PyProof.Rows L2
section
variable {L : Lnk} {K : PySem.W.Frag} {W : WX} {X : Cx} {to : TE} {wo : WE'} {c : String} {f : Nat}
theorem fnR_of {P : Program} {w : World} {mg : Str → Option Value} {base : Heap} {CX : CXT} {k : Nat} {g : Addr} {sp : Sp} {fd : FuncData} {ps : List Str} (F : FnOk P w K mg base CX k g fd ps sp) (hb : Binds K fd ps []) : FnR P w K mg base CX k g sp :=
  (F.raw hb .nil).imp fun vs H Q E h => by rw [List.append_nil]; exact h
def rLenO (C : Addr) (sp : Sp) : List V → Hp → VK → Prop := fun xs H Q => ∃ a dx vs, xs = [V.ref a] ∧ SlX.Slt H a C dx vs ∧ sp [.ref a] H (fun v H' => ∃ i, v = .int i ∧ 0 ≤ i ∧ i < 2 ^ 62 ∧ Q v H') E0
theorem call_lenO {CX : CXT} {k : Nat} {C g : Addr} {sp : Sp} (hm : Meth X.K C "__len__" g) (F : FnR X.prog X.w X.K X.mg X.base CX k g sp) (hr : Room (k + 1) X.A) (hx : Passes CX X E0) : CallR X (.builtin "len") (rLenO C sp) := by
  intro pins s σ H xs us Q I r h
  obtain ⟨a, dx, vs, rfl, hsl, q⟩ := h
  obtain ⟨u, rfl, ru⟩ := r.one
  cases (show u = Value.ref a from ru)
  obtain ⟨sl, od, _, J, _⟩ := SlX.slt_inst I hsl
  obtain ⟨m, Fm⟩ := I.fr
  refine PySem.W.len_K Fm I.ok.mod.kin J hm.at_ hm.fn (wpAny_mono (wpAny_call (SlX.run_at (us := [.ref a]) (ws := [.ref a]) F hr.in1 I.env0.in1 hx I (.cons rfl .nil) q)) (fun w s' z => ?_) fun _ _ x => x)
  obtain ⟨v, H', I', rv, i, e, h0, h1, q⟩ := z
  subst e
  obtain ⟨t, e⟩ := rv
  subst e
  exact ⟨⟨h0, by omega⟩, .int i, H', I'.tok _, ⟨_, rfl⟩, q⟩
theorem re_lenO (h : RE L K W to wo) : RE L K W (tCB (rLenO (He.ga K c) (spOf L K (L.Γ.fn f))) (tCons to tNil)) fun ρ S R Q => wo ρ S R fun x S1 => (∃ fs, x = .obj c fs) ∧ L.Γ.fn f [x] S1 xNo fun v S2 => ∃ i : Int, v = .int i ∧ 0 ≤ i ∧ i < 2 ^ 62 ∧ Q v S2 := fun σ H ρ S O R Q Q' A hw k => by
  refine h.go A hw fun x H1 dx S1 O1 r1 A1 e1 ⟨⟨fs, he⟩, q1⟩ => ?_
  subst he
  have r0 := r1
  cases r1 with
  | obj hsl hd n n2 hv rs =>
    refine ⟨_, _, _, rfl, hsl, sp_use A1.sok (.cons r0 .nil) q1 e1 fun v H' d S' O' rv s' e' ⟨i, hd, h0, h1, q⟩ => ?_⟩
    subst hd
    cases rv
    exact ⟨i, rfl, h0, h1, k _ _ _ _ _ (.int i) s' e' q⟩
def rStrO (C : Addr) (sp : Sp) : List V → Hp → VK → Prop := fun xs H Q => ∃ a dx vs, xs = [V.ref a] ∧ SlX.Slt H a C dx vs ∧ sp [.ref a] H (fun v H' => ∃ z, v = .str z ∧ Q v H') E0
theorem call_strO {CX : CXT} {k : Nat} {C g : Addr} {sp : Sp} (hu : X.A.units + 70 < cLine) (hm : Meth X.K C "__str__" g) (F : FnR X.prog X.w X.K X.mg X.base CX k g sp) (hr : Room (k + 2) X.A) (hx : Passes CX X E0) : CallR X (.type "str") (rStrO C sp) := by
  intro pins s σ H xs us Q I r h
  obtain ⟨a, dx, vs, rfl, hsl, q⟩ := h
  obtain ⟨u, rfl, ru⟩ := r.one
  cases (show u = Value.ref a from ru)
  obtain ⟨sl, od, _, J, _⟩ := SlX.slt_inst I hsl
  have hr1 : Room (k + 1) X.A.in1 := Room.in1 hr
  refine PySem.W.kso_call (by have := hr1.in1.units0; exact this) I.kIn J hm.at_ hm.fn (wpAny_mono (wpAny_call (SlX.run_at (us := [.ref a]) (ws := [.ref a]) F hr1.in1 I.env0.in1.in1 hx I (.cons rfl .nil) q)) (fun w s' z => ?_) fun _ _ x => x)
  obtain ⟨v, H', I', rv, y, e, q⟩ := z
  subst e
  obtain ⟨t, e⟩ := rv
  subst e
  exact ⟨.str y, H', I', ⟨_, rfl⟩, q⟩
theorem re_strO (h : RE L K W to wo) : RE L K W (tCB (rStrO (He.ga K c) (spOf L K (L.Γ.fn f))) (tCons to tNil)) fun ρ S R Q => wo ρ S R fun x S1 => (∃ fs, x = .obj c fs) ∧ L.Γ.fn f [x] S1 xNo fun v S2 => ∃ s, v = .str s ∧ Q v S2 := fun σ H ρ S O R Q Q' A hw k => by
  refine h.go A hw fun x H1 dx S1 O1 r1 A1 e1 ⟨⟨fs, he⟩, q1⟩ => ?_
  subst he
  have r0 := r1
  cases r1 with
  | obj hsl hd n n2 hv rs =>
    refine ⟨_, _, _, rfl, hsl, sp_use A1.sok (.cons r0 .nil) q1 e1 fun v H' d S' O' rv s' e' ⟨i, hd, q⟩ => ?_⟩
    subst hd
    cases rv
    exact ⟨i, rfl, k _ _ _ _ _ (.str i) s' e' q⟩
/-! ### f-texts -/
abbrev WF := Env → Sto → XD → Str → (Str → Sto → Prop) → Prop
def RJ (L : Lnk) (K : PySem.W.Frag) (W : WX) (ts : List TE) (w : WF) : Prop :=
  ∀ (acc : Str) (σ : L2.St) (H : Hp) (ρ : Env) (S : Sto) (O : Ow) (R : XD) (Q : Str → Sto → Prop) (Q' : Str → Hp → Prop), At L K W σ H ρ S O R → w ρ S R acc Q →
    (∀ z H' S' O', Sok K S' O' H' → Ev S O H S' O' H' → Q z S' → Q' z H') → tJs ts acc σ H Q'
theorem rj_nil : RJ L K W [] fun _ S _ acc Q => Q acc S := fun acc σ H ρ S O R Q Q' A hw k => k acc H S O A.sok .refl hw
theorem rj_str {ts : List TE} {wr : WF} (h : RE L K W to wo) (hr : RJ L K W ts wr) : RJ L K W (to :: ts) fun ρ S R acc Q => wo ρ S R fun x S1 => match x with
    | .str y => y.length ≤ sizeLine ∧ (acc ++ y).length ≤ sizeLine ∧ wr ρ S1 R (acc ++ y) Q
    | .int i => False
    | _ => False := fun acc σ H ρ S O R Q Q' A hw k => by
  refine h.go A hw fun x H1 dx S1 O1 r1 A1 e1 q1 => ?_
  cases dx with
  | str y =>
    cases r1
    exact ⟨y, rfl, q1.2.1, hr _ σ H1 ρ S1 O1 R Q Q' A1 q1.2.2 fun z H' S' O' s' e' q' => k z H' S' O' s' (e1.trans A1.sok e') q'⟩
  | _ => exact q1.elim
theorem rj_fmt {ts : List TE} {wr : WF} (h : RE L K W to wo) (hr : RJ L K W ts wr) : RJ L K W (tFmt to :: ts) fun ρ S R acc Q => wo ρ S R fun x S1 => match x with
    | .str y => y.length ≤ sizeLine ∧ (acc ++ y).length ≤ sizeLine ∧ wr ρ S1 R (acc ++ y) Q
    | .int i => i.natAbs.log2 < 1920 ∧ (acc ++ (toString i : Str)).length ≤ sizeLine ∧ wr ρ S1 R (acc ++ (toString i : Str)) Q
    | _ => False := fun acc σ H ρ S O R Q Q' A hw k => by
  refine h.go A hw fun x H1 dx S1 O1 r1 A1 e1 q1 => ?_
  have fin : ∀ z, wr ρ S1 R z Q → tJs ts z σ H1 Q' := fun z hz => hr _ σ H1 ρ S1 O1 R Q Q' A1 hz fun z H' S' O' s' e' q' => k z H' S' O' s' (e1.trans A1.sok e') q'
  cases dx with
  | str y =>
    cases r1
    exact .inl ⟨y, rfl, q1.1, y, rfl, q1.2.1, fin _ q1.2.2⟩
  | int i =>
    cases r1
    exact .inr ⟨i, rfl, q1.1, _, rfl, q1.2.1, fin _ q1.2.2⟩
  | _ => exact q1.elim
theorem re_fst {ts : List TE} {wf : WF} (h : RJ L K W ts wf) : RE L K W (fun σ H Q => tJs ts Str.empty σ H fun out H1 => Q (.str out) H1) fun ρ S R Q => wf ρ S R Str.empty fun s S1 => Q (.str s) S1 := fun σ H ρ S O R Q Q' A hw k =>
  h Str.empty σ H ρ S O R _ _ A hw fun z H' S' O' s' e' q' => k _ H' _ S' O' (.str z) s' e' q'
theorem re_dct : RE L K W L2.tDNewK fun _ S _ Q => Q .dct S := fun σ H ρ S O R Q Q' A hw k => by
  intro p hp
  exact k (.ref p) _ .dct S O (.dct upd_same (A.sok.notO hp)) (A.sok.new hp) (ev_new hp A.sok) hw
end
end DL

set_option maxHeartbeats 4000000
/-! DL19: sorted(xs, key=f) where f's calls may leave new objects: whatever J says of the state stays true. -/
namespace DL
open PySem PySem.W PySem.Calls PyProof.Rows
section
variable {prog : Program} {w : World} {A : Around} {E : Value → Shared → Prop} {J : Shared → Prop} {lst kst : Addr}
/-- J does not look at the two lists that the sort works at -/
def Still (J : Shared → Prop) (lst kst : Addr) : Prop := ∀ (t : Shared) (c : Addr) (g : Heap) (tk : Nat), c = kst ∨ c = lst → J t → Heap.SameBut c t.heap g → (∃ o, g.get? c = some o) → J { t with heap := g, toks := tk }
theorem sortG_tail {s : Shared} {st : SortSt} {out : List Value} {ks : Array Value} {e1 e2 : Nat} {rev : Bool} {Z : PySem.Fin → Shared → Prop} (hJ : Still J lst kst) (j : J s) (gk : s.heap.get? kst = some (seqObj "list" ks e2)) (gl : s.heap.get? lst = some (seqObj "list" #[] e1))
    (ne : kst ≠ lst) (zk : ks.size ≤ sizeLine) (zo : out.length ≤ sizeLine) (nf : failedOf st = none) (ho : (if rev = true then ((arrOf st).map (·.2)).reverse else (arrOf st).map (·.2)) = out.toArray)
    (done : ∀ s' c, J s' → s'.heap.get? lst = some (seqObj "list" out.toArray c) → Z (.done (.ret .none)) s') :
    wpAny (model prog w) A (ksk_tail lst rev e1 (.ref kst) st) Z E s := by
  have b1 := Heap.SameBut.update s.heap kst (Obj.mapSeq fun _ => (#[] : Array Value))
  have gl1 := (b1.2 lst ne.symm).trans gl
  have b2 := Heap.SameBut.update (s.heap.update kst (Obj.mapSeq fun _ => (#[] : Array Value))) lst (Obj.mapSeq fun _ => out.toArray)
  have g2 := get?_update_seq gl1 fun _ => out.toArray
  unfold ksk_tail; dsimp only; rw [ho]
  refine wpAny_bind (listUpdate_at gk rfl ?_ zk (Nat.zero_le _))
  refine wpAny_bind (wpAny_letGo ?_)
  refine wpAny_bind (seqEpoch_at gl1 rfl ?_)
  refine wpAny_bind (listUpdate_at gl1 rfl ?_ (Nat.zero_le _) (by
    rw [List.size_toArray]
    omega))
  rw [nf]; simp only [bne_self_eq_false, Bool.false_eq_true, if_false]
  have j1 := hJ s kst _ s.toks (.inl rfl) j b1 ⟨_, get?_update_seq gk fun _ => (#[] : Array Value)⟩
  have j2 := hJ { s with heap := s.heap.update kst (Obj.mapSeq fun _ => (#[] : Array Value)), toks := s.toks } lst _ s.toks (.inr rfl) j1 b2 ⟨_, g2⟩
  exact wpAny_pure (done _ _ j2 g2)
theorem sortG_end {s : Shared} {vs : List Value} {ks : Array Value} {e1 e2 : Nat} {rev : Bool} {Z : PySem.Fin → Shared → Prop} {κ : PyProof.Rows.KeyKind} (hJ : Still J lst kst) (j : J s) (gk : s.heap.get? kst = some (seqObj "list" ks e2)) (gl : s.heap.get? lst = some (seqObj "list" #[] e1)) (ne : kst ≠ lst)
    (so : SortsAt prog w A s κ ks.toList) (hs : ks.size = vs.length) (hv : vs.length ≤ sizeLine) (done : ∀ s' c, J s' → s'.heap.get? lst = some (seqObj "list" (sortVals κ rev ks.toList vs).toArray c) → Z (.done (.ret .none)) s') :
    wpAny (model prog w) A (ksk_end lst rev vs.toArray e1 (.ref kst) ks) Z E s := by
  obtain ⟨kd, q1, q2⟩ := so.kind
  have lk : ks.toList.length = vs.length := by rw [Array.length_toList, hs]
  have kz : PyProof.Rows.KeysOf κ (ks.zip vs.toArray) := keysOf_zip so.keys
  have lo : (sortVals κ rev ks.toList vs).length = vs.length := sortVals_length rev lk
  generalize hA : (if rev = true then (ks.zip vs.toArray).reverse else ks.zip vs.toArray) = arr0
  have pm : arr0.Perm (ks.zip vs.toArray) := by
    rw [← hA]
    cases rev with
    | false => exact Array.Perm.refl _
    | true =>
      refine Array.perm_iff_toList_perm.mpr ?_
      rw [if_pos rfl, Array.toList_reverse]
      exact List.reverse_perm _
  have sz : arr0.size = vs.length := by rw [pm.size_eq, Array.size_zip, hs, List.size_toArray, Nat.min_self]
  have res : ∀ t : SortSt, (arrOf t).Perm arr0 → SortedToK κ (arrOf t) arr0.size → Stable κ (arrOf t) arr0 → (if rev = true then ((arrOf t).map (·.2)).reverse else (arrOf t).map (·.2)) = (sortVals κ rev ks.toList vs).toArray := fun t p1 p2 p3 => by
    subst hA
    have := congrArg List.toArray (sort_out (rev := rev) (keys := ks) (items := vs.toArray) (xs := arrOf t) (κ := κ) kz p1 p2 p3)
    rwa [Array.toArray_toList] at this
  have ahead : ∀ m : Sem PySem.Fin, wpAny (model prog w) A m Z E s → wpAny (model prog w) A (if rev = true then (do let _ ← rule "list.sort.reverse"; m) else m) Z E s := fun m hm => by
    split
    · exact wpAny_bind (wpAny_rule hm)
    · exact hm
  unfold ksk_end; dsimp only
  refine ahead _ ?_
  rw [hA]
  by_cases two : vs.toArray.size < 2
  · rw [if_pos two, if_pos two]
    refine wpAny_bind (wpAny_pure ?_)
    rw [StateT.run_pure]
    refine wpAny_bind (wpAny_pure ?_)
    dsimp only
    refine sortG_tail (st := SortSt.mk' general' arr0 #[] 7 none) hJ j gk gl ne (by rw [hs]; exact hv) (by rw [lo]; exact hv) rfl (res _ (Array.Perm.refl _) (fun i k ik hk => ?_) (Stable.refl _)) done
    rw [sz] at hk
    rw [List.size_toArray] at two
    have : i = k := by omega
    subst this
    exact KeyOrd.kle_refl _
  · rw [if_neg two, if_neg two]
    rw [List.size_toArray] at two
    refine wpAny_bind (q2 (by omega) _ ?_)
    refine wpAny_bind (wpAny_mono (H.wpS_sortRunsSt (κ := κ) (kd := kd) (a₀ := arr0) (st := SortSt.mk' kd arr0 #[] 7 none) (Q := fun _ t => failedOf t = none ∧ (if rev = true then ((arrOf t).map (·.2)).reverse else (arrOf t).map (·.2)) = (sortVals κ rev ks.toList vs).toArray)
      q1 (kz.perm pm) ⟨Array.Perm.refl _, rfl, rfl⟩ rfl (Stable.refl _) (by rw [sz]; omega) fun t p1 p2 p3 p4 => ⟨p2, res t p1 p3 p4⟩) ?_ fun _ _ z => z)
    rintro ⟨⟨⟩, t⟩ s' ⟨rfl, nf, eo⟩
    dsimp only at eo ⊢
    exact sortG_tail hJ j gk gl ne (by rw [hs]; exact hv) (by rw [lo]; exact hv) nf eo done
/-- the items by their keys -/
def KeyInt (v : Value) (k : Int) : Prop := ∃ t, v = Value.int k t
theorem keyInt_reads {h : Heap} {v : Value} {k : Int} (x : KeyInt v k) : Reads h v (.int k) [] := by
  obtain ⟨t, rfl⟩ := x
  first | exact Reads.int | exact .int | constructor
theorem sortG_rest {s : Shared} {f : Value} {vs : List Value} {kz : List Int} {e1 : Nat} {rev : Bool} {Z : PySem.Fin → Shared → Prop} (hJ : Still J lst kst) (j : J s) (gk : s.heap.get? kst = some (seqObj "list" #[] 0)) (gl : s.heap.get? lst = some (seqObj "list" #[] e1)) (ne : kst ≠ lst)
    (hl : kz.length = vs.length) (hv : vs.length ≤ sizeLine) (hu : A.units + 3 < cLine)
    (turn : ∀ (i : Nat) (v : Value) (k : Int), vs[i]? = some v → kz[i]? = some k → ∀ t : Shared, J t → wpAny (model prog w) A (call f [v]) (fun u t' => J t' ∧ (∀ c o, c = kst ∨ c = lst → t.heap.get? c = some o → t'.heap.get? c = some o) ∧ KeyInt u k) (fun _ _ => False) t)
    (done : ∀ s' out c, J s' → s'.heap.get? lst = some (seqObj "list" (List.toArray out) c) → KeyedOut rev (kz.map PyData.int) vs out → Z (.done (.ret .none)) s') :
    wpAny (model prog w) A (ksk_rest lst f rev vs.toArray e1 (.ref kst)) Z E s := by
  unfold ksk_rest
  refine wpAny_bind (wpAny_rule ?_)
  first
    | rw [List.forIn_toArray]
    | (rw [← Array.forIn_toList]; simp only [List.toList_toArray])
    | rw [← Array.forIn_toList]
  refine wpAny_bind (ksk_fold (fun i t => J t ∧ ∃ kA e, t.heap.get? kst = some (seqObj "list" kA e) ∧ t.heap.get? lst = some (seqObj "list" #[] e1) ∧ EachIs KeyInt kA.toList (kz.take i)) vs 0 s ⟨j, #[], 0, gk, gl, by rw [List.take_zero]; exact EachIs.nil⟩ ?step ?fin)
  case step =>
    rintro i x t hx ⟨jt, kA, e, nk, na, hk⟩
    simp only [Nat.zero_add] at hk ⊢
    have hi : i < vs.length := (List.getElem?_eq_some_iff.mp hx).1
    obtain ⟨k, hki⟩ : ∃ k, kz[i]? = some k := ⟨_, List.getElem?_eq_getElem (by omega)⟩
    have hz : kA.size ≤ vs.length := by
      have := hk.length
      rw [Array.length_toList, List.length_take] at this
      omega
    refine wpAny_bind (wpAny_attempt (wpAny_mono (turn i x k hx hki t jt) (fun u t' he => ?_) fun _ _ z => z.elim))
    obtain ⟨jt', kp, ku⟩ := he
    dsimp only
    have nk2 := kp _ _ (.inl rfl) nk
    have na2 := kp _ _ (.inr rfl) na
    have b1 := Heap.SameBut.update t'.heap kst (Obj.mapSeq (·.push u))
    have nk3 := get?_update_seq nk2 (·.push u)
    refine wpAny_bind (listUpdate_at nk2 rfl ?_ (Nat.le_trans hz hv) (Nat.le_trans (Nat.le_of_eq (Array.size_push ..)) (Nat.succ_le_succ (Nat.le_trans hz hv))))
    refine wpAny_pure ⟨rfl, hJ _ _ _ _ (.inl rfl) jt' b1 ⟨_, nk3⟩, kA.push u, _, nk3, (b1.2 lst ne.symm).trans na2, ?_⟩
    have ek : kz.take (i + 1) = kz.take i ++ [k] := by rw [List.take_add_one, hki]; simp
    have ea : (kA.push u).toList = kA.toList ++ [u] := by simp
    rw [ea, ek]
    exact each_snoc ku hk
  case fin =>
    rintro t ⟨jt, kA, e, nk, na, hk⟩
    have e3 : kz.take (0 + vs.length) = kz := List.take_of_length_le (by omega)
    rw [e3] at hk
    have hk' : EachIs (fun v d => ∃ as, Reads t.heap v d as) kA.toList (kz.map PyData.int) := by
      have : ∀ {l : List Value} {m : List Int}, EachIs KeyInt l m → EachIs (fun v d => ∃ as, Reads t.heap v d as) l (m.map PyData.int) := fun {l m} x => by
        induction x with
        | nil => exact EachIs.nil
        | cons a _ ih => exact EachIs.cons ⟨[], keyInt_reads a⟩ ih
      exact this hk
    have hs : kA.size = vs.length := by
      have := hk.length
      rw [Array.length_toList] at this
      omega
    have al : AllAlike (kz.map PyData.int) := fun d hd d' hd' => by
      obtain ⟨a, _, rfl⟩ := List.mem_map.mp hd
      obtain ⟨b, _, rfl⟩ := List.mem_map.mp hd'
      rfl
    have sk : Sortable (kz.map PyData.int) := .inr fun d hd => by
      obtain ⟨a, _, rfl⟩ := List.mem_map.mp hd
      exact ⟨fun z => (nomatch z), fun _ z => (nomatch z)⟩
    have du : ∀ d, d ∈ kz.map PyData.int → A.units + d.depth < cLine := fun d hd => by
      obtain ⟨a, _, rfl⟩ := List.mem_map.mp hd
      show A.units + PyData.depth (.int a) < cLine
      have : PyData.depth (.int a) = 0 := by first | rfl | simp [PyData.depth]
      omega
    refine wpAny_bind (listItems_at nk rfl ?_)
    exact sortG_end (κ := dataKind t.heap (kz.map PyData.int)) hJ jt nk na ne (SortsAt.data (s := t) hk' al sk du) hs hv fun s' c j' g' => done s' _ c j' g' ⟨t.heap, kA.toList, al, rfl, hk'⟩
end
end DL

set_option maxHeartbeats 4000000
/-! DL20: sorted(xs, key=f), f a def: the rule. -/
namespace DL
open PySem PySem.Spec PyProof.Rows L2
/-- sorted(xs, key=f): I stays true of the abstract heap through the calls of f -/
def rSortK (K : PySem.W.Frag) (f : Addr) (sp : Sp) : List V → List V → Hp → VK → Prop := fun vs zs H Q => ∃ (a : Addr) (xs : List V) (kz : List Int) (I : Hp → Prop), vs = [.ref a] ∧ zs = [.ref f] ∧ SqL K H a xs ∧ kz.length = xs.length ∧ I H ∧
  (∀ (H' : Hp) (i : Nat) (x : V) (k : Int), I H' → xs[i]? = some x → kz[i]? = some k → sp [x] H' (fun v H2 => v = .int k ∧ I H2) E0) ∧ ∀ H' p, I H' → H' p = none → Q (.ref p) (upd H' p (.lst (byKeys xs kz)))
section
variable {X : Cx}
theorem room_two {k : Nat} {A : Around} (r : Room (k + 2) A) : Room k A.in1.in1 := ((r.mono (show k + 1 + 1 ≤ k + 2 by omega)).in1).in1
theorem vals_each : ∀ {xs : List V} {vs : List Value} {kz : List Int}, Vals xs vs → kz.length = xs.length → PySem.W.EachIs (fun (v : Value) (p : V × Int) => RelV p.1 v) vs (xs.zip kz)
  | _, _, kz, .nil, h => by
    have : kz = [] := List.eq_nil_of_length_eq_zero h
    rw [this]; exact .nil
  | _, _, [], .cons _ _, h => by simp at h
  | _, _, k :: kz, .cons r rs, h => .cons r (vals_each rs (by simpa using h))
theorem each_vals : ∀ {vs : List Value} {ps : List (V × Int)}, PySem.W.EachIs (fun (v : Value) (p : V × Int) => RelV p.1 v) vs ps → Vals (ps.map Prod.fst) vs
  | _, _, .nil => .nil
  | _, _, .cons r rs => .cons r (each_vals rs)
theorem vals_at {xs : List V} {vs : List Value} (r : Vals xs vs) : ∀ {i : Nat} {v : Value}, vs[i]? = some v → ∃ x, xs[i]? = some x ∧ RelV x v := by
  induction r with
  | nil => intro i v h; simp at h
  | cons a b ih =>
    intro i v h
    cases i with
    | zero => exact ⟨_, rfl, by simpa using (show _ = _ from Option.some.inj h) ▸ a⟩
    | succ i => exact ih (by simpa using h)
theorem cr_sortK {k : Nat} {f : Addr} {fd : FuncData} {ps : List Str} {sp : Sp} (F : FnOk X.prog X.w X.K X.mg X.base (L2.CX X.prog X.w) k f fd ps sp) (hr : Room (k + 2) X.A) (hu : X.A.units + 70 < cLine) (hb : Binds X.K fd ps []) :
    CallRK X (.builtin "sorted") [Str.ofString "key"] (rSortK X.K f sp) := by
  intro pins s σ H xs zs us ws Q I r rz h
  obtain ⟨a, xs, kz, J, rfl, rfl, hs, hl, j0, hc, hq⟩ := h
  obtain ⟨its, rv, pl, hz⟩ := I.list hs
  obtain ⟨u, rfl, ru⟩ := vals1 r
  obtain rfl : u = Value.ref a := ru
  obtain ⟨g, rfl, rg⟩ := vals1 rz
  obtain rfl : g = Value.ref f := rg
  have hlv : kz.length = its.length := by rw [hl, rv.length]
  have hzv : its.length ≤ sizeLine := by rw [← rv.length]; exact hz
  show wpAny _ _ (call (.builtin "sorted") [.ref a] [(Str.ofString "key", .ref f)]) _ _ _
  refine PySem.W.sorted_of_sort pl.isList hzv (ksk_s1 _ _) (fun x => ksk_l1 _ _) fun E' => ?_
  rw [ksk_t1]
  generalize hlst : s.heap.objs.size + 1 = lst
  have ho := PySem.W.copyHeap_at s.heap its
  rw [hlst] at ho
  have below : ∀ {b : Addr} {o : Obj}, s.heap.get? b = some o → b < lst := fun {b o} q => hlst ▸ Nat.lt_succ_of_lt (Heap.lt_size q)
  have hla : lst < (PySem.W.copyHeap s.heap its).objs.size := Heap.lt_size ho
  -- the sort's own objects
  have go1 := get?_update_seq ho fun _ => (#[] : Array Value)
  generalize hk0 : (((PySem.W.copyHeap s.heap its).update lst (Obj.mapSeq fun _ => (#[] : Array Value))).push (seqObj "tuple" its.toArray 0)).objs.size = kst
  have hks : kst = (PySem.W.copyHeap s.heap its).objs.size + 1 := by rw [← hk0, size_push', Heap.size_update]
  have llt : lst < kst := by rw [hks]; exact Nat.lt_succ_of_lt hla
  have ne : kst ≠ lst := Nat.ne_of_gt llt
  have old : ∀ b o, s.heap.get? b = some o → (PySem.W.sortingHeap (PySem.W.copyHeap s.heap its) lst its).get? b = some o := fun b o q =>
    PySem.W.sortingHeap_old (Nat.ne_of_lt (below q)) (PySem.W.copyHeap_old q)
  let JJ : Shared → Prop := fun t => t.os = s.os ∧ AllBare t.gens ∧ (∃ o, t.heap.get? kst = some o) ∧ (∃ o, t.heap.get? lst = some o) ∧ ∃ H', Un (frs X.stack) [] H H' s.heap t.heap ∧ HOk X.prog X.w H' t.heap ∧ J H' ∧ H' kst = none ∧ H' lst = none
  have fresh : ∀ c, c = kst ∨ c = lst → s.heap.get? c = none := fun c hc => Heap.get?_none_of_le (by
    have hs : s.heap.objs.size ≤ lst := hlst ▸ Nat.le_succ _
    rcases hc with e | e
    · rw [e]; exact Nat.le_trans hs (Nat.le_of_lt llt)
    · rw [e]; exact hs)
  have still : Still JJ lst kst := fun t c g tk hc ⟨os, bare, ⟨o1, g1⟩, ⟨o2, g2⟩, H', un, hok, j, n1, n2⟩ sb gc => by
    have nc : H' c = none := by rcases hc with e | e <;> rw [e] <;> assumption
    have old' : ∀ {b : Addr} {o : Obj}, s.heap.get? b = some o → b ≠ c := fun {b o} q e => by rw [e, fresh c hc] at q; cases q
    have get : ∀ b, b ≠ c → g.get? b = t.heap.get? b := fun b hb => sb.2 b hb
    have there : ∀ b o, t.heap.get? b = some o → ∃ o', g.get? b = some o' := fun b o q => by
      by_cases hb : b = c
      · rw [hb]; exact gc
      · exact ⟨o, by rw [get b hb]; exact q⟩
    refine ⟨os, bare, there _ _ g1, there _ _ g2, H', ⟨fun b o q h1 h2 h3 => ?_, fun b o q h1 h2 h3 => ?_, un.free, fun b o q h1 => ?_, un.tups, un.frzs, un.tbls⟩, fun b o q => ?_, j, n1, n2⟩
    · rw [get b (old' q)]; exact un.keep b o q h1 h2 h3
    · rw [get b (old' q)]; exact un.slot b o q h1 h2 h3
    · obtain ⟨o', q'⟩ := un.there b o q h1
      exact there b o' q'
    · refine (hok b o q).stay (fun d u hd qd => ?_) (fun _ z => z) fun _ _ z => z
      have : d ≠ c := fun e => by
        subst e
        rcases hd with e | e
        · rw [← e] at q; rw [q] at nc; cases nc
        · rw [e] at nc; cases nc
      rw [get d this]; exact qd
  have fr : ∀ c, c = kst ∨ c = lst → c ∉ frs X.stack := fun c hc z => by
    obtain ⟨_, o, q, _⟩ := I.stack.mem z
    rw [fresh c hc] at q; cases q
  have init : JJ { s with heap := PySem.W.sortingHeap (PySem.W.copyHeap s.heap its) lst its } :=
    ⟨rfl, I.bare, ⟨seqObj "list" #[] 0, by rw [← hk0]; exact Heap.get?_push_size _ rfl⟩, ⟨_, Heap.get?_push_of_some _ (Heap.get?_push_of_some _ go1)⟩, H, Un.kept old, I.hok.kept old, j0,
      I.hok.fresh (Nat.le_trans (hlst ▸ Nat.le_succ _) (Nat.le_of_lt llt)), I.hok.fresh (hlst ▸ Nat.le_succ _)⟩
  have inv : ∀ t H', t.os = s.os → AllBare t.gens → Un (frs X.stack) [] H H' s.heap t.heap → HOk X.prog X.w H' t.heap → Inv X pins σ H' t := fun t H' os bare un hok => I.call' (ch := []) os un hok bare fun b z => nomatch z
  unfold ksk_tree
  refine wpAny_bind (listItems_at ho rfl ?_)
  refine wpAny_bind (listUpdate_at ho rfl ?_ (by rw [List.size_toArray]; exact hzv) (Nat.zero_le _))
  refine wpAny_bind (seqEpoch_at go1 rfl ?_)
  refine wpAny_bind (wpAny_newTuple ?_ (by show its.length ≤ _; exact hzv))
  refine wpAny_bind (wpAny_newList ?_ (Nat.zero_le _))
  refine wpAny_holding ?_
  have hkk : (((PySem.W.copyHeap s.heap its).update lst (Obj.mapSeq fun _ => (#[] : Array Value))).push (seqObj "tuple" its.toArray 0)).get? lst = some (seqObj "list" #[] _) := Heap.get?_push_of_some _ go1
  have hu2 : X.A.in1.in1.units + 3 < cLine := by show X.A.units + 1 + 1 + 3 < _; omega
  subst hk0
  refine sortG_rest (prog := X.prog) (w := X.w) (A := X.A.in1.in1) (J := JJ) (f := .ref f) (rev := false) (kz := kz) (s := { s with heap := PySem.W.sortingHeap (PySem.W.copyHeap s.heap its) lst its }) still init (Heap.get?_push_size _ rfl) (Heap.get?_push_of_some _ hkk) ne hlv hzv
    hu2 (fun i v k hv hk t jt => ?_) fun s' out c jt hg ko => ?_
  · obtain ⟨os, bare, ⟨o1, g1⟩, ⟨o2, g2⟩, H', un, hok, j, n1, n2⟩ := jt
    obtain ⟨x, hx, rx⟩ := vals_at rv hv
    have It := inv t H' os bare un hok
    have b := hb t [v] It.kIn (F.len _ _ _ _ (hc H' i x k j hx hk))
    refine wpAny_call (codeAny_mono (F.run X.A.in1.in1 X.stack t H' ⟨[v], []⟩ [v] [x] _ E0 (room_two hr) It.env0.in1.in1 b (.cons rx .nil) (hc H' i x k j hx hk)) fun r t' hq => ?_)
    cases r with
    | error e =>
      have hq : L2.CX X.prog X.w X.stack H' t E0 e t' := hq
      obtain ⟨_, _, _, _, _, _, _, _, _, _, _, _, z⟩ := hq
      exact z.elim
    | ok fl =>
      cases fl with
      | next => exact False.elim hq
      | brk => exact False.elim hq
      | cont => exact False.elim hq
      | ret u =>
        have hq : CE X.stack X.prog X.w H' t _ u t' := hq
        obtain ⟨y, H2, os2, bare2, un2, hok2, ru, rfl, j2⟩ := hq
        have kp : ∀ (c : Addr) (o : Obj), H' c = none → c ∉ frs X.stack → t.heap.get? c = some o → t'.heap.get? c = some o := fun c o h1 h2 q => un2.keep c o q h1 h2 (by simp)
        refine ⟨⟨os2.trans os, bare2, ⟨_, kp _ _ n1 (fr _ (.inl rfl)) g1⟩, ⟨_, kp _ _ n2 (fr _ (.inr rfl)) g2⟩, H2, un.trans un2, hok2, j2, un2.free _ _ g1 n1 (by simp), un2.free _ _ g2 n2 (by simp)⟩, fun c o hc q => ?_, ?_⟩
        · rcases hc with e | e
          · rw [e] at q ⊢; exact kp _ _ n1 (fr _ (.inl rfl)) q
          · rw [e] at q ⊢; exact kp _ _ n2 (fr _ (.inr rfl)) q
        obtain ⟨tt, rfl⟩ := (show ∃ tt, u = Value.int k tt from ru)
        exact ⟨tt, rfl⟩
  · obtain ⟨os, bare, ⟨o1, g1⟩, ⟨o2, g2⟩, H', un, hok, j, n1, n2⟩ := jt
    have ek : kz.map PyData.int = (xs.zip kz).map fun p => PyData.int p.2 := by
      have : kz = (xs.zip kz).map Prod.snd := (List.map_snd_zip (Nat.le_of_eq hl)).symm
      conv => lhs; rw [this]
      rw [List.map_map]; rfl
    rw [ek] at ko
    have ev := PySem.W.keyedOut_each (R := fun (v : Value) (p : V × Int) => RelV p.1 v) (fun p => PyData.int p.2) ko (vals_each rv hl)
    rw [PySem.W.dataLe_int (fun p : V × Int => p.2)] at ev
    have rv2 : Vals (byKeys xs kz) out := each_vals ev
    have lo : (byKeys xs kz).length = xs.length := by
      unfold byKeys
      rw [List.length_map, List.length_mergeSort, List.length_zip, hl, Nat.min_self]
    refine ⟨rfl, .ref lst, upd H' lst (.lst (byKeys xs kz)), ?_, rfl, hq H' lst j n2⟩
    have new : ObjOk X.prog X.w (upd H' lst (.lst (byKeys xs kz))) s'.heap lst (.lst (byKeys xs kz)) := ⟨by rw [lo]; exact hz, out, c, rv2, hg⟩
    have nl : ∀ {b : Addr} {o : HO}, H' b = some o → b ≠ lst := fun {b o} q e => by rw [e, n2] at q; cases q
    have hok2 : HOk X.prog X.w (upd H' lst (.lst (byKeys xs kz))) s'.heap := fun b o q => by
      by_cases e : b = lst
      · subst e; rw [upd_same] at q; cases q; exact new
      · rw [upd_ne e] at q
        exact (hok b o q).stay (fun _ _ _ z => z) (fun d z => by rw [upd_ne (nl z)]; exact z) fun d ys z => by rw [upd_ne (nl z)]; exact z
    refine inv s' _ os bare ⟨un.keep, un.slot, fun b o q h1 h2 => ?_, un.there, fun b ys q => ?_, fun b o u q => ?_, fun b ps q => ?_⟩ hok2
    · have : b ≠ lst := fun e => by rw [e, fresh lst (.inr rfl)] at q; cases q
      rw [upd_ne this]; exact un.free b o q h1 h2
    · have z := un.tups b ys q
      rw [upd_ne (nl z)]; exact z
    · have z := un.frzs b o u q
      rw [upd_ne (nl z)]; exact z
    · obtain ⟨more, z⟩ := un.tbls b ps q
      exact ⟨more, by rw [upd_ne (nl z)]; exact z⟩
end
end DL

/-! DL21: sorted(xs, key=f) over data. -/
namespace DL
open PySem PySem.Spec PyProof.Rows L2
section
variable {L : Lnk} {K : PySem.W.Frag} {W : WX} {wa : WE'}
def tCon (vs : List V) : TA := fun _ H Q => Q vs H
theorem zip_rps {O : Ow} {H : Hp} : ∀ {xs : List V} {ds : List D} {kz : List Int}, Rps K O H xs ds → ∃ ps : List ((V × D) × Int), xs.zip kz = ps.map (fun p => (p.1.1, p.2)) ∧ ds.zip kz = ps.map (fun p => (p.1.2, p.2)) ∧ ∀ p ∈ ps, Rp K O H p.1.1 p.1.2
  | _, _, kz, .nil => ⟨[], by simp, by simp, fun _ h => nomatch h⟩
  | _, _, [], .cons _ _ => ⟨[], by simp, by simp, fun _ h => nomatch h⟩
  | _, _, k :: kz, .cons (v := v) (d := d) r rs => by
    obtain ⟨ps, e1, e2, h⟩ := zip_rps (kz := kz) rs
    refine ⟨((v, d), k) :: ps, by rw [List.zip_cons_cons, e1]; rfl, by rw [List.zip_cons_cons, e2]; rfl, fun p hp => ?_⟩
    rcases List.mem_cons.mp hp with e | e
    · rw [e]; exact r
    · exact h p e
theorem rps_of {O : Ow} {H : Hp} : ∀ {ps : List ((V × D) × Int)}, (∀ p ∈ ps, Rp K O H p.1.1 p.1.2) → Rps K O H (ps.map fun p => p.1.1) (ps.map fun p => p.1.2)
  | [], _ => .nil
  | p :: ps, h => .cons (h p List.mem_cons_self) (rps_of fun q hq => h q (List.mem_cons_of_mem _ hq))
theorem Rps.byKeys {O : Ow} {H : Hp} {xs : List V} {ds : List D} {kz : List Int} (r : Rps K O H xs ds) : Rps K O H (DL.byKeys xs kz) (DL.byKeys ds kz) := by
  obtain ⟨ps, e1, e2, h⟩ := zip_rps (kz := kz) r
  unfold DL.byKeys
  rw [e1, e2]
  have m : ∀ {α : Type} (f : (V × D) × Int → α × Int), (∀ p, (f p).2 = p.2) → (ps.map f).mergeSort (fun p q => decide (p.2 ≤ q.2)) = (ps.mergeSort fun p q => decide (p.2 ≤ q.2)).map f := fun {α} f hf => by
    rw [List.map_mergeSort]
    intro a _ b _
    rw [hf, hf]
  rw [m (fun p => (p.1.1, p.2)) fun _ => rfl, m (fun p => (p.1.2, p.2)) fun _ => rfl, List.map_map, List.map_map]
  exact rps_of (ps := ps.mergeSort fun p q => decide (p.2 ≤ q.2)) fun p hp => h p (List.mem_mergeSort.mp hp)
theorem byKeys_len {α : Type} {xs : List α} {kz : List Int} (h : kz.length = xs.length) : (byKeys xs kz).length = xs.length := by
  unfold byKeys
  rw [List.length_map, List.length_mergeSort, List.length_zip, h, Nat.min_self]
theorem rps_at {O : Ow} {H : Hp} {xs : List V} {ds : List D} (r : Rps K O H xs ds) : ∀ {i : Nat} {x : V}, xs[i]? = some x → ∃ d, ds[i]? = some d ∧ Rp K O H x d := by
  induction xs generalizing ds with
  | nil => intro i x h; simp at h
  | cons v vs ih =>
    cases r with
    | cons r rs =>
      intro i x h
      cases i with
      | zero => cases Option.some.inj h; exact ⟨_, rfl, r⟩
      | succ i => exact ih rs (by simpa using h)
theorem rl_sortK {ta : TE} {f : Addr} {F : FSp} (ha : RE L K W ta wa) : RL L K W (tCKw (rSortK K f (spOf L K F)) (tCons ta tNil) (tCon [.ref f])) fun ρ S R Q => wa ρ S R fun x S1 => match res S1 x with
    | .lst xs => ∃ kz : List Int, kz.length = xs.length ∧ (∀ (i : Nat) (d : D) (k : Int), xs[i]? = some d → kz[i]? = some k → F [d] S1 xNo fun v S2 => v = .int k ∧ Sub S1 S2) ∧ Q (byKeys xs kz) S1
    | _ => False := fun σ H ρ S O R Q Q' A hw k => by
  refine ha.go A hw fun x H1 dx S1 O1 r1 A1 e1 q1 => ?_
  obtain ⟨hl, _, _⟩ := seq_of r1 A1.sok
  cases e : res S1 dx <;> rw [e] at q1 <;> try exact q1.elim
  obtain ⟨a, xs, rfl, g1, g2, g3⟩ := hl _ e
  obtain ⟨kz, l1, hk, q1⟩ := q1
  refine ⟨a, xs, kz, fun H' => ∃ O', Sok K S1 O' H' ∧ Ev S1 O1 H1 S1 O' H', rfl, rfl, SqL.of g1, by rw [l1, g3.len], ⟨O1, A1.sok, .refl⟩, fun H' i x j ⟨O', sk, ev⟩ hx hj => ?_, fun H' p ⟨O', sk, ev⟩ hp => ?_⟩
  · obtain ⟨d, hd, rd⟩ := rps_at g3 hx
    refine ⟨[d], S1, O', xNo, _, sk, .cons (rd.mono (ev.mo A1.sok)) .nil, hk i d j hd hj, fun _ _ _ _ _ _ _ _ _ _ z => z.elim, fun v H2 dv S2 O2 rv s2 e2 ⟨qv, sb⟩ => ?_⟩
    subst qv
    cases rv
    refine ⟨rfl, O2, s2.less sb.1 sb.2, ev.trans sk ⟨e2.keep, e2.own, fun a h n => ⟨(e2.res a h n).1, n⟩, e2.there⟩⟩
  · have A2 := A1.next sk ev
    have r2 : Rps K O' H' (byKeys xs kz) (byKeys _ kz) := (g3.mono (ev.mo A1.sok)).byKeys
    refine rl_new A2 (e1.trans A1.sok ev) (by rw [byKeys_len (by rw [l1, g3.len])]; exact g2) r2 trivial (fun p xs H' ds' S' O' a b c d e f g i j => k p xs H' ds' S' O' a b c d e f g i (by rw [j.1, j.2]; exact q1)) p hp
end
end DL

set_option maxHeartbeats 4000000
/-! DL22: set(xs) of a list of ints, as it stands in the heap; sorted(set(xs)). -/
namespace DL
open PySem PySem.Spec PyProof.Rows L2
def freshO (w : World) : Obj := { cls := .type "set", dict := none, data := .set #[] 0 (.fresh 0 0 (!w.params.followText "set-order")) }
section
variable {P : Program} {w : World} {A : Around} {E : Value → Shared → Prop} {s : Shared}
set_option maxHeartbeats 8000000 in
theorem set_of_list {a : Addr} {xs : Array Value} (ns : List Int) {Q : Value → Shared → Prop} (quiet : A.handled = none) (at_ : s.heap.IsList a xs) (iv : IntsAre xs.toList ns) (few : ns.length + 1 < scanBound)
    (done : ∀ (g : Heap) (tk c : Nat), SetR w g s.heap.objs.size (fun j => decide (j ∈ ns)) c → c ≤ ns.length → (∀ b o, s.heap.get? b = some o → g.get? b = some o) → Q (.ref s.heap.objs.size) { s with heap := g, toks := tk }) :
    wpAny (model P w) A (call (.type "set") [.ref a]) Q E s := by
  have xsz : xs.size = ns.length := (Array.length_toList (xs := xs)).symm.trans (IntsAre.length iv)
  have f1 := F.called_set.mro
  have f2 := F.called_set.made
  have f3 := F.called_set.sub
  have f4 := F.called_set.notType
  have f5 := F.called_set.canCreate
  have f6 := F.typeCall_set_1 (.ref a)
  obtain ⟨c0, tl0, f1⟩ := f1
  refine wpAny_call (codeAny_of_tree ?_)
  show wpAny _ _ (callAny (.type "set") _) _ _ _
  refine wpAny_pure ⟨Code.quiet_builtin _ (by decide +kernel), codeAny_builtin F.entry_type_call ?_⟩
  rw [Around.under_plain (weight_type_call_type "set" [.ref a] []) rfl]
  repeat (any_goals (first | assumption | wp_step))
  generalize hfo : freshO w = fo
  refine codeAny_mono (code_set_led1 (.ref a) (E := E) (Q₁ := fun u t => u = .ref s.heap.objs.size ∧ t = { s with heap := s.heap.push fo }) ⟨rfl, by rw [← hfo]; rfl⟩) fun r1 t1 q1 => ?_
  match r1, q1 with
  | .ok (.ret u), q1 => ?_
  | .error e, q1 => exact q1
  | .ok .next, q1 => exact q1.elim
  | .ok .brk, q1 => exact q1.elim
  | .ok .cont, q1 => exact q1.elim
  obtain ⟨rfl, rfl⟩ := q1
  have new : (s.heap.push fo).get? s.heap.objs.size = some fo := Heap.get?_push_size _ (by rw [← hfo]; rfl)
  have kind : Shared.TypeIs { s with heap := s.heap.push fo } (.ref s.heap.objs.size) "set" := ⟨_, new, by rw [← hfo]; rfl⟩
  have f7 := F.called_set.init.lookup
  have f8 := F.called_set.init.bind (.ref s.heap.objs.size)
  repeat (any_goals (first | assumption | wp_step))
  refine codeAny_mono (codeAny_call_builtin (R := wants (fun u t => u = .none ∧ ∃ g tk c, t = { s with heap := g, toks := tk } ∧ SetR w g s.heap.objs.size (fun j => decide (j ∈ ns)) c ∧ c ≤ ns.length ∧
      ∀ b o, s.heap.get? b = some o → g.get? b = some o) E) F.called_set.init.plain F.entry_set_init (check_set_init_1 kind ?_)) fun r2 t2 q2 => ?_
  · obtain ⟨⟨cl, di, da, sl⟩, at1, at2, k0, at3⟩ := at_
    simp only at at2 at3
    subst at2 at3
    have old : a < s.heap.objs.size := Heap.lt_size at1
    have at4 : (s.heap.push fo).get? a = some { cls := .type "list", dict := di, data := .seq xs k0, slots := sl } := Heap.get?_push_of_some _ at1
    have il : (s.heap.push fo).IsList a xs := ⟨_, at4, rfl, k0, rfl⟩
    have g1 := F.sub_list_set
    have g2 := F.sub_list_frozenset
    have g3 : (Value.type "list" == Value.type "dict") = false := by decide
    subst hfo
    unfold freshO at il new ⊢
    unfold Builtin.«set.__init__» noKeywords Builtin.Frozenset.updateFrom
    generalize hpi : pyIter = pI
    wp_walk
    subst hpi
    refine wpAny_pyIter_list il ?_
    refine wpAny_bind (wpAny_runValue ?_)
    have sz : (s.heap.push (freshO w)).objs.size = s.heap.objs.size + 1 := Heap.size_push ..
    unfold freshO at sz
    have far : s.heap.objs.size ∉ [s.heap.objs.size + 1, a] := by
      simp only [List.mem_cons, List.not_mem_nil, or_false, not_or]
      exact ⟨Nat.ne_of_lt (Nat.lt_succ_self _), Nat.ne_of_gt old⟩
    rw [← sz] at far
    have vals : ∀ (i : Nat) (v : Value), xs[i]? = some v → ∃ k t, ns[i]? = some k ∧ v = .int k t := fun i v hv => by
      have lt : i < ns.length := xsz ▸ (Array.getElem?_eq_some_iff.mp hv).1
      obtain ⟨t, e⟩ := IntsAre.int_at iv i v (by rw [Array.getElem?_toList]; exact hv)
      exact ⟨ns[i], t, List.getElem?_eq_getElem lt, by rw [e, List.getD_eq_getElem?_getD, List.getElem?_eq_getElem lt]; rfl⟩
    refine set_update_ints ((Walks.list (by simp [quiet]) _ a (by rw [sz]; exact Nat.ne_of_lt (Nat.lt_succ_of_lt old)) xs).toS) s.heap.objs.size far ns xsz few vals (xs.size - 0) 0 _ (by omega) (Nat.zero_le _)
      ⟨⟨_, Heap.get?_push_size _ rfl, rfl, rfl⟩, il.push _⟩ ⟨0, Nat.le_refl 0, setR_new_at (Heap.get?_push_of_some _ new)⟩ ?_
    rintro ⟨g, g', d', tk', os'⟩ c mv cn sr
    have e1 : g' = s.gens := mv.gens
    have e2 : d' = s.drawn := mv.drawn
    have e3 : os' = s.os := mv.os
    subst e1 e2 e3
    show wpAny _ _ _ _ _ _
    refine wpAny_pure ?_
    show wpAny _ _ (ret Value.none) _ _ _
    refine wpAny_pure ⟨rfl, g, tk', c, rfl, sr, xsz ▸ cn, fun b o e => ?_⟩
    have bl : b < s.heap.objs.size := Heap.lt_size e
    exact mv.heap b o (by rw [sz]; simp only [List.mem_cons, List.not_mem_nil, or_false, not_or]; exact ⟨Nat.ne_of_lt bl, Nat.ne_of_lt (Nat.lt_succ_of_lt bl)⟩) (Heap.get?_push_of_some _ (Heap.get?_push_of_some _ e))
  · subst hfo
    match r2, q2 with
    | .ok (.ret u), q2 => ?_
    | .error e, q2 => exact q2
    | .ok .next, q2 => exact q2.elim
    | .ok .brk, q2 => exact q2.elim
    | .ok .cont, q2 => exact q2.elim
    obtain ⟨rfl, g, tk, c, rfl, sr, cn, kp⟩ := q2
    repeat (any_goals (first | assumption | wp_step))
    exact done g tk c sr cn kp
end
end DL

set_option maxHeartbeats 4000000
/-! DL23: sorted(set(ints)); sorted of a list of tuples that begin with ints of which no two are the same. -/
namespace DL
open PySem PySem.Spec PyProof.Rows L2
section
variable {X : Cx}
def tSortSet (K : PySem.W.Frag) (ta : TE) : TE := fun σ H Q => ta σ H fun x H1 => ∃ (l : Addr) (ns : List Int), x = .ref l ∧ SqL K H1 l (ns.map V.int) ∧ ns.length < 64 ∧
  ∀ (ms : List Int), ms.Pairwise (· < ·) → (∀ k, k ∈ ms ↔ k ∈ ns) → ms.length ≤ ns.length → ∀ p, H1 p = none → Q (.ref p) (upd H1 p (.lst (ms.map V.int)))
theorem pe_sortSet {a : Expr} {ta : TE} {p p2 q pos : Pos} (hc : X.calm = true) (hg : Gl X "sorted") (hm : X.mg "sorted" = none) (hg2 : Gl X "set") (hm2 : X.mg "set" = none) (ha : PE X a ta)
    (na : starEach [a] X.env = (false, eval a X.env) :: starEach [] X.env) : PE X (.Call (.Name "sorted" p) [.Call (.Name "set" p2) [a] [] q] [] pos) (tSortSet X.K ta) := by
  refine ⟨fun pins s σ H Q I h => ?_⟩
  refine Call_ (ld_blt I hg hm boot_sorted ?_)
  refine callWith_builtin1 (args_cons ?_ rfl) rfl rfl
  refine Call_ (ld_blt I hg2 hm2 boot_set ?_)
  refine callWith_type1 (args_cons (thn (ha.run pins s σ H _ I h) fun v s1 ⟨x, H1, I1, r1, q1⟩ => args_nil ?_) na) na rfl
  obtain ⟨l, ns, rfl, hq, few, q1⟩ := q1
  cases r1
  obtain ⟨its, rv, pl, hz⟩ := I1.list hq
  refine set_of_list ns (I1.ok.hd hc) pl.isList (by simpa using rv.ints) (by unfold scanBound; omega) fun g tk c sr cn kp => ?_
  refine args_nil ?_
  have fresh : s1.heap.get? s1.heap.objs.size = none := Heap.get?_none_of_le (Nat.le_refl _)
  refine sorted_set (s := { s1 with heap := g, toks := tk }) sr (I1.ok.hd hc) (by omega) fun s' b out e ms k2 g2 o hb hg3 hi hs hm3 hl => ?_
  have kall : ∀ b u, s1.heap.get? b = some u → s'.heap.get? b = some u := fun b u z => k2 b u (kp b u z)
  have hb1 : s1.heap.objs.size ≤ b := Nat.le_trans (Nat.le_of_lt sr.lt) hb
  have hlen : (ms.map V.int).length ≤ sizeLine := by rw [List.length_map, hl, sizeLine_eq]; omega
  have hn : H1 b = none := I1.hok.fresh hb1
  have J : Inv X pins σ (upd H1 b (.lst (ms.map V.int))) { s1 with heap := s'.heap, gens := s'.gens, drawn := s'.drawn, toks := s'.toks } :=
    I1.call (ch := []) (Un.laid kall hb1 hn) (I1.hok.laid kall hb1 ⟨hlen, out.toList, e, vals_of_ints hi, hg3⟩) (by rw [g2]; exact I1.bare) (fun _ z => nomatch z)
  have es : s' = { s1 with heap := s'.heap, gens := s'.gens, drawn := s'.drawn, toks := s'.toks } := by
    have o' : s'.os = s1.os := o
    cases s'; cases s1; cases o'; rfl
  rw [es]
  exact ⟨.ref b, _, J, rfl, q1 ms hs (fun k => (hm3 k).trans decide_eq_true_iff) (by omega) b hn⟩
/-- sorted(xs): the items are tuples that begin with ints, no two alike -/
def rSortI (K : PySem.W.Frag) : List V → Hp → VK → Prop := fun vs H Q => ∃ (a : Addr) (xs : List V) (kz : List Int) (ps : List PyData), vs = [.ref a] ∧ SqL K H a xs ∧ kz.length = xs.length ∧ kz.Nodup ∧ DpAll K H xs ps ∧ PySem.W.AllAlike ps ∧
  (∀ p ∈ ps, p.depth ≤ 8) ∧ SrtOk ps kz ∧ ∀ p, H p = none → Q (.ref p) (upd H p (.lst (byKeys xs kz)))
theorem dpAll_len {K : PySem.W.Frag} {H : Hp} : ∀ {xs : List V} {ps : List PyData}, DpAll K H xs ps → ps.length = xs.length
  | _, _, .nil => rfl
  | _, _, .cons _ t => by rw [List.length_cons, List.length_cons, dpAll_len t]
/-- one by one, with keys and data -/
theorem each_three : ∀ {xs : List V} {vs : List Value} {kz : List Int} {ps : List PyData}, Vals xs vs → kz.length = xs.length → ps.length = xs.length → PySem.W.EachIs (fun (v : Value) (b : (V × Int) × PyData) => RelV b.1.1 v) vs ((xs.zip kz).zip ps)
  | [], _, [], [], .nil, _, _ => .nil
  | x :: xs, _, k :: kz, p :: ps, .cons r t, h, h2 => .cons r (each_three t (by simpa using h) (by simpa using h2))
theorem each_reads {h : Heap} : ∀ {xs : List V} {vs : List Value} {kz : List Int} {ps : List PyData} {as : List Addr}, ReadsAll h vs ps as → kz.length = xs.length → ps.length = xs.length → PySem.W.EachIs (fun (v : Value) (b : (V × Int) × PyData) => ∃ as, Reads h v b.2 as) vs ((xs.zip kz).zip ps)
  | [], _, [], [], _, .nil, _, _ => .nil
  | x :: xs, _, k :: kz, p :: ps, _, .cons r t, h, h2 => .cons ⟨_, r⟩ (each_reads t (by simpa using h) (by simpa using h2))
theorem zip3_map : ∀ {xs : List V} {kz : List Int} {ps : List PyData}, kz.length = xs.length → ps.length = xs.length → ((xs.zip kz).zip ps).map Prod.fst = xs.zip kz ∧ ((xs.zip kz).zip ps).map Prod.snd = ps := fun {xs kz ps} h h2 => by
  have l : (xs.zip kz).length = ps.length := by rw [List.length_zip, h, h2, Nat.min_self]
  exact ⟨List.map_fst_zip (Nat.le_of_eq l), List.map_snd_zip (Nat.le_of_eq l.symm)⟩
theorem vals_three : ∀ {vs : List Value} {bs : List ((V × Int) × PyData)}, PySem.W.EachIs (fun (v : Value) (b : (V × Int) × PyData) => RelV b.1.1 v) vs bs → Vals (bs.map fun b => b.1.1) vs
  | _, _, .nil => .nil
  | _, _, .cons r rs => .cons r (vals_three rs)
theorem sort_agree0 {xs : List V} {kz : List Int} {ps : List PyData} (l1 : kz.length = xs.length) (l2 : ps.length = xs.length) (nd : kz.Nodup) (hd : ∀ (i : Nat) (d : PyData) (k : Int), ps[i]? = some d → kz[i]? = some k → ∃ r, d = .tuple (.int k :: r)) :
    ((xs.zip kz).zip ps).mergeSort (PySem.W.dataLe false fun b => b.2) = ((xs.zip kz).zip ps).mergeSort fun b c => decide (b.1.2 ≤ c.1.2) := by
  have at_ : ∀ b ∈ (xs.zip kz).zip ps, ∃ i : Nat, kz[i]? = some b.1.2 ∧ ps[i]? = some b.2 ∧ xs[i]? = some b.1.1 := fun b hb => by
    obtain ⟨i, hi⟩ := List.mem_iff_getElem?.mp hb
    obtain ⟨z1, z2⟩ := List.getElem?_zip_eq_some.mp hi
    obtain ⟨z3, z4⟩ := List.getElem?_zip_eq_some.mp z1
    exact ⟨i, z4, z2, z3⟩
  have m := List.map_mergeSort (f := id) (r := PySem.W.dataLe false fun b : (V × Int) × PyData => b.2) (s := fun b c => decide (b.1.2 ≤ c.1.2)) (l := (xs.zip kz).zip ps) ?_
  · rw [List.map_id, List.map_id] at m; exact m
  intro b hb c hc
  obtain ⟨i, b1, b2, b3⟩ := at_ b hb
  obtain ⟨j, c1, c2, c3⟩ := at_ c hc
  obtain ⟨r, e⟩ := hd i _ _ b2 b1
  obtain ⟨u, f⟩ := hd j _ _ c2 c1
  show (!PySem.W.dataLt c.2 b.2) = decide (b.1.2 ≤ c.1.2)
  by_cases ek : b.1.2 = c.1.2
  · have ij : i = j := by
      obtain ⟨hi, _⟩ := List.getElem?_eq_some_iff.mp b1
      rw [← ek] at c1
      exact (List.getElem?_inj hi nd).mp (b1.trans c1.symm)
    subst ij
    have : b.2 = c.2 := Option.some.inj (b2.symm.trans c2)
    have ir : PySem.W.dataLt c.2 c.2 = false := PyProof.Rows.lex_irrefl _
    rw [this, ir, ek]; simp
  · rw [e, f, PySem.W.dataLt_tuple, PySem.W.dataLt_cons (by simp [PySem.W.alike]), PySem.W.dataLt_int]
    have : PyData.eqv (.int c.1.2) (.int b.1.2) = false := by simp [PyData.eqv]; exact fun z => ek z.symm
    rw [this, if_neg Bool.false_ne_true]
    by_cases z : c.1.2 < b.1.2
    · have : ¬ b.1.2 ≤ c.1.2 := by omega
      simp [z, this]
    · have : b.1.2 ≤ c.1.2 := by omega
      simp [z, this]
theorem sort_agree {xs : List V} {kz : List Int} {ps : List PyData} (l1 : kz.length = xs.length) (l2 : ps.length = xs.length) (nd : kz.Nodup) (hd : SrtOk ps kz) :
    ((xs.zip kz).zip ps).mergeSort (PySem.W.dataLe false fun b => b.2) = ((xs.zip kz).zip ps).mergeSort fun b c => decide (b.1.2 ≤ c.1.2) := by
  rcases hd with hd | ⟨h1, _⟩
  · exact sort_agree0 l1 l2 nd hd
  · have h2 : ((xs.zip kz).zip ps).length ≤ 1 := by rw [List.length_zip, l2]; omega
    cases e : (xs.zip kz).zip ps with
    | nil => rw [List.mergeSort_nil, List.mergeSort_nil]
    | cons a r =>
      cases r with
      | nil => rw [List.mergeSort_singleton, List.mergeSort_singleton]
      | cons b r => rw [e] at h2; simp only [List.length_cons] at h2; omega
theorem cr_sortI (hu : X.A.units + 70 < cLine) : CallR X (.builtin "sorted") (rSortI X.K) := by
  intro pins s σ H vs us Q I r h
  obtain ⟨a, xs, kz, ps, rfl, hs, l1, nd, dp, al, dep, hd, hq⟩ := h
  have l2 := dpAll_len dp
  obtain ⟨its, rv, pl, hz⟩ := I.list hs
  obtain ⟨u, rfl, ru⟩ := vals1 r
  obtain rfl : u = Value.ref a := ru
  obtain ⟨as, ra⟩ := Dp.readsAll I ps _ its dp rv
  obtain ⟨e1, e2⟩ := zip3_map l1 l2
  have lb : ((xs.zip kz).zip ps).length = xs.length := by rw [List.length_zip, List.length_zip, l1, l2, Nat.min_self, Nat.min_self]
  have tup : ∀ d ∈ ps, ∃ x r, d = PyData.tuple (x :: r) := fun d m => by
    rcases hd with hd | ⟨_, hd⟩
    case inr => exact hd d m
    obtain ⟨i, hi⟩ := List.mem_iff_getElem?.mp m
    obtain ⟨li, _⟩ := List.getElem?_eq_some_iff.mp hi
    obtain ⟨r, e⟩ := hd i d kz[i] hi (List.getElem?_eq_getElem (by omega))
    exact ⟨_, _, e⟩
  refine PySem.W.sorted_data (R := fun (v : Value) (b : (V × Int) × PyData) => RelV b.1.1 v) (bs := (xs.zip kz).zip ps) (enc := fun b => b.2) (vs := its) pl.isList (each_three rv l1 l2) (each_reads ra l1 l2)
    (by rw [e2]; exact al) (by rw [e2]; exact .inl tup) (by rw [lb]; exact hz) (fun b hb => ?_) fun out lo eo => ?_
  · have : b.2 ∈ ps := e2 ▸ List.mem_map.mpr ⟨b, hb, rfl⟩
    have := dep _ this
    omega
  · obtain ⟨c, hc⟩ := sortedAll_at s.heap its out.toArray
    have kp : ∀ b u, s.heap.get? b = some u → (sortedAll s.heap its out.toArray).get? b = some u := fun b u z => sortedAll_old z
    rw [sort_agree l1 l2 nd hd] at eo
    have eb : (((xs.zip kz).zip ps).mergeSort fun b c => decide (b.1.2 ≤ c.1.2)).map (fun b => b.1.1) = byKeys xs kz := by
      have m := List.map_mergeSort (f := Prod.fst) (r := fun b c : (V × Int) × PyData => decide (b.1.2 ≤ c.1.2)) (s := fun p q : V × Int => decide (p.2 ≤ q.2)) (l := (xs.zip kz).zip ps) fun _ _ _ _ => rfl
      rw [e1] at m
      unfold byKeys
      rw [← m, List.map_map]; rfl
    have rv2 : Vals (byKeys xs kz) out := eb ▸ vals_three eo
    exact ⟨.ref (s.heap.objs.size + 1), upd H (s.heap.objs.size + 1) (.lst (byKeys xs kz)), I.laid (t' := s.toks) kp (Nat.le_succ _) ⟨by rw [byKeys_len l1]; exact hz, out, c, rv2, hc⟩, rfl, hq _ (I.hok.fresh (Nat.le_succ _))⟩
end
/-- xs[::-1] of a list: a new list -/
def tStpL (K : PySem.W.Frag) (te : TE) (tl th ts : TO) : TE := fun σ H Q => te σ H fun x H1 => tl σ H1 fun l H2 => th σ H2 fun u H3 => ts σ H3 fun o H4 => ∃ a xs, x = .ref a ∧ l = none ∧ u = none ∧ o = some (-1) ∧ SqL K H4 a xs ∧ ∀ p, H4 p = none → Q (.ref p) (upd H4 p (.lst xs.reverse))
theorem vals_rev {xs : List V} {us : List Value} (r : Vals xs us) : Vals xs.reverse us.reverse := by
  induction r with
  | nil => exact .nil
  | cons a t ih => rw [List.reverse_cons, List.reverse_cons]; exact ih.append (.cons a .nil)
theorem pe_stpL {X : Cx} {e st : Expr} {lo hi : Option Expr} {te : TE} {tl th ts : TO} {p3 pos : Pos} (he : PE X e te) (hl : PO X lo tl) (hh : PO X hi th) (hst : PO X (some st) ts) : PE X (.Subscript e (.Slice lo hi (some st) p3) pos) (tStpL X.K te tl th ts) := by
  refine ⟨fun pins s σ H Q I h => ?_⟩
  refine Subscript_ (thn (he.run pins s σ H _ I h) fun v s1 ⟨x, H1, I1, r1, q1⟩ => ?_)
  refine wpAny_Slice (thn (hl.run pins s1 σ H1 _ I1 q1) fun vl s2 ⟨l, H2, I2, pl, q2⟩ => ?_)
  refine thn (hh.run pins s2 σ H2 _ I2 q2) fun vu s3 ⟨u, H3, I3, pu, q3⟩ => ?_
  refine thn (hst.run pins s3 σ H3 _ I3 q3) fun vs s4 ⟨o, H4, I4, ps, a, xs, ex, e1, e2, e3, hx, q⟩ => ?_
  subst ex e1 e2 e3
  cases r1
  have I5 : Inv X pins σ H4 { s4 with heap := s4.heap.push { cls := .type "slice", data := .fields #[vl, vu, vs] } } := I4.kept (t' := s4.toks) fun b ob q => Heap.get?_push_of_some _ q
  obtain ⟨its, r, ht, hz⟩ := I5.list hx
  show wpAny (model X.prog X.w) X.A (subscriptTail e (.Slice lo hi (some st) p3) (.ref a) (.ref s4.heap.objs.size)) (EP X pins σ Q) X.xe { s4 with heap := s4.heap.push { cls := .type "slice", data := .fields #[vl, vu, vs] } }
  refine tail_any (ops := [.ref a, .ref s4.heap.objs.size]) ht.isList.typeIs (slot_list_getitem.lookup) ?_ (by with_unfolding_all rfl)
  refine wpAny_getItem_list_slice ht.isList (Heap.IsSliceOf.new _ vl vu vs) pl pu ps (by decide) ?_ (by rw [List.size_toArray, ← r.length]; exact hz)
  rw [PySem.W.krv_pick]
  exact ⟨.ref _, _, I5.laid (t' := s4.toks) (o := .lst xs.reverse) (fun b ob q => Heap.get?_push_of_some _ q) (Nat.le_refl _) ⟨by rw [List.length_reverse]; exact hz, _, 0, vals_rev r, Heap.get?_push_size _ rfl⟩, rfl, q _ (I5.hok.fresh (Nat.le_refl _))⟩
theorem Rps.rev {K : PySem.W.Frag} {O : Ow} {H : Hp} {xs : List V} {ds : List D} (r : Rps K O H xs ds) : Rps K O H xs.reverse ds.reverse := by
  induction xs generalizing ds with
  | nil => cases r; exact .nil
  | cons x xs ih => cases r with | cons a t => rw [List.reverse_cons, List.reverse_cons]; exact (ih t).append (.cons a .nil)
section
variable {L : Lnk} {K : PySem.W.Frag} {W : WX} {wa ws : WE'}
theorem rl_stpL {te : TE} {tl th : TO} {ts : TE} {wl wh : Env → Sto → XD → (Option Int → Sto → Prop) → Prop} (ha : RE L K W te wa) (hl : RO L K W tl wl) (hh : RO L K W th wh) (hs : RE L K W ts ws) : RL L K W (tStpL K te tl th (tPart ts)) fun ρ S R Q => wa ρ S R fun x S1 => wl ρ S1 R fun l S2 => wh ρ S2 R fun h S3 => ws ρ S3 R fun y S4 => match res S4 x, y with
    | .lst xs, .int k => l = none ∧ h = none ∧ k = -1 ∧ Q xs.reverse S4
    | _, _ => False := fun σ H ρ S O R Q Q' A hw k => by
  refine ha.go A hw fun x H1 dx S1 O1 r1 A1 e1 q1 => ?_
  refine hl.go A1 q1 fun l H2 S2 O2 A2 e2 q2 => ?_
  refine hh.go A2 q2 fun h H3 S3 O3 A3 e3 q3 => ?_
  refine hs.go A3 q3 fun y H4 dy S4 O4 r4 A4 e4 q4 => ?_
  have r1 := ((r1.mono (A1.mo e2)).mono (A2.mo e3)).mono (A3.mo e4)
  have ev := ((e1.trans A1.sok e2).trans A2.sok e3).trans A3.sok e4
  obtain ⟨hl, _, _⟩ := seq_of r1 A4.sok
  cases e : res S4 dx <;> rw [e] at q4 <;> cases dy <;> try exact q4.elim
  cases r4
  obtain ⟨a, xs, rfl, g1, g2, g3⟩ := hl _ e
  obtain ⟨rfl, rfl, rfl, q⟩ := q4
  refine ⟨_, rfl, a, xs, rfl, rfl, rfl, rfl, SqL.of g1, fun p hp => ?_⟩
  exact rl_new A4 ev (by rw [List.length_reverse]; exact g2) g3.rev trivial (fun p xs H' ds' S' O' a b c d e f g i j => k p xs H' ds' S' O' a b c d e f g i (by rw [j.1, j.2]; exact q)) p hp
end
section
variable {L : Lnk} {K : PySem.W.Frag} {W : WX} {wa : WE'}
theorem rl_sortSet {ta : TE} (ha : RE L K W ta wa) : RL L K W (tSortSet K ta) fun ρ S R Q => wa ρ S R fun x S1 => match res S1 x with
    | .lst xs => ∃ ns : List Int, xs = ns.map .int ∧ ns.length < 64 ∧ ∀ ms : List Int, ms.Pairwise (· < ·) → (∀ k, k ∈ ms ↔ k ∈ ns) → Q (ms.map .int) S1
    | _ => False := fun σ H ρ S O R Q Q' A hw k => by
  refine ha.go A hw fun x H1 dx S1 O1 r1 A1 e1 q1 => ?_
  obtain ⟨hl, _, _⟩ := seq_of r1 A1.sok
  cases e : res S1 dx <;> rw [e] at q1 <;> try exact q1.elim
  obtain ⟨a, xs, rfl, g1, g2, g3⟩ := hl _ e
  obtain ⟨ns, rfl, few, q1⟩ := q1
  obtain rfl := g3.ints
  refine ⟨a, ns, rfl, SqL.of g1, few, fun ms h1 h2 h3 => ?_⟩
  exact rl_new A1 e1 (by rw [List.length_map, sizeLine_eq]; omega) (Rps.ofInts ms) trivial (fun p xs H' ds' S' O' a b c d e f g i j => k p xs H' ds' S' O' a b c d e f g i (by rw [j.1, j.2]; exact q1 ms h1 h2))
theorem rl_sortInts {ta : TE} (ha : RE L K W ta wa) : RL L K W (tCB (rSortedI K) (tCons ta tNil)) fun ρ S R Q => wa ρ S R fun x S1 => match res S1 x with
    | .lst xs => ∃ ns : List Int, xs = ns.map .int ∧ ∀ ms : List Int, ms.Perm ns → ms.Pairwise (· ≤ ·) → Q (ms.map .int) S1
    | _ => False := fun σ H ρ S O R Q Q' A hw k => by
  refine ha.go A hw fun x H1 dx S1 O1 r1 A1 e1 q1 => ?_
  obtain ⟨hl, _, _⟩ := seq_of r1 A1.sok
  cases e : res S1 dx <;> rw [e] at q1 <;> try exact q1.elim
  obtain ⟨a, xs, rfl, g1, g2, g3⟩ := hl _ e
  obtain ⟨ns, rfl, q1⟩ := q1
  obtain rfl := g3.ints
  refine ⟨a, ns, rfl, SqL.of g1, fun ms p h1 h2 h3 => ?_⟩
  have lm : (ms.map V.int).length ≤ sizeLine := by
    rw [List.length_map] at g2 ⊢
    rw [h1.length_eq]; exact g2
  exact rl_new A1 e1 lm (Rps.ofInts ms) trivial (fun p xs H' ds' S' O' a b c d e f g i j => k p xs H' ds' S' O' a b c d e f g i (by rw [j.1, j.2]; exact q1 ms h1 h2)) p h3
theorem rl_sortI {ta : TE} (ha : RE L K W ta wa) : RL L K W (tCB (rSortI K) (tCons ta tNil)) fun ρ S R Q => wa ρ S R fun x S1 => match res S1 x with
    | .lst xs => ∃ (kz : List Int) (ps : List PyData), kz.length = xs.length ∧ kz.Nodup ∧ D.py.pys xs = some ps ∧ PySem.W.AllAlike ps ∧ (∀ p ∈ ps, p.depth ≤ 8) ∧
      SrtOk ps kz ∧ Q (byKeys xs kz) S1
    | _ => False := fun σ H ρ S O R Q Q' A hw k => by
  refine ha.go A hw fun x H1 dx S1 O1 r1 A1 e1 q1 => ?_
  obtain ⟨hl, _, _⟩ := seq_of r1 A1.sok
  cases e : res S1 dx <;> rw [e] at q1 <;> try exact q1.elim
  obtain ⟨a, xs, rfl, g1, g2, g3⟩ := hl _ e
  obtain ⟨kz, ps, l1, nd, hp, al, dep, hd, q1⟩ := q1
  refine ⟨a, xs, kz, ps, rfl, SqL.of g1, by rw [l1, g3.len], nd, dps_of g3 hp, al, dep, hd, ?_⟩
  exact rl_new A1 e1 (by rw [byKeys_len (by rw [l1, g3.len])]; exact g2) g3.byKeys trivial (fun p xs H' ds' S' O' a b c d e f g i j => k p xs H' ds' S' O' a b c d e f g i (by rw [j.1, j.2]; exact q1))
end
end DL

set_option maxHeartbeats 1000000
/-! DL33: a lambda handed to a def that calls it. -/
namespace DL
open PySem PySem.Spec PyProof.Rows L2
section
variable {xc : List String} {N : List Str} {sg : Scope}
/-- what the check tells of each clause -/
def ClI (xc : List String) (p : Nat × HC) : Prop := ((∃ m, xc[p.1]? = some m) ∧ xc.contains "SeriesError" = false) ∧ ∀ f, hcF p.2 = some f → xfL xc p.1 f = true
theorem errC_xf {k : Nat} {f : Str} {nm : Option Str} {e : Expr} (h : errC N sg xc k f nm e = true) : xfL xc k f = true := by
  unfold errC at h
  split at h
  · split at h
    · simp only [Bool.and_eq_true] at h; exact h.2.2.2.2.1
    · cases h
  · cases h
theorem clB_i {p : Nat × HC} {h : ExceptHandler} (hc : clB xc N sg p h = true) : ClI xc p := by
  unfold clB at hc
  split at hc
  · simp only [Bool.and_eq_true] at hc
    obtain ⟨_, hx, hb⟩ := hc
    obtain ⟨n, hn, _⟩ := xcL_ok hx
    refine ⟨⟨⟨n, hn⟩, xcL_ser hx⟩, fun f hf => ?_⟩
    split at hb
    · rename_i e; rw [e] at hf; cases hf
    · rename_i e
      rw [e] at hf
      cases hf
      split at hb
      · simp only [Bool.and_eq_true] at hb; exact errC_xf hb.2.2.2
      · cases hb
    · rename_i e
      rw [e] at hf
      cases hf
      split at hb
      · simp only [Bool.and_eq_true] at hb; exact errC_xf hb.2.1
      · cases hb
  · cases hc
theorem clsB_i : ∀ {hs : List (Nat × HC)} {hds : List ExceptHandler}, mclsB xc N sg hs hds = true → ∀ p ∈ hs, ClI xc p := by
  intro hs
  induction hs with
  | nil => intro _ _ p hp; cases hp
  | cons q r ih =>
    intro hds h
    unfold mclsB at h
    split at h
    · rw [Bool.and_eq_true] at h
      intro p hp
      rcases List.mem_cons.mp hp with rfl | hp
      · exact clB_i h.1
      · exact ih h.2 p hp
    · cases h
theorem metB_i {a : Str} {hs : List (Nat × HC)} {fin : Option D} {bg : List Stmt} (h : metB xc N sg a hs fin bg = true) : ∀ p ∈ hs, ClI xc p := by
  unfold metB at h
  split at h
  · simp only [Bool.and_eq_true] at h; exact clsB_i h.2.1
  · simp only [Bool.and_eq_true] at h; exact clsB_i h.2.1
  · cases h
/-- from data to values -/
theorem mW_of {P : Program} {K : PySem.W.Frag} (xa : XcA P K xc) {k : Nat} {d : D} {cls : Value} {dd : Option Addr} {S' : Sto} {O' : Ow} {H' : Hp} {Q : QD} {Q' : VK} (sk : Sok K S' O' H') (xr : xrOf K xc O' H' k d cls dd)
    (kq : ∀ v d, Rp K O' H' v d → Q d S' → Q' v H') : ∀ (hs : List (Nat × HC)), (∀ p ∈ hs, ClI xc p) → hcW shD hs k d (fun r => Q r S') → mW K xc hs cls dd H' Q' := by
  obtain ⟨n, hn, rfl, hd⟩ := xr
  intro hs
  induction hs with
  | nil => intro _ h; exact h.elim
  | cons q r ih =>
    intro hi h
    obtain ⟨⟨⟨m, hm⟩, hser⟩, hf⟩ := hi q List.mem_cons_self
    refine ⟨m, decide (k = q.1), hm, xa.pr hser k q.1 n m hn hm, ?_⟩
    by_cases e : k = q.1
    · subst e
      rw [hn] at hm
      cases hm
      rw [decide_eq_true rfl, if_pos rfl]
      refine ⟨fun _ => rfl, ?_⟩
      have h : hcD shD q.2 d (fun r => Q r S') := by
        have : ((q.1, q.2) :: r).lookup q.1 = some q.2 := by simp [List.lookup]
        unfold hcW at h
        rw [show (q :: r) = ((q.1, q.2) :: r) from rfl, this] at h
        exact h
      have fld : ∀ f, hcF q.2 = some f → ∃ a v, dd = some a ∧ H' a = some (.xd [(f, v)]) ∧ Rp K O' H' v d := fun f e => by
        have h5 := hf f e
        unfold xfL at h5
        rw [hn] at h5
        simp only at h5
        rcases hd with ⟨h0, _⟩ | ⟨p, a, v, h0, h1, h2, _, h3⟩
        · rw [h0] at h5; cases h5
        · rw [h0] at h5
          have h5 := of_decide_eq_true h5
          subst h5
          exact ⟨a, v, h1, h2, h3⟩
      unfold hcT
      cases eq : q.2 with
      | cst c =>
        rw [eq] at h
        exact fun v rv => kq v c (rv _ _ _) h
      | rep pre f =>
        rw [eq] at h
        obtain ⟨s, h1, h2, h3⟩ := h
        obtain ⟨a, v, e1, e2, rv⟩ := fld f (by rw [eq]; rfl)
        unfold shD at h1
        split at h1
        · rename_i p ep
          split at h1
          · rename_i hsb
            cases h1
            have er : res S' d = d := by cases d <;> first | rfl | cases ep
            exact ⟨a, _, v, p, e1, e2, by simp [List.lookup], rp_res sk rv (by rw [er]; exact ep), hsb, h2, kq _ _ (.str _) h3⟩
          · cases h1
        · cases h1
      | ifI f n' a b =>
        rw [eq] at h
        obtain ⟨m, rfl, h3⟩ := h
        obtain ⟨a', v, e1, e2, rv⟩ := fld f (by rw [eq]; rfl)
        cases rv
        exact ⟨a', _, m, e1, e2, by simp [List.lookup], fun v rv => kq v _ (rv _ _ _) h3⟩
    · rw [decide_eq_false e, if_neg Bool.false_ne_true]
      refine ih (fun p hp => hi p (List.mem_cons_of_mem _ hp)) ?_
      unfold hcW at h ⊢
      have ne : (k == q.1) = false := by simpa using e
      rwa [show (q :: r) = ((q.1, q.2) :: r) from rfl, show ((q.1, q.2) :: r).lookup k = r.lookup k from by simp [List.lookup, ne]] at h
end
section
variable {c : Ck} {L : Lnk} {W : WX} {X : Cx}
/-- a table has grown: the store stands -/
theorem sok_tab {K : PySem.W.Frag} {S : Sto} {O : Ow} {H H1 : Hp} {T : List (Addr × Str)} {P : Addr} {y : Str} (s : Sok K S O H) (tk : TbOk K S O H T) (hm : (P, y) ∈ T) (k : ∀ b u, b ≠ P → H b = some u → H1 b = some u) (tP : LamX.TabS H1 P (lamQ y)) : Sok K S O H1 ∧ Ev S O H S O H1 := by
  obtain ⟨hO, hS, ⟨ps0, hP0, _⟩, _⟩ := tk.all _ hm
  have hS : S P = some (.tb T) := hS
  have hP0 : H P = some (.tbl ps0) := hP0
  obtain ⟨ps, hP1, tr, cd⟩ := tP
  have nP : ∀ b u, H b = some u → NT u → b ≠ P := fun b u e n z => by rw [z, hP0] at e; exact n ps0 (Option.some.inj e).symm
  have ev : Ev S O H S O H1 := ⟨fun b u e n _ => k b u (fun z => by rw [z, hS] at n; cases n) e, fun _ h => .inl h, fun _ h n => ⟨h, n⟩, fun b h => by
    cases q : H b with
    | none => rfl
    | some u =>
      by_cases z : b = P
      · rw [z, hP1] at h; cases h
      · rw [k b u z q] at h; cases h⟩
  have m := ev.mo s
  have nt : ∀ {b u}, NT u → H b = some u → H1 b = some u := fun {b u} n e => k b u (nP b u e n) e
  refine ⟨⟨fun a ds h => ?_, fun a h => ?_, fun a c q fs h => ?_, fun a h => ?_, s.inj, fun a R h => ?_⟩, ev⟩
  · obtain ⟨o, xs, e, z, r⟩ := s.dom a ds h
    exact ⟨o, xs, nt nt_lst e, z, r.mono m⟩
  · by_cases z : a = P
    · exact ⟨_, by rw [z]; exact hP1, imm_tbl⟩
    · obtain ⟨u, e, n⟩ := s.ex a h
      exact ⟨u, k a u z e, n⟩
  · obtain ⟨o, hu, vs, e, r⟩ := s.obj a c q fs h
    refine ⟨o, m.ex hu, vs, ?_, r.mono m⟩
    rcases e with ⟨e, z⟩ | ⟨e, z⟩
    · exact .inl ⟨nt (fun _ z => by cases z) e, z⟩
    · exact .inr ⟨nt nt_slO e, nt nt_xd z⟩
  · obtain ⟨o, e⟩ := s.dx a h
    refine ⟨o, ?_⟩
    rcases e with ⟨x, e⟩ | e
    · exact .inl ⟨x, nt nt_own e⟩
    · exact .inr (nt nt_xd e)
  · have := tk.one a R h
    subst this
    obtain ⟨_, q⟩ := s.tb a R h
    refine ⟨⟨fun r hr => ?_, tk.un, tk.one⟩, q⟩
    obtain ⟨h1, h2, h3, h4⟩ := tk.all r hr
    refine ⟨h1, h2, ?_, h4⟩
    by_cases z : r.1 = P
    · have e2 := tk.un r hr _ hm z
      rw [z, e2]
      exact ⟨ps, hP1, tr, cd⟩
    · exact h3.go m fun u hu => k _ _ z hu
/-- what the making of a lambda leaves: its code was in the table, or is new in it -/
def LamAft (H H1 : Hp) (P : Addr) (q : Str) : Prop := (∀ b u, b ≠ P → H b = some u → H1 b = some u) ∧ LamX.TabS H1 P q
section
variable {pins : List (Addr × Obj)} {σ : L2.St} {H : Hp} {s : Shared}
theorem lam_made {c0 P : Addr} {q : Str} {params : Arguments} {body : Expr} {scope : Scope} {pos : Pos} {E : Value → Shared → Prop} {Q : Value → Shared → Prop} (I : Inv X pins σ H s) (TB : LamX.TabB X.base X.mg c0 P) (hc : X.env.code = .ref c0) (hq : X.env.qual ++ "<lambda>" = q) (hT : LamX.TabS H P q)
    (hd : defaultsOf params X.env = ([], [])) (hf : ∀ y ∈ scope.names, y.2 = .free → ∃ c, X.env.cells.lookup y.1 = some c)
    (k : ∀ (f c' : Addr) (pm ctv : Value) (H1 : Hp) (s' : Shared), Inv X pins σ H1 s' → LamAft H H1 P q → s'.heap.get? f = some (PySem.W.kla_obj "<lambda>" (X.env.qual ++ "<lambda>") params body scope (cloFrom X.env.cells scope.names []) pm c' ctv) → H1 f = none → f ∉ frs X.stack → H1 c' = some (LamX.CodeO c' q) → Q (.ref f) s') :
    wpAny (model X.prog X.w) X.A (eval (.Lambda params body scope pos) X.env) Q E s := by
  subst hq
  obtain ⟨ps, hP, tr, cs⟩ := hT
  have hP1 := I.hok P _ hP
  have away : ∀ f, s.heap.objs.size ≤ f → f ∉ frs X.stack := fun f hl z => by
    rcases List.mem_cons.mp (I.stkSub _ z) with e | e
    · have := I.lt; rw [← e] at this; exact absurd hl (Nat.not_le_of_gt this)
    · exact I.nofs hl e
  refine PySem.W.kla_eval hd ?_
  cases e : codeAmong pos ps.toList with
  | some cv =>
    obtain ⟨c', rfl, hc'⟩ := cs pos cv e
    refine PySem.W.kla_makeFunctionHit (mg := X.mg) (c := c0) (P := P) (ps := ps) (closure_ok hf) I.ok.glob (I.mod.glob.keeps I.bk) hc (TB.code.keeps I.bk) hP1 tr e (TB.bm.keeps I.bk) fun ctv h' tk hx hsz => ?_
    exact k h'.objs.size c' _ ctv H _ (I.kept fun b o z => Heap.get?_push_of_some _ (hx b o z)) ⟨fun _ _ _ z => z, ps, hP, tr, cs⟩ (Heap.get?_push_size _ rfl) (I.hok.fresh hsz) (away _ hsz) hc'
  | none =>
    refine PySem.W.kla_makeFunction (mg := X.mg) (c := c0) (P := P) (ps := ps) (closure_ok hf) I.ok.glob (I.mod.glob.keeps I.bk) hc (TB.code.keeps I.bk) hP1 tr e TB.gP (TB.bm.keeps I.bk) fun c' ctv h' tk hx hge hlt hrec htb => ?_
    obtain ⟨c2, oc, vs, t, e2, hoc, hdt, hv⟩ := hrec
    cases e2
    have nC : H c' = none := I.hok.fresh hge
    have sz : s.heap.objs.size ≤ h'.objs.size := Nat.le_trans hge (Nat.le_of_lt hlt)
    have J := LamX.inv_table (t' := tk) (more := #[rawInt pos.line, rawInt pos.col, .ref c']) (h' := h'.push (PySem.W.kla_obj "<lambda>" (X.env.qual ++ "<lambda>") params body scope (cloFrom X.env.cells scope.names []) ((X.mg "__name__").getD .none) c' ctv)) I hP
      (fun b o hb z => Heap.get?_push_of_some _ (hx b o hb z)) (Heap.get?_push_of_some _ htb) hge ⟨oc, vs, t, Heap.get?_push_of_some _ hoc, hdt, hv⟩
    have nPc : P ≠ c' := ne_of_none hP nC
    have kp : ∀ b u, b ≠ P → H b = some u → upd (upd H P (.tbl (ps ++ #[rawInt pos.line, rawInt pos.col, .ref c']))) c' (LamX.CodeO c' (X.env.qual ++ "<lambda>")) b = some u := fun b u nb z => by rw [upd_ne (ne_of_none z nC), upd_ne nb]; exact z
    have el : (ps ++ #[rawInt pos.line, rawInt pos.col, .ref c']).toList = ps.toList ++ [rawInt pos.line, rawInt pos.col, .ref c'] := by simp
    refine k h'.objs.size c' _ ctv _ _ J ⟨kp, _, by rw [upd_ne nPc, upd_same], by rw [el]; exact PySem.TriplesOk_snoc _ _ _ _ tr, fun p' cv hcv => ?_⟩ (Heap.get?_push_size _ rfl) ?_ (away _ sz) upd_same
    · rw [el] at hcv
      rcases LamX.among_app _ tr hcv with z | z
      · obtain ⟨c3, e1, e2⟩ := cs p' cv z
        exact ⟨c3, e1, kp _ _ (fun z => by rw [z, hP] at e2; exact LamX.codeO_ne ps (Option.some.inj e2).symm) e2⟩
      · exact ⟨c', z, upd_same⟩
    · rw [upd_ne (Nat.ne_of_gt hlt), upd_ne (Nat.ne_of_gt (Nat.lt_of_lt_of_le (Heap.lt_size hP1) sz))]
      exact I.hok.fresh sz
end
/-- x(lambda: body), the table's change told -/
def tLamA (P : Addr) (q : Str) (TT : (XK → Hp → VK → Prop) → Hp → VK → Prop) (t : XK → TE) : TE := fun σ H Q => LamX.TabS H P q ∧ ∀ H1, LamAft H H1 P q → TT (fun E H' Q' => t E σ H' Q') H1 Q
theorem pe_lam {TT : (XK → Hp → VK → Prop) → Hp → VK → Prop} {x a : Str} {g c0 P : Addr} {k : Nat} {pg : Arguments} {bg : List Stmt} {sg : Scope} {dV kV doc pm cdv ct oc : Value} {an od : Option Addr} {osl : Array (Option Value)} {Ng : List Str} {params : Arguments} {body : Expr} {scope : Scope} {t : XK → TE} {p lpos pos : Pos}
    (hg : Gl X x) (hm : X.mg x = some (.ref g)) (hk : PySem.W.keepIn X.K (.ref g) = true) (lk : X.K.lookup g = some ⟨oc, od, .func (PySem.W.fnOf x x pg bg sg dV kV doc pm an cdv ct), osl⟩) (hcg : PySem.W.codeIn X.K cdv x = true) (hb : L2.Binds X.K (PySem.W.fnOf x x pg bg sg dV kV doc pm an cdv ct) [a] [])
    (Sg : FnScope Ng [a] sg) (hNg : Ng[0]? = some a) (hva : Vis sg a) (hG : LamX.GivesTo X Ng x sg g cdv bg a (X.env.qual ++ "<lambda>") TT) (TB : LamX.TabB X.base X.mg c0 P) (hcode : X.env.code = .ref c0) (hr : Room (k + 2) X.A) (LS : LamX.LamS X.env.scope scope)
    (hdef : defaultsOf params X.env = ([], [])) (hbind : ∀ (q : Str) (cl : List (Str × Addr)) (pm cv ctv : Value), bindArgs (PySem.W.kla_fn "<lambda>" q params body scope cl pm cv ctv) ⟨[], []⟩ = pure [])
    (hbody : ∀ (A : Around) (outer : List PySem.Env) (s : Shared) (H : Hp) (E : XK) (f c' : Addr), Room k (A.deeper (LamX.lamEnv X scope s.heap.objs.size f c')) → PE (LamX.lamCx X A outer s H E scope f c') body (t E))
    (hdb : (x == ("__debug__" : Str)) = false) (hd : (a == ("__debug__" : Str)) = false) (hcd : (a == ("__classdict__" : Str)) = false) :
    PE X (.Call (.Name x p) [.Lambda params body scope lpos] [] pos) (tLamA P (X.env.qual ++ "<lambda>") TT t) := by
  refine ⟨fun pins s σ H Q I ⟨hT, h⟩ => wpAny_Call_Name_kw (ld_glob I hg hm ?_ hdb)⟩
  refine PySem.W.callWith_K (h₀ := X.base) I.ok.mod.kin hk ?_ (by rfl) (by rfl)
  show wpAny _ _ (spliced ((false, eval (.Lambda params body scope lpos) X.env) :: backTo pos (starEach [] X.env))) _ _ s
  refine Calls.spliced_cons (lam_made I TB hcode rfl hT hdef (LS.has I.ok) fun f c' pm' ctv H1 s' J aft hf hfn hfr hco => Calls.spliced_nil ⟨J.kIn, ?_⟩)
  refine wpAny_call (codeAny_mono (LamX.run_ofS (CX := C8.CX0) (E := C8.E0) (H := H1) (Q := Q) (N := Ng) (ps := [a]) (us := [.ref f]) (vs := [.ref f]) lk hcg Sg hr J.env0 (hb s' [.ref f] J.kIn rfl) (.cons rfl .nil) rfl fun hr' => ?_) fun r s2 hq => ?_)
  · obtain ⟨t', ht', hq'⟩ := hG f c' s' H1 Q (fun E H' Q' => t E σ H' Q') (fun W pn xe E p1 p2 tk hW => LamX.pe_act (i := 0) J LS hf hfn hfr (hbind _ _ _ _ _) tk hW hr' (fun A outer s H hr2 => hbody A outer s H E f c' hr2) hNg hva hd hcd) hco (h H1 aft)
    exact ⟨t', ht'.nox, hq'⟩
  · cases r with
    | error e => exact (show False from hq).elim
    | ok fl =>
      cases fl with
      | ret u => exact J.after hq
      | _ => exact hq.elim
theorem pe_met (hx : XC c L W X) {j : Nat} {nm n : Str} {p lpos pos : Pos} {params : Arguments} {body : Expr} {scope : Scope} {w : WE'} (hg : Gl X n) (hdb : (n == ("__debug__" : Str)) = false) (hp : (j, n) ∈ c.mets) (hnm : c.nm = some nm) (hown : noOwn c = true) (hl : lamP params = true) (hgd : X.A.guards = some [])
    (LS : LamX.LamS X.env.scope scope) (hb : ∀ (W' : WX) (X' : Cx), XC (c.lam scope) L W' X' → X'.K = X.K → PE X' body (tO L X.K W' w)) :
    PE X (.Call (.Name n p) [.Lambda params body scope lpos] [] pos) (tO L X.K W fun ρ S R Q => (∃ a T, S a = some (.tb T) ∧ ∃ p ∈ T, p.2 = nm) ∧ match L.Γ.mt[j]? with
      | some (_, hs, fin) => w ρ S (fun k d S' => hcW shD hs k d fun r => Q r S') fun d S' => Q (fin.getD d) S'
      | none => False) := by
  obtain ⟨hs, fin, g, pg, bg, sg, dV, kV, doc, pm, cdv, ct, oc, an, od, osl, a, N, em, hm, hk, lk, hcd, hbd, S0, hN0, hva, d1, d2, h2, hB⟩ := hx.met _ hp
  obtain ⟨k0, cd, P, I⟩ := hx.lam hown (fun z => by rw [z] at hp; cases hp) nm hnm
  have M : MetX X c.xc := ⟨hx.xm, fun n hn p hp => ((hx.xa.g n hn).sp p hp).2, bl_of hx (by decide +kernel), hgd, by have := I.room.un; omega⟩
  rw [hx.xg] at hB
  have hi := metB_i hB
  unfold lamP at hl
  split at hl
  · have pe : PE X (.Call (.Name n p) [.Lambda ⟨[], [], none, [], [], none, []⟩ body scope lpos] [] pos) (tLamA P (X.env.qual ++ "<lambda>") (TTm X.K c.xc hs fin) fun E => tO L X.K (fun cls d _ H => E cls d H) w) :=
      pe_lam hg hm hk lk hcd hbd S0 hN0 hva (met_gives (by have := I.room.un; omega) M S0 h2 hB) I.tb I.code I.room LS rfl (fun _ _ _ _ _ => rfl) (fun A outer s H E f c' hr => hb _ _ (hx.inLam I LS hr) rfl) hdb d1 d2
    refine ⟨fun pins s σ H Q' IV ⟨ρ, S, O, R, Q, A, hw, k⟩ => ?_⟩
    obtain ⟨⟨b, T, hS, ⟨r, y⟩, hr, rfl⟩, hw⟩ := hw
    simp only [em] at hw
    obtain ⟨tb, _⟩ := A.sok.tb b T hS
    obtain ⟨_, _, tO', c0, t0⟩ := tb.all _ hr
    rw [I.tab] at t0
    cases t0
    have eq : X.env.qual ++ "<lambda>" = lamQ y := by rw [I.qual] <;> rfl
    rw [eq] at pe
    refine pe.run pins s σ H Q' IV ⟨tO', fun H1 aft => ?_⟩
    obtain ⟨s1, e1⟩ := sok_tab A.sok tb hr aft.1 aft.2
    have ex : ∀ {Q1 : VK}, (∀ v H' d S' O', Rp X.K O' H' v d → Sok X.K S' O' H' → Ev S O H1 S' O' H' → Q d S' → Q1 v H') →
        At L X.K (fun cls d _ H => mW X.K c.xc hs cls d H Q1) σ H1 ρ S O (fun k d S' => hcW shD hs k d fun r => Q r S') := fun {Q1} kq =>
      ⟨s1, A.env.mono (e1.mo A.sok), fun k' d S' O' H' cls dd s' e' xr hr => by
        rw [hx.xr] at xr
        exact mW_of hx.xa s' xr (fun v d' r q => kq v H' d' S' O' r s' e' q) hs hi hr⟩
    cases fin with
    | none => exact ⟨ρ, S, O, _, _, ex fun v H' d S' O' r s' e' q => k v H' d S' O' r s' (e1.trans s1 e') q, hw, fun v H' d S' O' r s' e' q => k v H' d S' O' r s' (e1.trans s1 e') q⟩
    | some cc => exact fun v rv => ⟨ρ, S, O, _, _, ex fun v H' d S' O' r s' e' q => k v H' d S' O' r s' (e1.trans s1 e') q, hw, fun _ H' _ S' O' _ s' e' q => k v H' cc S' O' (rv _ _ _) s' (e1.trans s1 e') q⟩
  · cases hl
end
end DL

/-! DL12: the check is enough: expressions. -/
namespace DL
open PySem PySem.Spec PyProof.Rows L2
/-- the three readings of an expression -/
def Th (L : Lnk) (W : WX) (X : Cx) (x : Expr) (w : WE') : Prop := PE X x (tO L X.K W w) ∧ PT X x (tOT L X.K W w) ∧ (isBO x = true → PW X x (tOT L X.K W w))
section
variable {c : Ck} {L : Lnk} {W : WX} {X : Cx}
theorem th_val {x : Expr} {w : WE'} (pe : PE X x (tO L X.K W w)) (he : ∀ whole, isTrue x X.env whole = (do let v ← whole; standAt x.pos; holding [v] (truthy v))) (nb : isBO x = false) : Th L W X x w :=
  ⟨pe, (pt_val pe he).can (re_tO).tB, fun h => by rw [nb] at h; cases h⟩
theorem pe_callS0 {X : Cx} {CX : CXT} {k : Nat} {f : Addr} {fd : FuncData} {ps : List Str} {sp : Sp} {E : L2.St → XK} {x : Str} {p pos : Pos} (F : FnOk X.prog X.w X.K X.mg X.base CX k f fd ps sp) (hr : Room k X.A) (hg : Gl X x) (hm : X.mg x = some (.ref f)) (hk : PySem.W.keepIn X.K (.ref f) = true) (hb : Binds X.K fd ps []) (hx : ∀ σ, PassesAt CX X σ (E σ))
    (hdb : (x == ("__debug__" : Str)) = false) : PE X (.Call (.Name x p) [] [] pos) (tCallS sp E tNil) := by
  refine ⟨fun pins s σ H Q I h => ?_⟩
  refine wpAny_Call_Name_kw (ld_glob I hg hm ?_ hdb)
  exact PySem.W.callWith_K0 I.kIn hk (run_fnS (us := []) F hr hb (hx σ) I .nil h)
theorem pe_callG {X : Cx} {CX : CXT} {k : Nat} {f : Addr} {fd : FuncData} {ps : List Str} {sp : Sp} {E : L2.St → XK} {x : Str} {e : Expr} {es : List Expr} {t : TA} {p pos : Pos} (F : FnG X.prog X.w X.K X.mg X.base CX k f fd ps sp) (hr : Room k X.A) (hG : X.A.guards = some []) (hg : Gl X x) (hm : X.mg x = some (.ref f)) (hk : PySem.W.keepIn X.K (.ref f) = true) (hb : Binds X.K fd ps []) (hx : ∀ σ, PassesAt CX X σ (E σ))
    (ha : PA X (e :: es) t) (hdb : (x == ("__debug__" : Str)) = false) (he : starEach (e :: es) X.env = (false, eval e X.env) :: starEach es X.env) (hpl : (backTo pos (starEach es X.env)).any (·.1) = false) : PE X (.Call (.Name x p) (e :: es) [] pos) (tCallS sp E t) := by
  refine ⟨fun pins s σ H Q I h => wpAny_Call_Name_kw (ld_glob I hg hm ?_ hdb)⟩
  refine PySem.W.callWith_K (h₀ := X.base) I.ok.mod.kin hk (thn (ha.run pos pins s σ H _ I h) fun us s1 ⟨vs, H1, I1, r, q⟩ => ⟨I1.kIn, ?_⟩) he hpl
  have hl : us.length = ps.length := by rw [← r.length]; exact F.len _ _ _ _ q
  have b := hb s1 us I1.kIn (by rw [List.append_nil]; exact hl)
  rw [List.append_nil] at b
  refine wpAny_call (codeAny_mono (F.run X.A X.stack s1 H1 ⟨us, []⟩ us vs Q (E σ) hr hG I1.env0 b r q) fun r' s' hq => ?_)
  rcases r' with e | (_ | _ | _ | u) <;> first | exact hx σ pins H1 s1 e s' I1 hq | exact I1.after hq | exact hq.elim
/-- a call of what a name holds: one of the program's defs -/
def tCallV {A : Type} (i : Nat) (cs : List A) (ad : A → Addr) (ts : A → TE) : TE := fun σ H Q => ∃ q ∈ cs, σ[i]? = some (some (V.ref (ad q))) ∧ ts q σ H Q
theorem pe_callV {X : Cx} {CX : CXT} {A : Type} {cs : List A} {ad : A → Addr} {sp : A → Sp} {E : L2.St → XK} {x : Str} {i : Nat} {e : Expr} {es : List Expr} {t : TA} {p pos : Pos}
    (F : ∀ q ∈ cs, ∃ (k : Nat) (fd : FuncData) (ps : List Str), FnOk X.prog X.w X.K X.mg X.base CX k (ad q) fd ps (sp q) ∧ Room k X.A ∧ PySem.W.keepIn X.K (.ref (ad q)) = true ∧ Binds X.K fd ps [])
    (hN : X.N[i]? = some x) (hv : Vis X.env.scope x) (hx : ∀ σ, PassesAt CX X σ (E σ)) (hcd : (x == ("__classdict__" : Str)) = false)
    (ha : PA X (e :: es) t) (hdb : (x == ("__debug__" : Str)) = false) (he : starEach (e :: es) X.env = (false, eval e X.env) :: starEach es X.env) (hpl : (backTo pos (starEach es X.env)).any (·.1) = false) : PE X (.Call (.Name x p) (e :: es) [] pos) (tCallV i cs ad fun q => tCallS (sp q) E t) := by
  refine ⟨fun pins s σ H Q I h => ?_⟩
  obtain ⟨q, hq, hs, h⟩ := h
  obtain ⟨k, fd, ps, F, hr, hk, hb⟩ := F q hq
  refine wpAny_Call_Name_kw (thn ((pe_var (pos := p) (i := i) hN hv hdb hcd).run pins s σ H (fun v H1 => v = .ref (ad q) ∧ H1 = H) I ⟨.ref (ad q), hs, rfl, rfl⟩) fun u s0 ⟨v, H0, I0, r0, q0⟩ => ?_)
  obtain ⟨ev, eH⟩ := q0
  subst ev
  subst eH
  obtain rfl : u = Value.ref (ad q) := r0
  refine PySem.W.callWith_K (h₀ := X.base) I.ok.mod.kin hk (thn (ha.run pos pins s0 σ H0 _ I0 h) fun us s1 ⟨vs, H1, I1, r, q⟩ => ⟨I1.kIn, ?_⟩) he hpl
  exact run_fnS F hr hb (hx σ) I1 r q
theorem re_callS {f : Nat} {t : TA} {ws : Env → Sto → XD → (List D → Sto → Prop) → Prop} {K : PySem.W.Frag} (h : RA L K W t ws) : RE L K W (tCallS (spOf L K (L.Γ.fn f)) (WE W) t) fun ρ S R Q => ws ρ S R fun ds S1 => L.Γ.fn f ds S1 R Q := fun σ H ρ S O R Q Q' A hw k => by
  refine h.go A hw fun vs H1 ds S1 O1 r1 A1 e1 q1 => ?_
  refine ⟨ds, S1, O1, R, Q, A1.sok, r1, q1, fun k' d S' O' H' c dd s' e' x r => A1.x k' d S' O' H' c dd s' e' x r, fun v H' d S' O' r' s' e' q' => k v H' d S' O' r' s' (e1.trans A1.sok e') q'⟩
theorem lookup_mem {x : String} {f : Nat} : ∀ {fs : List (String × Nat)}, fs.lookup x = some f → (x, f) ∈ fs
  | [], h => nomatch h
  | (y, g) :: r, h => by
    rw [List.lookup_cons] at h
    split at h
    · rename_i e
      cases h
      rw [beq_iff_eq.mp e]
      exact List.mem_cons_self
    · exact List.mem_cons_of_mem _ (lookup_mem h)
theorem re_callV {A : Type} {cs : List A} {ad : A → Addr} {fn : A → Nat} {i : Nat} {t : TA} {ws : Env → Sto → XD → (List D → Sto → Prop) → Prop} {K : PySem.W.Frag} {fs : List (String × Nat)} (h : RA L K W t ws) (hc : ∀ x f, fs.lookup x = some f → ∃ q ∈ cs, ad q = He.ga K x ∧ fn q = f) :
    RE L K W (tCallV i cs ad fun q => tCallS (spOf L K (L.Γ.fn (fn q))) (WE W) t) fun ρ S R Q => match getV ρ i with
    | some (.fn x) => (match fs.lookup x with
      | some f => ws ρ S R fun ds S1 => L.Γ.fn f ds S1 R Q
      | none => False)
    | _ => False := fun σ H ρ S O R Q Q' A hw k => by
  dsimp only at hw
  split at hw
  · rename_i x e
    split at hw
    · rename_i f ef
      obtain ⟨q, hq, ea, ef⟩ := hc x f ef
      obtain ⟨v, hv, rv⟩ := A.env.get e
      cases rv
      refine ⟨q, hq, by rw [ea]; exact hv, ?_⟩
      subst ef
      exact re_callS h σ H ρ S O R Q Q' A hw k
    · exact hw.elim
  · exact hw.elim
theorem cst_ok {d : D} {x : Expr} (hx : XC c L W X) (h : cstC c d x = true) : PE X x (tO L X.K W fun _ S _ Q => Q d S) ∧ (∀ whole, isTrue x X.env whole = (do let v ← whole; standAt x.pos; holding [v] (truthy v))) ∧ isBO x = false := by
  unfold cstC at h
  split at h
  · have e := of_decide_eq_true h; subst e
    exact ⟨pe_int.can (re_c fun _ _ => .int _), fun _ => rfl, rfl⟩
  · have e := of_decide_eq_true h; subst e
    exact ⟨pe_bl.can (re_c fun _ _ => .bl _), fun _ => rfl, rfl⟩
  · have e := of_decide_eq_true h; subst e
    exact ⟨pe_str.can (re_c fun _ _ => .str _), fun _ => rfl, rfl⟩
  · exact ⟨pe_non.can (re_c fun _ _ => .non), fun _ => rfl, rfl⟩
  · rw [Bool.and_eq_true] at h
    obtain ⟨hg, hd⟩ := gloC_ok hx h.1
    have h2 := h.2
    simp only [Bool.or_eq_true, Bool.and_eq_true, decide_eq_true_eq] at h2
    rcases h2 with (((⟨e1, e2⟩ | ⟨e1, e2⟩) | ⟨e1, e2⟩) | ⟨e1, e2⟩) | ⟨e1, e2⟩ <;> subst e1 <;> subst e2
    · exact ⟨L2.PE.can (pe_bltn hg (bl_of hx (by decide +kernel)) (u := .type "int") (v := .ty "int") (by decide +kernel) rfl) (re_c fun _ _ => .ty _), fun _ => rfl, rfl⟩
    · exact ⟨L2.PE.can (pe_bltn hg (bl_of hx (by decide +kernel)) (u := .type "bool") (v := .ty "bool") (by decide +kernel) rfl) (re_c fun _ _ => .ty _), fun _ => rfl, rfl⟩
    · exact ⟨L2.PE.can (pe_bltn hg (bl_of hx (by decide +kernel)) (u := .type "tuple") (v := .ty "tuple") (by decide +kernel) rfl) (re_c fun _ _ => .ty _), fun _ => rfl, rfl⟩
    · exact ⟨L2.PE.can (pe_bltn hg (bl_of hx (by decide +kernel)) (u := .type "str") (v := .ty "str") (by decide +kernel) rfl) (re_c fun _ _ => .ty _), fun _ => rfl, rfl⟩
    · exact ⟨L2.PE.can (pe_bltn hg (bl_of hx (by decide +kernel)) (u := .type "list") (v := .ty "list") (by decide +kernel) rfl) (re_c fun _ _ => .ty _), fun _ => rfl, rfl⟩
  · cases h
theorem ty_pe {n : String} {m : Str} {p : Pos} (hx : XC c L W X) (h : cstC c (.ty n) (.Name m p) = true) : PE X (.Name m p) (tC (.ty n)) := by
  unfold cstC at h
  rw [Bool.and_eq_true] at h
  obtain ⟨hg, hd⟩ := gloC_ok hx h.1
  have h2 := h.2
  simp only [Bool.or_eq_true, Bool.and_eq_true, decide_eq_true_eq] at h2
  rcases h2 with (((⟨e1, e2⟩ | ⟨e1, e2⟩) | ⟨e1, e2⟩) | ⟨e1, e2⟩) | ⟨e1, e2⟩ <;> subst e1 <;> subst e2
  · exact pe_bltn hg (bl_of hx (by decide +kernel)) (u := .type "int") (v := .ty "int") (by decide +kernel) rfl
  · exact pe_bltn hg (bl_of hx (by decide +kernel)) (u := .type "bool") (v := .ty "bool") (by decide +kernel) rfl
  · exact pe_bltn hg (bl_of hx (by decide +kernel)) (u := .type "tuple") (v := .ty "tuple") (by decide +kernel) rfl
  · exact pe_bltn hg (bl_of hx (by decide +kernel)) (u := .type "str") (v := .ty "str") (by decide +kernel) rfl
  · exact pe_bltn hg (bl_of hx (by decide +kernel)) (u := .type "list") (v := .ty "list") (by decide +kernel) rfl
theorem starEach_len (env : PySem.Env) : ∀ xs : List Expr, (starEach xs env).length = xs.length
  | [] => rfl
  | x :: xs => by cases x <;> exact congrArg (· + 1) (starEach_len env xs)
theorem okGs_len (env : PySem.Env) : ∀ {ts : Tgs} {xs : List Expr}, okGs ts c xs = true → (assignEach xs env).length = tgsLen ts ∧ ∀ p ∈ assignEach xs env, p.1 = false
  | .nil, [], _ => ⟨rfl, fun _ h => nomatch h⟩
  | .nil, _ :: _, h => by cases h
  | .cons t r, [], h => by cases h
  | .cons t r, x :: xs, h => by
    unfold okGs at h
    simp only [Bool.and_eq_true] at h
    obtain ⟨h1, h2⟩ := okGs_len env (ts := r) (xs := xs) h.2
    rw [noStar_assign h.1.1]
    refine ⟨by rw [List.length_cons, h1]; rfl, fun p hp => ?_⟩
    rcases List.mem_cons.mp hp with e | e
    · rw [e]
    · exact h2 p e
/-- targets, tests: canonical readings -/
def tOGt (L : Lnk) (K : PySem.W.Frag) (W : WX) (vs : List Nat) (w : WG) : TG := fun v σ H Q' => ∃ d ρ S O, ∃ Q : Env → Sto → Prop, At L K W σ H ρ S O xNo ∧ Rp K O H v d ∧ w d ρ S xNo Q ∧ ∀ σ' H' ρ' S' O', Sok K S' O' H' → Ev S O H S' O' H' → REnv K O' H' ρ' σ' → SetIn vs σ σ' → Q ρ' S' → Q' σ' H'
def tOTs (L : Lnk) (K : PySem.W.Frag) (W : WX) (w : WTs) : TT := fun σ H Q' => ∃ ρ S O, ∃ Q : Bool → Sto → Prop, At L K W σ H ρ S O xNo ∧ w ρ S Q ∧ ∀ b H' S' O', Sok K S' O' H' → Ev S O H S' O' H' → Q b S' → Q' b H'
theorem rg_tO {K : PySem.W.Frag} {vs : List Nat} {w : WG} : RG L K W vs (tOGt L K W vs w) w := fun v d σ H ρ S O Q Q' A r hw k => ⟨d, ρ, S, O, Q, A, r, hw, k⟩
theorem rts_tO {K : PySem.W.Frag} {w : WTs} : RTs L K W (tOTs L K W w) w := fun σ H ρ S O Q Q' A hw k => ⟨ρ, S, O, Q, A, hw, k⟩
theorem _root_.L2.PG.can {K : PySem.W.Frag} {vs : List Nat} {w : WG} {x : Expr} {g : TG} (h : PG X x g) (r : RG L K W vs g w) : PG X x (tOGt L K W vs w) := ⟨fun pins s σ H v u Q' I rv ⟨d, ρ, S, O, Q, A, rd, hw, k⟩ => h.run pins s σ H v u Q' I rv (r v d σ H ρ S O Q Q' A rd hw k)⟩
theorem _root_.L2.PTs.can {K : PySem.W.Frag} {w : WTs} {xs : List Expr} {t : TT} (h : PTs X xs t) (r : RTs L K W t w) : PTs X xs (tOTs L K W w) := ⟨fun pins s σ H Q' I ⟨ρ, S, O, Q, A, hw, k⟩ => h.run pins s σ H Q' I (r σ H ρ S O Q Q' A hw k)⟩
set_option maxHeartbeats 1000000
mutual
theorem sE : ∀ (e : Ex) {c : Ck} {W : WX} {X : Cx} {x : Expr}, XC c L W X → okE e c x = true → Th L W X x (wpE L.Γ e)
  | .var i, c, W, X, x, hx, h => by
    unfold okE at h
    split at h
    · rename_i n p
      unfold varC dbg at h
      simp only [Bool.and_eq_true, decide_eq_true_eq, Bool.not_eq_true'] at h
      exact th_val ((pe_var (by rw [hx.N]; exact h.1.1.1) (visC_ok hx h.1.1.2) h.1.2 h.2).can re_var) (fun _ => rfl) rfl
    · cases h
  | .cst d, c, W, X, x, hx, h => by
    obtain ⟨h1, h2, h3⟩ := cst_ok hx h
    exact th_val h1 h2 h3
  | .glb k, c, W, X, x, hx, h => by
    unfold okE at h
    split at h
    · rename_i n p
      rw [Bool.and_eq_true] at h
      obtain ⟨hg, hd⟩ := gloC_ok hx h.1
      obtain ⟨u, v, hm, r, rp⟩ := hx.gl _ (pairC_ok h.2)
      exact th_val ((pe_glob hg hm r hd).can (re_c rp)) (fun _ => rfl) rfl
    · cases h
  | .bin op a b, c, W, X, x, hx, h => by
    unfold okE at h
    split at h
    · simp only [Bool.and_eq_true, decide_eq_true_eq] at h
      obtain ⟨⟨e, ha⟩, hb⟩ := h
      subst e
      obtain ⟨r, ho, hr⟩ := bin_ok (X := X) hx.py op
      exact th_val ((pe_op ho (sE a hx ha).1 (sE b hx hb).1).can (re_op (f := fun _ dx dy P => binD op dx dy P) re_tO re_tO hr)) (fun _ => rfl) rfl
    · cases h
  | .neg a, c, W, X, x, hx, h => by
    unfold okE at h
    split at h
    · exact th_val ((pe_un un_neg (sE a hx h).1).can (re_neg re_tO)) (fun _ => rfl) rfl
    · cases h
  | .not a, c, W, X, x, hx, h => by
    unfold okE at h
    split at h
    · have t := sE a hx h
      exact ⟨(pe_not t.1).can (re_not re_tO), (pt_not t.2.1).can (rt_not rt_tO), fun h => by cases h⟩
    · cases h
  | .cmp op a b, c, W, X, x, hx, h => by
    unfold okE at h
    split at h
    · simp only [Bool.and_eq_true, decide_eq_true_eq] at h
      obtain ⟨⟨⟨e, hn⟩, ha⟩, hb⟩ := h
      subst e
      obtain ⟨r, ho, hr⟩ := cmp_ok (X := X) op (by have := hx.un; omega)
      have re := re_op (f := fun S dx dy P => cmpD op (res S dx) (res S dy) fun z => P (.bl z)) (re_tO (L := L) (K := X.K) (W := W) (w := wpE L.Γ a)) (re_tO (w := wpE L.Γ b)) hr
      exact ⟨(pe_cmpR ho (sE a hx ha).1 (sE b hx hb).1 (noSet_marks hn _)).can re, (pt_cmpR ho (sE a hx ha).1 (sE b hx hb).1 (noSet_marks hn _)).can re.tB, fun h => by cases h⟩
    · cases h
  | .chn o1 o2 a b d, c, W, X, x, hx, h => by
    unfold okE at h
    split at h
    · simp only [Bool.and_eq_true, decide_eq_true_eq] at h
      obtain ⟨⟨⟨⟨⟨e1, e2⟩, hn⟩, ha⟩, hb⟩, hd⟩ := h
      subst e1 e2
      obtain ⟨r, ho, hr⟩ := cmp_ok (X := X) o1 (by have := hx.un; omega)
      obtain ⟨r2, ho2, hr2⟩ := cmp_ok (X := X) o2 (by have := hx.un; omega)
      have re := re_chn (re_tO (L := L) (K := X.K) (W := W) (w := wpE L.Γ a)) (re_tO (w := wpE L.Γ b)) (re_tO (w := wpE L.Γ d)) hr hr2
      exact ⟨(pe_chain ho ho2 (sE a hx ha).1 (sE b hx hb).1 (sE d hx hd).1 (noSet_last hn _ _)).can re, (pt_chain ho ho2 (sE a hx ha).1 (sE b hx hb).1 (sE d hx hd).1 (noSet_last hn _ _)).can re.tB, fun h => by cases h⟩
    · cases h
  | .and a b, c, W, X, x, hx, h => by
    unfold okE at h
    split at h
    · rw [Bool.and_eq_true] at h
      obtain ⟨ha, hb⟩ := h
      have ta := sE a hx ha
      split at hb
      · have tb := sE b hx hb
        exact ⟨(pe_and ta.1 (pe_one tb.1)).can (re_and re_tO re_tO), ((pw_and ta.2.1 (pw_and1 tb.2.1)).can (rt_and rt_tO rt_tO)).pt, fun _ => (pw_and ta.2.1 (pw_and1 tb.2.1)).can (rt_and rt_tO rt_tO)⟩
      · have tb := sE b hx hb
        exact ⟨(pe_and ta.1 tb.1).can (re_and re_tO re_tO), ((pw_and ta.2.1 (tb.2.2 rfl)).can (rt_and rt_tO rt_tO)).pt, fun _ => (pw_and ta.2.1 (tb.2.2 rfl)).can (rt_and rt_tO rt_tO)⟩
    · cases h
  | .or a b, c, W, X, x, hx, h => by
    unfold okE at h
    split at h
    · rw [Bool.and_eq_true] at h
      obtain ⟨ha, hb⟩ := h
      have ta := sE a hx ha
      split at hb
      · have tb := sE b hx hb
        exact ⟨(pe_or ta.1 (pe_one tb.1)).can (re_or re_tO re_tO), ((pw_or ta.2.1 (pw_or1 tb.2.1)).can (rt_or rt_tO rt_tO)).pt, fun _ => (pw_or ta.2.1 (pw_or1 tb.2.1)).can (rt_or rt_tO rt_tO)⟩
      · have tb := sE b hx hb
        exact ⟨(pe_or ta.1 tb.1).can (re_or re_tO re_tO), ((pw_or ta.2.1 (tb.2.2 rfl)).can (rt_or rt_tO rt_tO)).pt, fun _ => (pw_or ta.2.1 (tb.2.2 rfl)).can (rt_or rt_tO rt_tO)⟩
    · cases h
  | .ite a b d, c, W, X, x, hx, h => by
    unfold okE at h
    split at h
    · simp only [Bool.and_eq_true] at h
      obtain ⟨⟨ha, hb⟩, hd⟩ := h
      have ta := sE a hx ha
      have tb := sE b hx hb
      have td := sE d hx hd
      exact ⟨(pe_ifExp ta.2.1 tb.1 td.1).can (re_ite rt_tO re_tO re_tO), (pt_ite ta.2.1 tb.2.1 td.2.1).can (rt_ite rt_tO rt_tO rt_tO), fun h => by cases h⟩
    · cases h
  | .idx a i, c, W, X, x, hx, h => by
    unfold okE at h
    split at h
    · simp only [Bool.and_eq_true] at h
      obtain ⟨⟨hn, ha⟩, hi⟩ := h
      exact th_val ((pe_ix ix_seq (sE a hx ha).1 (sE i hx hi).1 (noSlice_ix hn)).can (re_op (f := fun S dx dy P => ixD S dx dy P) re_tO re_tO hr_ix)) (fun _ => rfl) rfl
    · cases h
  | .slc a lo hi, c, W, X, x, hx, h => by
    unfold okE at h
    split at h
    · simp only [Bool.and_eq_true] at h
      obtain ⟨⟨ha, hl⟩, hh⟩ := h
      exact th_val ((pe_slice (sl_tupA.or sl_list) (sE a hx ha).1 (sO lo hx hl) (sO hi hx hh)).can (re_slcG re_tO ro_tO ro_tO)) (fun _ => rfl) rfl
    · cases h
  | .stp a lo hi st, c, W, X, x, hx, h => by
    unfold okE at h
    split at h
    · simp only [Bool.and_eq_true] at h
      obtain ⟨⟨⟨ha, hl⟩, hh⟩, hs⟩ := h
      exact th_val ((pe_stp (sE a hx ha).1 (sO lo hx hl) (sO hi hx hh) (po_some (sE st hx hs).1)).can (re_stp re_tO ro_tO ro_tO re_tO)) (fun _ => rfl) rfl
    · cases h
  | .tup es, c, W, X, x, hx, h => by
    unfold okE at h
    split at h
    · exact th_val ((pe_tup (sEs es hx h)).can (re_tup ra_tO)) (fun _ => rfl) rfl
    · cases h
  | .frz l, c, W, X, x, hx, h => by
    unfold okE at h
    obtain ⟨h1, h2, h3⟩ := sL l hx h
    exact th_val (h1.can (re_frz rl_tO)) h2 h3
  | .own l, c, W, X, x, hx, h => by
    unfold okE at h
    obtain ⟨h1, h2, h3⟩ := sL l hx h
    exact th_val (h1.can (re_own rl_tO)) h2 h3
  | .call f es, c, W, X, x, hx, h => by
    unfold okE at h
    split at h
    · rename_i n p y xs pos
      simp only [Bool.and_eq_true] at h
      obtain ⟨⟨⟨hg, hp⟩, hs⟩, he⟩ := h
      obtain ⟨hg, hd⟩ := gloC_ok hx hg
      obtain ⟨kk, g, fd, ps, F, hr2, hm, hk, hb⟩ := hx.fn _ (pairC_ok hp)
      have hr := hr2.mono (show kk ≤ kk + 2 by omega)
      have hs' := hs
      unfold noStars at hs'
      rw [Bool.and_eq_true] at hs'
      exact th_val ((pe_callS F hr hg hm hk hb (passAt hx.tk) (sEs es hx he) hd (noStar_each hs'.1) (noStars_each hs'.2 _)).can (re_callS ra_tO)) (fun _ => rfl) rfl
    · rename_i n p pos
      simp only [Bool.and_eq_true] at h
      obtain ⟨⟨hg, hp⟩, he⟩ := h
      obtain ⟨hg, hd⟩ := gloC_ok hx hg
      obtain ⟨kk, g, fd, ps, F, hr2, hm, hk, hb⟩ := hx.fn _ (pairC_ok hp)
      have hr := hr2.mono (show kk ≤ kk + 2 by omega)
      cases es with
      | nil => exact th_val ((pe_callS0 F hr hg hm hk hb (passAt hx.tk) hd).can (re_callS ra_nil)) (fun _ => rfl) rfl
      | cons e r => unfold okEs at he; cases he
      | star e r => unfold okEs at he; cases he
    · cases h
  | .mkx k e, c, W, X, x, hx, h => by
    unfold okE at h
    split at h
    · rename_i n p y pos
      simp only [Bool.and_eq_true] at h
      obtain ⟨hg, hc, hs, he⟩ := h
      obtain ⟨hg, hd⟩ := gloC_ok hx hg
      obtain ⟨m, hm, em⟩ := xcC_ok hc
      have G := hx.xa.g m (List.mem_of_getElem? hm)
      have hmg := hx.xm m (List.mem_of_getElem? hm)
      have hL : L.Γ.xc[k]? = some m := by rw [hx.xg]; exact hm
      subst em
      cases hsup : xsup m with
      | none =>
        exact th_val ((pe_exc1 PySem.F.excBase_ValueError (G.q hsup) hmg G.kp hg (sE e hx he).1 (noStar_each hs) hd).can (re_mk0 hL hsup re_tO)) (fun _ => rfl) rfl
      | some p =>
        obtain ⟨SG, _, _⟩ := G.sp p hsup
        exact th_val ((pe_mkV (k := 0) SG hx.rm (bl_of hx (by decide +kernel)) hg hmg (pa_cons (sE e hx he).1 pa_nil (noStar_each hs)) hd (noStar_each hs)).can (re_mkV hL hsup re_tO)) (fun _ => rfl) rfl
    · cases h
  | .isX own t e, c, W, X, x, hx, h => by
    unfold okE at h
    split at h
    · rename_i n p1 y m pm p2
      simp only [Bool.and_eq_true, decide_eq_true_eq] at h
      obtain ⟨hn, hg, hs, he, hgm, hm, hq, hser, ho⟩ := h
      subst hn hm
      obtain ⟨hg, hd⟩ := gloC_ok hx hg
      obtain ⟨hgm, hdm⟩ := gloC_ok hx hgm
      have hxv : ∀ n, L.Γ.xc.contains n = true → XvG X.K n := fun n hn => hx.xa.xv hser n (by rw [← hx.xg]; exact hn)
      cases own with
      | true =>
        have hmg := hx.xm t (by simpa using ho)
        have pa := pa_cons (sE e hx he).1 (pa_cons (pe_glob (pos := pm) (u := .ref (He.ga X.K t)) (v := .ref (He.ga X.K t)) hgm hmg rfl hdm) pa_nil) (noStar_each hs)
        exact th_val ((pe_callB call_isX hg (bl_of hx (by decide +kernel)) boot_isinstance pa (by decide) hd (noStar_each hs) rfl).can (re_isX (own := true) (tn := t) (fun w hw => hw) hxv re_tO)) (fun _ => rfl) rfl
      | false =>
        have ho : t ∈ xbts := by simpa using ho
        have hb : ∀ u ∈ xbts, (u : Str) ∈ blts ∧ bootBuiltins (u : Str) = some (.type u) ∧ (u : Str) ≠ "__name__" := by decide +kernel
        have pt : PE X (.Name (t : Str) pm) (tC (.ty t)) := pe_bltn hgm (bl_of hx (hb t ho).1) (u := .type t) (v := .ty t) (hb t ho).2.1 rfl (hb t ho).2.2 hdm
        have pa := pa_cons (sE e hx he).1 (pa_cons pt pa_nil) (noStar_each hs)
        exact th_val ((pe_callB call_isX hg (bl_of hx (by decide +kernel)) boot_isinstance pa (by decide) hd (noStar_each hs) rfl).can (re_isX (own := false) (tn := t) (fun w hw => hw) hxv re_tO)) (fun _ => rfl) rfl
    · cases h
  | .xfl f e, c, W, X, x, hx, h => by
    unfold okE at h
    split at h
    · simp only [Bool.and_eq_true, decide_eq_true_eq] at h
      obtain ⟨hn, hb, hser, he⟩ := h
      subst hn
      exact th_val ((pe_xfl (sE e hx he).1 (noBase_ok hb _ _ _)).can (re_xfl (fun n p hc hp => ((hx.xa.g n (by rw [← hx.xg]; simpa using hc)).sp p hp).2) re_tO)) (fun _ => rfl) rfl
    · cases h
  | .isB n e, c, W, X, x, hx, h => by
    unfold okE at h
    split at h
    · rename_i f p1 y m p p2
      simp only [Bool.and_eq_true, decide_eq_true_eq] at h
      obtain ⟨⟨⟨⟨hn, hg⟩, hs⟩, he⟩, hc⟩ := h
      subst hn
      obtain ⟨hg, hd⟩ := gloC_ok hx hg
      have pa := pa_cons (sE e hx he).1 (pa_cons (ty_pe hx hc) pa_nil) (noStar_each hs)
      exact th_val ((pe_callB call_isB hg (bl_of hx (by decide +kernel)) boot_isinstance pa (by decide) hd (noStar_each hs) rfl).can (re_isB hx.ca re_tO)) (fun _ => rfl) rfl
    · cases h
  | .fnv f z, c, W, X, x, hx, h => by
    unfold okE at h
    split at h
    · rename_i n p
      simp only [Bool.and_eq_true, decide_eq_true_eq] at h
      obtain ⟨⟨hg, rfl⟩, hp⟩ := h
      obtain ⟨hg, hd⟩ := gloC_ok hx hg
      exact th_val ((pe_glob hg (hx.fa _ (pairC_ok hp)) (v := .ref _) rfl hd).can (re_c fun _ _ => .fn)) (fun _ => rfl) rfl
    · cases h
  | .callV i fs es, c, W, X, x, hx, h => by
    unfold okE at h
    split at h
    · rename_i n p y xs pos
      simp only [Bool.and_eq_true] at h
      obtain ⟨⟨⟨hv, hp⟩, hs⟩, he⟩ := h
      unfold varC dbg at hv
      simp only [Bool.and_eq_true, decide_eq_true_eq, Bool.not_eq_true'] at hv
      have hs' := hs
      unfold noStars at hs'
      rw [Bool.and_eq_true] at hs'
      have hf : ∀ q ∈ fs, ∃ (k : Nat) (fd : FuncData) (ps : List Str), FnOk X.prog X.w X.K X.mg X.base (L2.CX X.prog X.w) k (He.ga X.K q.1) fd ps (spOf L X.K (L.Γ.fn q.2)) ∧ Room k X.A ∧ PySem.W.keepIn X.K (.ref (He.ga X.K q.1)) = true ∧ Binds X.K fd ps [] := fun q hq => by
        have hq := pairC_ok (List.all_eq_true.mp hp q hq)
        obtain ⟨kk, g, fd, ps, F, hr2, hm, hk, hb⟩ := hx.fn _ hq
        have e := hm.symm.trans (hx.fa _ hq)
        cases e
        exact ⟨kk, fd, ps, F, hr2.mono (show kk ≤ kk + 2 by omega), hk, hb⟩
      exact th_val ((pe_callV (cs := fs) (ad := fun q => He.ga X.K q.1) (sp := fun q => spOf L X.K (L.Γ.fn q.2)) hf (by rw [hx.N]; exact hv.1.1.1) (visC_ok hx hv.1.1.2) (passAt hx.tk) hv.2 (sEs es hx he) hv.1.2 (noStar_each hs'.1) (noStars_each hs'.2 _)).can
        (re_callV (fn := fun q => q.2) ra_tO fun x f e => ⟨(x, f), lookup_mem e, rfl, rfl⟩)) (fun _ => rfl) rfl
    · cases h
  | .bi b es, c, W, X, x, hx, h => by
    unfold okE at h
    split at h
    · rename_i n p y xs pos
      simp only [Bool.and_eq_true, decide_eq_true_eq] at h
      obtain ⟨⟨⟨⟨hn, hg⟩, hs⟩, he⟩, hgd⟩ := h
      obtain ⟨hg, hd⟩ := gloC_ok hx hg
      have hs' := hs
      unfold noStars at hs'
      rw [Bool.and_eq_true] at hs'
      have hm : X.mg n = none := bl_of hx (by rw [hn]; cases b <;> decide +kernel)
      have hnn : n ≠ ("__name__" : Str) := by rw [hn]; cases b <;> decide +kernel
      obtain ⟨r, hc, hb⟩ := bi_ok (X := X) b hx.calm fun e => ⟨hx.gd (by subst e; exact hgd), by have := hx.rm.un; omega⟩
      have hv : bootBuiltins n = some (biVal b) := by rw [hn]; exact bi_boot b
      have pa := sEs es hx he
      have pe : PE X (.Call (.Name n p) (y :: xs) [] pos) (tCB r (tOA L X.K W (wpEs L.Γ es))) := by
        cases hb2 : biVal b with
        | builtin id =>
          rw [hb2] at hc hv
          exact pe_callB hc hg hm hv pa hnn hd (noStar_each hs'.1) (noStars_each hs'.2 _)
        | type T =>
          rw [hb2] at hc hv
          exact pe_callTy hc hg hm hv pa hnn hd (noStar_each hs'.1) (noStars_each hs'.2 _)
        | _ => cases b <;> cases hb2
      exact th_val (pe.can (re_bi ra_tO hb)) (fun _ => rfl) rfl
    · cases h
  | .app o e, c, W, X, x, hx, h => by
    unfold okE at h
    split at h
    · rename_i x m ap y p
      simp only [Bool.and_eq_true, decide_eq_true_eq] at h
      obtain ⟨⟨⟨⟨⟨hm, hl⟩, hc⟩, hn⟩, ho⟩, he⟩ := h
      subst hm
      have pa : PA X [y] (tCons (tO L X.K W (wpE L.Γ e)) tNil) := pa_cons (sE e hx he).1 pa_nil (noStar_each hn)
      refine th_val ((pe_bm PySem.F.plainAttrs_list PySem.F.slot_list_append PySem.F.type_list_append mt_append (sE o hx ho).1 pa (noCall_base hc _ _ _) ?_ hl (noStar_each hn) rfl).can (re_app re_tO re_tO)) (fun _ => rfl) rfl
      rw [noStar_each hn]
      rfl
    · cases h
  | .fld cn i e, c, W, X, x, hx, h => by
    unfold okE at h
    split at h
    · simp only [Bool.and_eq_true] at h
      obtain ⟨⟨hb, hs⟩, he⟩ := h
      obtain ⟨sl, G, hi, hn⟩ := slC_g hx hs
      exact th_val ((SlX.pe_sl (sE e hx he).1 (noBase_ok hb _ _ _)).can (re_fld G hi hn re_tO)) (fun _ => rfl) rfl
    · cases h
  | .isC cn e, c, W, X, x, hx, h => by
    unfold okE at h
    split at h
    · rename_i n p1 y m pm p2
      simp only [Bool.and_eq_true, decide_eq_true_eq] at h
      obtain ⟨⟨⟨⟨⟨⟨hn, hg⟩, hs⟩, he⟩, hm⟩, hgm⟩, hc⟩ := h
      subst hn hm
      obtain ⟨hg, hd⟩ := gloC_ok hx hg
      obtain ⟨hgm, hdm⟩ := gloC_ok hx hgm
      have pa := pa_cons (sE e hx he).1 (pa_cons (pe_glob (pos := pm) (u := .ref (He.ga X.K cn)) (v := .ref (He.ga X.K cn)) hgm (hasC_mg hx hc) rfl hdm) pa_nil) (noStar_each hs)
      exact th_val ((pe_callB call_isC hg (bl_of hx (by decide +kernel)) boot_isinstance pa (by decide) hd (noStar_each hs) rfl).can (re_isC hx.ca (hasC_has hx hc) re_tO)) (fun _ => rfl) rfl
    · cases h
  | .meth f cn o es, c, W, X, x, hx, h => by
    unfold okE at h
    split at h
    · rename_i y m ap xs p
      simp only [Bool.and_eq_true] at h
      obtain ⟨⟨⟨⟨⟨⟨⟨hm, hc⟩, hl⟩, hb⟩, ho⟩, hs⟩, h30⟩, he⟩ := h
      obtain ⟨kk, g, fd, ps, F, hr, M, hB⟩ := hx.mt _ (mtC_ok hm)
      obtain ⟨sl, G⟩ := hasC_g hx hc
      have hr1 := hr.mono (show kk ≤ kk + 2 by omega)
      cases xs with
      | nil =>
        have en : es = .nil := by cases es <;> first | rfl | (unfold okEs at he; cases he)
        subst en
        exact th_val ((pe_methC0 (sE o hx ho).1 G.sc M F hr1 hB (passAt hx.tk) (noBase_ok hb _ _ _) hl).can (re_meth re_tO ra_nil)) (fun _ => rfl) rfl
      | cons z zs =>
        have hs' := hs
        unfold noStars at hs'
        rw [Bool.and_eq_true] at hs'
        exact th_val ((pe_methC (sE o hx ho).1 G.sc M F hr1 hB (passAt hx.tk) (sEs es hx he) (noBase_ok hb _ _ _) hl (Nat.le_of_ble_eq_true h30) (noStar_each hs'.1) (noStars_each hs'.2 _)).can (re_meth re_tO ra_tO)) (fun _ => rfl) rfl
    · cases h
  | .prop f cn o, c, W, X, x, hx, h => by
    unfold okE at h
    split at h
    · rename_i y m p
      simp only [Bool.and_eq_true] at h
      obtain ⟨⟨⟨hm, hc⟩, hb⟩, ho⟩ := h
      obtain ⟨kk, pp, g, fd, ps, F, hr, M, hB⟩ := hx.pr _ (mtC_ok hm)
      obtain ⟨sl, G⟩ := hasC_g hx hc
      have hr1 := hr.mono (show kk + 1 ≤ kk + 2 by omega)
      exact th_val ((SlX.pe_propSl (sE o hx ho).1 G.sc M.at_ M.get M.tak M.rec_ (fnR_of F hB) hr1 (fun _ _ _ _ ⟨_, _, _, _, _, _, _, _, _, _, _, _, z⟩ => z.elim) (noBase_ok hb _ _ _)).can (re_prop re_tO)) (fun _ => rfl) rfl
    · cases h
  | .new f cn n es, c, W, X, x, hx, h => by
    unfold okE at h
    split at h
    · rename_i m p y xs pos
      simp only [Bool.and_eq_true, decide_eq_true_eq] at h
      obtain ⟨⟨⟨⟨⟨hm, hg⟩, hw⟩, hc⟩, hs⟩, he⟩ := h
      subst hm
      obtain ⟨hg, hd⟩ := gloC_ok hx hg
      obtain ⟨kk, g, fd, ps, F, hr, M, hB⟩ := hx.nw _ (mtC_ok hw)
      have hr1 := hr.mono (show kk + 1 ≤ kk + 2 by omega)
      have hs' := hs
      unfold noStars at hs'
      rw [Bool.and_eq_true] at hs'
      exact th_val ((pe_new M F hr1 hB (passAt hx.tk) hg (hasC_mg hx hc) (sEs es hx he) hd (noStar_each hs'.1) (noStars_each hs'.2 _)).can (re_new ra_tO)) (fun _ => rfl) rfl
    · cases h
  | .cmpO op f cn a b, c, W, X, x, hx, h => by
    unfold okE at h
    split at h
    · simp only [Bool.and_eq_true, decide_eq_true_eq, Bool.or_eq_true] at h
      obtain ⟨⟨⟨⟨⟨e, hm⟩, hc⟩, hn⟩, ha⟩, hb⟩ := h
      subst e
      obtain ⟨sl, G⟩ := hasC_g hx hc
      have key : ∀ (m : Str) (kk : Nat) (g : Addr) (fd : FuncData) (ps : List Str), FnOk X.prog X.w X.K X.mg X.base (L2.CX X.prog X.w) kk g fd ps (spOf L X.K (L.Γ.fn f)) → Room (kk + 2) X.A → Meth X.K (He.ga X.K cn) m g → Binds X.K fd ps [] →
          (∀ a b, compareOp (cop op) a b = richCompare (cop op) a b) → (cmpInfo (cop op)).2.1 = m → OpR X (compareOp (cop op)) (SlX.rOwn X.K (He.ga X.K cn) (spOf L X.K (L.Γ.fn f)) E0) := fun m kk g fd ps F hr M hB hop e =>
        SlX.op_own hop (by rw [e]; exact M.at_) M.fn (fnR_of F hB) (hr.mono (by omega)) passE0
      have ho : OpR X (compareOp (cop op)) (SlX.rOwn X.K (He.ga X.K cn) (spOf L X.K (L.Γ.fn f)) E0) := by
        rcases hm with ⟨e, hm⟩ | ⟨e, hm⟩
        · subst e
          obtain ⟨kk, g, fd, ps, F, hr, M, hB⟩ := hx.mt _ (mtC_ok hm)
          exact key _ kk g fd ps F hr M hB (fun _ _ => rfl) rfl
        · subst e
          obtain ⟨kk, g, fd, ps, F, hr, M, hB⟩ := hx.mt _ (mtC_ok hm)
          exact key _ kk g fd ps F hr M hB (fun _ _ => rfl) rfl
      have re := re_cmpO (L := L) (W := W) (c := cn) (f := f) (re_tO (w := wpE L.Γ a)) (re_tO (w := wpE L.Γ b)) G.nf
      exact ⟨(pe_cmpR ho (sE a hx ha).1 (sE b hx hb).1 (noSet_marks hn _)).can re, (pt_cmpR ho (sE a hx ha).1 (sE b hx hb).1 (noSet_marks hn _)).can re.tB, fun h => by cases h⟩
    · cases h
  | .neO f cn a b, c, W, X, x, hx, h => by
    unfold okE at h
    split at h
    · simp only [Bool.and_eq_true, decide_eq_true_eq] at h
      obtain ⟨⟨⟨⟨⟨e, hm⟩, hc⟩, hn⟩, ha⟩, hb⟩ := h
      subst e
      obtain ⟨sl, G, hne⟩ := neC_g hx hc
      obtain ⟨kk, g, fd, ps, F, hr, M, hB⟩ := hx.mt _ (mtC_ok hm)
      have ho : OpR X (compareOp (cop .ne)) (rOwnNe X.K (He.ga X.K cn) (spOf L X.K (L.Γ.fn f)) E0) := op_ownNe (G.ne hne) M.at_ M.fn G.si.cm (fnR_of F hB) (hr.mono (by omega)) passE0
      have re := re_neO (L := L) (W := W) (c := cn) (f := f) (re_tO (w := wpE L.Γ a)) (re_tO (w := wpE L.Γ b)) G.nf
      exact ⟨(pe_cmpR ho (sE a hx ha).1 (sE b hx hb).1 (noSet_marks hn _)).can re, (pt_cmpR ho (sE a hx ha).1 (sE b hx hb).1 (noSet_marks hn _)).can re.tB, fun h => by cases h⟩
    · cases h
  | .cmpOD op f cn a b, c, W, X, x, hx, h => by
    unfold okE at h
    split at h
    · simp only [Bool.and_eq_true, decide_eq_true_eq, Bool.or_eq_true] at h
      obtain ⟨⟨⟨⟨⟨e, hm⟩, hc⟩, hn⟩, ha⟩, hb⟩ := h
      subst e
      obtain ⟨sl, G⟩ := hasC_g hx hc
      have key : ∀ (m : Str) (kk : Nat) (g : Addr) (fd : FuncData) (ps : List Str), FnOk X.prog X.w X.K X.mg X.base (L2.CX X.prog X.w) kk g fd ps (spOf L X.K (L.Γ.fn f)) → Room (kk + 2) X.A → Meth X.K (He.ga X.K cn) m g → Binds X.K fd ps [] →
          (∀ a b, compareOp (cop op) a b = richCompare (cop op) a b) → (cmpInfo (cop op)).2.1 = m → OpR X (compareOp (cop op)) (fun x y H Q => SlX.rOwn X.K (He.ga X.K cn) (spOf L X.K (L.Γ.fn f)) E0 x y H Q ∨ rOwnT X.K (He.ga X.K cn) (spOf L X.K (L.Γ.fn f)) E0 x y H Q) := fun m kk g fd ps F hr M hB hop e =>
        (SlX.op_own hop (by rw [e]; exact M.at_) M.fn (fnR_of F hB) (hr.mono (by omega)) passE0).or (op_ownT hop (by rw [e]; exact M.at_) M.fn (fnR_of F hB) (hr.mono (by omega)) passE0)
      have ho : OpR X (compareOp (cop op)) (fun x y H Q => SlX.rOwn X.K (He.ga X.K cn) (spOf L X.K (L.Γ.fn f)) E0 x y H Q ∨ rOwnT X.K (He.ga X.K cn) (spOf L X.K (L.Γ.fn f)) E0 x y H Q) := by
        rcases hm with ⟨e, hm⟩ | ⟨e, hm⟩
        · subst e
          obtain ⟨kk, g, fd, ps, F, hr, M, hB⟩ := hx.mt _ (mtC_ok hm)
          exact key _ kk g fd ps F hr M hB (fun _ _ => rfl) rfl
        · subst e
          obtain ⟨kk, g, fd, ps, F, hr, M, hB⟩ := hx.mt _ (mtC_ok hm)
          exact key _ kk g fd ps F hr M hB (fun _ _ => rfl) rfl
      obtain ⟨r3, ho3, hr3⟩ := cmp_ok (X := X) op (by have := hx.un; omega)
      have ho := ho.or ho3
      have re := re_cmpOD (L := L) (W := W) (c := cn) (f := f) hr3 hx.ca (hasC_has hx hc) (re_tO (w := wpE L.Γ a)) (re_tO (w := wpE L.Γ b)) G.nf
      exact ⟨(pe_cmpR ho (sE a hx ha).1 (sE b hx hb).1 (noSet_marks hn _)).can re, (pt_cmpR ho (sE a hx ha).1 (sE b hx hb).1 (noSet_marks hn _)).can re.tB, fun h => by cases h⟩
    · cases h
  | .lenO f cn o, c, W, X, x, hx, h => by
    unfold okE at h
    split at h
    · simp only [Bool.and_eq_true, decide_eq_true_eq] at h
      obtain ⟨⟨⟨⟨⟨hn, hg⟩, hm⟩, hc⟩, hs⟩, ho⟩ := h
      subst hn
      obtain ⟨hg, hd⟩ := gloC_ok hx hg
      obtain ⟨kk, g, fd, ps, F, hr, M, hB⟩ := hx.mt _ (mtC_ok hm)
      exact th_val ((pe_callB (call_lenO M (fnR_of F hB) (hr.mono (by omega)) passE0) hg (bl_of hx (by decide +kernel)) (bi_boot .len) (pa_cons (sE o hx ho).1 pa_nil (noStar_each hs)) (by decide) hd (noStar_each hs) rfl).can (re_lenO re_tO)) (fun _ => rfl) rfl
    · cases h
  | .strO f cn o, c, W, X, x, hx, h => by
    unfold okE at h
    split at h
    · simp only [Bool.and_eq_true, decide_eq_true_eq] at h
      obtain ⟨⟨⟨⟨⟨hn, hg⟩, hm⟩, hc⟩, hs⟩, ho⟩ := h
      subst hn
      obtain ⟨hg, hd⟩ := gloC_ok hx hg
      obtain ⟨kk, g, fd, ps, F, hr, M, hB⟩ := hx.mt _ (mtC_ok hm)
      exact th_val ((pe_callTy (call_strO hx.un M (fnR_of F hB) hr passE0) hg (bl_of hx (by decide +kernel)) (bi_boot .str) (pa_cons (sE o hx ho).1 pa_nil (noStar_each hs)) (by decide) hd (noStar_each hs) rfl).can (re_strO re_tO)) (fun _ => rfl) rfl
    · cases h
  | .fst es, c, W, X, x, hx, h => by
    unfold okE at h
    split at h
    · obtain ⟨ts, h1, h2⟩ := sFs es hx h
      exact th_val ((pe_joined h1).can (re_fst h2)) (fun _ => rfl) rfl
    · cases h
  | .dct, c, W, X, x, hx, h => by
    unfold okE at h
    split at h
    · exact th_val (pe_dnewK.can re_dct) (fun _ => rfl) rfl
    · cases h
  | .met j nm e, c, W, X, x, hx, h => by
    unfold okE at h
    split at h
    · rename_i n p params body scope lpos pos
      simp only [Bool.and_eq_true, decide_eq_true_eq] at h
      obtain ⟨hg, hp, hnm, hown, hl, hgd, hls, he⟩ := h
      obtain ⟨hg, hd⟩ := gloC_ok hx hg
      have LS : LamX.LamS X.env.scope scope := LamX.lamS_by (by rw [hx.sc]; exact hls)
      exact th_val (pe_met hx hg hd (pairC_ok hp) hnm hown hl (hx.gd hgd) LS fun W' X' hx' eK => by rw [← eK]; exact (sE e hx' he).1) (fun _ => rfl) rfl
    · cases h
  | .callG f es, c, W, X, x, hx, h => by
    unfold okE at h
    split at h
    · rename_i n p y xs pos
      simp only [Bool.and_eq_true] at h
      obtain ⟨⟨⟨⟨hg, hp⟩, hs⟩, he⟩, hgd⟩ := h
      obtain ⟨hg, hd⟩ := gloC_ok hx hg
      obtain ⟨kk, g, fd, ps, F, hr, hm, hk, hb⟩ := hx.gn _ (pairC_ok hp)
      have hs' := hs
      unfold noStars at hs'
      rw [Bool.and_eq_true] at hs'
      exact th_val ((pe_callG F hr (hx.gd hgd) hg hm hk hb (passAt hx.tk) (sEs es hx he) hd (noStar_each hs'.1) (noStars_each hs'.2 _)).can (re_callS ra_tO)) (fun _ => rfl) rfl
    · cases h
theorem sFs : ∀ (es : Exs) {c : Ck} {W : WX} {X : Cx} {xs : List Expr}, XC c L W X → okFs es c xs = true → ∃ ts, PJ X xs ts ∧ RJ L X.K W ts (wpFs L.Γ es)
  | .nil, c, W, X, xs, hx, h => by
    unfold okFs at h
    split at h
    · exact ⟨[], .nil, rj_nil⟩
    · cases h
  | .cons e r, c, W, X, xs, hx, h => by
    unfold okFs at h
    split at h
    · simp only [Bool.and_eq_true, decide_eq_true_eq] at h
      obtain ⟨⟨hk, he⟩, hr⟩ := h
      subst hk
      obtain ⟨ts, h1, h2⟩ := sFs r hx hr
      exact ⟨_, .cons (pe_fmt (sE e hx he).1) h1, rj_fmt re_tO h2⟩
    · simp only [Bool.and_eq_true] at h
      obtain ⟨hc, hr⟩ := h
      have := isCS_ok hc
      subst this
      obtain ⟨ts, h1, h2⟩ := sFs r hx hr
      exact ⟨_, .cons pe_str h1, rj_str (wo := fun _ S _ Q => Q (.str _) S) (re_c fun _ _ => .str _) h2⟩
    · cases h
  | .star _ _, c, W, X, xs, hx, h => by cases h
theorem sEs : ∀ (es : Exs) {c : Ck} {W : WX} {X : Cx} {xs : List Expr}, XC c L W X → okEs es c xs = true → PA X xs (tOA L X.K W (wpEs L.Γ es))
  | .nil, c, W, X, xs, hx, h => by
    unfold okEs at h
    split at h
    · exact pa_nil.can ra_nil
    · cases h
  | .cons e r, c, W, X, xs, hx, h => by
    unfold okEs at h
    split at h
    · simp only [Bool.and_eq_true] at h
      obtain ⟨⟨hn, he⟩, hr⟩ := h
      exact (pa_cons (sE e hx he).1 (sEs r hx hr) (noStar_each hn)).can (ra_cons re_tO ra_tO)
    · cases h
  | .star e r, c, W, X, xs, hx, h => by
    unfold okEs at h
    split at h
    · simp only [Bool.and_eq_true] at h
      exact (StX.pa_star (sE e hx h.1).1 (sEs r hx h.2)).can (ra_star re_tO ra_tO)
    · cases h
theorem sO : ∀ (o : Ox) {c : Ck} {W : WX} {X : Cx} {x : Option Expr}, XC c L W X → okO o c x = true → PO X x (tOO L X.K W (wpO L.Γ o))
  | .no, c, W, X, x, hx, h => by
    unfold okO at h
    split at h
    · exact po_none.can ro_no
    · cases h
  | .so e, c, W, X, x, hx, h => by
    unfold okO at h
    split at h
    · exact (po_some (sE e hx h).1).can (ro_so re_tO)
    · cases h
theorem sL : ∀ (l : Lx) {c : Ck} {W : WX} {X : Cx} {x : Expr}, XC c L W X → okL l c x = true → PE X x (tOL L X.K W (wpL L.Γ l)) ∧ (∀ whole, isTrue x X.env whole = (do let v ← whole; standAt x.pos; holding [v] (truthy v))) ∧ isBO x = false
  | .disp es, c, W, X, x, hx, h => by
    unfold okL at h
    split at h
    · exact ⟨(pe_lst (sEs es hx h)).canL (rl_disp ra_tO), fun _ => rfl, rfl⟩
    · cases h
  | .comp own tg it ts el, c, W, X, x, hx, h => by
    unfold okL at h
    split at h
    · rename_i elt tx iter ifs a scope pos
      simp only [Bool.and_eq_true, decide_eq_true_eq] at h
      obtain ⟨⟨⟨⟨⟨⟨⟨ha, hb⟩, hv⟩, hn⟩, hi⟩, hg⟩, ht⟩, he⟩ := h
      subst ha
      have hB : BlkOk X.N X.env.scope scope (ownP c own) := by rw [hx.N, hx.sc]; exact blkOk_by hb
      have p := pe_lc (pos := pos) (elt := elt) (g := tOGt L X.K (fun _ _ _ _ => False) (tgV tg) (wpG L.Γ tg)) (tt := tOTs L X.K (fun _ _ _ _ => False) (wpTs L.Γ ts)) (te := tO L X.K (fun _ _ _ _ => False) (wpE L.Γ el)) hx.calm (by rw [hx.N]; exact hx.nd) (sI it hx hi) hB (fun s H C cl fp => sG tg (hx.blk s H scope cl C fp) hg) (fun s H C cl fp => sTs ts (hx.blk s H scope cl C fp) ht) (fun s H C cl fp => (sE el (hx.blk s H scope cl C fp) he).1) (noSet_fold hn _)
      rw [ownP_snd] at p
      exact ⟨p.canL (rl_comp ri_tO rg_tO rts_tO re_tO (subV_ok hv)), fun _ => rfl, rfl⟩
    · cases h
  | .comp2 own own2 tg it ts tg2 it2 ts2 el, c, W, X, x, hx, h => by
    unfold okL at h
    split at h
    · rename_i elt tx iter ifs a tx2 iter2 ifs2 a2 scope pos
      simp only [Bool.and_eq_true, decide_eq_true_eq] at h
      obtain ⟨⟨⟨⟨⟨⟨⟨⟨⟨⟨⟨⟨⟨⟨ha, ha2⟩, hb⟩, hv⟩, hv1⟩, hv2⟩, hn⟩, hn2⟩, hi⟩, hg⟩, ht⟩, hi2⟩, hg2⟩, ht2⟩, he⟩ := h
      subst ha ha2
      have hB : BlkOk X.N X.env.scope scope (ownP c own) := by rw [hx.N, hx.sc]; exact blkOk_by hb
      have p := pe_lc2 (pos := pos) (elt := elt) (vs1 := own2) (g := tOGt L X.K (fun _ _ _ _ => False) (tgV tg) (wpG L.Γ tg)) (tt := tOTs L X.K (fun _ _ _ _ => False) (wpTs L.Γ ts)) (te := tO L X.K (fun _ _ _ _ => False) (wpE L.Γ el))
        (wi1 := tOI L X.K (fun _ _ _ _ => False) (wpI L.Γ it2)) (g1 := tOGt L X.K (fun _ _ _ _ => False) (tgV tg2) (wpG L.Γ tg2)) (tt1 := tOTs L X.K (fun _ _ _ _ => False) (wpTs L.Γ ts2)) hx.calm (by rw [hx.N]; exact hx.nd) (sI it hx hi) hB (by rw [ownP_snd]; exact subV_ok hv1)
        (fun s H C cl fp => sG tg (hx.blk s H scope cl C fp) hg) (fun s H C cl fp => sTs ts (hx.blk s H scope cl C fp) ht)
        (fun s H C cl fp => sI it2 (hx.blk s H scope cl C fp) hi2) (fun s H C cl fp => sG tg2 (hx.blk s H scope cl C fp) hg2) (fun s H C cl fp => sTs ts2 (hx.blk s H scope cl C fp) ht2)
        (fun s H C cl fp => (sE el (hx.blk s H scope cl C fp) he).1) (noSet_fold hn _) (fun env => noSet_fold hn2 env)
      rw [ownP_snd] at p
      exact ⟨p.canL (rl_comp2 ri_tO rg_tO rts_tO ri_tO rg_tO rts_tO re_tO (subV_ok hv) (subV_ok hv2)), fun _ => rfl, rfl⟩
    · cases h
  | .rep a n, c, W, X, x, hx, h => by
    unfold okL at h
    split at h
    · simp only [Bool.and_eq_true] at h
      exact ⟨(pe_op op_rep (sE a hx h.1).1 (sE n hx h.2).1).canL (rl_rep re_tO re_tO), fun _ => rfl, rfl⟩
    · cases h
  | .cat a b, c, W, X, x, hx, h => by
    unfold okL at h
    split at h
    · simp only [Bool.and_eq_true] at h
      exact ⟨(pe_op op_cat (sE a hx h.1).1 (sE b hx h.2).1).canL (rl_cat re_tO re_tO), fun _ => rfl, rfl⟩
    · cases h
  | .ofSeq a, c, W, X, x, hx, h => by
    unfold okL at h
    split at h
    · simp only [Bool.and_eq_true, decide_eq_true_eq] at h
      obtain ⟨⟨⟨hn, hg⟩, hs⟩, ha⟩ := h
      subst hn
      obtain ⟨hg, hd⟩ := gloC_ok hx hg
      exact ⟨(pe_callTy call_list_of hg (bl_of hx (by decide +kernel)) boot_list (pa_cons (sE a hx ha).1 pa_nil (noStar_each hs)) (by decide) hd (noStar_each hs) rfl).canL (rl_ofSeq re_tO), fun _ => rfl, rfl⟩
    · cases h
  | .slc a lo hi, c, W, X, x, hx, h => by
    unfold okL at h
    split at h
    · simp only [Bool.and_eq_true] at h
      obtain ⟨⟨ha, hl⟩, hh⟩ := h
      exact ⟨(pe_slice sl_list (sE a hx ha).1 (sO lo hx hl) (sO hi hx hh)).canL (rl_slc re_tO ro_tO ro_tO), fun _ => rfl, rfl⟩
    · cases h
  | .sorted a, c, W, X, x, hx, h => by
    unfold okL at h
    split at h
    · simp only [Bool.and_eq_true, decide_eq_true_eq] at h
      obtain ⟨⟨⟨hn, hg⟩, hs⟩, ha⟩ := h
      subst hn
      obtain ⟨hg, hd⟩ := gloC_ok hx hg
      exact ⟨(pe_callB (cr_sortI hx.un) hg (bl_of hx (by decide +kernel)) PyProof.Rows.boot_sorted (pa_cons (sE a hx ha).1 pa_nil (noStar_each hs)) (by decide) hd (noStar_each hs) rfl).canL (rl_sortI re_tO), fun _ => rfl, rfl⟩
    · cases h
  | .sortI a, c, W, X, x, hx, h => by
    unfold okL at h
    split at h
    · simp only [Bool.and_eq_true, decide_eq_true_eq] at h
      obtain ⟨⟨⟨hn, hg⟩, hs⟩, ha⟩ := h
      subst hn
      obtain ⟨hg, hd⟩ := gloC_ok hx hg
      exact ⟨(pe_callB cr_sortedI hg (bl_of hx (by decide +kernel)) PyProof.Rows.boot_sorted (pa_cons (sE a hx ha).1 pa_nil (noStar_each hs)) (by decide) hd (noStar_each hs) rfl).canL (rl_sortInts re_tO), fun _ => rfl, rfl⟩
    · cases h
  | .stpL a lo hi st, c, W, X, x, hx, h => by
    unfold okL at h
    split at h
    · simp only [Bool.and_eq_true] at h
      obtain ⟨⟨⟨ha, hl⟩, hh⟩, hs⟩ := h
      exact ⟨(pe_stpL (sE a hx ha).1 (sO lo hx hl) (sO hi hx hh) (po_some (sE st hx hs).1)).canL (rl_stpL re_tO ro_tO ro_tO re_tO), fun _ => rfl, rfl⟩
    · cases h
  | .sortSet a, c, W, X, x, hx, h => by
    unfold okL at h
    split at h
    · simp only [Bool.and_eq_true, decide_eq_true_eq] at h
      obtain ⟨⟨⟨⟨⟨hn, hg⟩, hm⟩, hgm⟩, hs⟩, ha⟩ := h
      subst hn hm
      obtain ⟨hg, hd⟩ := gloC_ok hx hg
      obtain ⟨hgm, hdm⟩ := gloC_ok hx hgm
      exact ⟨(pe_sortSet hx.calm hg (bl_of hx (by decide +kernel)) hgm (bl_of hx (by decide +kernel)) (sE a hx ha).1 (noStar_each hs)).canL (rl_sortSet re_tO), fun _ => rfl, rfl⟩
    · cases h
  | .sortK f a, c, W, X, x, hx, h => by
    unfold okL at h
    split at h
    · rename_i n p1 y kn m p2 p3 p4
      simp only [Bool.and_eq_true, decide_eq_true_eq] at h
      obtain ⟨⟨⟨⟨⟨⟨hn, hg⟩, hs⟩, ha⟩, hk⟩, hgm⟩, hp⟩ := h
      subst hn hk
      obtain ⟨hg, hd⟩ := gloC_ok hx hg
      obtain ⟨hgm, hdm⟩ := gloC_ok hx hgm
      obtain ⟨kk, g, fd, ps, F, hr, hm, _, hb⟩ := hx.fn _ (pairC_ok hp)
      have pk : PK X [⟨some ("key" : Str), .Name m p2, p3⟩] (tCons (fun _ H Q => Q (.ref g) H) tNil) := pk_cons (pe_glob (u := .ref g) (v := .ref g) hgm hm rfl hdm) pk_nil
      exact ⟨(pe_callBK (cr_sortK F hr hx.un hb) hg (bl_of hx (by decide +kernel)) (by decide +kernel) (pa_cons (sE a hx ha).1 pa_nil (noStar_each hs)) pk (by decide) hd (by rw [noStar_each hs]; rfl) (noStars_each (show noStars [y] = true by unfold noStars; rw [hs]; rfl) _)).canL (rl_sortK re_tO), fun _ => rfl, rfl⟩
    · cases h
theorem sI : ∀ (it : It) {c : Ck} {W : WX} {X : Cx} {t x : Expr}, XC c L W X → okI it c t x = true → PI X t x (tOI L X.K W (wpI L.Γ it))
  | .seq e, c, W, X, t, x, hx, h => by
    unfold okI at h
    exact (pi_seqG (sE e hx h).1).can (ri_seq re_tO)
  | .rng1 a, c, W, X, t, x, hx, h => by
    unfold okI at h
    split at h
    · simp only [Bool.and_eq_true, decide_eq_true_eq] at h
      obtain ⟨⟨⟨hn, hg⟩, hs⟩, ha⟩ := h
      subst hn
      obtain ⟨hg, hd⟩ := gloC_ok hx hg
      exact (pi_range1 hg (bl_of hx (by decide +kernel)) (pa_cons (sE a hx ha).1 pa_nil (noStar_each hs)) (noStar_each hs)).can (ri_rng1 re_tO)
    · cases h
  | .rng2 a b, c, W, X, t, x, hx, h => by
    unfold okI at h
    split at h
    · simp only [Bool.and_eq_true, decide_eq_true_eq] at h
      obtain ⟨⟨⟨⟨⟨hn, hg⟩, hs⟩, hs2⟩, ha⟩, hb⟩ := h
      subst hn
      obtain ⟨hg, hd⟩ := gloC_ok hx hg
      exact (pi_range2 hg (bl_of hx (by decide +kernel)) (pa_cons (sE a hx ha).1 (pa_cons (sE b hx hb).1 pa_nil (noStar_each hs2)) (noStar_each hs)) (by rw [noStar_each hs, noStar_each hs2]; rfl) (noStar_each hs2)).can (ri_rng2 re_tO re_tO)
    · cases h
  | .rng3 a b d, c, W, X, t, x, hx, h => by
    unfold okI at h
    split at h
    · simp only [Bool.and_eq_true, decide_eq_true_eq] at h
      obtain ⟨⟨⟨⟨⟨⟨⟨hn, hg⟩, hs⟩, hs2⟩, hs3⟩, ha⟩, hb⟩, hd'⟩ := h
      subst hn
      obtain ⟨hg, hd⟩ := gloC_ok hx hg
      exact (pi_range3 hg (bl_of hx (by decide +kernel)) (pa_cons (sE a hx ha).1 (pa_cons (sE b hx hb).1 (pa_cons (sE d hx hd').1 pa_nil (noStar_each hs3)) (noStar_each hs2)) (noStar_each hs)) (noStar_each hs) (by rw [noStar_each hs2, noStar_each hs3]; rfl)).can (ri_rng3 re_tO re_tO re_tO)
    · cases h
  | .enum e, c, W, X, t, x, hx, h => by
    unfold okI at h
    split at h
    · split at h
      · simp only [Bool.and_eq_true, decide_eq_true_eq] at h
        obtain ⟨⟨⟨hn, hg⟩, hs⟩, ha⟩ := h
        subst hn
        obtain ⟨hg, hd⟩ := gloC_ok hx hg
        exact (pi_enumG hg (bl_of hx (by decide +kernel)) (pa_cons (sE e hx ha).1 pa_nil (noStar_each hs)) (noStar_each hs)).can (ri_enum re_tO)
      · cases h
    · cases h
  | .zip a b, c, W, X, t, x, hx, h => by
    unfold okI at h
    split at h
    · split at h
      · simp only [Bool.and_eq_true, decide_eq_true_eq] at h
        obtain ⟨⟨⟨⟨⟨hn, hg⟩, hs⟩, hs2⟩, ha⟩, hb⟩ := h
        subst hn
        obtain ⟨hg, hd⟩ := gloC_ok hx hg
        exact (pi_zipG hg (bl_of hx (by decide +kernel)) (pa_cons (sE a hx ha).1 (pa_cons (sE b hx hb).1 pa_nil (noStar_each hs2)) (noStar_each hs)) (noStar_each hs) (by rw [noStar_each hs2]; rfl)).can (ri_zip re_tO re_tO)
      · cases h
    · cases h
theorem sG : ∀ (t : Tg) {c : Ck} {W : WX} {X : Cx} {x : Expr}, XC c L W X → okG t c x = true → PG X x (tOGt L X.K W (tgV t) (wpG L.Γ t))
  | .nm i, c, W, X, x, hx, h => by
    unfold okG at h
    split at h
    · simp only [Bool.and_eq_true, decide_eq_true_eq] at h
      exact (pg_name (by rw [hx.N]; exact hx.nd) (by rw [hx.N]; exact h.1) (locC_ok hx h.2) (hx.st _ h.2)).can rg_nm
    · cases h
  | .tp ts, c, W, X, x, hx, h => by
    unfold okG at h
    split at h
    · rename_i xs k pos
      obtain ⟨g, h1, h2⟩ := sGs ts hx h
      obtain ⟨l1, l2⟩ := okGs_len X.env h
      exact (pg_seq hx.calm h1 l1 (List.findIdx?_eq_none_iff.mpr fun p hp => l2 p hp)).can (rg_seq h2)
    · cases h
  | .sub o i, c, W, X, x, hx, h => by
    unfold okG at h
    split at h
    · simp only [Bool.and_eq_true] at h
      obtain ⟨⟨hn, ho⟩, hi⟩ := h
      refine (pg_sub (sE o hx ho).1 (sE i hx hi).1 set_list fun v => ?_).can (rg_sub re_tO re_tO)
      rename_i y _
      cases y <;> first | rfl | cases hn
    · cases h
  | .fld o cn i, c, W, X, x, hx, h => by
    unfold okG at h
    split at h
    · simp only [Bool.and_eq_true] at h
      obtain ⟨hs, ho⟩ := h
      obtain ⟨sl, G, hi, hn⟩ := slC_g hx hs
      exact (pg_fld (sE o hx ho).1).can (rg_fld G hi hn re_tO)
    · cases h
theorem sGs : ∀ (ts : Tgs) {c : Ck} {W : WX} {X : Cx} {xs : List Expr}, XC c L W X → okGs ts c xs = true → ∃ g, PGs X xs g ∧ RGs L X.K W (tgsV ts) g (wpGs L.Γ ts)
  | .nil, c, W, X, xs, hx, h => by
    unfold okGs at h
    split at h
    · exact ⟨_, pgs_nil, rgs_nil⟩
    · cases h
  | .cons t r, c, W, X, xs, hx, h => by
    unfold okGs at h
    split at h
    · simp only [Bool.and_eq_true] at h
      obtain ⟨⟨hn, ht⟩, hr⟩ := h
      obtain ⟨g', h3, h4⟩ := sGs r hx hr
      exact ⟨_, pgs_cons (sG t hx ht) h3 (by rw [noStar_assign hn]; rfl), rgs_cons rg_tO h4⟩
    · cases h
theorem sTs : ∀ (es : Exs) {c : Ck} {W : WX} {X : Cx} {xs : List Expr}, XC c L W X → okTs es c xs = true → PTs X xs (tOTs L X.K W (wpTs L.Γ es))
  | .nil, c, W, X, xs, hx, h => by
    unfold okTs at h
    split at h
    · exact pts_nil.can rts_nil
    · cases h
  | .cons e r, c, W, X, xs, hx, h => by
    unfold okTs at h
    split at h
    · split at h
      · exact (pts_one (sE e hx h).2.1).can (rts_one rt_tO)
      · cases h
    · cases h
  | .star e r, c, W, X, xs, hx, h => by cases h
end
end
end DL

/-! DL13: the check of statements, and why it is enough. -/
namespace DL
open PySem PySem.Spec PyProof.Rows L2
def env0 (sc : Scope) : PySem.Env := { scope := sc, locals := 0, globals := 0, cells := [] }
def isPure {α : Type} [DecidableEq α] (s : Sem α) (a : α) : Bool := match s with
  | .pure b => decide (b = a)
  | _ => false
theorem isPure_ok {α : Type} [DecidableEq α] {s : Sem α} {a : α} (h : isPure s a = true) : s = pure a := by
  unfold isPure at h
  split at h
  · have := of_decide_eq_true h; subst this; rfl
  · cases h
theorem swaps0 (v : Expr) (t : Option Expr) (l : Nat) (env : PySem.Env) : swapsWith v t l env = swapsWith v t l (env0 env.scope) := rfl
theorem stores0 (ts : List Expr) (v : Expr) (env : PySem.Env) : swappedStores ts v env = swappedStores ts v (env0 env.scope) := rfl
def isNm : Expr → Bool
  | .Name _ _ => true
  | _ => false
def okHs : List (Nat × D) → Ck → List ExceptHandler → Bool
  | [], _, hds => (match hds with
    | [] => true
    | _ => false)
  | p :: r, c, hds => (match hds with
    | .ExceptHandler (some (.Name x _)) none [.Return (some ex) _] _ :: hds => gloC c x && xcC c p.1 x && cst0 p.2 ex && okHs r c hds && !(c.xc.contains "SeriesError")
    | _ => false)
def lclC (c : Ck) (x : Str) : Bool := decide (c.sc.names.lookup x = some .local)
mutual
def okS : Sm → Ck → Stmt → Bool
  | .asg t e, c, st => match st with
    | .Assign [tx] ex pos =>
      (isPure (swapsWith ex (some tx) pos.line (env0 c.sc)) false && isPure (swappedStores [tx] ex (env0 c.sc)) none && noStar tx && okG t c tx && okE e c ex) ||
      (match t, tx, e with
      | .nm i, .Name n p, .frz l => isPure (swapsWith ex (some (.Name n p)) pos.line (env0 c.sc)) true && decide (c.N[i]? = some n) && lclC c n && okL l c ex
      | .nm i, .Name n p, .own l => isPure (swapsWith ex (some (.Name n p)) pos.line (env0 c.sc)) true && decide (c.N[i]? = some n) && lclC c n && okL l c ex
      | _, _, _ => false)
    | _ => false
  | .par is es, c, st => match st with
    | .Assign [.Tuple [.Name x px, .Name y py] kt pt] (.Tuple [a, b] k2 pt2) pos => (match is with
      | [i, j] => decide (c.N[i]? = some x) && decide (c.N[j]? = some y) && !(Nat.beq i j) && lclC c x && lclC c y && okEs es c [a, b] && isPure (swappedStores [.Tuple [.Name x px, .Name y py] kt pt] (.Tuple [a, b] k2 pt2) (env0 c.sc)) (some [x, y])
      | _ => false)
    | .Assign [.Tuple [.Name x px, .Name y py, .Name z pz] kt pt] (.Tuple [a, b, d] k2 pt2) pos => (match is with
      | [i, j, l] => decide (c.N[i]? = some x) && decide (c.N[j]? = some y) && decide (c.N[l]? = some z) && !(Nat.beq i j) && !(Nat.beq i l) && !(Nat.beq j l) && lclC c x && lclC c y && lclC c z && okEs es c [a, b, d] && isPure (swappedStores [.Tuple [.Name x px, .Name y py, .Name z pz] kt pt] (.Tuple [a, b, d] k2 pt2) (env0 c.sc)) (some [x, y, z])
      | _ => false)
    | _ => false
  | .aug i op e, c, st => match st with
    | .AugAssign (.Name n _) o ex _ => decide (c.N[i]? = some n) && locC c n && decide (o = bop op) && (decide (op = .add) || decide (op = .sub) || decide (op = .mul)) && okE e c ex
    | _ => false
  | .ex e, c, st => match st with
    | .Expr ex pos => isPure (swapsWith ex none pos.line (env0 c.sc)) false && okE e c ex
    | _ => false
  | .ret e, c, st => match st with
    | .Return (some ex) _ => okE e c ex
    | _ => false
  | .retF e, c, st => match st with
    | .Return (some ex) _ => okE e c ex
    | _ => false
  | .retN, c, st => match st with
    | .Return none _ => true
    | _ => false
  | .ife e a b, c, st => match st with
    | .If x xs ys _ => okE e c x && okB a c xs && okB b c ys
    | _ => false
  | .whl e b, c, st => match st with
    | .While x xs [] _ => okE e c x && okB b c xs
    | _ => false
  | .for tg it b, c, st => match st with
    | .For tx ix xs [] _ => noSet ix && okI it c tx ix && okG tg c tx && okB b c xs
    | _ => false
  | .raise _ _, c, st => true
  | .rse k, c, st => match st with
    | .Raise (some (.Call (.Name x _) [.Constant (.str _) _ _] [] _)) none _ => gloC c x && xcC c k x && !xsC c k
    | _ => false
  | .rsv k e, c, st => match st with
    | .Raise (some (.Call (.Name x _) [y] [] _)) none _ => gloC c x && (xcC c k x && (xsC c k && (noStar y && okE e c y)))
    | _ => false
  | .tryC b hs, c, st => match st with
    | .Try body (h :: hds) [] [] _ => okB b c body && okHs hs c (h :: hds)
    | _ => false
  | .pass, c, st => match st with
    | .Pass _ => true
    | _ => false
  | .brk, c, st => match st with
    | .Break _ => true
    | _ => false
  | .cont, c, st => match st with
    | .Continue _ => true
    | _ => false
def okB : Bl → Ck → List Stmt → Bool
  | .nil, c, xs => match xs with
    | [] => true
    | _ => false
  | .cons s r, c, xs => match xs with
    | x :: xs => okS s c x && okB r c xs
    | _ => false
end
section
variable {L : Lnk} {K : PySem.W.Frag} {W : WX}
theorem len2 {α : Type} {l : List α} (h : l.length = 2) : ∃ a b, l = [a, b] := by
  match l, h with
  | [a, b], _ => exact ⟨a, b, rfl⟩
theorem len3 {α : Type} {l : List α} (h : l.length = 3) : ∃ a b c, l = [a, b, c] := by
  match l, h with
  | [a, b, c], _ => exact ⟨a, b, c, rfl⟩
theorem rs_par2 {i j : Nat} {t : TA} {ws : Env → Sto → XD → (List D → Sto → Prop) → Prop} (h : RA L K W t ws) : RS L K W (tPar i j t) fun E X ρ S => ws ρ S (fun k d S => X k d ρ S) fun ds S1 => ds.length = [i, j].length ∧ E.nx (parV [i, j] ds ρ) S1 := fun σ H ρ S O X E D A hw k => by
  refine h.go A.ex hw fun vs H1 ds S1 O1 r1 A1 e1 ⟨hl, q⟩ => ?_
  obtain ⟨a, b, rfl⟩ := len2 hl
  obtain ⟨v, u, rfl, r, r2⟩ := rps2 r1
  exact ⟨v, u, rfl, k.nx _ H1 _ S1 O1 A1.sok e1 ((A1.env.set i r).set j r2) q⟩
theorem rs_par3 {i j l : Nat} {t : TA} {ws : Env → Sto → XD → (List D → Sto → Prop) → Prop} (h : RA L K W t ws) : RS L K W (tPar3 i j l t) fun E X ρ S => ws ρ S (fun k d S => X k d ρ S) fun ds S1 => ds.length = [i, j, l].length ∧ E.nx (parV [i, j, l] ds ρ) S1 := fun σ H ρ S O X E D A hw k => by
  refine h.go A.ex hw fun vs H1 ds S1 O1 r1 A1 e1 ⟨hl, q⟩ => ?_
  obtain ⟨a, b, d, rfl⟩ := len3 hl
  cases r1 with
  | cons r r1 =>
    cases r1 with
    | cons r2 r1 =>
      cases r1 with
      | cons r3 r1 =>
        cases r1
        exact ⟨_, _, _, rfl, k.nx _ H1 _ S1 O1 A1.sok e1 (((A1.env.set i r).set j r2).set l r3) q⟩
/-- what the clauses wish -/
theorem hds_ok {c : Ck} {X : Cx} : ∀ (hs : List (Nat × D)) {hds : List ExceptHandler}, XC c L W X → okHs hs c hds = true → ∃ l, HdsOk X hds l ∧
    ∀ (Wout : WX) (D : Ends) (k : Nat) (n : String) (dd : Option Addr) (σ : L2.St) (H : Hp), c.xc[k]? = some n → (∀ cd, hs.lookup k = some cd → ∀ v, (∀ K O H, Rp K O H v cd) → D.rt v H) → (hs.lookup k = none → Wout (.ref (He.ga X.K n)) dd σ H) → wMany X.K Wout D l (.ref (He.ga X.K n)) dd σ H
  | [], hds, hx, h => by
    unfold okHs at h
    split at h
    · exact ⟨[], .nil, fun Wout D k n dd σ H hk h1 h2 => h2 rfl⟩
    · cases h
  | (j, cd) :: r, hds, hx, h => by
    unfold okHs at h
    split at h
    · rename_i x _ ex _ _ hds
      simp only [Bool.and_eq_true, Bool.not_eq_true'] at h
      obtain ⟨⟨⟨⟨hg, hc⟩, hd⟩, hr⟩, hser⟩ := h
      obtain ⟨hg, hdb⟩ := gloC_ok hx hg
      obtain ⟨m, hm, em⟩ := xcC_ok hc
      obtain ⟨v, pv', rv⟩ := cst0_ok hd
      obtain ⟨l, hl, hw⟩ := hds_ok r hx hr
      have hmg := hx.xm m (List.mem_of_getElem? hm)
      subst em
      refine ⟨(.ref (He.ga X.K m), fun _ _ _ => tRet (tC v)) :: l, .cons ⟨hg, hdb, .inl hmg⟩ (fun a oe cls d pn _ _ => pss_one (ps_ret (pv' _))) hl, fun Wout D k n dd σ H hk h1 h2 => ?_⟩
      refine ⟨decide (k = j), hx.xa.pr hser k j n m hk hm, fun e a _ => ?_, fun e => ?_⟩
      · have e := of_decide_eq_true e
        subst e
        exact h1 cd (by simp [List.lookup]) v rv
      · have ne : (k == j) = false := by simpa using of_decide_eq_false e
        exact hw Wout D k n dd σ H hk (fun cd' h' => h1 cd' (by simpa [List.lookup, ne] using h')) fun h' => h2 (by simpa [List.lookup, ne] using h')
    · cases h
/-- where statements stand -/
structure PoX (X : Cx) : Prop where
  po : PassesOwn (model X.prog X.w) X.A X.env X.xe
  stk : X.stack = X.env :: X.outer
  frm : X.env.frame = some X.env.locals
theorem rs_never : RS L K W tNever fun _ _ _ _ => False := fun σ H ρ S O X E D A hw k => hw
end
set_option maxHeartbeats 1000000
/-- name = [..] with the stores exchanged -/
theorem sAsgL (l : Lx) {L : Lnk} {c : Ck} {W : WX} {X : Cx} {x : Expr} {n : Str} {i : Nat} {p spos : Pos} (hx : XC c L W X) (h : okL l c x = true) (hs : swapsWith x (some (.Name n p)) spos.line X.env = pure true) (hi' : X.N[i]? = some n) (hl : X.env.scope.names.lookup n = some .local) :
    PS X (.Assign [.Name n p] x spos) (tAsg (tOL L X.K W (wpL L.Γ l)) (gName i)) := by
  have np : ∀ {x : Expr}, (match x with | .ListComp _ _ _ _ => false | .SetComp _ _ _ _ => false | .DictComp _ _ _ _ _ => false | _ => true) = true → swapsWith x (some (.Name n p)) spos.line X.env = pure true → False := fun {x} hm hs => by
    cases x <;> first | exact absurd (Sem.pure.inj (show (Sem.pure false : Sem Bool) = Sem.pure true from hs)) Bool.false_ne_true | cases hm
  have lift : ∀ {t : TE}, PS X (.Assign [.Name n p] x spos) (tAsg t (gName i)) → RL L X.K W t (wpL L.Γ l) → PS X (.Assign [.Name n p] x spos) (tAsg (tOL L X.K W (wpL L.Γ l)) (gName i)) := fun {t} h r => ⟨fun pins s σ H D I ⟨ρ, S, O, R, Q, A, hw, k⟩ => h.run pins s σ H D I (r σ H ρ S O R Q _ A hw k)⟩
  cases l with
  | comp own tg it ts el =>
    unfold okL at h
    split at h
    · rename_i elt tx iter ifs a scope pos
      simp only [Bool.and_eq_true, decide_eq_true_eq] at h
      obtain ⟨⟨⟨⟨⟨⟨⟨ha, hb⟩, hv⟩, hn⟩, hi⟩, hg⟩, ht⟩, he⟩ := h
      subst ha
      have hB : BlkOk X.N X.env.scope scope (ownP c own) := by rw [hx.N, hx.sc]; exact blkOk_by hb
      have p := ps_setLc (pos := pos) (elt := elt) (g := tOGt L X.K (fun _ _ _ _ => False) (tgV tg) (wpG L.Γ tg)) (tt := tOTs L X.K (fun _ _ _ _ => False) (wpTs L.Γ ts)) (te := tO L X.K (fun _ _ _ _ => False) (wpE L.Γ el)) hx.calm (by rw [hx.N]; exact hx.nd) hi' hl hs (sI it hx hi) hB (fun s H C cl fp => sG tg (hx.blk s H scope cl C fp) hg) (fun s H C cl fp => sTs ts (hx.blk s H scope cl C fp) ht) (fun s H C cl fp => (sE el (hx.blk s H scope cl C fp) he).1) (noSet_fold hn _)
      rw [ownP_snd] at p
      exact lift p (rl_comp ri_tO rg_tO rts_tO re_tO (subV_ok hv))
    · cases h
  | comp2 own own2 tg it ts tg2 it2 ts2 el =>
    unfold okL at h
    split at h
    · rename_i elt tx iter ifs a tx2 iter2 ifs2 a2 scope pos
      simp only [Bool.and_eq_true, decide_eq_true_eq] at h
      obtain ⟨⟨⟨⟨⟨⟨⟨⟨⟨⟨⟨⟨⟨⟨ha, ha2⟩, hb⟩, hv⟩, hv1⟩, hv2⟩, hn⟩, hn2⟩, hi⟩, hg⟩, ht⟩, hi2⟩, hg2⟩, ht2⟩, he⟩ := h
      subst ha ha2
      have hB : BlkOk X.N X.env.scope scope (ownP c own) := by rw [hx.N, hx.sc]; exact blkOk_by hb
      have p := ps_setLc2 (pos := pos) (elt := elt) (vs1 := own2) (g := tOGt L X.K (fun _ _ _ _ => False) (tgV tg) (wpG L.Γ tg)) (tt := tOTs L X.K (fun _ _ _ _ => False) (wpTs L.Γ ts)) (te := tO L X.K (fun _ _ _ _ => False) (wpE L.Γ el))
        (wi1 := tOI L X.K (fun _ _ _ _ => False) (wpI L.Γ it2)) (g1 := tOGt L X.K (fun _ _ _ _ => False) (tgV tg2) (wpG L.Γ tg2)) (tt1 := tOTs L X.K (fun _ _ _ _ => False) (wpTs L.Γ ts2)) hx.calm (by rw [hx.N]; exact hx.nd) hi' hl hs (sI it hx hi) hB (by rw [ownP_snd]; exact subV_ok hv1)
        (fun s H C cl fp => sG tg (hx.blk s H scope cl C fp) hg) (fun s H C cl fp => sTs ts (hx.blk s H scope cl C fp) ht)
        (fun s H C cl fp => sI it2 (hx.blk s H scope cl C fp) hi2) (fun s H C cl fp => sG tg2 (hx.blk s H scope cl C fp) hg2) (fun s H C cl fp => sTs ts2 (hx.blk s H scope cl C fp) ht2)
        (fun s H C cl fp => (sE el (hx.blk s H scope cl C fp) he).1) (noSet_fold hn _) (fun env => noSet_fold hn2 env)
      rw [ownP_snd] at p
      exact lift p (rl_comp2 ri_tO rg_tO rts_tO ri_tO rg_tO rts_tO re_tO (subV_ok hv) (subV_ok hv2))
    · cases h
  | disp es => unfold okL at h; split at h <;> first | cases h | exact (np rfl hs).elim
  | rep a b => unfold okL at h; split at h <;> first | cases h | exact (np rfl hs).elim
  | cat a b => unfold okL at h; split at h <;> first | cases h | exact (np rfl hs).elim
  | ofSeq a => unfold okL at h; split at h <;> first | cases h | exact (np rfl hs).elim
  | slc a b => unfold okL at h; split at h <;> first | cases h | exact (np rfl hs).elim
  | sorted a => unfold okL at h; split at h <;> first | cases h | exact (np rfl hs).elim
  | stpL a b d e => unfold okL at h; split at h <;> first | cases h | exact (np rfl hs).elim
  | sortSet a => unfold okL at h; split at h <;> first | cases h | exact (np rfl hs).elim
  | sortI a => unfold okL at h; split at h <;> first | cases h | exact (np rfl hs).elim
  | sortK a b => unfold okL at h; split at h <;> first | cases h | exact (np rfl hs).elim
section
variable {L : Lnk}
mutual
theorem sS : ∀ (s : Sm) {c : Ck} {W : WX} {X : Cx} {st : Stmt}, XC c L W X → PoX X → okS s c st = true → PS X st (tOS L X.K W (wpS L.Γ s))
  | .asg t e, c, W, X, st, hx, po, h => by
    unfold okS at h
    split at h
    · rename_i tx ex pos
      rw [Bool.or_eq_true] at h
      rcases h with h | h
      · simp only [Bool.and_eq_true] at h
        obtain ⟨⟨⟨⟨h1, h2⟩, h3⟩, h4⟩, h5⟩ := h
        refine (ps_asg (sE e hx h5).1 (sG t hx h4) ?_ ?_ (by rw [noStar_assign h3]; rfl)).can (rs_asg re_tO rg_tO)
        · show swapsWith ex (some tx) pos.line X.env = pure false
          rw [swaps0, hx.sc]; exact isPure_ok h1
        · rw [stores0, hx.sc]; exact isPure_ok h2
      · split at h
        · rename_i i n p l
          simp only [Bool.and_eq_true, decide_eq_true_eq, lclC] at h
          obtain ⟨⟨⟨h1, h2⟩, h3⟩, h4⟩ := h
          exact (sAsgL l hx h4 (by rw [swaps0, hx.sc]; exact isPure_ok h1) (by rw [hx.N]; exact h2) (by rw [hx.sc]; exact h3)).can (rs_asg (re_frz rl_tO) rg_nm)
        · rename_i i n p l
          simp only [Bool.and_eq_true, decide_eq_true_eq, lclC] at h
          obtain ⟨⟨⟨h1, h2⟩, h3⟩, h4⟩ := h
          exact (sAsgL l hx h4 (by rw [swaps0, hx.sc]; exact isPure_ok h1) (by rw [hx.N]; exact h2) (by rw [hx.sc]; exact h3)).can (rs_asg (re_own rl_tO) rg_nm)
        · cases h
    · cases h
  | .par is es, c, W, X, st, hx, po, h => by
    unfold okS at h
    split at h
    · split at h
      · simp only [Bool.and_eq_true, decide_eq_true_eq, lclC, Bool.not_eq_true'] at h
        obtain ⟨⟨⟨⟨⟨⟨h1, h2⟩, h3⟩, h4⟩, h5⟩, h6⟩, h7⟩ := h
        exact (ps_par hx.calm (by rw [hx.N]; exact hx.nd) (by rw [hx.N]; exact h1) (by rw [hx.N]; exact h2) (Nat.ne_of_beq_eq_false h3) (by rw [hx.sc]; exact h4) (by rw [hx.sc]; exact h5) (sEs es hx h6) (by rw [stores0, hx.sc]; exact isPure_ok h7)).can (rs_par2 ra_tO)
      · cases h
    · split at h
      · simp only [Bool.and_eq_true, decide_eq_true_eq, lclC, Bool.not_eq_true'] at h
        obtain ⟨⟨⟨⟨⟨⟨⟨⟨⟨⟨h1, h2⟩, h3⟩, h4⟩, h5⟩, h6⟩, h7⟩, h8⟩, h9⟩, h10⟩, h11⟩ := h
        exact (ps_par3 hx.calm (by rw [hx.N]; exact hx.nd) (by rw [hx.N]; exact h1) (by rw [hx.N]; exact h2) (by rw [hx.N]; exact h3) (Nat.ne_of_beq_eq_false h4) (Nat.ne_of_beq_eq_false h5) (Nat.ne_of_beq_eq_false h6) (by rw [hx.sc]; exact h7) (by rw [hx.sc]; exact h8) (by rw [hx.sc]; exact h9) (sEs es hx h10) (by rw [stores0, hx.sc]; exact isPure_ok h11)).can (rs_par3 ra_tO)
      · cases h
    · cases h
  | .aug i op e, c, W, X, st, hx, po, h => by
    unfold okS at h
    split at h
    · simp only [Bool.and_eq_true, decide_eq_true_eq, Bool.or_eq_true] at h
      obtain ⟨⟨⟨⟨h1, h2⟩, h3⟩, h4⟩, h5⟩ := h
      subst h3
      obtain ⟨r, ho, hr⟩ := iop_ok (X := X) op (by rcases h4 with (h4 | h4) | h4; exact .inl h4; exact .inr (.inl h4); exact .inr (.inr h4))
      exact (ps_aug (by rw [hx.N]; exact hx.nd) (by rw [hx.N]; exact h1) (locC_ok hx h2) (sE e hx h5).1 ho (hx.st _ h2)).can (rs_aug re_tO hr)
    · cases h
  | .ex e, c, W, X, st, hx, po, h => by
    unfold okS at h
    split at h
    · simp only [Bool.and_eq_true] at h
      exact (ps_expr (sE e hx h.2).1 (by rw [swaps0, hx.sc]; exact isPure_ok h.1)).can (rs_ex re_tO)
    · cases h
  | .ret e, c, W, X, st, hx, po, h => by
    unfold okS at h
    split at h
    · exact (ps_ret (sE e hx h).1).can (rs_ret re_tO)
    · cases h
  | .retF e, c, W, X, st, hx, po, h => by
    unfold okS at h
    split at h
    · exact (ps_ret (sE e hx h).1).can (rs_retF re_tO)
    · cases h
  | .retN, c, W, X, st, hx, po, h => by
    unfold okS at h
    split at h
    · exact ps_retN.can rs_retN
    · cases h
  | .ife e a b, c, W, X, st, hx, po, h => by
    unfold okS at h
    split at h
    · simp only [Bool.and_eq_true] at h
      exact (ps_if (sE e hx h.1.1).2.1 (sB a hx po h.1.2) (sB b hx po h.2)).can (rs_if rt_tO rs_tO rs_tO)
    · cases h
  | .whl e b, c, W, X, st, hx, po, h => by
    unfold okS at h
    split at h
    · simp only [Bool.and_eq_true] at h
      exact (ps_while po.po (sE e hx h.1).2.1 (sB b hx po h.2)).can (rs_whl rt_tO rs_tO)
    · cases h
  | .for tg it b, c, W, X, st, hx, po, h => by
    unfold okS at h
    split at h
    · simp only [Bool.and_eq_true] at h
      obtain ⟨⟨⟨h1, h2⟩, h3⟩, h4⟩ := h
      exact (ps_for po.po hx.calm (sI it hx h2) (sG tg hx h3) (sB b hx po h4) (noSet_fold h1 _)).can (rs_for ri_tO rg_tO rs_tO)
    · cases h
  | .raise k e, c, W, X, st, hx, po, h => ps_never.can rs_never
  | .rse k, c, W, X, st, hx, po, h => by
    unfold okS at h
    split at h
    · simp only [Bool.and_eq_true, Bool.not_eq_true'] at h
      obtain ⟨hg, hd⟩ := gloC_ok hx h.1.1
      obtain ⟨n, hn, en⟩ := xcC_ok h.1.2
      have G := hx.xa.g n (List.mem_of_getElem? hn)
      have hmg := hx.xm n (List.mem_of_getElem? hn)
      have hno : xsup n = none := by
        have h2 := h.2
        unfold xsC at h2
        rw [hn] at h2
        simpa using h2
      subst en
      refine (ps_raise hx.calm hx.tk (pmk_own PySem.F.excBase_ValueError (G.q hno) hmg G.kp (raises_own G.sb G.ty) hg hd)).can fun σ H ρ S O XX E D A hw kk => ?_
      exact A.x k .non σ ρ S O H _ none A.sok .refl A.env (by rw [hx.xr]; exact ⟨n, hn, rfl, .inl ⟨hno, rfl, rfl⟩⟩) hw
    · cases h
  | .rsv k e, c, W, X, st, hx, po, h => by
    unfold okS at h
    split at h
    · rename_i x p y pos rpos
      simp only [Bool.and_eq_true] at h
      obtain ⟨hg, hc, hs, hy, he⟩ := h
      obtain ⟨hg, hd⟩ := gloC_ok hx hg
      obtain ⟨n, hn, en⟩ := xcC_ok hc
      have G := hx.xa.g n (List.mem_of_getElem? hn)
      have hmg := hx.xm n (List.mem_of_getElem? hn)
      unfold xsC at hs
      rw [hn] at hs
      obtain ⟨q, hq⟩ := Option.isSome_iff_exists.mp hs
      obtain ⟨SG, _, _⟩ := G.sp q hq
      subst en
      refine (ps_raise hx.calm hx.tk (pmk_sup (k := 0) SG hx.rm (bl_of hx (by decide +kernel)) hg hmg (pa_cons (sE e hx he).1 pa_nil (noStar_each hy)) hd (noStar_each hy))).can fun σ H ρ S O XX E D A hw kk => ?_
      refine re_tO.go A.ex hw fun v H1 d S1 O1 r1 A1 e1 ⟨hr, q1⟩ => ⟨v, rfl, fun hp u hk ki ru => shows_of r1 hk ki (kpB_of hr) ru, fun dd hdd => ?_⟩
      have ev := ev_new (u := .xd [(q.1, v)]) hdd A1.sok
      exact A.x k d σ ρ S1 O1 _ _ (some dd) (A1.sok.new hdd) (e1.trans A1.sok ev) (A1.env.mono (ev.mo A1.sok)) (by rw [hx.xr]; exact ⟨n, hn, rfl, .inr ⟨q, dd, v, hq, rfl, upd_same, A1.sok.notO hdd, r1.mono (ev.mo A1.sok)⟩⟩) q1
    · cases h
  | .tryC b hs, c, W, X, st, hx, po, h => by
    unfold okS at h
    split at h
    · simp only [Bool.and_eq_true] at h
      obtain ⟨l, hl, hw⟩ := hds_ok hs hx h.2
      refine (ps_try_many (tb := fun W' => tOS L X.K W' (wpB L.Γ b)) (Wout := W) po.stk po.frm hx.tk (fun W' pn xe tk po' => sB b (hx.tr tk) ⟨po', po.stk, po.frm⟩ h.1) hl).can fun σ H ρ S O XX E D A hq kk => ?_
      refine ⟨ρ, S, O, _, E, ⟨A.sok, A.env, fun k d σ' ρ' S' O' H' cv dd s' e' n' xr hx' => ?_⟩, hq, kk⟩
      rw [hx.xr] at xr
      obtain ⟨n, hn, rfl, hd⟩ := xr
      refine hw W D k n dd σ' H' hn (fun cd hl' v rv => ?_) fun hl' => ?_
      · rw [hl'] at hx'
        exact kk.rt v H' cd S' O' (rv _ _ _) s' e' hx'
      · rw [hl'] at hx'
        exact A.x k d σ' ρ' S' O' H' _ dd s' e' n' (by rw [hx.xr]; exact ⟨n, hn, rfl, hd⟩) hx'
    · cases h
  | .pass, c, W, X, st, hx, po, h => by
    unfold okS at h
    split at h
    · exact ps_pass.can rs_nx
    · cases h
  | .brk, c, W, X, st, hx, po, h => by
    unfold okS at h
    split at h
    · exact ps_break.can rs_bk
    · cases h
  | .cont, c, W, X, st, hx, po, h => by
    unfold okS at h
    split at h
    · exact ps_continue.can rs_ct
    · cases h
theorem sB : ∀ (b : Bl) {c : Ck} {W : WX} {X : Cx} {st : List Stmt}, XC c L W X → PoX X → okB b c st = true → PSs X st (tOS L X.K W (wpB L.Γ b))
  | .nil, c, W, X, st, hx, po, h => by
    unfold okB at h
    split at h
    · exact pss_nil.can rs_nx
    · cases h
  | .cons s r, c, W, X, st, hx, po, h => by
    unfold okB at h
    split at h
    · simp only [Bool.and_eq_true] at h
      exact (pss_cons (sS s hx po h.1) (sB r hx po h.2)).can (rs_seq (w1 := wpS L.Γ s) (w2 := wpB L.Γ r) rs_tO rs_tO)
    · cases h
end
end
end DL

/-! DL14: defs, their linking, the head's facts. -/
namespace DL
open PySem PySem.Spec PyProof.Rows L2
/-- a def: number, name, parameters, slots, level, the defs and constants that it names, body -/
inductive Pl where
  | fn (x : Str) | me (c : String) | pr (c : String) | ini (c : String)
  deriving DecidableEq
structure Df where
  id : Nat
  name : Str
  ps : List Str
  N : List Str
  lvl : Nat
  fns : List (Nat × Str)
  gls : List (Nat × Str)
  body : Bl
  pl : Pl
  cls : List (String × List Str)
  mts : List (Nat × String × Str)
  prs : List (Nat × String × Str)
  nws : List (Nat × String × Str)
  xc : List String
  mets : List (Nat × Str)
  gd : Bool := false
  gns : List (Nat × Str) := []
def Df.nmO (d : Df) : Option Str := match d.pl with
  | .fn _ => some d.name
  | _ => none
def Df.qual (d : Df) : Str := match d.pl with
  | .fn _ => d.name
  | .me c => (c : Str) ++ ("." : Str) ++ d.name
  | .pr c => (c : Str) ++ ("." : Str) ++ d.name
  | .ini c => (c : Str) ++ ("." : Str) ++ d.name
def fnScopeC (N ps : List Str) (sc : Scope) : Bool :=
  (match sc.kind with | .function => true | _ => false) && !sc.isCoroutine && !sc.isGenerator && decide N.Nodup && decide (N.take ps.length = ps) && (ps.all fun x => decide (sc.names.lookup x = some .local) || decide (sc.names.lookup x = some .cell)) && (sc.names.all fun y => match y.2 with | .free => false | _ => true)
theorem fnScopeC_ok {N ps : List Str} {sc : Scope} (h : fnScopeC N ps sc = true) : FnScope N ps sc := by
  unfold fnScopeC at h
  simp only [Bool.and_eq_true, decide_eq_true_eq, List.all_eq_true, Bool.or_eq_true, Bool.not_eq_true'] at h
  obtain ⟨⟨⟨⟨⟨⟨h1, h2⟩, h3⟩, h4⟩, h5⟩, h6⟩, h7⟩ := h
  refine ⟨?_, h2, h3, h4, h5, h6, fun y hy e => ?_⟩
  · split at h1
    · assumption
    · cases h1
  · have q := h7 y hy
    rw [e] at q
    cases q
def okD (d : Df) (sc : Scope) (st : List Stmt) : Bool := okB d.body ⟨d.N, sc, none, d.fns, d.gls, d.cls, d.mts, d.prs, d.nws, d.xc, d.nmO, d.mets, d.gd, d.gns⟩ st && fnScopeC d.N d.ps sc
/-- the slots at the start -/
def env1 (d : Df) (ds : List D) : Env := ds.map some ++ List.replicate (d.N.length - d.ps.length) none
theorem sub_sup {S : Sto} {p : Addr} {o : DO} (h : S p = none) (ho : ∀ T, o ≠ .tb T := by intro T z; cases z) : Sub S (sup S p o) := ⟨fun a u e => by
  by_cases q : a = p
  · rw [q, h] at e; cases e
  · rw [sup_ne q]; exact e, fun a T e => by
  by_cases q : a = p
  · rw [q, sup_same] at e; exact absurd (Option.some.inj e) (ho T)
  · rwa [sup_ne q] at e⟩
theorem Sub.sup2 {S S' : Sto} {p : Addr} {o : DO} (hs : Sub S S') (h : S p = none) (hd : ∀ T, S' p ≠ some (.tb T)) (ho : ∀ T, o ≠ .tb T := by intro T z; cases z) : Sub S (sup S' p o) := ⟨fun a u e => by
  rw [sup_ne fun z => by rw [z, h] at e; cases e]; exact hs.1 a u e, fun a T e => by
  by_cases q : a = p
  · rw [q, sup_same] at e; exact absurd (Option.some.inj e) (ho T)
  · rw [sup_ne q] at e; exact hs.2 a T e⟩
theorem Sub.sdel2 {S S' : Sto} {p : Addr} (hs : Sub S S') (h : S p = none) : Sub S (sdel S' p) := ⟨fun a u e => by
  rw [sdel_ne fun z => by rw [z, h] at e; cases e]; exact hs.1 a u e, fun a T e => by
  by_cases q : a = p
  · rw [q, sdel_same] at e; cases e
  · rw [sdel_ne q] at e; exact hs.2 a T e⟩
def RtQ (Q : QD) : QD := fun d S1 => ∃ S2, Sub S2 S1 ∧ Q d S2
theorem rtq {Q : QD} {d : D} {S : Sto} (h : Q d S) : RtQ Q d S := ⟨S, .refl, h⟩
theorem rtq_sup {Q : QD} {d : D} {S : Sto} {p : Addr} {o : DO} (e : S p = none) (h : Q d S) (ho : ∀ T, o ≠ .tb T := by intro T z; cases z) : RtQ Q d (sup S p o) := ⟨S, sub_sup e ho, h⟩
theorem rtq_sdel {Q : QD} {d : D} {S : Sto} {p : Addr} (e : S p = none) (h : Q d S) : RtQ Q d (sdel S p) := ⟨S, Sub.sdel2 .refl e, h⟩
/-- a body keeps its promise -/
def SpecOk (Γ : Gam) (d : Df) : Prop := ∀ ds S R Q, Γ.fn d.id ds S R Q → ds.length = d.ps.length ∧ wpB Γ d.body { nx := fun _ S => RtQ Q .non S, rt := RtQ Q } (fun k x _ S => RtQ (R k) x S) (env1 d ds) S
def BindOk (params : Arguments) (ps : List Str) : Prop := ∀ (x qual : Str) (body : List Stmt) (scope : Scope) (kV doc pm : Value) (an : Option Addr) (cdv ct : Value) (us : List Value), us.length = ps.length → bindArgs (PySem.W.fnOf x qual params body scope .none kV doc pm an cdv ct) ⟨us, []⟩ = pure (ps.zip us)
section
variable {L : Lnk} {P : Program} {w : World} {K : PySem.W.Frag} {mg : Str → Option Value} {base : Heap}
/-- where the text has a def -/
def Where (K : PySem.W.Frag) (mg : Str → Option Value) (d : Df) (f : Addr) : Prop := match d.pl with
  | .fn x => mg x = some (.ref f) ∧ PySem.W.keepIn K (.ref f) = true ∧ f = He.ga K x
  | .me c => Meth K (He.ga K c) d.name f
  | .pr c => ∃ p, PropOf K (He.ga K c) d.name p f
  | .ini c => Mk K (He.ga K c) f
def Good0 (L : Lnk) (P : Program) (w : World) (K : PySem.W.Frag) (mg : Str → Option Value) (base : Heap) (d : Df) : Prop :=
  ∃ (f : Addr) (fd : FuncData), FnOk P w K mg base (L2.CX P w) d.lvl f fd d.ps (spOf L K (L.Γ.fn d.id)) ∧ Where K mg d f ∧ Binds K fd d.ps [] ∧ ∃ oc od osl, K.lookup f = some ⟨oc, od, .func fd, osl⟩
def GoodG (L : Lnk) (P : Program) (w : World) (K : PySem.W.Frag) (mg : Str → Option Value) (base : Heap) (d : Df) : Prop :=
  ∃ (f : Addr) (fd : FuncData), FnG P w K mg base (L2.CX P w) d.lvl f fd d.ps (spOf L K (L.Γ.fn d.id)) ∧ Where K mg d f ∧ Binds K fd d.ps [] ∧ ∃ oc od osl, K.lookup f = some ⟨oc, od, .func fd, osl⟩
def Good (L : Lnk) (P : Program) (w : World) (K : PySem.W.Frag) (mg : Str → Option Value) (base : Heap) (d : Df) : Prop := (d.gd = false → Good0 L P w K mg base d) ∧ (d.gd = true → GoodG L P w K mg base d)
def GlG (L : Lnk) (K : PySem.W.Frag) (mg : Str → Option Value) (k : Nat) (x : Str) : Prop := ∃ (u : Value) (v : V), mg x = some u ∧ RelV v u ∧ ∀ O H, Rp K O H v (L.Γ.gl k)
structure CallsOk (L : Lnk) (P : Program) (w : World) (K : PySem.W.Frag) (mg : Str → Option Value) (base : Heap) (d : Df) (k : Nat) : Prop where
  fns : ∀ p ∈ d.fns, ∃ e : Df, e.id = p.1 ∧ e.pl = .fn p.2 ∧ e.lvl + 2 ≤ k ∧ Good0 L P w K mg base e
  mts : ∀ p ∈ d.mts, ∃ e : Df, e.id = p.1 ∧ e.name = p.2.2 ∧ e.pl = .me p.2.1 ∧ e.lvl + 2 ≤ k ∧ Good0 L P w K mg base e
  prs : ∀ p ∈ d.prs, ∃ e : Df, e.id = p.1 ∧ e.name = p.2.2 ∧ e.pl = .pr p.2.1 ∧ e.lvl + 2 ≤ k ∧ Good0 L P w K mg base e
  nws : ∀ p ∈ d.nws, ∃ e : Df, e.id = p.1 ∧ e.pl = .ini p.2.1 ∧ e.lvl + 2 ≤ k ∧ Good0 L P w K mg base e
  gns : ∀ p ∈ d.gns, ∃ e : Df, e.id = p.1 ∧ e.pl = .fn p.2 ∧ e.lvl + 2 ≤ k ∧ GoodG L P w K mg base e
/-- a def that is handed calls -/
def MetG (K : PySem.W.Frag) (mg : Str → Option Value) (xc : List String) (q : Str × List (Nat × HC) × Option D) : Prop := ∃ (g : Addr) (pg : Arguments) (bg : List Stmt) (sg : Scope) (dV kV doc pm cdv ct oc : Value) (an od : Option Addr) (osl : Array (Option Value)) (a : Str) (N : List Str),
  mg q.1 = some (.ref g) ∧ PySem.W.keepIn K (.ref g) = true ∧ K.lookup g = some ⟨oc, od, .func (PySem.W.fnOf q.1 q.1 pg bg sg dV kV doc pm an cdv ct), osl⟩ ∧ PySem.W.codeIn K cdv q.1 = true ∧
  L2.Binds K (PySem.W.fnOf q.1 q.1 pg bg sg dV kV doc pm an cdv ct) [a] [] ∧ FnScope N [a] sg ∧ N[0]? = some a ∧ Vis sg a ∧ (a == ("__debug__" : Str)) = false ∧ (a == ("__classdict__" : Str)) = false ∧ 1 < N.length ∧ metB xc N sg a q.2.1 q.2.2 bg = true
/-- a def's table of code objects, where it makes lambdas -/
def LamT (K : PySem.W.Frag) (mg : Str → Option Value) (base : Heap) (d : Df) : Prop := d.mets ≠ [] → ∃ c P, PySem.W.tabIn K d.name = some (c, P) ∧ LamX.TabB base mg c P
def lamC (d : Df) : Bool := d.mets.isEmpty || (decide (d.pl = .fn d.name) && Nat.ble 35 d.lvl)
/-- what is known of the classes -/
structure ClsT (L : Lnk) (P : Program) (K : PySem.W.Frag) (mg : Str → Option Value) : Prop where
  met : ∀ (j : Nat) (q : Str × List (Nat × HC) × Option D), L.Γ.mt[j]? = some q → MetG K mg L.Γ.xc q
  ns : ∀ x u, PySem.W.nsIn K mainGlobals x = some (some u) → mg x = some u
  ca : ClsA K L.Γ.cls
  cm : ∀ p ∈ L.Γ.cls, mg p.1 = some (.ref (He.ga K p.1))
  xa : XcA P K L.Γ.xc
  xm : ∀ n ∈ L.Γ.xc, mg n = some (.ref (He.ga K n))
  xr : L.xr = xrOf K L.Γ.xc
theorem df_ok (hN : base.NoSeer) (hT : P.given.tree = none) {d : Df} {params : Arguments} {st : List Stmt} {sc : Scope} {f : Addr} {fd : FuncData} {k : Nat} (h32 : 32 ≤ k) (hk : d.lvl = k + 1) (F : FunD K d.name d.qual params st sc [] [] f fd) (hC : okD d sc st = true)
    (hc : CallsOk L P w K mg base d k) (hc2 : d.mets ≠ [] → CallsOk L P w K mg base d (k - 2)) (hlm : lamC d = true) (hme : ∀ p ∈ d.mets, ∃ q, L.Γ.mt[p.1]? = some q ∧ q.1 = p.2) (hwh : Where K mg d f) (hlt : LamT K mg base d) (hgl : ∀ p ∈ d.gls, GlG L K mg p.1 p.2) (ct : ClsT L P K mg) (hcs : ∀ p ∈ d.cls, p ∈ L.Γ.cls) (hxc : d.xc = L.Γ.xc) (hbl : ∀ x ∈ blts, mg x = none) (hS : SpecOk L.Γ d) :
    (d.gd = false → FnOk P w K mg base (L2.CX P w) d.lvl f fd d.ps (spOf L K (L.Γ.fn d.id))) ∧ (d.gd = true → FnG P w K mg base (L2.CX P w) d.lvl f fd d.ps (spOf L K (L.Γ.fn d.id))) := by
  unfold okD at hC
  rw [Bool.and_eq_true] at hC
  have S := fnScopeC_ok hC.2
  rw [hk]
  have len : ∀ vs H Q E, spOf L K (L.Γ.fn d.id) vs H Q E → vs.length = d.ps.length := fun vs H Q E ⟨ds, S, O, R, Q', s, r, h, _⟩ => by rw [r.len]; exact (hS ds S R Q' h).1
  obtain ⟨oc, od, dV, kV, doc, pm, an, cdv, ct', osl, rfl, lk, hcd, _, _⟩ := F.ex
  have core : ∀ (A : Around) (outer : List PySem.Env) (s : Shared) (H : Hp) (vs : List V) (Q : VK) (E : XK), Room k (A.deeper (envOfC d.qual sc s.heap.objs.size f cdv)) → (d.gd = true → A.guards = some []) → spOf L K (L.Γ.fn d.id) vs H Q E →
      ∃ t, PSs (cxOf (L2.CX P w) P w K mg base d.N d.qual sc f cdv A outer s H E) st t ∧ t { nx := fun _ H' => Q .non H', rt := Q } (L2.start d.N vs) H := ?_
  · exact ⟨fun g => fn_of lk hcd S len fun A outer s H vs Q E hr h => core A outer s H vs Q E hr (fun z => by rw [g] at z; cases z) h,
      fun g => ⟨len, fun A outer s H args us vs Q E hr hG e0 hb r hsp => LamX.run_ofS lk hcd S hr e0 hb r (len _ _ _ _ hsp) fun hr' => core A outer s H vs Q E hr' (fun _ => hG) hsp⟩⟩
  intro A outer s H vs Q E hr hgd h
  obtain ⟨ds, St, O, R, Q', sk, r, h, hx, hq⟩ := h
  obtain ⟨hl, hw⟩ := hS ds St R Q' h
  have xc : XC ⟨d.N, sc, none, d.fns, d.gls, d.cls, d.mts, d.prs, d.nws, d.xc, d.nmO, d.mets, d.gd, d.gns⟩ L (fun cls dd _ H => E cls dd H) (cxOf (L2.CX P w) P w K mg base d.N d.qual sc f cdv A outer s H E) :=
    { N := rfl, nd := S.nd, sc := rfl, calm := rfl,
      un := by have := hr.un; show (A.deeper _).units + 70 < cLine; omega
      py := ⟨⟨_, _, rfl, S.gen, S.co, rfl, rfl⟩, hN, hT, by have := hr.dp; show (A.deeper _).depth + 100 < recursionLimit; omega⟩
      tk := takes_of rfl rfl rfl rfl
      st := fun _ _ => .inl rfl
      bl := hbl
      fn := fun p hp => by
        obtain ⟨e, e1, e4, e3, g, gd, F', wh, b, _⟩ := hc.fns p hp
        unfold Where at wh
        rw [e4] at wh
        rw [← e1]
        exact ⟨e.lvl, g, gd, e.ps, F', hr.mono e3, wh.1, wh.2.1, b⟩
      fa := fun p hp => by
        obtain ⟨e, e1, e4, e3, g, gd, F', wh, b, _⟩ := hc.fns p hp
        unfold Where at wh
        rw [e4] at wh
        have h1 := wh.1
        rw [wh.2.2] at h1
        exact h1
      gl := fun p hp => hgl p hp
      ca := ct.ca
      cs := hcs
      cm := fun p hp => ct.cm p (hcs p hp)
      mt := fun p hp => by
        obtain ⟨e, e1, e2, e4, e3, g, gd, F', wh, b, _⟩ := hc.mts p hp
        unfold Where at wh
        rw [e4] at wh
        rw [← e1, ← e2]
        exact ⟨e.lvl, g, gd, e.ps, F', hr.mono e3, wh, b⟩
      pr := fun p hp => by
        obtain ⟨e, e1, e2, e4, e3, g, gd, F', wh, b, _⟩ := hc.prs p hp
        unfold Where at wh
        rw [e4] at wh
        obtain ⟨pp, wh⟩ := wh
        rw [← e1, ← e2]
        exact ⟨e.lvl, pp, g, gd, e.ps, F', hr.mono e3, wh, b⟩
      nw := fun p hp => by
        obtain ⟨e, e1, e4, e3, g, gd, F', wh, b, _⟩ := hc.nws p hp
        unfold Where at wh
        rw [e4] at wh
        rw [← e1]
        exact ⟨e.lvl, g, gd, e.ps, F', hr.mono e3, wh, b⟩
      xa := by show XcA P K d.xc; rw [hxc]; exact ct.xa
      xm := fun n hn => by
        have hn : n ∈ d.xc := hn
        rw [hxc] at hn
        exact ct.xm n hn
      xr := by show L.xr = xrOf K d.xc; rw [hxc]; exact ct.xr
      rm := hr.mono (by omega)
      xg := hxc.symm
      gd := fun z => hgd z
      gn := fun p hp => by
        obtain ⟨e, e1, e4, e3, g, gd, F', wh, b, _⟩ := hc.gns p hp
        unfold Where at wh
        rw [e4] at wh
        rw [← e1]
        exact ⟨e.lvl, g, gd, e.ps, F', hr.mono (by omega), wh.1, wh.2.1, b⟩
      met := fun p hp => by
        obtain ⟨q, e1, e2⟩ := hme p hp
        obtain ⟨q1, hs, fin⟩ := q
        dsimp only at e2
        subst e2
        obtain ⟨g, pg, bg, sg, dV, kV, doc, pm, cdv, ct', oc, an, od, osl, a, N, m⟩ := ct.met _ _ e1
        exact ⟨hs, fin, g, pg, bg, sg, dV, kV, doc, pm, cdv, ct', oc, an, od, osl, a, N, e1, m⟩
      lam := fun _ hm y hy => by
        have hm : d.mets ≠ [] := hm
        unfold lamC at hlm
        have hne : d.mets.isEmpty = false := by cases e : d.mets with | nil => exact absurd e hm | cons _ _ => rfl
        rw [hne, Bool.false_or, Bool.and_eq_true, decide_eq_true_eq] at hlm
        obtain ⟨hpl, hlv⟩ := hlm
        have hlv := Nat.le_of_ble_eq_true hlv
        have hy : d.nmO = some y := hy
        unfold Df.nmO at hy
        rw [hpl] at hy
        cases hy
        obtain ⟨c, Pt, ht, tb⟩ := hlt hm
        have hc2 := hc2 hm
        unfold Where at hwh
        rw [hpl] at hwh
        have hq : d.qual = d.name := by unfold Df.qual; rw [hpl]
        have ecd : cdv = .ref c := by
          have ht' := ht
          unfold PySem.W.tabIn at ht'
          split at ht'
          · rename_i f' ef
            have e1 := ct.ns _ _ ef
            rw [hwh.1] at e1
            cases e1
            rw [lk] at ht'
            simp only at ht'
            split at ht'
            · split at ht'
              · split at ht'
                · cases ht'; first | rfl | assumption
                · cases ht'
              · cases ht'
            · cases ht'
          · cases ht'
        exact ⟨k - 2, c, Pt, by omega, hr.mono (by omega), ecd, by show d.qual ++ (".<locals>." : Str) = _; rw [hq], ht, tb,
          fun p hp => by
            obtain ⟨e, e1, e4, e3, g, gd, F', wh, b, _⟩ := hc2.fns p hp
            unfold Where at wh
            rw [e4] at wh
            rw [← e1]
            exact ⟨e.lvl, g, gd, e.ps, F', e3, wh.1, wh.2.1, b⟩,
          fun p hp => by
            obtain ⟨e, e1, e2, e4, e3, g, gd, F', wh, b, _⟩ := hc2.mts p hp
            unfold Where at wh
            rw [e4] at wh
            rw [← e1, ← e2]
            exact ⟨e.lvl, g, gd, e.ps, F', e3, wh, b⟩,
          fun p hp => by
            obtain ⟨e, e1, e2, e4, e3, g, gd, F', wh, b, _⟩ := hc2.prs p hp
            unfold Where at wh
            rw [e4] at wh
            obtain ⟨pp, wh⟩ := wh
            rw [← e1, ← e2]
            exact ⟨e.lvl, pp, g, gd, e.ps, F', e3, wh, b⟩,
          fun p hp => by
            obtain ⟨e, e1, e4, e3, g, gd, F', wh, b, _⟩ := hc2.nws p hp
            unfold Where at wh
            rw [e4] at wh
            rw [← e1]
            exact ⟨e.lvl, g, gd, e.ps, F', e3, wh, b⟩⟩ }
  refine ⟨_, sB d.body xc ⟨passes_of rfl, rfl, rfl⟩ hC.1, ?_⟩
  have hv : vs.length = d.ps.length := by rw [r.len]; exact hl
  have less : ∀ {S1 S2 : Sto} {O' : Ow} {H' : Hp}, Sub S2 S1 → Sok K S1 O' H' → Ev St O H S1 O' H' → Sok K S2 O' H' ∧ Ev St O H S2 O' H' := fun {S1 S2 O' H'} sb s' e' => ⟨s'.less sb.1 sb.2, ⟨e'.keep, e'.own, fun a h n => ⟨(e'.res a h n).1, by
    cases q : S2 a with
    | none => rfl
    | some o => have := sb.1 a o q; rw [(e'.res a h n).2] at this; cases this⟩, e'.there⟩⟩
  refine ⟨env1 d ds, St, O, fun k x _ S => RtQ (R k) x S, _, ⟨sk, ?_, fun k' x σ' ρ' S' O' H' c dd s' e' _ xr ⟨S2, sb, q⟩ => hx k' x S2 O' H' c dd (less sb s' e').1 (less sb s' e').2 xr q⟩, hw, ⟨fun σ' H' ρ' S' O' s' e' _ ⟨S2, sb, q⟩ => hq _ H' _ S2 O' .non (less sb s' e').1 (less sb s' e').2 q, fun v H' dv S' O' rv s' e' ⟨S2, sb, q⟩ => hq v H' dv S2 O' rv (less sb s' e').1 (less sb s' e').2 q, fun _ _ _ _ _ _ _ _ q => q.elim, fun _ _ _ _ _ _ _ _ q => q.elim⟩⟩
  show REnv K O H (env1 d ds) (L2.start d.N vs)
  unfold L2.start env1
  rw [hv]
  exact REnv.start _ r
/-- what is told of a def of the text -/
def Told (K : PySem.W.Frag) (mg : Str → Option Value) (d : Df) (st : Stmt) : Prop := ∃ (f : Addr) (fd : FuncData), FunD K d.name d.qual (defArgs st) (defBody st) (defScope st) [] [] f fd ∧ Where K mg d f
def callC (done : List Df) (d : Df) (k : Nat) (x : Option Str) (pl : Pl) (g : Bool := false) : Bool := done.any fun e => Nat.beq e.id k && (match x with | some x => decide (e.name = x) | none => true) && decide (e.pl = pl) && Nat.blt (e.lvl + 2) d.lvl && (e.gd == g)
def calls0 (done : List Df) (d : Df) : Bool := (d.fns.all fun p => callC done d p.1 none (.fn p.2)) && (d.mts.all fun p => callC done d p.1 (some p.2.2) (.me p.2.1)) && (d.prs.all fun p => callC done d p.1 (some p.2.2) (.pr p.2.1)) && (d.nws.all fun p => callC done d p.1 none (.ini p.2.1)) && d.gns.all fun p => callC done d p.1 none (.fn p.2) true
def calls (done : List Df) (d : Df) : Bool := Nat.ble 33 d.lvl && (calls0 done d && (lamC d && (d.mets.isEmpty || calls0 done { d with lvl := d.lvl - 2 })))
def callsAll : List Df → List Df → Bool
  | _, [] => true
  | done, d :: r => calls done d && callsAll (d :: done) r
theorem callC_ok {done : List Df} {d : Df} {k : Nat} {x : Option Str} {pl : Pl} {g : Bool} (hd : ∀ e ∈ done, Good L P w K mg base e) (h : callC done d k x pl g = true) : ∃ e : Df, e.id = k ∧ (∀ y, x = some y → e.name = y) ∧ e.pl = pl ∧ e.lvl + 2 ≤ d.lvl - 1 ∧ (g = false → Good0 L P w K mg base e) ∧ (g = true → GoodG L P w K mg base e) := by
  obtain ⟨e, he, q⟩ := List.any_eq_true.mp h
  simp only [Bool.and_eq_true, decide_eq_true_eq, beq_iff_eq] at q
  obtain ⟨q, qg⟩ := q
  have q3 : e.lvl + 2 < d.lvl := Nat.le_of_ble_eq_true q.2
  exact ⟨e, Nat.eq_of_beq_eq_true q.1.1.1, fun y hy => by have h := q.1.1.2; rw [hy] at h; exact of_decide_eq_true h, q.1.2, by omega, fun z => (hd e he).1 (by rw [qg, z]), fun z => (hd e he).2 (by rw [qg, z])⟩
theorem calls0_ok {done : List Df} {d : Df} (hd : ∀ e ∈ done, Good L P w K mg base e) (h : calls0 done d = true) : CallsOk L P w K mg base d (d.lvl - 1) := by
  unfold calls0 at h
  simp only [Bool.and_eq_true] at h
  obtain ⟨⟨⟨⟨c2, c3⟩, c4⟩, c5⟩, c6⟩ := h
  refine ⟨fun p hp => ?_, fun p hp => ?_, fun p hp => ?_, fun p hp => ?_, fun p hp => ?_⟩
  · obtain ⟨e, h1, _, h2, h3, h4, _⟩ := callC_ok hd (List.all_eq_true.mp c2 p hp)
    exact ⟨e, h1, h2, h3, h4 rfl⟩
  · obtain ⟨e, h1, h0, h2, h3, h4, _⟩ := callC_ok hd (List.all_eq_true.mp c3 p hp)
    exact ⟨e, h1, h0 _ rfl, h2, h3, h4 rfl⟩
  · obtain ⟨e, h1, h0, h2, h3, h4, _⟩ := callC_ok hd (List.all_eq_true.mp c4 p hp)
    exact ⟨e, h1, h0 _ rfl, h2, h3, h4 rfl⟩
  · obtain ⟨e, h1, _, h2, h3, h4, _⟩ := callC_ok hd (List.all_eq_true.mp c5 p hp)
    exact ⟨e, h1, h2, h3, h4 rfl⟩
  · obtain ⟨e, h1, _, h2, h3, _, h4⟩ := callC_ok hd (List.all_eq_true.mp c6 p hp)
    exact ⟨e, h1, h2, h3, h4 rfl⟩
theorem link_all (hN : base.NoSeer) (hT0 : P.given.tree = none) (hbl : ∀ x ∈ blts, mg x = none) (ct : ClsT L P K mg) : ∀ (tab : List (Df × Stmt)) (done : List Df), (∀ e ∈ done, Good L P w K mg base e) → callsAll done (tab.map (·.1)) = true → (∀ p ∈ tab, Told K mg p.1 p.2) → (∀ p ∈ tab, okD p.1 (defScope p.2) (defBody p.2) = true) → (∀ p ∈ tab, BindOk (defArgs p.2) p.1.ps) →
    (∀ p ∈ tab, SpecOk L.Γ p.1) → (∀ p ∈ tab, ∀ g ∈ p.1.gls, GlG L K mg g.1 g.2) → (∀ p ∈ tab, ∀ q ∈ p.1.cls, q ∈ L.Γ.cls) → (∀ p ∈ tab, p.1.xc = L.Γ.xc) → (∀ p ∈ tab, LamT K mg base p.1 ∧ ∀ q ∈ p.1.mets, ∃ r, L.Γ.mt[q.1]? = some r ∧ r.1 = q.2) → ∀ p ∈ tab, Good L P w K mg base p.1
  | [], _, _, _, _, _, _, _, _, _, _, _ => fun _ h => nomatch h
  | (d, st) :: r, done, hd, hc, hT, hO, hB, hS, hG, hCs, hX, hM => by
    have hc' : (calls done d && callsAll (d :: done) (r.map (·.1))) = true := hc
    rw [Bool.and_eq_true] at hc'
    have hcd := hc'.1
    unfold calls at hcd
    simp only [Bool.and_eq_true] at hcd
    obtain ⟨c1, c2, c3, c4⟩ := hcd
    have l1 : 33 ≤ d.lvl := Nat.le_of_ble_eq_true c1
    have good : Good L P w K mg base d := by
      obtain ⟨f, fd, F, m⟩ := hT (d, st) List.mem_cons_self
      have bd : Binds K fd d.ps [] := F.bindsN fun kV doc pm an cdv ct us hl => hB (d, st) List.mem_cons_self _ _ _ _ kV doc pm an cdv ct us hl
      have hm2 : d.mets ≠ [] → CallsOk L P w K mg base d (d.lvl - 1 - 2) := fun hm => by
        rw [Bool.or_eq_true] at c4
        rcases c4 with z | z
        · exact absurd (List.isEmpty_iff.mp z) hm
        · have q := calls0_ok hd z
          have e : d.lvl - 1 - 2 = d.lvl - 2 - 1 := by omega
          rw [e]
          exact ⟨q.fns, q.mts, q.prs, q.nws, q.gns⟩
      have lk : ∃ oc od osl, K.lookup f = some ⟨oc, od, .func fd, osl⟩ := by obtain ⟨oc, od, dV, kV, doc, pm, an, cdv, ct, osl, _, lk, _⟩ := F.ex; exact ⟨oc, od, osl, lk⟩
      have FF := df_ok hN hT0 (d := d) (k := d.lvl - 1) (by omega) (by omega) F (hO (d, st) List.mem_cons_self) (calls0_ok hd c2) hm2 c3 (hM (d, st) List.mem_cons_self).2 m (hM (d, st) List.mem_cons_self).1 (hG (d, st) List.mem_cons_self) ct (hCs (d, st) List.mem_cons_self) (hX (d, st) List.mem_cons_self) hbl (hS (d, st) List.mem_cons_self)
      exact ⟨fun g => ⟨f, fd, FF.1 g, m, bd, lk⟩, fun g => ⟨f, fd, FF.2 g, m, bd, lk⟩⟩
    have ih := link_all hN hT0 hbl ct r (d :: done) (fun e he => by
      rcases List.mem_cons.mp he with z | z
      · rw [z]; exact good
      · exact hd e z) hc'.2 (fun p hp => hT p (List.mem_cons_of_mem _ hp)) (fun p hp => hO p (List.mem_cons_of_mem _ hp)) (fun p hp => hB p (List.mem_cons_of_mem _ hp)) (fun p hp => hS p (List.mem_cons_of_mem _ hp)) (fun p hp => hG p (List.mem_cons_of_mem _ hp)) (fun p hp => hCs p (List.mem_cons_of_mem _ hp)) (fun p hp => hX p (List.mem_cons_of_mem _ hp)) (fun p hp => hM p (List.mem_cons_of_mem _ hp))
    intro p hp
    rcases List.mem_cons.mp hp with z | z
    · rw [z]; exact good
    · exact ih p z
/-- the check of a def that is handed calls -/
def metD (xc : List String) (q : Str × List (Nat × HC) × Option D) (p : Df × Stmt) : Bool := decide (p.1.pl = .fn q.1) && (decide (p.1.name = q.1) && (fnScopeC p.1.N p.1.ps (defScope p.2) && (match p.1.ps with
  | [a] => decide (p.1.N[0]? = some a) && (decide ((defScope p.2).names.lookup a = some .local) && (!(a == ("__debug__" : Str)) && (!(a == ("__classdict__" : Str)) && (Nat.blt 1 p.1.N.length && metB xc p.1.N (defScope p.2) a q.2.1 q.2.2 (defBody p.2)))))
  | _ => false)))
theorem metD_ok {xc : List String} {q : Str × List (Nat × HC) × Option D} {p : Df × Stmt} (T : Told K mg p.1 p.2) (B : BindOk (defArgs p.2) p.1.ps) (h : metD xc q p = true) : MetG K mg xc q := by
  obtain ⟨d, st⟩ := p
  unfold metD at h
  simp only [Bool.and_eq_true, decide_eq_true_eq] at h
  obtain ⟨h1, h2, h3, h4⟩ := h
  obtain ⟨f, fd, F, m⟩ := T
  have bd : Binds K fd d.ps [] := F.bindsN fun kV doc pm an cdv ct us hl => B _ _ _ _ kV doc pm an cdv ct us hl
  have S := fnScopeC_ok h3
  have hq : d.qual = d.name := by unfold Df.qual; rw [h1]
  unfold Where at m
  rw [h1] at m
  split at h4
  · rename_i a ea
    simp only [Bool.and_eq_true, decide_eq_true_eq, Bool.not_eq_true'] at h4
    obtain ⟨g1, g2, g3, g4, g5, g6⟩ := h4
    obtain ⟨oc, od, dV, kV, doc, pm, an, cdv, ct, osl, rfl, lk, hcd, _, _⟩ := F.ex
    rw [hq, h2] at lk hcd bd
    rw [ea] at S bd
    exact ⟨f, _, _, _, _, _, _, _, _, _, _, _, _, _, a, d.N, m.1, m.2.1, lk, hcd, bd, S, g1, .inl g2, g3, g4, Nat.le_of_ble_eq_true g5, g6⟩
  · cases h4
end

/-! ### module constants -/
mutual
def datB (K : PySem.W.Frag) : D → Value → Bool
  | .non, u => (match u with | .none => true | _ => false)
  | .bl b, u => (match u with | .bool c => decide (b = c) | _ => false)
  | .int i, u => (match u with | .int j _ => decide (i = j) | _ => false)
  | .str x, u => (match u with | .str y _ => decide (x = y) | _ => false)
  | .tup ds, u => (match u with
    | .ref a => (match K.lookup a with
      | some ⟨.type c, _, .seq its _, _⟩ => decide (c = "tuple") && decide (its.size ≤ sizeLine) && datBs K ds its.toList
      | _ => false)
    | _ => false)
  | _, _ => false
def datBs (K : PySem.W.Frag) : List D → List Value → Bool
  | [], us => (match us with | [] => true | _ => false)
  | d :: ds, us => (match us with | u :: us => datB K d u && datBs K ds us | _ => false)
end
mutual
theorem datB_ok {K : PySem.W.Frag} : ∀ (d : D) {u : Value}, datB K d u = true → ∃ v, RelV v u ∧ ∀ O H, Rp K O H v d
  | .non, u, h => by
    unfold datB at h
    split at h
    · exact ⟨.non, rfl, fun _ _ => .non⟩
    · cases h
  | .bl b, u, h => by
    unfold datB at h
    split at h
    · have e := of_decide_eq_true h; subst e; exact ⟨.bl b, rfl, fun _ _ => .bl b⟩
    · cases h
  | .int b, u, h => by
    unfold datB at h
    split at h
    · have e := of_decide_eq_true h; subst e; exact ⟨.int b, ⟨_, rfl⟩, fun _ _ => .int b⟩
    · cases h
  | .str b, u, h => by
    unfold datB at h
    split at h
    · have e := of_decide_eq_true h; subst e; exact ⟨.str b, ⟨_, rfl⟩, fun _ _ => .str b⟩
    · cases h
  | .tup ds, u, h => by
    unfold datB at h
    split at h
    · rename_i a
      split at h
      · rename_i c dd its n sl q
        simp only [Bool.and_eq_true, decide_eq_true_eq] at h
        obtain ⟨⟨h1, h2⟩, h3⟩ := h
        subst h1
        obtain ⟨vs, r, rp⟩ := datBs_ok ds h3
        refine ⟨.ref a, rfl, fun O H => .tup (.inr ⟨_, its, n, q, rfl, rfl, h2, r⟩) ?_ (rp O H)⟩
        have := r.length
        rw [this]; simpa using h2
      · cases h
    · cases h
  | .lst _, _, h => by simp [datB] at h
  | .ref _, _, h => by simp [datB] at h
  | .ty _, _, h => by simp [datB] at h
  | .scr _, _, h => by simp [datB] at h
theorem datBs_ok {K : PySem.W.Frag} : ∀ (ds : List D) {us : List Value}, datBs K ds us = true → ∃ vs, Vals vs us ∧ ∀ O H, Rps K O H vs ds
  | [], us, h => by
    unfold datBs at h
    split at h
    · exact ⟨[], .nil, fun _ _ => .nil⟩
    · cases h
  | d :: ds, us, h => by
    unfold datBs at h
    split at h
    · rw [Bool.and_eq_true] at h
      obtain ⟨v, r, rp⟩ := datB_ok d h.1
      obtain ⟨vs, rs, rps⟩ := datBs_ok ds h.2
      exact ⟨v :: vs, .cons r rs, fun O H => .cons (rp O H) (rps O H)⟩
    · cases h
end
/-! ### the head's facts -/
def glB (K : PySem.W.Frag) (g : Str × D) : Bool := match PySem.W.nsIn K mainGlobals g.1 with
  | some (some u) => datB K g.2 u
  | _ => false
/-- a property's getter -/
def gtA (K : PySem.W.Frag) (p : Addr) : Addr := match PySem.W.recIn K p "property" with
  | some (.ref g :: _) => g
  | _ => 0
def adOf (K : PySem.W.Frag) (d : Df) : Addr := match d.pl with
  | .fn x => He.ga K x
  | .me c => He.ma K (He.ga K c) d.name
  | .ini c => He.ma K (He.ga K c) d.name
  | .pr c => gtA K (He.ma K (He.ga K c) d.name)
def seeD (K : PySem.W.Frag) (d : Df) : He.FnW := match K.lookup (adOf K d) with
  | some ⟨_, _, .func fd, _⟩ => some (fd.name, fd.qualname, fd.params, fd.body, fd.scope, fd.globals, fd.closure, fd.builtins)
  | _ => none
def valOf (p : Df × Stmt) : He.FnW := some (p.1.name, p.1.qual, defArgs p.2, .stmts (defBody p.2), defScope p.2, mainGlobals, [], builtinsNs)
def isD (K : PySem.W.Frag) (d : Df) : Bool := PySem.W.keepIn K (.ref (adOf K d)) && (match K.lookup (adOf K d) with
  | some ⟨_, _, .func fd, _⟩ => PySem.W.codeIn K fd.code d.qual && (He.dflB K fd.defaults [] && He.kwdB K fd.kwdefaults [])
  | _ => false)
def plB (K : PySem.W.Frag) (d : Df) : Bool := match d.pl with
  | .fn x => (He.Fa.glo x).ok K
  | .me c => (He.Fa.meth c d.name).ok K
  | .ini c => (He.Fa.mkr c).ok K && decide (d.name = ("__init__" : Str))
  | .pr c => He.eqO (PySem.W.findIn K (.ref (He.ga K c)) d.name) (some (some (.ref (He.ma K (He.ga K c) d.name)))) && (He.eqO (PySem.W.specialIn K (.ref (He.ma K (He.ga K c) d.name)) "__get__") (some (some (.builtin "property.__get__"))) &&
    (decide (PySem.W.takesIn K (.ref (He.ma K (He.ga K c) d.name)) = some true) && (match PySem.W.recIn K (He.ma K (He.ga K c) d.name) "property" with
      | some (.ref g :: _) => decide (g = adOf K d)
      | _ => false)))
theorem see_ok {K : PySem.W.Frag} {p : Df × Stmt} (e : seeD K p.1 = valOf p) (c : isD K p.1 = true) : ∃ fd, FunD K p.1.name p.1.qual (defArgs p.2) (defBody p.2) (defScope p.2) [] [] (adOf K p.1) fd := by
  obtain ⟨kp, c2⟩ := He.ba c
  unfold seeD at e
  cases q : K.lookup (adOf K p.1) with
  | none => rw [q] at c2; cases c2
  | some o =>
    obtain ⟨oc, od, dt, osl⟩ := o
    rw [q] at c2 e
    cases dt with
    | func fd =>
      obtain ⟨n1, n2, n3, n4, n5, n6, n7, n8, n9, n10, n11, n12, n13, n14, n15⟩ := fd
      have e2 : (some (n1, n2, n3, n4, n5, n6, n7, n15) : He.FnW) = valOf p := e
      unfold valOf at e2
      simp only [Option.some.injEq, Prod.mk.injEq] at e2
      obtain ⟨h1, h2, h3, h4, h5, h6, h7, h8⟩ := e2
      subst h1 h2 h3 h4 h5 h6 h7 h8
      obtain ⟨k1, k2⟩ := He.ba (show (PySem.W.codeIn K n13 p.1.qual && (He.dflB K n8 [] && He.kwdB K n9 [])) = true from c2)
      obtain ⟨k3, k4⟩ := He.ba k2
      exact ⟨_, ⟨oc, od, n8, n9, n10, n11, n12, n13, n14, osl, rfl, q, k1, He.dflB_ok k3, He.kwdB_ok k4⟩, kp⟩
    | _ => cases c2
theorem pl_ok {K : PySem.W.Frag} {h : Heap} {mg : Str → Option Value} (X : K.In h) (G : h.Ns mainGlobals mg) {d : Df} (c : plB K d = true) (kp : PySem.W.keepIn K (.ref (adOf K d)) = true) : Where K mg d (adOf K d) := by
  unfold plB at c
  unfold Where
  unfold adOf at kp ⊢
  cases e : d.pl with
  | fn x => simp only [e] at c kp ⊢; exact ⟨He.glo_ok X G c, kp, by first | rfl | trivial⟩
  | me cl => simp only [e] at c ⊢; exact He.meth_ok c
  | ini cl =>
    simp only [e] at c ⊢
    obtain ⟨c1, c2⟩ := He.ba c
    rw [of_decide_eq_true c2]
    exact He.mkr_ok c1
  | pr cl =>
    simp only [e] at c ⊢
    obtain ⟨c1, c⟩ := He.ba c
    obtain ⟨c2, c⟩ := He.ba c
    obtain ⟨c3, c4⟩ := He.ba c
    refine ⟨_, He.eqO_ok c1, He.eqO_ok c2, of_decide_eq_true c3, ?_⟩
    split at c4
    · rename_i g r q
      have e2 := of_decide_eq_true c4
      have e3 : adOf K d = gtA K (He.ma K (He.ga K cl) d.name) := by unfold adOf; rw [e]
      rw [e3] at e2
      rw [← e2]
      exact ⟨r, q⟩
    · cases c4
/-! ### the facts of classes -/
def slB (K : PySem.W.Frag) (C : Addr) : Nat → List Str → Bool
  | _, [] => true
  | i, f :: r => (if f = neS then He.eqO (PySem.W.findIn K (.ref C) "__ne__") (some (some (.builtin "object.__ne__"))) else
    He.eqO (PySem.W.findIn K (.ref C) f) (some (some (.ref (He.ma K C f)))) && (He.eqO (PySem.W.specialIn K (.ref (He.ma K C f)) "__get__") (some (some (.builtin "member_descriptor.__get__"))) && (decide (PySem.W.takesIn K (.ref (He.ma K C f)) = some true) &&
    (decide (PySem.W.typeIn K (.ref (He.ma K C f)) = some (.type "member_descriptor")) && (decide (PySem.W.slotIn K (He.ma K C f) C = some i) && Nat.blt i 1000))))) && slB K C (i + 1) r
theorem slB_ok {K : PySem.W.Frag} {C : Addr} : ∀ {n : Nat} {l : List Str}, slB K C n l = true → (∀ (i : Nat) (f : Str), l[i]? = some f → f ≠ neS → ∃ p, SlX.Slot1 K C f p (n + i)) ∧ (neS ∈ l → PySem.W.findIn K (.ref C) "__ne__" = some (some (.builtin "object.__ne__")))
  | n, [], _ => ⟨fun i f e => by simp at e, fun h => nomatch h⟩
  | n, g :: r, h => by
    unfold slB at h
    obtain ⟨h, h7⟩ := He.ba h
    obtain ⟨q1, q2⟩ := slB_ok h7
    by_cases e0 : g = neS
    · rw [if_pos e0] at h
      refine ⟨fun i f e hn => ?_, fun _ => He.eqO_ok h⟩
      cases i with
      | zero => cases e; exact absurd e0 hn
      | succ i =>
        obtain ⟨p, q⟩ := q1 i f e hn
        exact ⟨p, by rw [show n + (i + 1) = n + 1 + i by omega]; exact q⟩
    · rw [if_neg e0] at h
      obtain ⟨h1, h⟩ := He.ba h
      obtain ⟨h2, h⟩ := He.ba h
      obtain ⟨h3, h⟩ := He.ba h
      obtain ⟨h4, h⟩ := He.ba h
      obtain ⟨h5, h6⟩ := He.ba h
      refine ⟨fun i f e hn => ?_, fun m => ?_⟩
      · cases i with
        | zero => cases e; exact ⟨_, He.eqO_ok h1, He.eqO_ok h2, of_decide_eq_true h3, of_decide_eq_true h4, of_decide_eq_true h5, Nat.le_of_ble_eq_true h6⟩
        | succ i =>
          obtain ⟨p, q⟩ := q1 i f e hn
          exact ⟨p, by rw [show n + (i + 1) = n + 1 + i by omega]; exact q⟩
      · rcases List.mem_cons.mp m with z | z
        · exact absurd z.symm e0
        · exact q2 z
def cl1B (K : PySem.W.Frag) (p : String × List Str) : Bool := (He.Fa.glo p.1).ok K && (PySem.W.plainGet K (He.ga K p.1) Str.empty && (PySem.W.isClsIn K (He.ga K p.1) && (PySem.W.plainOver K (He.ga K p.1) &&
  (He.eqO (PySem.W.findIn K (.ref (He.ga K p.1)) "__setattr__") (some (some (.builtin "object.__setattr__"))) && (He.eqO (PySem.W.findIn K (.ref (He.ga K p.1)) "__class__") (some (some (.builtin "object.__class__"))) &&
  (He.eqO (PySem.W.specialIn K (.builtin "object.__class__") "__get__") (some (some (.builtin "getset_descriptor.__get__"))) && (decide (PySem.W.takesIn K (.builtin "object.__class__") = some true) && (decide (PySem.W.mroIn K (He.ga K p.1) (.type "object") = some true) && slB K (He.ga K p.1) 0 p.2))))))))
def clsB (K : PySem.W.Frag) (cls : List (String × List Str)) : Bool := (cls.all (cl1B K)) && ((cls.all fun p => cls.all fun r => decide (PySem.W.kitOne K (.ref (He.ga K p.1)) (.ref (He.ga K r.1)) = some (p.1 == r.1))) && ((tys7.all fun t => cls.all fun r => decide (PySem.W.kitOne K (.type t) (.ref (He.ga K r.1)) = some false)) && (isiTys.all fun t => cls.all fun r => decide (PySem.W.kitOne K (.ref (He.ga K r.1)) (.type t) = some false))))
theorem cls_ok {K : PySem.W.Frag} {h : Heap} {mg : Str → Option Value} (X : K.In h) (G : h.Ns mainGlobals mg) {cls : List (String × List Str)} (c : clsB K cls = true) : ClsA K cls ∧ ∀ p ∈ cls, mg p.1 = some (.ref (He.ga K p.1)) := by
  obtain ⟨c1, c⟩ := He.ba c
  obtain ⟨c2, c3⟩ := He.ba c
  obtain ⟨c3, c4⟩ := He.ba c3
  refine ⟨⟨fun p hp => ?_, fun p hp r hr => of_decide_eq_true (List.all_eq_true.mp (List.all_eq_true.mp c2 p hp) r hr), fun t ht r hr => of_decide_eq_true (List.all_eq_true.mp (List.all_eq_true.mp c3 t ht) r hr), fun t ht r hr => of_decide_eq_true (List.all_eq_true.mp (List.all_eq_true.mp c4 t ht) r hr)⟩, fun p hp => ?_⟩
  · have q := List.all_eq_true.mp c1 p hp
    unfold cl1B at q
    obtain ⟨_, q⟩ := He.ba q
    obtain ⟨q1, q⟩ := He.ba q
    obtain ⟨q2, q⟩ := He.ba q
    obtain ⟨q3, q⟩ := He.ba q
    obtain ⟨q4, q⟩ := He.ba q
    obtain ⟨q5, q⟩ := He.ba q
    obtain ⟨q6, q⟩ := He.ba q
    obtain ⟨q7, q⟩ := He.ba q
    obtain ⟨q8, q9⟩ := He.ba q
    refine ⟨⟨q1, q2, q3, He.eqO_ok q4⟩, ⟨He.eqO_ok q5, He.eqO_ok q6, of_decide_eq_true q7, of_decide_eq_true q8⟩, (slB_ok q9).2, fun i f e hn => ?_, ?_⟩
    · have := (slB_ok q9).1 i f e hn
      rwa [Nat.zero_add] at this
    · unfold PySem.W.notFirst; simp
  · have q := List.all_eq_true.mp c1 p hp
    unfold cl1B at q
    exact He.glo_ok X G (He.ba q).1
/-! ### the facts of errors' classes -/
def xc1B (K : PySem.W.Frag) (n : String) : Bool := (He.Fa.glo n).ok K && ((match xsup n with
  | none => PySem.W.excIn K (He.ga K n) [.type "ValueError", .type "Exception", .type "BaseException", .type "object"] "ValueError.__new__"
  | some p => supB K (He.ga K n) p.1 p.2 && (xfB K (He.ga K n) && decide (PySem.W.findIn K (.ref (He.ga K n)) p.1 = some none))) && (PySem.W.keepIn K (.ref (He.ga K n)) && (decide (PySem.W.subIn K (.ref (He.ga K n)) (.type "BaseException") = some true) && decide (PySem.W.typeIn K (.ref (He.ga K n)) = some (.type "type")))))
def xcB (K : PySem.W.Frag) (xc : List String) : Bool := xc.all (xc1B K) && ((if xc.contains "SeriesError" then xc.all (xvB K) else (List.range xc.length).all fun i => (List.range xc.length).all fun j => decide (PySem.W.exmOne K (.ref (He.ga K (xc.getD i ""))) (.ref (He.ga K (xc.getD j ""))) = some (decide (i = j)))))
/-- the text's own file, no own super -/
def FileOk (P : Program) : Prop := ((P.main.file : Str) == xFile) = true ∧ (P.main.scope.names.lookup ("super" : Str)).isSome = false
theorem xc_ok {K : PySem.W.Frag} {P : Program} {h : Heap} {mg : Str → Option Value} (fo : FileOk P) (X : K.In h) (G : h.Ns mainGlobals mg) {xc : List String} (c : xcB K xc = true) : XcA P K xc ∧ ∀ n ∈ xc, mg n = some (.ref (He.ga K n)) := by
  obtain ⟨c1, c2⟩ := He.ba c
  refine ⟨⟨fun hser n hn => ?_, fun n hn => ?_, fun hser i j n m hi hj => ?_⟩, fun n hn => ?_⟩
  · rw [if_pos hser] at c2
    exact xvB_ok (List.all_eq_true.mp c2 n (by simpa using hn))
  · have q := List.all_eq_true.mp c1 n hn
    unfold xc1B at q
    obtain ⟨_, q⟩ := He.ba q
    obtain ⟨q1, q⟩ := He.ba q
    obtain ⟨q2, q⟩ := He.ba q
    obtain ⟨q3, q4⟩ := He.ba q
    refine ⟨fun e => ?_, q2, of_decide_eq_true q3, of_decide_eq_true q4, fun p e => ?_⟩
    · rw [e] at q1; exact q1
    · rw [e] at q1
      simp only [Bool.and_eq_true, decide_eq_true_eq] at q1
      exact ⟨supB_ok fo.1 fo.2 q1.1, xfB_ok q1.2.1, q1.2.2⟩
  · have li : i < xc.length := (List.getElem?_eq_some_iff.mp hi).1
    have lj : j < xc.length := (List.getElem?_eq_some_iff.mp hj).1
    rw [if_neg (by rw [hser]; simp)] at c2
    have q := List.all_eq_true.mp (List.all_eq_true.mp c2 i (List.mem_range.mpr li)) j (List.mem_range.mpr lj)
    have e1 : xc.getD i "" = n := by rw [List.getD_eq_getElem?_getD, hi]; rfl
    have e2 : xc.getD j "" = m := by rw [List.getD_eq_getElem?_getD, hj]; rfl
    rw [e1, e2] at q
    exact of_decide_eq_true q
  · have q := List.all_eq_true.mp c1 n hn
    unfold xc1B at q
    exact He.glo_ok X G (He.ba q).1
/-! ### the seer -/
def seerB (K : PySem.W.Frag) : Bool := (K.lookup cStatics).isSome && ((K.lookup sysModules).isSome && ((K.lookup builtinsNs).isSome && ((K.lookup mainGlobals).isSome && (match PySem.W.nsIn K mainGlobals "__builtins__" with
  | some (some (.ref b)) => (K.lookup b).isSome
  | _ => false))))
theorem in_at {K : PySem.W.Frag} {h b : Heap} {a : Addr} {o : Obj} (X : K.In h) (Y : K.In b) (s : (K.lookup a).isSome = true) (e : h.get? a = some o) : b.get? a = some o := by
  cases q : K.lookup a with
  | none => rw [q] at s; cases s
  | some u =>
    have := (X a u q).symm.trans e
    rw [← this]
    exact Y a u q
theorem seer_ok {K : PySem.W.Frag} {h : Heap} (X : K.In h) (N : h.NoSeer) (c : seerB K = true) (b : Heap) (Y : K.In b) : b.NoSeer := by
  obtain ⟨c1, c⟩ := He.ba c
  obtain ⟨c2, c⟩ := He.ba c
  obtain ⟨c3, c⟩ := He.ba c
  obtain ⟨c4, c5⟩ := He.ba c
  obtain ⟨mc, ⟨o1, es1, ep1, h1, r1⟩, z1⟩ := N.statics
  obtain ⟨mm, ⟨o2, es2, ep2, h2, r2⟩, z2⟩ := N.mods
  obtain ⟨mb, ⟨o3, es3, ep3, h3, r3⟩, z3⟩ := N.imp
  obtain ⟨mg, bm, ob, ⟨o4, es4, ep4, h4, r4⟩, g1, g2, g3⟩ := N.main
  have G : h.Ns mainGlobals mg := ⟨o4, es4, ep4, h4, r4⟩
  refine ⟨⟨mc, ⟨o1, es1, ep1, in_at X Y c1 h1, r1⟩, z1⟩, ⟨mm, ⟨o2, es2, ep2, in_at X Y c2 h2, r2⟩, z2⟩, ⟨mb, ⟨o3, es3, ep3, in_at X Y c3 h3, r3⟩, z3⟩, ⟨mg, bm, ob, ⟨o4, es4, ep4, in_at X Y c4 h4, r4⟩, g1, in_at X Y ?_ g2, g3⟩⟩
  split at c5
  · rename_i b' e
    have := PySem.W.mg_of X G e
    rw [g1] at this
    have e2 := Value.ref.inj (Option.some.inj this)
    rw [e2]
    exact c5
  · cases c5
/-! ### the part of the heap that is looked at -/
def nxt (o : Obj) : List Addr := match o.data with
  | .func fd => He.refV fd.code ++ (He.refV fd.defaults ++ fd.closure.map (·.2))
  | .cls cd => cd.ns :: cd.mro.flatMap He.refV
  | .seq its _ => its.toList.flatMap He.refV
  | .dict es _ => es.toList.flatMap fun e => He.refV e.val
  | .fields vs => if o.cls == .type "property" then vs.toList.flatMap He.refV else []
  | _ => []
def reach (g : Addr → Option Obj) : Nat → Addr → List Addr
  | 0, a => [a]
  | n + 1, a => a :: (match g a with
    | some o => ((nxt o).filter fun b => !(Nat.beq b a)).flatMap (reach g n)
    | none => [])
def partG (n : Nat) (g : Addr → Option Obj) : PySem.W.Frag := He.frG g (cStatics :: sysModules :: builtinsNs :: reach g n mainGlobals)
/-! ### the tables of code objects of the defs that make lambdas -/
def tb1B (K KT : PySem.W.Frag) (x : Str) : Bool := match PySem.W.tabIn K x with
  | some (c, P) => PySem.W.codeHdIn K c P && ((K.lookup P).isNone && (match KT.lookup P with
    | some ⟨.none, none, .fields vs, sl⟩ => decide (vs.toList = []) && decide (sl.toList = [])
    | _ => false))
  | none => false
def tbAs (K : PySem.W.Frag) (lam : List Str) : List Addr := lam.filterMap fun x => (PySem.W.tabIn K x).map (·.2)
def tabsQ (lam : List Str) (K KT : PySem.W.Frag) : Bool := lam.all (tb1B K KT) && decide ((tbAs K lam).Nodup)
theorem tb1_ok {K KT : PySem.W.Frag} {h : Heap} (X : K.In h) (Y : KT.In h) {x : Str} {c P : Addr} (e : PySem.W.tabIn K x = some (c, P)) (q : tb1B K KT x = true) : h.get? P = some { cls := .none, data := .fields #[] } ∧ K.lookup P = none ∧ PySem.W.CodeHd h c P := by
  unfold tb1B at q
  rw [e] at q
  simp only [Bool.and_eq_true, Option.isNone_iff_eq_none] at q
  obtain ⟨q1, q2, q3⟩ := q
  refine ⟨?_, q2, PySem.W.codeHd_of_K X q1⟩
  split at q3
  · rename_i vs sl ek
    simp only [Bool.and_eq_true, decide_eq_true_eq] at q3
    obtain ⟨e1, e2⟩ := q3
    obtain ⟨vs⟩ := vs
    obtain ⟨sl⟩ := sl
    simp only at e1 e2
    subst e1 e2
    exact Y _ _ ek
  · cases q3
abbrev AlQ : Type := Bool × List He.FnW
def obsQ (cls : List (String × List Str)) (xc : List String) (tab : List (Df × Stmt)) (gs : List (Str × D)) (lam : List Str) (K KT : PySem.W.Frag) : AlQ :=
  (seerB K && ((blts.all fun x => (He.Fa.free x).ok K) && (clsB K cls && (xcB K xc && (tabsQ lam K KT && ((tab.all fun p => isD K p.1 && plB K p.1) && gs.all (glB K)))))), tab.map fun p => seeD K p.1)
def valQ (tab : List (Df × Stmt)) : AlQ := (true, tab.map valOf)
def SaysQ (cls : List (String × List Str)) (xc : List String) (tab : List (Df × Stmt)) (gs : List (Str × D)) (lam : List Str) (K KT : PySem.W.Frag) : Prop := obsQ cls xc tab gs lam K KT = valQ tab
def obsQG (n : Nat) (cls : List (String × List Str)) (xc : List String) (tab : List (Df × Stmt)) (gs : List (Str × D)) (lam : List Str) (g : Addr → Option Obj) : AlQ := obsQ cls xc tab gs lam (partG n g) (He.frG g (tbAs (partG n g) lam))
def hookQ (n : Nat) (cls : List (String × List Str)) (xc : List String) (tab : List (Df × Stmt)) (gs : List (Str × D)) (lam : List Str) : PySem.W.Hook where
  α := AlQ
  obs := fun s => obsQG n cls xc tab gs lam s.heap.get?
  val := fun _ => valQ tab
  says := fun _ h => ∃ K KT : PySem.W.Frag, K.In h ∧ KT.In h ∧ SaysQ cls xc tab gs lam K KT
  of := fun _ _ e => ⟨_, _, He.frG_in, He.frG_in, e⟩
  keeps := fun _ _ _ ⟨K, KT, hK, hT, c⟩ k => ⟨K, KT, PySem.W.Frag.In.keeps hK k, PySem.W.Frag.In.keeps hT k, c⟩
theorem obsQG_eq {n : Nat} {cls : List (String × List Str)} {xc : List String} {tab : List (Df × Stmt)} {gs : List (Str × D)} {lam : List Str} {g : Addr → Option Obj} {s : Shared} (h : ∀ a, g a = s.heap.get? a) : obsQG n cls xc tab gs lam g = (hookQ n cls xc tab gs lam).obs s := by
  have e : g = s.heap.get? := funext h
  rw [e] <;> rfl
section
variable {K KT : PySem.W.Frag} {mg : Str → Option Value} {h : Heap} {cls : List (String × List Str)} {xc : List String} {tab : List (Df × Stmt)} {gs : List (Str × D)} {lam : List Str}
theorem says_ok {P : Program} (fo : FileOk P) (X : K.In h) (G : h.Ns mainGlobals mg) (c : SaysQ cls xc tab gs lam K KT) : (∀ p ∈ tab, Told K mg p.1 p.2) ∧ (∀ x ∈ blts, mg x = none) ∧ (∀ g ∈ gs, ∃ (u : Value) (v : V), mg g.1 = some u ∧ RelV v u ∧ ∀ O H, Rp K O H v g.2) ∧ (ClsA K cls ∧ ∀ p ∈ cls, mg p.1 = some (.ref (He.ga K p.1))) ∧ (XcA P K xc ∧ ∀ n ∈ xc, mg n = some (.ref (He.ga K n))) ∧ seerB K = true ∧ tabsQ lam K KT = true := by
  obtain ⟨c1, c2⟩ := Prod.mk.inj (show (_, _) = (_, _) from c)
  obtain ⟨s1, c1⟩ := He.ba c1
  obtain ⟨s2, c1⟩ := He.ba c1
  obtain ⟨s3, c1⟩ := He.ba c1
  obtain ⟨s6, c1⟩ := He.ba c1
  obtain ⟨s7, c1⟩ := He.ba c1
  obtain ⟨s4, s5⟩ := He.ba c1
  refine ⟨fun p hp => ?_, fun x hx => He.free_ok X G (List.all_eq_true.mp s2 x hx), fun g hg => ?_, cls_ok X G s3, xc_ok fo X G s6, s1, s7⟩
  · obtain ⟨q1, q2⟩ := He.ba (List.all_eq_true.mp s4 p hp)
    obtain ⟨i, e⟩ := List.mem_iff_getElem?.mp hp
    have e2 : (tab.map fun p => seeD K p.1)[i]? = (tab.map valOf)[i]? := by rw [c2]
    rw [List.getElem?_map, List.getElem?_map, e] at e2
    obtain ⟨fd, F⟩ := see_ok (Option.some.inj e2) q1
    exact ⟨_, fd, F, pl_ok X G q2 (He.ba q1).1⟩
  · have q := List.all_eq_true.mp s5 g hg
    unfold glB at q
    split at q
    · rename_i u e
      obtain ⟨v, r, rp⟩ := datB_ok g.2 q
      exact ⟨u, v, PySem.W.mg_of X G e, r, rp⟩
    · cases q
theorem obsQ_app {t1 t2 : List (Df × Stmt)} {g1 : List (Str × D)} {KT2 : PySem.W.Frag} (a : obsQ cls xc t1 g1 lam K KT = valQ t1) (b : obsQ [] [] t2 [] [] K KT2 = valQ t2) : obsQ cls xc (t1 ++ t2) g1 lam K KT = valQ (t1 ++ t2) := by
  obtain ⟨a1, a2⟩ := Prod.mk.inj (show (_, _) = (_, _) from a)
  obtain ⟨b1, b2⟩ := Prod.mk.inj (show (_, _) = (_, _) from b)
  simp only [Bool.and_eq_true] at a1 b1
  unfold obsQ valQ
  refine Prod.ext ?_ ?_
  · simp only [Bool.and_eq_true, List.all_append]
    exact ⟨a1.1, a1.2.1, a1.2.2.1, a1.2.2.2.1, a1.2.2.2.2.1, ⟨a1.2.2.2.2.2.1, b1.2.2.2.2.2.1⟩, a1.2.2.2.2.2.2⟩
  · show List.map _ _ = List.map _ _
    rw [List.map_append, List.map_append, a2, b2]
theorem map_obsQ {o : Option PySem.W.SharedT} {n : Nat} {t1 t2 : List (Df × Stmt)} {g1 : List (Str × D)} (a : o.map (fun s => obsQG n cls xc t1 g1 lam (HandSHeadRun.getT s)) = some (valQ t1)) (b : o.map (fun s => obsQG n [] [] t2 [] [] (HandSHeadRun.getT s)) = some (valQ t2)) :
    o.map (fun s => obsQG n cls xc (t1 ++ t2) g1 lam (HandSHeadRun.getT s)) = some (valQ (t1 ++ t2)) := by
  cases o with
  | none => cases a
  | some s => exact congrArg some (obsQ_app (Option.some.inj a) (Option.some.inj b))
end
end DL

/-! DL15: from defs to the law; lemmas for loops. -/
namespace DL
open PySem PySem.Spec PyProof.Rows L2
theorem FnOk.to0 {P : Program} {w : World} {K : PySem.W.Frag} {mg : Str → Option Value} {base : Heap} {k : Nat} {f : Addr} {fd : FuncData} {ps : List Str} {sp : Sp} (F : FnOk P w K mg base (L2.CX P w) k f fd ps sp) :
    FnOk P w K mg base CX0 k f fd ps (fun vs H Q _ => sp vs H Q E0) :=
  ⟨fun vs H Q E h => F.len vs H Q E0 h, fun A outer s H args us vs Q E hr e0 hb r h => codeAny_mono (F.run A outer s H args us vs Q E0 hr e0 hb r h) fun q s' hq => by
    cases q with
    | ok fl => cases fl <;> exact hq
    | error e =>
      have hq : L2.CX P w outer H s E0 e s' := hq
      obtain ⟨_, _, _, _, _, _, _, _, _, _, _, _, z⟩ := hq
      exact z.elim⟩
theorem law_of {L : Lnk} {K : PySem.W.Frag} {F : FSp} {H : Hp} {a : Addr} {ns : List Int} (hl : ns.length ≤ 63) (hO : Only H) (hS : SqL K H a (ns.map V.int)) (h : F [.scr ns] (fun _ => none) xNo fun d _ => d = .bl true) : spOf L K F [.ref a] H (fun v _ => v = .bl true) E0 := by
  have z : ns.length ≤ sizeLine := Nat.le_trans hl (by decide)
  have rp : Rp K (fun _ => False) H (.ref a) (.scr ns) := by
    rcases hS with (h | ⟨o, h⟩) | h
    · rcases hO a with e | ⟨o, xs, e⟩ <;> rw [e] at h <;> cases h
    · exact .scr z h
    · exact .scrK z fun H' => .inr h
  refine ⟨[.scr ns], fun _ => none, fun _ => False, xNo, _, ⟨fun a ds h => (nomatch h), fun a h => h.elim, fun _ _ _ _ h => (nomatch h), fun _ h => (nomatch h), fun _ _ _ _ _ _ _ h => (nomatch h), fun _ _ h => (nomatch h)⟩, .cons rp .nil, h, fun _ _ _ _ _ _ _ _ _ _ z => z.elim, fun v H' d S' O' r _ _ q => ?_⟩
  subst q
  cases r
  rfl
/-! ### known values -/
section
variable {S : Sto} {p : Addr} {ds : List D} {k : List D → (Sto → Prop) → Prop}
theorem res_i {i : Int} : res S (.int i) = .int i := rfl
theorem res_b {i : Bool} : res S (.bl i) = .bl i := rfl
theorem res_s {i : Str} : res S (.str i) = .str i := rfl
theorem res_n : res S .non = .non := rfl
theorem res_t {i : List D} : res S (.tup i) = .tup i := rfl
theorem res_l {i : List D} : res S (.lst i) = .lst i := rfl
theorem res_c {i : List Int} : res S (.scr i) = .scr i := rfl
theorem res_ob {c : String} {i : List D} : res S (.obj c i) = .obj c i := rfl
theorem res_dc : res S .dct = .dct := rfl
theorem res_sup : res (sup S p (.lst ds)) (.ref p) = .lst ds := by unfold res; simp only [sup_same]
theorem res_of (h : S p = some (.lst ds)) : res S (.ref p) = .lst ds := by unfold res; simp only [h]
theorem seqD_t : seqD S (.tup ds) k = k ds fun _ => True := rfl
theorem seqD_l : seqD S (.lst ds) k = k ds fun _ => True := rfl
theorem seqD_c {i : List Int} : seqD S (.scr i) k = k (i.map .int) fun _ => True := rfl
theorem seqD_sup : seqD (sup S p (.lst ds)) (.ref p) k = k ds fun S' => S' p = some (.lst ds) := by unfold seqD; simp only [sup_same]
theorem seqD_of (h : S p = some (.lst ds)) : seqD S (.ref p) k = k ds fun S' => S' p = some (.lst ds) := by unfold seqD; simp only [h]
theorem at2_0 {a b : D} : atD [a, b] 0 = some a := rfl
theorem at2_1 {a b : D} : atD [a, b] 1 = some b := rfl
theorem at3_0 {a b c : D} : atD [a, b, c] 0 = some a := rfl
theorem at3_1 {a b c : D} : atD [a, b, c] 1 = some b := rfl
theorem at3_2 {a b c : D} : atD [a, b, c] 2 = some c := rfl
theorem ix3_0 : L2.ixN 3 0 = some 0 := rfl
theorem ix3_1 : L2.ixN 3 1 = some 1 := rfl
theorem ix3_2 : L2.ixN 3 2 = some 2 := rfl
theorem at_nat {xs : List D} {i : Nat} {d : D} (h : xs[i]? = some d) : atD xs (i : Int) = some d := L2.atI_nat h
theorem at_last {xs : List D} {d : D} (h : xs.getLast? = some d) : atD xs (-1) = some d := by
  have hne : xs ≠ [] := fun e => by rw [e] at h; cases h
  have e : xs = xs.dropLast ++ [d] := by
    rw [List.getLast?_eq_some_getLast hne] at h
    cases h
    exact (List.dropLast_concat_getLast hne).symm
  rw [e]
  exact L2.atI_last _ _
theorem ix_nat {n i : Nat} (h : i < n) : L2.ixN n (i : Int) = some i := by
  unfold L2.ixN
  rw [if_pos (by omega), if_pos (by omega)]
  rfl
theorem cut_to {xs : List D} {m : Nat} (h : m ≤ xs.length) : cutD xs none (some (m : Int)) = xs.take m := by
  unfold cutD
  rw [HT.sIx_none, HT.sIx_nat]
  have e : min m xs.length = m := by omega
  rw [e, List.drop_zero, Nat.sub_zero]
theorem cut_from {xs : List D} {m : Nat} (h : m ≤ xs.length) : cutD xs (some (m : Int)) none = xs.drop m := by
  unfold cutD
  rw [HT.sIx_none, HT.sIx_nat]
  have e : min m xs.length = m := by omega
  rw [e]
  exact List.take_of_length_le (by rw [List.length_drop]; exact Nat.le_refl _)
theorem cut_last {xs : List D} : cutD xs none (some (-1)) = xs.dropLast := by
  unfold cutD
  rw [HT.sIx_none, List.drop_zero, Nat.sub_zero, List.dropLast_eq_take]
  have e : HT.sIx xs.length xs.length (some (-1)) = ((-1 : Int) + (xs.length : Int)).toNat := by
    show (if (-1 : Int) < 0 then ((-1 : Int) + (xs.length : Int)).toNat else min (-1 : Int).toNat xs.length) = _
    exact if_pos (by decide)
  rw [e]
  congr 1
  omega
/-- turned round -/
theorem pick_rev {α : Type} (xs : List α) : pick xs none none (-1) = xs.reverse := by
  unfold pick
  have h1 : (Builtin.Slice.sliceAdjust none none (-1) (xs.length : Int)) = ((xs.length : Int) - 1, -1) := rfl
  rw [h1]
  have h2 : Builtin.Slice.slicePlaces ((xs.length : Int) - 1) (-1) (-1) = xs.length := by
    unfold Builtin.Slice.slicePlaces
    have q : ¬ ((-1 : Int) > 0) := by decide
    simp only [q, if_false]
    split
    · have : ((xs.length : Int) - 1 - -1 - 1) / (- -1) = (xs.length : Int) - 1 := by
        rw [show (- -1 : Int) = 1 by decide, Int.ediv_one]; omega
      rw [this]; omega
    · omega
  rw [h2]
  have f : ∀ k ∈ List.range xs.length, xs[((xs.length : Int) - 1 + (k : Int) * -1).toNat]? = xs.reverse[k]? := fun k hk => by
    have hk := List.mem_range.mp hk
    have e1 : ((xs.length : Int) - 1 + (k : Int) * -1).toNat = xs.length - 1 - k := by omega
    rw [e1, List.getElem?_reverse hk]
  have f2 : ∀ l : List Nat, (∀ k ∈ l, xs[((xs.length : Int) - 1 + (k : Int) * -1).toNat]? = xs.reverse[k]?) → (l.filterMap fun (k : Nat) => xs[((xs.length : Int) - 1 + (k : Int) * -1).toNat]?) = l.filterMap fun (k : Nat) => xs.reverse[k]? := fun l h => by
    induction l with
    | nil => rfl
    | cons a l ih => simp only [List.filterMap_cons, h a List.mem_cons_self, ih fun k hk => h k (List.mem_cons_of_mem _ hk)]
  show ((List.range xs.length).filterMap fun (k : Nat) => xs[((xs.length : Int) - 1 + (k : Int) * -1).toNat]?) = _
  rw [f2 _ f]
  have f3 : ∀ ys : List α, ((List.range ys.length).filterMap fun (k : Nat) => ys[k]?) = ys := fun ys => by
    induction ys with
    | nil => rfl
    | cons y ys ih =>
      rw [List.length_cons, List.range_succ_eq_map, List.filterMap_cons]
      show y :: List.filterMap _ _ = _
      rw [List.filterMap_map]
      congr 1
  have := f3 xs.reverse
  rw [List.length_reverse] at this
  exact this
theorem mulOk {k l : Nat} {x y : Int} (h : x.natAbs < 2 ^ k) (h' : y.natAbs < 2 ^ l) (hk : k ≤ 2 ^ 26) (hl : l ≤ 2 ^ 26) : IntMulOk x y := by
  have bits : ∀ {k : Nat} {x : Int}, x.natAbs < 2 ^ k → Builtin.Int.intBits x ≤ k := fun {k x} h => by
    unfold Builtin.Int.intBits
    split
    · exact Nat.zero_le _
    · rename_i hx
      have hx0 : x.natAbs ≠ 0 := by
        intro e
        apply hx
        have : x = 0 := by omega
        simp [this]
      have := (Nat.log2_lt hx0).mpr h
      omega
  have b1 := bits h
  have b2 := bits h'
  have tb : Builtin.Int.intTooBig ((Builtin.Int.intBits x : Int) + (Builtin.Int.intBits y : Int)) = false := by
    unfold Builtin.Int.intTooBig; unfold bitsLine
    exact decide_eq_false fun z => by omega
  unfold IntMulOk; rw [tb, Bool.and_false]
  exact Bool.false_ne_true
theorem res_ty {d : D} {t : String} (h : typD d = some t) : res S d = d := by cases d <;> first | rfl | cases h
end
/-! ### loops -/
theorem forL_ind {bd : D → Env → Sto → (Env → Sto → Prop) → Prop} {body : DEnd → Env → Sto → Prop} {C : Sto → Prop} {E : DEnd} (I : List D → Env → Sto → Prop) (he : ∀ ρ S, I [] ρ S → C S ∧ E.nx ρ S)
    (hs : ∀ d rest ρ S (N : Env → Sto → Prop), I (d :: rest) ρ S → (∀ ρ S, I rest ρ S → N ρ S) → C S ∧ bd d ρ S fun ρ' S' => body { nx := N, ct := N, bk := E.nx, rt := E.rt } ρ' S') : ∀ ds ρ S, I ds ρ S → forL bd body C E ds ρ S
  | [], ρ, S, h => he ρ S h
  | d :: ds, ρ, S, h => hs d ds ρ S _ h fun ρ S h => forL_ind I he hs ds ρ S h
theorem compL_ind {bd : D → Env → Sto → (Env → Sto → Prop) → Prop} {tw : Env → Sto → (Bool → Sto → Prop) → Prop} {ew : Env → Sto → QD → Prop} {B : List D → Prop} {C : Sto → Prop} {Kp : List D → Sto → Prop} {ρ : Env} (I : List D → Sto → List D → Prop) (he : ∀ S acc, I [] S acc → C S ∧ Kp acc S)
    (hs : ∀ d rest S acc (N : Sto → List D → Prop), I (d :: rest) S acc → (∀ S acc, I rest S acc → N S acc) → C S ∧ bd d ρ S fun ρ' S1 => tw ρ' S1 fun b S2 => if b = true then ew ρ' S2 fun y S3 => B acc ∧ N S3 (acc ++ [y]) else N S2 acc) : ∀ ds S acc, I ds S acc → compL bd tw ew B C Kp ρ ds S acc
  | [], S, acc, h => he S acc h
  | d :: ds, S, acc, h => hs d ds S acc _ h fun S acc h => compL_ind I he hs ds S acc h
theorem compO_ind {bd : D → Env → Sto → (Env → Sto → Prop) → Prop} {tw : Env → Sto → (Bool → Sto → Prop) → Prop} {iw : Env → Sto → List D → (List D → Sto → Prop) → Prop} {C : Sto → Prop} {Kp : List D → Sto → Prop} {ρ : Env} (I : List D → Sto → List D → Prop) (he : ∀ S acc, I [] S acc → C S ∧ Kp acc S)
    (hs : ∀ d rest S acc (N : Sto → List D → Prop), I (d :: rest) S acc → (∀ S acc, I rest S acc → N S acc) → C S ∧ bd d ρ S fun ρ' S1 => tw ρ' S1 fun b S2 => if b = true then iw ρ' S2 acc fun acc' S3 => N S3 acc' else N S2 acc) : ∀ ds S acc, I ds S acc → compO bd tw iw C Kp ρ ds S acc
  | [], S, acc, h => he S acc h
  | d :: ds, S, acc, h => hs d ds S acc _ h fun S acc h => compO_ind I he hs ds S acc h
/-- a comprehension without a test whose items are f of the walked ones -/
theorem compL_map {bd : D → Env → Sto → (Env → Sto → Prop) → Prop} {ew : Env → Sto → QD → Prop} {C : Sto → Prop} {Q : List D → Sto → Prop} {ρ : Env} {S : Sto} (f : D → D) (hC : C S) :
    ∀ (ds : List D) (acc : List D), (∀ d ∈ ds, ∀ N : QD, N (f d) S → bd d ρ S fun ρ' S1 => ew ρ' S1 N) → Q (acc ++ ds.map f) S → compL bd (fun _ S K => K true S) ew (fun _ => True) C Q ρ ds S acc
  | [], acc, h, q => ⟨hC, by rw [List.map_nil, List.append_nil] at q; exact q⟩
  | d :: ds, acc, h, q => ⟨hC, by
    have := h d List.mem_cons_self (fun y S3 => True ∧ compL bd (fun _ S K => K true S) ew (fun _ => True) C Q ρ ds S3 (acc ++ [y])) ⟨trivial, compL_map f hC ds (acc ++ [f d]) (fun d hd => h d (List.mem_cons_of_mem _ hd)) (by rw [List.append_assoc]; exact q)⟩
    simp only [if_true]
    exact this⟩
theorem compL_mapG {α : Type} {bd : D → Env → Sto → (Env → Sto → Prop) → Prop} {ew : Env → Sto → QD → Prop} {C : Sto → Prop} {Q : List D → Sto → Prop} {ρ : Env} {S : Sto} (g f : α → D) (hC : C S) :
    ∀ (l : List α) (acc : List D), (∀ a ∈ l, ∀ N : QD, N (f a) S → bd (g a) ρ S fun ρ' S1 => ew ρ' S1 N) → Q (acc ++ l.map f) S → compL bd (fun _ S K => K true S) ew (fun _ => True) C Q ρ (l.map g) S acc
  | [], acc, h, q => ⟨hC, by rw [List.map_nil, List.append_nil] at q; exact q⟩
  | a :: l, acc, h, q => ⟨hC, by
    have := h a List.mem_cons_self (fun y S3 => True ∧ compL bd (fun _ S K => K true S) ew (fun _ => True) C Q ρ (l.map g) S3 (acc ++ [y])) ⟨trivial, compL_mapG g f hC l (acc ++ [f a]) (fun d hd => h d (List.mem_cons_of_mem _ hd)) (by rw [List.append_assoc]; exact q)⟩
    simp only [if_true]
    exact this⟩
theorem zipD_map {α β : Type} (g : α → D) (h : β → D) : ∀ (l : List α) (m : List β), zipD (l.map g) (m.map h) = (l.zip m).map fun x => .tup [g x.1, h x.2]
  | [], m => by simp [zipD]
  | _ :: _, [] => by simp [zipD]
  | a :: l, b :: m => by
    have := zipD_map g h l m
    unfold zipD at this ⊢
    simp only [List.map_cons, List.zipWith_cons_cons, List.zip_cons_cons, this]
/-- numbered from n on -/
def num {α : Type} : Nat → List α → List (Nat × α)
  | _, [] => []
  | n, x :: r => (n, x) :: num (n + 1) r
theorem enumD_map {α : Type} (g : α → D) : ∀ (n : Nat) (l : List α), enumD n (l.map g) = (num n l).map fun x => .tup [.int x.1, g x.2]
  | _, [] => rfl
  | n, a :: l => by rw [List.map_cons, enumD, num, List.map_cons, enumD_map g (n + 1) l]
end DL

/-! DL16: == of trees of ints. -/
namespace DL
open PySem
/-- trees of ints and None, n deep at most -/
def IT : Nat → D → Prop
  | _, .int _ => True
  | _, .non => True
  | n + 1, .tup ds => ∀ d ∈ ds, IT n d
  | n + 1, .lst ds => ∀ d ∈ ds, IT n d
  | _, _ => False
theorem it_py : ∀ (n : Nat) (d : D), IT n d → ∃ p, d.py = some p ∧ p.canLay0 = true ∧ p.depth ≤ n
  | n, .int i, _ => ⟨.int i, rfl, rfl, Nat.zero_le _⟩
  | n, .non, _ => ⟨.none, rfl, rfl, Nat.zero_le _⟩
  | n + 1, .tup ds, h => by
    have all : ∀ ds : List D, (∀ d ∈ ds, IT n d) → ∃ ps, D.py.pys ds = some ps ∧ PyData.canLayAll0 ps = true ∧ PyData.depthAll ps ≤ n := by
      intro ds
      induction ds with
      | nil => intro _; exact ⟨[], rfl, rfl, Nat.zero_le _⟩
      | cons d ds ih =>
        intro h
        obtain ⟨p, h1, h2, h3⟩ := it_py n d (h d List.mem_cons_self)
        obtain ⟨ps, h4, h5, h6⟩ := ih fun d hd => h d (List.mem_cons_of_mem _ hd)
        refine ⟨p :: ps, by simp only [D.py.pys, h1, h4], ?_, ?_⟩
        · simp only [PyData.canLayAll0, h2, h5, Bool.and_self]
        · simp only [PyData.depthAll]; omega
    obtain ⟨ps, h1, h2, h3⟩ := all ds h
    refine ⟨.tuple ps, by simp only [D.py, h1, Option.map_some], by simp only [PyData.canLay0, h2], ?_⟩
    simp only [PyData.depth]; omega
  | n + 1, .lst ds, h => by
    have all : ∀ ds : List D, (∀ d ∈ ds, IT n d) → ∃ ps, D.py.pys ds = some ps ∧ PyData.canLayAll0 ps = true ∧ PyData.depthAll ps ≤ n := by
      intro ds
      induction ds with
      | nil => intro _; exact ⟨[], rfl, rfl, Nat.zero_le _⟩
      | cons d ds ih =>
        intro h
        obtain ⟨p, h1, h2, h3⟩ := it_py n d (h d List.mem_cons_self)
        obtain ⟨ps, h4, h5, h6⟩ := ih fun d hd => h d (List.mem_cons_of_mem _ hd)
        refine ⟨p :: ps, by simp only [D.py.pys, h1, h4], ?_, ?_⟩
        · simp only [PyData.canLayAll0, h2, h5, Bool.and_self]
        · simp only [PyData.depthAll]; omega
    obtain ⟨ps, h1, h2, h3⟩ := all ds h
    refine ⟨.list ps, by simp only [D.py, h1, Option.map_some], by simp only [PyData.canLay0, h2], ?_⟩
    simp only [PyData.depth]; omega
  | 0, .tup _, h => h.elim
  | 0, .lst _, h => h.elim
  | n, .bl _, h => by cases n <;> exact h.elim
  | n, .str _, h => by cases n <;> exact h.elim
  | n, .ref _, h => by cases n <;> exact h.elim
  | n, .ty _, h => by cases n <;> exact h.elim
  | n, .scr _, h => by cases n <;> exact h.elim
  | n, .obj _ _, h => by cases n <;> exact h.elim
  | n, .dct, h => by cases n <;> exact h.elim
  | n, .fn _, h => by cases n <;> exact h.elim
  | n, .exc _ _, h => by cases n <;> exact h.elim
theorem it_eqv : ∀ (n m : Nat) (x y : D) (p q : PyData), IT n x → IT m y → x.py = some p → y.py = some q → (PyData.eqv p q = true ↔ x = y) := by
  intro n
  induction n with
  | zero =>
    intro m x y p q hx hy ep eq
    cases x <;> try exact hx.elim
    all_goals
      cases ep
      cases y <;> try (cases m <;> exact hy.elim)
      all_goals (try (cases eq; simp [PyData.eqv]))
      all_goals
        simp only [D.py] at eq
        revert eq
        cases D.py.pys _ <;> intro eq
        · cases eq
        · cases eq; simp [PyData.eqv]
  | succ n ih =>
    intro m x y p q hx hy ep eq
    have all : ∀ (m : Nat) (xs ys : List D) (ps qs : List PyData), (∀ d ∈ xs, IT n d) → (∀ d ∈ ys, IT m d) → D.py.pys xs = some ps → D.py.pys ys = some qs → (PyData.eqvAll ps qs = true ↔ xs = ys) := by
      intro m xs
      induction xs with
      | nil =>
        intro ys ps qs _ _ e1 e2
        cases e1
        cases ys with
        | nil => cases e2; simp [PyData.eqvAll]
        | cons y ys =>
          simp only [D.py.pys] at e2
          split at e2
          · cases e2; simp [PyData.eqvAll]
          · cases e2
      | cons x xs ihx =>
        intro ys ps qs h1 h2 e1 e2
        simp only [D.py.pys] at e1
        split at e1
        · rename_i p ps' ep eps
          cases e1
          cases ys with
          | nil => cases e2; simp [PyData.eqvAll]
          | cons y ys =>
            simp only [D.py.pys] at e2
            split at e2
            · rename_i q qs' eq eqs
              cases e2
              have a := ih m x y p q (h1 x List.mem_cons_self) (h2 y List.mem_cons_self) ep eq
              have b := ihx ys ps' qs' (fun d hd => h1 d (List.mem_cons_of_mem _ hd)) (fun d hd => h2 d (List.mem_cons_of_mem _ hd)) eps eqs
              simp only [PyData.eqvAll, Bool.and_eq_true, a, b, List.cons.injEq]
            · cases e2
        · cases e1
    cases x <;> try exact hx.elim
    case int | non =>
      cases ep
      cases y <;> try (cases m <;> exact hy.elim)
      all_goals (try (cases eq; simp [PyData.eqv]))
      all_goals
        simp only [D.py] at eq
        revert eq
        cases D.py.pys _ <;> intro eq
        · cases eq
        · cases eq; simp [PyData.eqv]
    case tup xs =>
      simp only [D.py] at ep
      cases e1 : D.py.pys xs with
      | none => rw [e1] at ep; cases ep
      | some ps =>
        rw [e1] at ep; cases ep
        cases y <;> try (cases m <;> exact hy.elim)
        case tup ys =>
          simp only [D.py] at eq
          cases e2 : D.py.pys ys with
          | none => rw [e2] at eq; cases eq
          | some qs =>
            rw [e2] at eq; cases eq
            cases m with
            | zero => exact hy.elim
            | succ m =>
              have := all m xs ys ps qs hx hy e1 e2
              simp only [PyData.eqv, this, D.tup.injEq]
        case lst ys =>
          simp only [D.py] at eq
          cases e2 : D.py.pys ys with
          | none => rw [e2] at eq; cases eq
          | some qs => rw [e2] at eq; cases eq; simp [PyData.eqv]
        all_goals (cases eq; simp [PyData.eqv])
    case lst xs =>
      simp only [D.py] at ep
      cases e1 : D.py.pys xs with
      | none => rw [e1] at ep; cases ep
      | some ps =>
        rw [e1] at ep; cases ep
        cases y <;> try (cases m <;> exact hy.elim)
        case lst ys =>
          simp only [D.py] at eq
          cases e2 : D.py.pys ys with
          | none => rw [e2] at eq; cases eq
          | some qs =>
            rw [e2] at eq; cases eq
            cases m with
            | zero => exact hy.elim
            | succ m =>
              have := all m xs ys ps qs hx hy e1 e2
              simp only [PyData.eqv, this, D.lst.injEq]
        case tup ys =>
          simp only [D.py] at eq
          cases e2 : D.py.pys ys with
          | none => rw [e2] at eq; cases eq
          | some qs => rw [e2] at eq; cases eq; simp [PyData.eqv]
        all_goals (cases eq; simp [PyData.eqv])
/-- == of two trees of ints -/
theorem eqD_it {n m : Nat} {x y : D} {k : Bool → Prop} (hx : IT n x) (hy : IT m y) (hn : n ≤ 64) (hm : m ≤ 64) (h1 : x = y → k true) (h2 : x ≠ y → k false) : eqD x y k := by
  obtain ⟨p, ep, lp, dp⟩ := it_py n x hx
  obtain ⟨q, eq, lq, dq⟩ := it_py m y hy
  refine ⟨p, q, ep, eq, by simp only [SeqAt.shaped, lp, Bool.true_and, decide_eq_true_eq]; omega, by simp only [SeqAt.shaped, lq, Bool.true_and, decide_eq_true_eq]; omega, ?_⟩
  have e := it_eqv n m x y p q hx hy ep eq
  by_cases z : x = y
  · rw [e.mpr z]; exact h1 z
  · have : PyData.eqv p q = false := by
      cases w : PyData.eqv p q with
      | true => exact absurd (e.mp w) z
      | false => rfl
    rw [this]; exact h2 z
/-- data that can be laid, n deep at most -/
def Sh (n : Nat) (d : D) : Prop := ∃ p, d.py = some p ∧ p.canLay0 = true ∧ p.depth ≤ n
theorem sh_it {n : Nat} {d : D} (h : IT n d) : Sh n d := it_py n d h
theorem sh_str {n : Nat} {x : Str} (h : PyData.strOk x = true) : Sh n (.str x) := ⟨.str x, rfl, by simp only [PyData.canLay0, h], Nat.zero_le _⟩
theorem sh_bl {n : Nat} {b : Bool} : Sh n (.bl b) := ⟨.bool b, rfl, rfl, Nat.zero_le _⟩
theorem sh_all {n : Nat} : ∀ ds : List D, (∀ d ∈ ds, Sh n d) → ∃ ps, D.py.pys ds = some ps ∧ PyData.canLayAll0 ps = true ∧ PyData.depthAll ps ≤ n
  | [], _ => ⟨[], rfl, rfl, Nat.zero_le _⟩
  | d :: ds, h => by
    obtain ⟨p, h1, h2, h3⟩ := h d List.mem_cons_self
    obtain ⟨ps, h4, h5, h6⟩ := sh_all ds fun d hd => h d (List.mem_cons_of_mem _ hd)
    refine ⟨p :: ps, by simp only [D.py.pys, h1, h4], ?_, ?_⟩
    · simp only [PyData.canLayAll0, h2, h5, Bool.and_self]
    · simp only [PyData.depthAll]; omega
theorem sh_lst {n : Nat} {ds : List D} (h : ∀ d ∈ ds, Sh n d) : Sh (n + 1) (.lst ds) := by
  obtain ⟨ps, h1, h2, h3⟩ := sh_all ds h
  refine ⟨.list ps, by simp only [D.py, h1, Option.map_some], by simp only [PyData.canLay0, h2], ?_⟩
  simp only [PyData.depth]; omega
theorem sh_tup {n : Nat} {ds : List D} (h : ∀ d ∈ ds, Sh n d) : Sh (n + 1) (.tup ds) := by
  obtain ⟨ps, h1, h2, h3⟩ := sh_all ds h
  refine ⟨.tuple ps, by simp only [D.py, h1, Option.map_some], by simp only [PyData.canLay0, h2], ?_⟩
  simp only [PyData.depth]; omega
theorem eqD_sh {n : Nat} {x : D} {k : Bool → Prop} (h : Sh n x) (hn : n ≤ 64) (q : k true) : eqD x x k := by
  obtain ⟨p, h1, h2, h3⟩ := h
  have s : SeqAt.shaped p = true := by simp only [SeqAt.shaped, h2, Bool.true_and, decide_eq_true_eq]; omega
  exact ⟨p, p, h1, h1, s, s, by rw [SeqAt.eqv_refl p h2]; exact q⟩
end DL

/-! DL34: the end of a law whose defs are asked only where no repr is under way. -/
namespace DL
open PySem PySem.Spec PyProof.Rows L2
def tabO : Obj := { cls := .none, data := .fields #[] }
/-- the tracked part at a law's start: the script's list and empty tables -/
structure Sta (P : Program) (w : World) (K : PySem.W.Frag) (h : Heap) (T : List Addr) (H : Hp) : Prop where
  of : ∀ b u, H b = some u → K.lookup b = none ∧ ((b ∈ T ∧ h.get? b = some tabO ∧ u = .tbl #[]) ∨ (b ∉ T ∧ ∃ o xs, u = .frz o (.lst xs) ∧ ObjOk P w H h b u ∧ ∃ vs n, o.data = .seq vs n))
  tb : ∀ b ∈ T, H b = some (.tbl #[])
section
variable {P : Program} {w : World} {K : PySem.W.Frag} {mg mb : Str → Option Value} {h : Heap} {H : Hp} {T : List Addr}
theorem Sta.hok (S : Sta P w K h T H) : HOk P w H h := fun b u e => by
  rcases (S.of b u e).2 with ⟨_, g, rfl⟩ | ⟨_, o, xs, _, q, _⟩
  · exact g
  · exact q
theorem Sta.got (S : Sta P w K h T H) {b : Addr} {u : HO} (e : H b = some u) : ∃ o, h.get? b = some o ∧ ((∃ vs n, o.data = .seq vs n) ∨ o.data = .fields #[]) := by
  rcases (S.of b u e).2 with ⟨_, g, _⟩ | ⟨_, o, xs, rfl, q, d⟩
  · exact ⟨_, g, .inr rfl⟩
  · exact ⟨o, q.1, .inl d⟩
/-- objects of other kinds are not tracked -/
theorem Sta.hid (S : Sta P w K h T H) {b : Addr} {o : Obj} (e : h.get? b = some o) (n1 : ∀ vs n, o.data ≠ .seq vs n) (n2 : o.data ≠ .fields #[]) : (hidT h H).get? b = some o := hidT_get e (by
  cases q : H b with
  | none => rfl
  | some u =>
    obtain ⟨o', e', d⟩ := S.got q
    rw [e] at e'
    cases e'
    rcases d with ⟨vs, n, d⟩ | d
    · exact (n1 vs n d).elim
    · exact (n2 d).elim)
theorem Sta.ns (S : Sta P w K h T H) {b : Addr} {m : Str → Option Value} : h.Ns b m → (hidT h H).Ns b m := fun ⟨o, es, ep, e, d, r⟩ =>
  ⟨o, es, ep, S.hid e (fun _ _ z => by rw [d] at z; cases z) (fun z => by rw [d] at z; cases z), d, r⟩
theorem Sta.kin (S : Sta P w K h T H) (KX : K.In h) : K.In (hidT h H) := fun b o e => hidT_get (KX b o e) (by
  cases q : H b with
  | none => rfl
  | some u =>
    have z := (S.of b u q).1
    rw [e] at z; cases z)
theorem Sta.tab (S : Sta P w K h T H) (hns : h.Ns mainGlobals mg) (hbm : ∃ (bm : Addr) (ob : Obj), mg "__builtins__" = some (.ref bm) ∧ bm ≠ builtinsNs ∧ h.get? bm = some ob ∧ ob.cls = .type "module" ∧ ob.dict = some builtinsNs ∧ ob.data = .plain)
    {c p : Addr} (hp : h.get? p = some tabO) (C : PySem.W.CodeHd h c p) : LamX.TabB (hidT h H) mg c p := by
  obtain ⟨om, es, ep, em, dm, _⟩ := hns
  refine ⟨?_, ?_, fun z => ?_⟩
  · obtain ⟨o, us, file, tf, flags, tg, inF, text, tt, e1, r1, r2, r3, rest⟩ := C
    exact ⟨o, us, file, tf, flags, tg, inF, text, tt, S.hid e1 (fun _ _ z => by rw [r2] at z; cases z) (fun z => by rw [r2] at z; cases z; simp at r3), r1, r2, r3, rest⟩
  · obtain ⟨bm, ob, b1, b2, b3, b4, b5, b6⟩ := hbm
    refine ⟨bm, ob, b1, b2, fun z => ?_, fun z => ?_, S.hid b3 (fun _ _ z => by rw [b6] at z; cases z) (fun z => by rw [b6] at z; cases z), b4, b5, b6⟩
    · rw [z, em] at b3; cases b3; rw [dm] at b6; cases b6
    · rw [z, hp] at b3; cases b3; cases b6
  · rw [z, hp] at em; cases em; cases dm
end
/-- a start is there -/
theorem sta_ex {P : Program} {w : World} {K : PySem.W.Frag} {h : Heap} {T : List Addr} {a : Addr} {vs : List Value} {ns : List Int} (KX : K.In h) (hT : ∀ b ∈ T, h.get? b = some tabO) (nT : ∀ b ∈ T, K.lookup b = none)
    (ha : h.get? a = some { cls := .type "list", data := .seq vs.toArray }) (hi : IntsAre vs ns) (hl : ns.length ≤ sizeLine) : ∃ H, Sta P w K h T H ∧ SqL K H a (ns.map V.int) := by
  have rv := vals_ints hi
  have aT : a ∉ T := fun z => by
    have q := hT a z
    rw [ha] at q
    have z' := congrArg Obj.data (Option.some.inj q)
    cases z'
  have l1 : (ns.map V.int).length ≤ sizeLine := by rw [List.length_map]; exact hl
  cases hk : K.lookup a with
  | some o =>
    have e := KX a o hk
    rw [ha] at e
    cases e
    refine ⟨fun b => if b ∈ T then some (.tbl #[]) else none, ⟨fun b u e => ?_, fun b hb => if_pos hb⟩, .inr ⟨_, vs.toArray, _, hk, rfl, rfl, rfl, by rw [List.size_toArray, hi.length]; exact hl, by simpa using rv⟩⟩
    by_cases hb : b ∈ T
    · have e := (if_pos hb).symm.trans e
      cases e
      exact ⟨nT b hb, .inl ⟨hb, hT b hb, rfl⟩⟩
    · have e := (if_neg hb).symm.trans e
      cases e
  | none =>
    refine ⟨fun b => if b = a then some (.frz { cls := .type "list", data := .seq vs.toArray } (.lst (ns.map V.int))) else if b ∈ T then some (.tbl #[]) else none, ⟨fun b u e => ?_, fun b hb => (if_neg (show ¬ b = a from fun z => aT (by rw [← z]; exact hb))).trans (if_pos hb)⟩, .inl (.inr ⟨_, if_pos rfl⟩)⟩
    by_cases hb : b = a
    · have e := (if_pos hb).symm.trans e
      cases e
      subst hb
      exact ⟨hk, .inr ⟨aT, _, _, rfl, ⟨ha, l1, vs, _, rv, ha⟩, _, _, rfl⟩⟩
    · have e := (if_neg hb).symm.trans e
      by_cases hb2 : b ∈ T
      · have e := (if_pos hb2).symm.trans e
        cases e
        exact ⟨nT b hb2, .inl ⟨hb2, hT b hb2, rfl⟩⟩
      · have e := (if_neg hb2).symm.trans e
        cases e
/-- the call of the law at the claim's own caller -/
theorem law_callG {P : Program} {w : World} {K : PySem.W.Frag} {mg mb : Str → Option Value} {k : Nat} {fa a : Addr} {cs : List (Addr × Addr)} {fd : FuncData} {x : Str} {sp : Sp} {s1 : Shared} {vs : List Value} {ns : List Int}
    (KX : K.In s1.heap) (hns : s1.heap.Ns mainGlobals mg) (hb : s1.heap.Ns builtinsNs mb) (hbb : ∀ x : Str, x ≠ "__name__" → mb x = bootBuiltins x) (hlim : s1.heap.NoLimit) (hg : s1.gens = #[])
    (hT : ∀ p ∈ cs, s1.heap.get? p.2 = some tabO) (nT : ∀ p ∈ cs, K.lookup p.2 = none) (C : ∀ p ∈ cs, PySem.W.CodeHd s1.heap p.1 p.2)
    (hbm : ∃ (bm : Addr) (ob : Obj), mg "__builtins__" = some (.ref bm) ∧ bm ≠ builtinsNs ∧ s1.heap.get? bm = some ob ∧ ob.cls = .type "module" ∧ ob.dict = some builtinsNs ∧ ob.data = .plain)
    (ha : s1.heap.get? a = some { cls := .type "list", data := .seq vs.toArray }) (hi : IntsAre vs ns) (hl : ns.length ≤ sizeLine) (hr : Room k callerA)
    (F : ∀ base : Heap, K.In base → base.Ns mainGlobals mg → (∀ p ∈ cs, LamX.TabB base mg p.1 p.2) → FnG P w K mg base CX0 k fa fd [x] sp) (hbind : ∀ (s : Shared) (u : Value), BindsTo s fd ⟨[u], []⟩ [(x, u)])
    (hsp : ∀ H : Hp, (∀ p ∈ cs, H p.2 = some (.tbl #[])) → SqL K H a (ns.map V.int) → sp [.ref a] H (fun v _ => v = .bl true) E0) :
    codeAny (model P w) callerA (.call (.ref fa) ⟨[.ref a], []⟩) (fun r s' => r = .ok (.ret (.bool true)) ∧ OldK s1.heap s'.heap ∧ s'.os = s1.os ∧ AllBare s'.gens) s1 := by
  have inT : ∀ b ∈ cs.map (·.2), ∃ c, (c, b) ∈ cs := fun b hb => by
    obtain ⟨p, hp, rfl⟩ := List.mem_map.mp hb
    exact ⟨p.1, hp⟩
  obtain ⟨H, S, hS⟩ := sta_ex (P := P) (w := w) (T := cs.map (·.2)) KX (fun b hb => by obtain ⟨c, z⟩ := inT b hb; exact hT _ z) (fun b hb => by obtain ⟨c, z⟩ := inT b hb; exact nT _ z) ha hi hl
  have hH : ∀ p ∈ cs, H p.2 = some (.tbl #[]) := fun p hp => S.tb _ (List.mem_map.mpr ⟨p, hp, rfl⟩)
  have e0 : Env0 P w K mg (hidT s1.heap H) callerA [] s1 H :=
    ⟨rfl, ⟨S.kin KX, S.ns hns, ⟨mb, S.ns hb, hbb⟩, let ⟨mc, h1, h2⟩ := hlim; ⟨mc, S.ns h1, h2⟩⟩, fun b o e => of_hidT e, Nat.le_of_eq (hidT_size _ _), trivial, fun b hb => absurd (show b ∈ ([] : List Addr) from hb) (by simp), S.hok, .of_eq hg⟩
  refine codeAny_mono ((F _ (S.kin KX) (S.ns hns) fun p hp => S.tab hns hbm (hT p hp) (C p hp)).run callerA [] s1 H ⟨[.ref a], []⟩ [.ref a] [.ref a] _ _ hr rfl e0 (hbind s1 (.ref a)) (.cons rfl .nil) (hsp H hH hS)) fun r s' hq => ?_
  rcases r with e | (_ | _ | _ | u)
  · exact absurd hq (by simp [CR, CX0, E0])
  · exact hq.elim
  · exact hq.elim
  · exact hq.elim
  obtain ⟨v, H', os, bare, un, hok', rv, q⟩ := hq
  have q : v = .bl true := q
  subst q
  obtain rfl : u = Value.bool true := rv
  have both : ∀ b o, s1.heap.get? b = some o → s'.heap.get? b = some o ∨ ∃ c more, (c, b) ∈ cs ∧ s'.heap.get? b = some { cls := .none, data := .fields more } := fun b o e => by
    cases hb : H b with
    | none => exact .inl (un.keep b o e hb (fun z => absurd (show b ∈ ([] : List Addr) from z) (by simp)) (by simp))
    | some t =>
      rcases (S.of b t hb).2 with ⟨hm, _, rfl⟩ | ⟨_, o', xs, rfl, ok, _⟩
      · obtain ⟨more, z⟩ := un.tbls b #[] hb
        obtain ⟨c, hc⟩ := inT b hm
        exact .inr ⟨c, _, hc, hok' b _ z⟩
      · have e1 := ok.1
        rw [e] at e1
        cases e1
        exact .inl (hok' b _ (un.frzs b o _ hb)).1
  refine ⟨rfl, ⟨fun b o e => ?_, fun b o e => ?_⟩, os, bare⟩
  · rcases both b o e with z | ⟨c, more, hc, z⟩
    · exact .inl z
    · have t := hT _ hc
      rw [e] at t
      cases t
      exact .inr (.inl ⟨((C _ hc).tab (hT _ hc)).isCodeTable, rfl, #[], more, rfl, by rw [Array.empty_append]; exact z⟩)
  · rcases both b o e with z | ⟨c, more, _, z⟩
    · exact ⟨o, z⟩
    · exact ⟨_, z⟩
end DL

/-! DL18: the law's end where divisions of great integers have room: the base heap is one without a seer. -/
namespace DL
open PySem PySem.Spec PyProof.Rows L2
/-! ### the head's run looked at piece by piece -/
theorem map3 {σ α β γ : Type _} {o : Option σ} {f : σ → α} {g : σ → β} {k : σ → γ} {x : α} {y : β} {z : γ} (a : o.map f = some x) (b : o.map g = some y) (c : o.map k = some z) : o.map (fun s => (f s, g s, k s)) = some (x, y, z) := by
  cases o with
  | none => cases a
  | some s =>
    have a := Option.some.inj a
    have b := Option.some.inj b
    have c := Option.some.inj c
    show some (f s, g s, k s) = _
    rw [a, b, c]
/-- the end of a law whose head imports nothing: the promise over bases in which there is no seer -/
theorem walk_far {law' : PySem.W.OpenLaw} {most k : Nat} {view' : Program} {out : List Str} {XQ : (Str → Option Value) → Heap → Prop} {YQ : World → Heap → Prop} {rec' : DefRec} {name : Str}
    (hm : law'.most = some most) (hs : most ≤ sizeLine) (hd : rec'.params.defaults = []) (room : Room k callerA) (hi : importsNone view' = true)
    (give : ∀ (w : World) (mg : Str → Option Value) (fa : Addr) (h : Heap), YQ w h → h.Ns mainGlobals mg → h.NoSeer → mg rec'.name = some (.ref fa) →
      ∃ (K : PySem.W.Frag) (fd : FuncData) (F : FSp) (L : Lnk), K.In h ∧ (∀ (s : Shared) (v : Value), BindsTo s fd ⟨[v], []⟩ [(name, v)]) ∧ (∀ ns : List Int, F [.scr ns] (fun _ => none) xNo fun d _ => d = .bl true) ∧
        ∀ base : Heap, K.In base → base.Ns mainGlobals mg → FnOk law'.prog w K mg base CX0 k fa fd [name] (fun vs H Q _ => spOf L K F vs H Q E0)) (h63 : most ≤ 63) :
    PySem.W.WalkO view' out XQ YQ law'.row.toRowW rec' [] (fun f vs => PySem.call f vs) :=
  Att.attach_call hm hd fun w _ _ mg _ fa _ _ _ _ a _ ns G Y _ _ _ hmg hobj hints hlen hg =>
    let ⟨_, _, _, _, KX, hb, hsp, hF⟩ := give w mg fa _ Y G.T.g (G.T.seer hi) hmg
    law_call KX G.T.g G.T.b G.T.builtins G.T.nolimit hg hobj hints (Nat.le_trans hlen hs) room (fun b kb gb => hF b kb gb) hb
      (fun H hO hS => law_of (Nat.le_trans hlen h63) hO hS (hsp ns)) fun _ _ _ z => z
/-- the store at a law's start: the tables of the defs that make lambdas -/
def TbSto (lam : List Str) (S : Sto) : Prop := ∀ x ∈ lam, ∃ a T, S a = some (.tb T) ∧ ∃ p ∈ T, p.2 = x
/-- the tables, by addresses -/
def tbL (K : PySem.W.Frag) (lam : List Str) : List (Addr × Str) := lam.filterMap fun x => (PySem.W.tabIn K x).map fun c => (c.2, x)
def tbS (K : PySem.W.Frag) (lam : List Str) : Sto := fun a => if a ∈ (tbL K lam).map (·.1) then some (.tb (tbL K lam)) else none
theorem tbL_as {K : PySem.W.Frag} : ∀ lam : List Str, (tbL K lam).map (·.1) = tbAs K lam
  | [] => rfl
  | x :: r => by
    unfold tbL tbAs
    rw [List.filterMap_cons, List.filterMap_cons]
    cases PySem.W.tabIn K x with
    | none => exact tbL_as r
    | some c => exact congrArg (c.2 :: ·) (tbL_as r)
theorem tbL_mem {K : PySem.W.Frag} {lam : List Str} {p : Addr × Str} (h : p ∈ tbL K lam) : p.2 ∈ lam ∧ ∃ c, PySem.W.tabIn K p.2 = some (c, p.1) := by
  unfold tbL at h
  obtain ⟨x, hx, e⟩ := List.mem_filterMap.mp h
  cases z : PySem.W.tabIn K x with
  | none => rw [z] at e; cases e
  | some c => rw [z] at e; cases e; exact ⟨hx, c.1, z⟩
theorem nodup_fst {α β : Type} : ∀ {l : List (α × β)}, (l.map (·.1)).Nodup → ∀ p ∈ l, ∀ q ∈ l, p.1 = q.1 → p.2 = q.2
  | [], _, p, hp, _, _, _ => nomatch hp
  | x :: r, h, p, hp, q, hq, e => by
    rw [List.map_cons, List.nodup_cons] at h
    rcases List.mem_cons.mp hp with e1 | h1 <;> rcases List.mem_cons.mp hq with e2 | h2
    · rw [e1, e2]
    · exact absurd (List.mem_map.mpr ⟨q, h2, by rw [← e, e1]⟩) h.1
    · exact absurd (List.mem_map.mpr ⟨p, h1, by rw [e, e2]⟩) h.1
    · exact nodup_fst h.2 p h1 q h2 e
/-- from the law's promise to its end -/
theorem law_ofT {L : Lnk} {K : PySem.W.Frag} {F : FSp} {H : Hp} {a : Addr} {ns : List Int} {lam : List Str} (hl : ns.length ≤ 63) (hT : ∀ p ∈ tbL K lam, H p.1 = some (.tbl #[])) (hn : (tbAs K lam).Nodup) (hS : SqL K H a (ns.map V.int)) (h : F [.scr ns] (tbS K lam) xNo fun d _ => d = .bl true) : spOf L K F [.ref a] H (fun v _ => v = .bl true) E0 := by
  have z : ns.length ≤ sizeLine := Nat.le_trans hl (by decide)
  have inT : ∀ b R, tbS K lam b = some (.tb R) → R = tbL K lam ∧ ∃ q, (b, q) ∈ tbL K lam := fun b R e => by
    unfold tbS at e
    split at e
    · rename_i hm
      cases e
      obtain ⟨p, hp, rfl⟩ := List.mem_map.mp hm
      exact ⟨rfl, p.2, hp⟩
    · cases e
  have only : ∀ b o, tbS K lam b = some o → ∃ R, o = .tb R := fun b o e => by
    unfold tbS at e
    split at e
    · cases e; exact ⟨_, rfl⟩
    · cases e
  have at0 : ∀ p ∈ tbL K lam, tbS K lam p.1 = some (.tb (tbL K lam)) := fun p hp => if_pos (List.mem_map.mpr ⟨p, hp, rfl⟩)
  have rp : Rp K (fun b => b ∈ (tbL K lam).map (·.1)) H (.ref a) (.scr ns) := by
    rcases hS with (h | ⟨o, h⟩) | h
    · refine .scrL z h fun hm => ?_
      obtain ⟨p, hp, e⟩ := List.mem_map.mp hm
      rw [← e, hT p hp] at h; cases h
    · exact .scr z h
    · exact .scrK z fun H' => .inr h
  refine ⟨[.scr ns], tbS K lam, fun b => b ∈ (tbL K lam).map (·.1), xNo, _, ⟨fun a ds h => ?_, fun a h => ?_, fun a c q fs h => ?_, fun a h => ?_, fun a a' c c' q fs fs' h _ => ?_, fun a R h => ?_⟩, .cons rp .nil, h, fun _ _ _ _ _ _ _ _ _ _ z => z.elim, fun v H' d S' O' r _ _ q => ?_⟩
  · obtain ⟨R, e⟩ := only _ _ h; cases e
  · obtain ⟨p, hp, rfl⟩ := List.mem_map.mp h
    exact ⟨_, hT p hp, imm_tbl⟩
  · obtain ⟨R, e⟩ := only _ _ h; cases e
  · obtain ⟨R, e⟩ := only _ _ h; cases e
  · obtain ⟨R, e⟩ := only _ _ h; cases e
  · obtain ⟨rfl, hq⟩ := inT _ _ h
    exact ⟨⟨fun p hp => ⟨List.mem_map.mpr ⟨p, hp, rfl⟩, at0 p hp, ⟨#[], hT p hp, True.intro, fun pos cv hc => by have hc : codeAmong pos [] = some cv := hc; simp [codeAmong] at hc⟩, (tbL_mem hp).2⟩, nodup_fst (by rw [tbL_as]; exact hn), fun b R' e => (inT b R' e).1⟩, hq⟩
  · subst q
    cases r
    rfl
theorem tbS_ok {K KT : PySem.W.Frag} {lam : List Str} (h : tabsQ lam K KT = true) : TbSto lam (tbS K lam) ∧ (tbAs K lam).Nodup := by
  unfold tabsQ at h
  rw [Bool.and_eq_true, decide_eq_true_eq] at h
  refine ⟨fun x hx => ?_, h.2⟩
  have q := List.all_eq_true.mp h.1 x hx
  cases e : PySem.W.tabIn K x with
  | none => unfold tb1B at q; rw [e] at q; cases q
  | some c =>
    have hm : (c.2, x) ∈ tbL K lam := List.mem_filterMap.mpr ⟨x, hx, by rw [e]; rfl⟩
    exact ⟨c.2, tbL K lam, if_pos (List.mem_map.mpr ⟨_, hm, rfl⟩), _, hm, rfl⟩
theorem FnG.to0 {P : Program} {w : World} {K : PySem.W.Frag} {mg : Str → Option Value} {base : Heap} {k : Nat} {f : Addr} {fd : FuncData} {ps : List Str} {sp : Sp} (F : FnG P w K mg base (L2.CX P w) k f fd ps sp) :
    FnG P w K mg base CX0 k f fd ps (fun vs H Q _ => sp vs H Q E0) :=
  ⟨fun vs H Q E h => F.len vs H Q E0 h, fun A outer s H args us vs Q E hr hg e0 hb r h => codeAny_mono (F.run A outer s H args us vs Q E0 hr hg e0 hb r h) fun q s' hq => by
    cases q with
    | ok fl => cases fl <;> exact hq
    | error e =>
      have hq : L2.CX P w outer H s E0 e s' := hq
      obtain ⟨_, _, _, _, _, _, _, _, _, _, _, _, z⟩ := hq
      exact z.elim⟩
/-- walk_far for a law with lambdas, its defs asked only where no repr is under way -/
theorem walk_farG {law' : PySem.W.OpenLaw} {most k : Nat} {view' : Program} {out : List Str} {XQ : (Str → Option Value) → Heap → Prop} {YQ : World → Heap → Prop} {rec' : DefRec} {name : Str} {lam : List Str}
    (hm : law'.most = some most) (hs : most ≤ sizeLine) (hd : rec'.params.defaults = []) (room : Room k callerA) (hi : importsNone view' = true)
    (give : ∀ (w : World) (mg : Str → Option Value) (fa : Addr) (h : Heap), YQ w h → h.Ns mainGlobals mg → h.NoSeer → mg rec'.name = some (.ref fa) →
      ∃ (K KT : PySem.W.Frag) (fd : FuncData) (F : FSp) (L : Lnk), K.In h ∧ KT.In h ∧ tabsQ lam K KT = true ∧ (∀ (s : Shared) (v : Value), BindsTo s fd ⟨[v], []⟩ [(name, v)]) ∧ (∀ (ns : List Int) (S : Sto), TbSto lam S → F [.scr ns] S xNo fun d _ => d = .bl true) ∧
        ∀ base : Heap, K.In base → base.Ns mainGlobals mg → (∀ x ∈ lam, ∃ c P, PySem.W.tabIn K x = some (c, P) ∧ LamX.TabB base mg c P) → FnG law'.prog w K mg base CX0 k fa fd [name] (fun vs H Q _ => spOf L K F vs H Q E0)) (h63 : most ≤ 63) :
    PySem.W.WalkO view' out XQ YQ law'.row.toRowW rec' [] (fun f vs => PySem.call f vs) :=
  Att.attach_call hm hd fun w _ _ mg _ fa _ _ _ _ a _ ns G Y _ _ _ hmg hobj hints hlen hg => by
    obtain ⟨K, KT, fd, F, L, KX, KY, ht, hb, hsp, hF⟩ := give w mg fa _ Y G.T.g (G.T.seer hi) hmg
    obtain ⟨t1, t2⟩ := tbS_ok ht
    have hall : ∀ x ∈ lam, tb1B K KT x = true := by
      unfold tabsQ at ht
      rw [Bool.and_eq_true] at ht
      exact List.all_eq_true.mp ht.1
    have cs : ∀ p ∈ lam.filterMap (PySem.W.tabIn K), ∃ x ∈ lam, PySem.W.tabIn K x = some p := fun p hp => by
      obtain ⟨x, hx, e⟩ := List.mem_filterMap.mp hp
      exact ⟨x, hx, e⟩
    refine law_callG (cs := lam.filterMap (PySem.W.tabIn K)) KX G.T.g G.T.b G.T.builtins G.T.nolimit hg (fun p hp => ?_) (fun p hp => ?_) (fun p hp => ?_) G.T.bmain hobj hints (Nat.le_trans hlen hs) room (fun base kb gb hT => hF base kb gb fun x hx => ?_) hb (fun H hH hS => law_ofT (Nat.le_trans hlen h63) (fun p hp => ?_) t2 hS (hsp ns _ t1))
    · obtain ⟨x, hx, e⟩ := cs p hp; exact (tb1_ok KX KY e (hall x hx)).1
    · obtain ⟨x, hx, e⟩ := cs p hp; exact (tb1_ok KX KY e (hall x hx)).2.1
    · obtain ⟨x, hx, e⟩ := cs p hp; exact (tb1_ok KX KY e (hall x hx)).2.2
    · have q := hall x hx
      cases e : PySem.W.tabIn K x with
      | none => unfold tb1B at q; rw [e] at q; cases q
      | some c => exact ⟨c.1, c.2, rfl, hT c (List.mem_filterMap.mpr ⟨x, hx, e⟩)⟩
    · obtain ⟨hx, c, e⟩ := tbL_mem hp
      exact hH (c, p.1) (List.mem_filterMap.mpr ⟨p.2, hx, e⟩)
end DL

/-! M1: sums; polys as lists of ints from the lowest on, without a nought on top. -/
namespace PM
def sumN : Nat → (Nat → Int) → Int
  | 0, _ => 0
  | n + 1, f => sumN n f + f n
theorem sumN_congr {f g : Nat → Int} : ∀ {n : Nat}, (∀ i, i < n → f i = g i) → sumN n f = sumN n g
  | 0, _ => rfl
  | n + 1, h => by rw [sumN, sumN, sumN_congr (n := n) fun i hi => h i (by omega), h n (by omega)]
theorem sumN_zero {f : Nat → Int} : ∀ {n : Nat}, (∀ i, i < n → f i = 0) → sumN n f = 0
  | 0, _ => rfl
  | n + 1, h => by rw [sumN, sumN_zero (n := n) fun i hi => h i (by omega), h n (by omega)]; rfl
theorem sumN_add (f g : Nat → Int) : ∀ n : Nat, sumN n (fun i => f i + g i) = sumN n f + sumN n g
  | 0 => rfl
  | n + 1 => by rw [sumN, sumN, sumN, sumN_add f g n]; omega
theorem sumN_mul (k : Int) (f : Nat → Int) : ∀ n : Nat, sumN n (fun i => k * f i) = k * sumN n f
  | 0 => by simp [sumN]
  | n + 1 => by rw [sumN, sumN, sumN_mul k f n, Int.mul_add]
theorem sumN_head (f : Nat → Int) : ∀ n : Nat, sumN (n + 1) f = f 0 + sumN n fun i => f (i + 1)
  | 0 => by simp [sumN]
  | n + 1 => by
    have := sumN_head f n
    rw [sumN, this, sumN]
    omega
theorem sumN_one {f : Nat → Int} {n k : Nat} (hk : k < n) (h : ∀ i, i < n → i ≠ k → f i = 0) : sumN n f = f k := by
  induction n with
  | zero => omega
  | succ n ih =>
    rw [sumN]
    by_cases e : k = n
    · subst e
      rw [sumN_zero fun i hi => h i (by omega) (by omega)]
      omega
    · rw [ih (by omega) fun i hi ne => h i (by omega) ne, h n (by omega) (by omega)]
      omega
theorem sumN_more {f : Nat → Int} {n : Nat} : ∀ {m : Nat}, n ≤ m → (∀ i, n ≤ i → i < m → f i = 0) → sumN m f = sumN n f
  | 0, h, _ => by have : n = 0 := by omega
                  subst this; rfl
  | m + 1, h, z => by
    by_cases e : n = m + 1
    · subst e; rfl
    · rw [sumN, sumN_more (m := m) (by omega) fun i h1 h2 => z i h1 (by omega), z m (by omega) (by omega)]
      omega
theorem sumN_rev (f : Nat → Int) : ∀ n : Nat, sumN n (fun i => f (n - 1 - i)) = sumN n f
  | 0 => rfl
  | n + 1 => by
    rw [sumN_head, sumN]
    have := sumN_rev f n
    rw [← this]
    have e : sumN n (fun i => f (n + 1 - 1 - (i + 1))) = sumN n fun i => f (n - 1 - i) := sumN_congr fun i hi => by
      congr 1; omega
    rw [e]
    have e2 : n + 1 - 1 - 0 = n := by omega
    rw [e2]
    omega
/-- the coefficient at a place -/
def cf (p : List Int) (i : Nat) : Int := p.getD i 0
theorem cf_nil (i : Nat) : cf [] i = 0 := rfl
theorem cf_ge {p : List Int} {i : Nat} (h : p.length ≤ i) : cf p i = 0 := by
  unfold cf
  rw [List.getD_eq_getElem?_getD, List.getElem?_eq_none h]; rfl
theorem cf_lt {p : List Int} {i : Nat} (h : i < p.length) : cf p i = p[i] := by
  unfold cf
  rw [List.getD_eq_getElem?_getD, List.getElem?_eq_getElem h]; rfl
theorem cf_cons_zero (c : Int) (p : List Int) : cf (c :: p) 0 = c := rfl
theorem cf_cons_succ (c : Int) (p : List Int) (i : Nat) : cf (c :: p) (i + 1) = cf p i := rfl
theorem cf_map_range (n : Nat) (f : Nat → Int) (i : Nat) : cf ((List.range n).map f) i = if i < n then f i else 0 := by
  by_cases h : i < n
  · rw [if_pos h, cf_lt (by simpa using h)]; simp
  · rw [if_neg h, cf_ge (by simpa using h)]
theorem cf_map (f : Int → Int) (h0 : f 0 = 0) (p : List Int) (i : Nat) : cf (p.map f) i = f (cf p i) := by
  by_cases h : i < p.length
  · rw [cf_lt (by simpa using h), cf_lt h]; simp
  · rw [cf_ge (by simpa using h), cf_ge (by omega), h0]
/-- no nought on top -/
def Nrm (p : List Int) : Prop := ∀ c, p.getLast? = some c → c ≠ 0
theorem nrm_nil : Nrm [] := fun _ h => nomatch h
theorem nrm_top {p : List Int} (h : Nrm p) (hp : p ≠ []) : cf p (p.length - 1) ≠ 0 := by
  have hl : 0 < p.length := List.length_pos_iff.mpr hp
  rw [cf_lt (by omega)]
  refine h _ ?_
  rw [List.getLast?_eq_getElem?]
  exact List.getElem?_eq_getElem _
theorem nrm_of_top {p : List Int} (h : p ≠ [] → cf p (p.length - 1) ≠ 0) : Nrm p := fun c hc => by
  have hp : p ≠ [] := fun e => by rw [e] at hc; cases hc
  have hl : 0 < p.length := List.length_pos_iff.mpr hp
  rw [List.getLast?_eq_getElem?, List.getElem?_eq_getElem (by omega)] at hc
  cases hc
  have := h hp
  rwa [cf_lt (by omega)] at this
theorem ext_len {p q : List Int} (hp : Nrm p) (h : ∀ i, cf p i = cf q i) : p.length ≤ q.length := by
  by_cases e : p = []
  · rw [e]; exact Nat.zero_le _
  · have hl : 0 < p.length := List.length_pos_iff.mpr e
    have := nrm_top hp e
    rw [h] at this
    by_cases l : p.length ≤ q.length
    · exact l
    · exact absurd (cf_ge (by omega)) this
theorem ext {p q : List Int} (hp : Nrm p) (hq : Nrm q) (h : ∀ i, cf p i = cf q i) : p = q := by
  have l1 := ext_len hp h
  have l2 := ext_len hq fun i => (h i).symm
  refine List.ext_getElem (by omega) fun i h1 h2 => ?_
  have := h i
  rwa [cf_lt h1, cf_lt h2] at this
/-- without the noughts on top -/
def trim (p : List Int) : List Int := (p.reverse.dropWhile (· == 0)).reverse
theorem trim_nil : trim [] = [] := rfl
theorem trim_snoc (p : List Int) (c : Int) : trim (p ++ [c]) = if c = 0 then trim p else p ++ [c] := by
  unfold trim
  rw [List.reverse_append, List.reverse_singleton, List.singleton_append, List.dropWhile_cons]
  by_cases h : c = 0
  · rw [if_pos h, if_pos (by simpa using h)]
  · rw [if_neg h, if_neg (by simpa using h)]
    simp
theorem snoc_ind {P : List Int → Prop} (h0 : P []) (h1 : ∀ p c, P p → P (p ++ [c])) (p : List Int) : P p := by
  have : ∀ n : Nat, ∀ p : List Int, p.length = n → P p := by
    intro n
    induction n with
    | zero => intro p e; rw [List.eq_nil_of_length_eq_zero e]; exact h0
    | succ n ih =>
      intro p e
      have hp : p ≠ [] := fun z => by rw [z] at e; cases e
      rw [← List.dropLast_concat_getLast hp]
      exact h1 _ _ (ih _ (by rw [List.length_dropLast]; omega))
  exact this _ p rfl
theorem nrm_trim (p : List Int) : Nrm (trim p) := by
  refine snoc_ind (P := fun p => Nrm (trim p)) (fun c h => nomatch h) (fun p c ih => ?_) p
  rw [trim_snoc]
  by_cases h : c = 0
  · rw [if_pos h]; exact ih
  · rw [if_neg h]
    intro d hd
    rw [List.getLast?_append, List.getLast?_singleton] at hd
    simp at hd
    rw [← hd]; exact h
theorem cf_append_zero (p : List Int) (i : Nat) : cf (p ++ [0]) i = cf p i := by
  by_cases h : i < p.length
  · rw [cf_lt (by simp; omega), cf_lt h, List.getElem_append_left h]
  · by_cases e : i = p.length
    · subst e
      rw [cf_lt (by simp), cf_ge (Nat.le_refl _)]
      simp
    · rw [cf_ge (by simp; omega), cf_ge (by omega)]
theorem cf_trim (p : List Int) (i : Nat) : cf (trim p) i = cf p i := by
  refine snoc_ind (P := fun p => cf (trim p) i = cf p i) rfl (fun p c ih => ?_) p
  rw [trim_snoc]
  by_cases h : c = 0
  · rw [if_pos h, ih, h, cf_append_zero]
  · rw [if_neg h]
theorem trim_of_nrm {p : List Int} (h : Nrm p) : trim p = p := ext (nrm_trim p) h (cf_trim p)
theorem trim_len (p : List Int) : (trim p).length ≤ p.length := by
  refine snoc_ind (P := fun p => (trim p).length ≤ p.length) (Nat.le_refl _) (fun p c ih => ?_) p
  rw [trim_snoc]
  split
  · rw [List.length_append]; omega
  · exact Nat.le_refl _
theorem trim_mem {p : List Int} {c : Int} (h : c ∈ trim p) : c ∈ p := by
  unfold trim at h
  rw [List.mem_reverse] at h
  exact List.mem_reverse.mp ((List.dropWhile_sublist _).subset h)
/-! ### sums, products -/
def pplus (p q : List Int) : List Int := trim ((List.range (max p.length q.length)).map fun i => cf p i + cf q i)
theorem nrm_pplus (p q : List Int) : Nrm (pplus p q) := nrm_trim _
theorem cf_pplus (p q : List Int) (i : Nat) : cf (pplus p q) i = cf p i + cf q i := by
  unfold pplus
  rw [cf_trim, cf_map_range]
  split
  · rfl
  · rw [cf_ge (p := p) (by omega), cf_ge (p := q) (by omega)]; rfl
theorem pplus_len (p q : List Int) : (pplus p q).length ≤ max p.length q.length := by
  refine Nat.le_trans (trim_len _) ?_
  simp
def conv (p q : List Int) (n : Nat) : Int := sumN (n + 1) fun i => cf p i * cf q (n - i)
def pmul (p q : List Int) : List Int := if p = [] ∨ q = [] then [] else (List.range (p.length + q.length - 1)).map (conv p q)
theorem conv_ge {p q : List Int} {n : Nat} (h : p.length + q.length ≤ n + 1) : conv p q n = 0 := sumN_zero fun i hi => by
  by_cases l : p.length ≤ i
  · rw [cf_ge l, Int.zero_mul]
  · rw [cf_ge (p := q) (by omega), Int.mul_zero]
theorem cf_pmul (p q : List Int) (n : Nat) : cf (pmul p q) n = conv p q n := by
  unfold pmul
  split
  · rename_i h
    rw [cf_nil]
    rcases h with h | h
    · subst h; exact (sumN_zero fun i _ => by rw [cf_nil, Int.zero_mul]).symm
    · subst h; exact (sumN_zero fun i _ => by rw [cf_nil, Int.mul_zero]).symm
  · rename_i h
    have h1 : 0 < p.length := List.length_pos_iff.mpr fun e => h (.inl e)
    rw [cf_map_range]
    split
    · rfl
    · rw [conv_ge (by omega)]
theorem nrm_pmul {p q : List Int} (hp : Nrm p) (hq : Nrm q) : Nrm (pmul p q) := by
  by_cases h : p = [] ∨ q = []
  · unfold pmul; rw [if_pos h]; exact nrm_nil
  · have n1 : p ≠ [] := fun e => h (.inl e)
    have n2 : q ≠ [] := fun e => h (.inr e)
    have l1 : 0 < p.length := List.length_pos_iff.mpr n1
    have l2 : 0 < q.length := List.length_pos_iff.mpr n2
    have hl : (pmul p q).length = p.length + q.length - 1 := by unfold pmul; rw [if_neg h]; simp
    refine nrm_of_top fun _ => ?_
    rw [hl, cf_pmul]
    unfold conv
    rw [sumN_one (k := p.length - 1) (by omega) fun i hi ne => ?_]
    · have e : p.length + q.length - 1 - 1 - (p.length - 1) = q.length - 1 := by omega
      rw [e]
      exact Int.mul_ne_zero (nrm_top hp n1) (nrm_top hq n2)
    · by_cases l : p.length ≤ i
      · rw [cf_ge l, Int.zero_mul]
      · rw [cf_ge (p := q) (by omega), Int.mul_zero]
theorem pmul_len (p q : List Int) : (pmul p q).length ≤ p.length + q.length := by
  unfold pmul
  split
  · exact Nat.zero_le _
  · simp
theorem pmul_plus {p q r : List Int} (hp : Nrm p) : pmul p (pplus q r) = pplus (pmul p q) (pmul p r) :=
  ext (nrm_pmul hp (nrm_pplus q r)) (nrm_pplus _ _) fun n => by
    rw [cf_pplus, cf_pmul, cf_pmul, cf_pmul]
    unfold conv
    rw [← sumN_add]
    exact sumN_congr fun i _ => by rw [cf_pplus, Int.mul_add]
/-- led to its slope -/
def pder (p : List Int) : List Int := (List.range (p.length - 1)).map fun (i : Nat) => ((i : Int) + 1) * cf p (i + 1)
theorem cf_pder (p : List Int) (i : Nat) : cf (pder p) i = ((i : Int) + 1) * cf p (i + 1) := by
  unfold pder
  rw [cf_map_range]
  split
  · rfl
  · rw [cf_ge (p := p) (by omega), Int.mul_zero]
theorem nrm_pder {p : List Int} (h : Nrm p) : Nrm (pder p) := by
  refine nrm_of_top fun ne => ?_
  have hl : (pder p).length = p.length - 1 := by unfold pder; simp
  have l1 : 0 < (pder p).length := List.length_pos_iff.mpr ne
  rw [cf_pder, hl]
  have hp : p ≠ [] := fun e => by subst e; exact ne rfl
  have e : p.length - 1 - 1 + 1 = p.length - 1 := by omega
  rw [e]
  exact Int.mul_ne_zero (by omega) (nrm_top h hp)
theorem pder_mul {p q : List Int} (hp : Nrm p) (hq : Nrm q) : pder (pmul p q) = pplus (pmul (pder p) q) (pmul p (pder q)) :=
  ext (nrm_pder (nrm_pmul hp hq)) (nrm_pplus _ _) fun n => by
    rw [cf_pder, cf_pmul, cf_pplus, cf_pmul, cf_pmul]
    unfold conv
    rw [← sumN_mul]
    have e1 : sumN (n + 1) (fun i => cf (pder p) i * cf q (n - i)) = sumN (n + 1 + 1) fun i => (i : Int) * (cf p i * cf q (n + 1 - i)) := by
      conv => rhs; rw [sumN_head]
      simp only [Int.natCast_zero, Int.zero_mul, Int.zero_add]
      refine sumN_congr fun i hi => ?_
      rw [cf_pder]
      have : n + 1 - (i + 1) = n - i := by omega
      rw [this, Int.natCast_add, Int.mul_assoc]
      rfl
    have e2 : sumN (n + 1) (fun i => cf p i * cf (pder q) (n - i)) = sumN (n + 1 + 1) fun i => ((n + 1 - i : Nat) : Int) * (cf p i * cf q (n + 1 - i)) := by
      conv => rhs; rw [sumN]
      simp only [Nat.sub_self, Int.natCast_zero, Int.zero_mul, Int.add_zero]
      refine sumN_congr fun i hi => ?_
      rw [cf_pder]
      have h1 : n + 1 - i = n - i + 1 := by omega
      rw [h1, Int.natCast_add]
      rw [← Int.mul_assoc, Int.mul_comm (cf p i), Int.mul_assoc]
      rfl
    rw [e1, e2, ← sumN_add]
    refine sumN_congr fun i hi => ?_
    rw [← Int.add_mul]
    congr 1
    omega
/-! ### by a number, moved, lowest -/
def pby (k : Int) (p : List Int) : List Int := if k = 0 then [] else p.map (k * ·)
def pone (c : Int) : List Int := trim [c]
def pmov (m : Int) : List Int → List Int
  | [] => []
  | c :: p => pplus (pmul (pmov m p) (trim [m, 1])) (trim [c])
theorem nrm_pmov (m : Int) (p : List Int) : Nrm (pmov m p) := by
  cases p with
  | nil => exact nrm_nil
  | cons c p => exact nrm_pplus _ _
def pcon (p : List Int) : Nat := p.foldl (fun g c => Int.gcd (g : Int) c) 0
def plow (p : List Int) : List Int := if p = [] then [] else p.map fun c => c.fdiv (if cf p (p.length - 1) > 0 then (pcon p : Int) else 0 - (pcon p : Int))
theorem pcon_dvd (p : List Int) : ∀ (g : Nat), ((p.foldl (fun g c => Int.gcd (g : Int) c) g : Nat) : Int) ∣ g ∧ ∀ c ∈ p, ((p.foldl (fun g c => Int.gcd (g : Int) c) g : Nat) : Int) ∣ c := by
  induction p with
  | nil => intro g; exact ⟨Int.dvd_refl _, fun _ h => nomatch h⟩
  | cons c p ih =>
    intro g
    obtain ⟨h1, h2⟩ := ih (Int.gcd (g : Int) c)
    refine ⟨Int.dvd_trans h1 (Int.gcd_dvd_left ..), fun d hd => ?_⟩
    rcases List.mem_cons.mp hd with e | e
    · rw [e]; exact Int.dvd_trans h1 (Int.gcd_dvd_right ..)
    · exact h2 d e
theorem pcon_zero {p : List Int} (h : pcon p = 0) : ∀ c ∈ p, c = 0 := fun c hc => by
  have := (pcon_dvd p 0).2 c hc
  unfold pcon at h
  rw [h] at this
  exact Int.zero_dvd.mp this
theorem pcon_le {p : List Int} {c : Int} (hc : c ∈ p) (h : c ≠ 0) : (pcon p) ≤ c.natAbs := by
  have := (pcon_dvd p 0).2 c hc
  exact Int.natAbs_dvd_natAbs.mpr this |> fun d => by
    have h2 : c.natAbs ≠ 0 := by omega
    have := Nat.le_of_dvd (by omega) d
    simpa [pcon] using this
end PM

/-! M2: values of polys at broken numbers; bounds. -/
namespace PM
/-! ### raw sums and products; the value -/
def padd : List Int → List Int → List Int
  | [], q => q
  | p, [] => p
  | a :: p, b :: q => (a + b) :: padd p q
def rmul : List Int → List Int → List Int
  | [], _ => []
  | c :: p, q => padd (q.map (c * ·)) (0 :: rmul p q)
def pe : List Int → Rat → Rat
  | [], _ => 0
  | c :: p, x => (c : Rat) + x * pe p x
theorem pe_nil (x : Rat) : pe [] x = 0 := rfl
theorem pe_cons (c : Int) (p : List Int) (x : Rat) : pe (c :: p) x = (c : Rat) + x * pe p x := rfl
theorem cf_padd : ∀ (p q : List Int) (i : Nat), cf (padd p q) i = cf p i + cf q i
  | [], q, i => by rw [padd, cf_nil, Int.zero_add]
  | a :: p, [], i => by rw [padd, cf_nil, Int.add_zero]; intro h; cases h
  | a :: p, b :: q, 0 => rfl
  | a :: p, b :: q, i + 1 => by rw [padd, cf_cons_succ, cf_cons_succ, cf_cons_succ, cf_padd p q i]
theorem pe_padd (x : Rat) : ∀ (p q : List Int), pe (padd p q) x = pe p x + pe q x
  | [], q => by rw [padd, pe_nil]; grind
  | a :: p, [] => by rw [padd, pe_nil]; grind; intro h; cases h
  | a :: p, b :: q => by rw [padd, pe_cons, pe_cons, pe_cons, pe_padd x p q, Rat.intCast_add]; grind
theorem pe_map (x : Rat) (k : Int) : ∀ (p : List Int), pe (p.map (k * ·)) x = (k : Rat) * pe p x
  | [] => by rw [List.map_nil, pe_nil]; grind
  | c :: p => by rw [List.map_cons, pe_cons, pe_cons, pe_map x k p, Rat.intCast_mul]; grind
theorem pe_rmul (x : Rat) (q : List Int) : ∀ (p : List Int), pe (rmul p q) x = pe p x * pe q x
  | [] => by rw [rmul, pe_nil]; grind
  | c :: p => by
    rw [rmul, pe_padd, pe_map, pe_cons, pe_rmul x q p, pe_cons, Rat.intCast_zero]
    grind
theorem cf_rmul (q : List Int) : ∀ (p : List Int) (n : Nat), cf (rmul p q) n = conv p q n
  | [], n => by
    rw [rmul, cf_nil]
    exact (sumN_zero fun i _ => by rw [cf_nil, Int.zero_mul]).symm
  | c :: p, n => by
    rw [rmul, cf_padd, cf_map _ (Int.mul_zero c)]
    unfold conv
    rw [sumN_head, cf_cons_zero, Nat.sub_zero]
    congr 1
    cases n with
    | zero => rfl
    | succ n =>
      rw [cf_cons_succ, cf_rmul q p n]
      unfold conv
      refine sumN_congr fun i hi => ?_
      rw [cf_cons_succ]
      congr 2
      omega
theorem pe_zero (x : Rat) : ∀ (p : List Int), (∀ i, cf p i = 0) → pe p x = 0
  | [], _ => rfl
  | c :: p, h => by
    have h0 : c = 0 := h 0
    rw [pe_cons, pe_zero x p fun i => h (i + 1), h0, Rat.intCast_zero]
    grind
theorem pe_ext (x : Rat) : ∀ (p q : List Int), (∀ i, cf p i = cf q i) → pe p x = pe q x
  | [], q, h => (pe_zero x q fun i => (h i).symm.trans (cf_nil i)).symm
  | a :: p, [], h => pe_zero x _ fun i => (h i).trans (cf_nil i)
  | a :: p, b :: q, h => by
    have h0 : a = b := h 0
    rw [pe_cons, pe_cons, h0, pe_ext x p q fun i => h (i + 1)]
theorem pe_pmul (p q : List Int) (x : Rat) : pe (pmul p q) x = pe p x * pe q x := by
  rw [← pe_rmul]
  exact pe_ext x _ _ fun i => by rw [cf_pmul, cf_rmul]
/-- value and power, from the top on -/
def hv (a b : Int) : List Int → Int × Int
  | [] => (0, 1)
  | c :: p => ((hv a b p).1 * a + c * (hv a b p).2, (hv a b p).2 * b)
theorem hv_pos (a : Int) {b : Int} (hb : 0 < b) : ∀ p : List Int, 0 < (hv a b p).2
  | [] => Int.one_pos
  | c :: p => Int.mul_pos (hv_pos a hb p) hb
theorem divInt_int (c : Int) : (c : Rat) = Rat.divInt c 1 := by
  apply Rat.ext
  · rw [Rat.num_divInt]; simp
  · rw [Rat.den_divInt]; simp
theorem hv_val (a : Int) {b : Int} (hb : 0 < b) : ∀ p : List Int, Rat.divInt ((hv a b p).1 * b) (hv a b p).2 = pe p (Rat.divInt a b)
  | [] => by
    rw [pe_nil]
    show Rat.divInt (0 * b) 1 = 0
    rw [Int.zero_mul, ← divInt_int]; rfl
  | c :: p => by
    have hp := hv_pos a hb p
    rw [pe_cons, ← hv_val a hb p, Rat.divInt_mul_divInt, divInt_int, Rat.divInt_add_divInt _ _ (by decide) (Int.ne_of_gt (Int.mul_pos hb hp)), Rat.divInt_eq_divInt_iff]
    · show ((hv a b p).1 * a + c * (hv a b p).2) * b * (1 * (b * (hv a b p).2)) = (c * (b * (hv a b p).2) + a * ((hv a b p).1 * b) * 1) * ((hv a b p).2 * b)
      grind
    · exact Int.ne_of_gt (Int.mul_pos hp hb)
    · exact Int.ne_of_gt (Int.mul_pos (by decide) (Int.mul_pos hb hp))
/-! ### bounds -/
def Bd (k : Nat) (x : Int) : Prop := x.natAbs < 2 ^ k
def BdP (k : Nat) (p : List Int) : Prop := ∀ c ∈ p, Bd k c
theorem Bd.mono {k l : Nat} {x : Int} (h : Bd k x) (hl : k ≤ l) : Bd l x := Nat.lt_of_lt_of_le h (Nat.pow_le_pow_right (by decide) hl)
theorem BdP.mono {k l : Nat} {p : List Int} (h : BdP k p) (hl : k ≤ l) : BdP l p := fun c hc => (h c hc).mono hl
theorem bd_zero {k : Nat} : Bd k 0 := Nat.two_pow_pos k
theorem Bd.mul {k l : Nat} {x y : Int} (h : Bd k x) (h' : Bd l y) : Bd (k + l) (x * y) := by
  unfold Bd at *
  rw [Int.natAbs_mul, Nat.pow_add]
  exact Nat.mul_lt_mul'' h h'
theorem Bd.add {k : Nat} {x y : Int} (h : Bd k x) (h' : Bd k y) : Bd (k + 1) (x + y) := by
  unfold Bd at *
  have := Int.natAbs_add_le x y
  rw [Nat.pow_succ]
  omega
theorem Bd.neg {k : Nat} {x : Int} (h : Bd k x) : Bd k (-x) := by
  unfold Bd at *
  rwa [Int.natAbs_neg]
theorem Bd.of {k : Nat} {x : Int} (h : x.natAbs < 2 ^ k) : Bd k x := h
theorem BdP.cf {k : Nat} {p : List Int} (h : BdP k p) (i : Nat) : Bd k (PM.cf p i) := by
  by_cases l : i < p.length
  · rw [cf_lt l]; exact h _ (List.getElem_mem _)
  · rw [cf_ge (by omega)]; exact bd_zero
theorem bd_sum {k l : Nat} {f : Nat → Int} : ∀ {n : Nat}, (∀ i, i < n → Bd k (f i)) → n ≤ 2 ^ l → Bd (k + l) (sumN n f) := fun {n} h hn => by
  have key : ∀ n, (∀ i, i < n → Bd k (f i)) → (sumN n f).natAbs ≤ n * (2 ^ k - 1) := by
    intro n
    induction n with
    | zero => intro _; simp [sumN]
    | succ n ih =>
      intro h
      rw [sumN, Nat.succ_mul]
      have h1 := ih fun i hi => h i (by omega)
      have h2 : (f n).natAbs < 2 ^ k := h n (by omega)
      have := Int.natAbs_add_le (sumN n f) (f n)
      omega
  have h1 := key n h
  unfold Bd
  have h2 : 0 < 2 ^ k := Nat.two_pow_pos k
  have h3 : n * (2 ^ k - 1) ≤ 2 ^ l * (2 ^ k - 1) := Nat.mul_le_mul_right _ hn
  have h4 : 2 ^ l * (2 ^ k - 1) < 2 ^ l * 2 ^ k := Nat.mul_lt_mul_of_pos_left (by omega) (Nat.two_pow_pos l)
  rw [Nat.pow_add, Nat.mul_comm (2 ^ k)]
  omega
theorem bd_pplus {k : Nat} {p q : List Int} (h : BdP k p) (h' : BdP k q) : BdP (k + 1) (pplus p q) := fun c hc => by
  have := trim_mem hc
  obtain ⟨i, _, e⟩ := List.mem_map.mp this
  rw [← e]
  exact (h.cf i).add (h'.cf i)
theorem bd_conv {k l m : Nat} {p q : List Int} (h : BdP k p) (h' : BdP l q) {n : Nat} (hn : n + 1 ≤ 2 ^ m) : Bd (k + l + m) (conv p q n) := bd_sum (fun i _ => (h.cf i).mul (h'.cf _)) hn
theorem bd_pmul {k l m : Nat} {p q : List Int} (h : BdP k p) (h' : BdP l q) (hm : p.length + q.length ≤ 2 ^ m) : BdP (k + l + m) (pmul p q) := fun c hc => by
  unfold pmul at hc
  split at hc
  · cases hc
  · obtain ⟨i, hi, e⟩ := List.mem_map.mp hc
    rw [← e]
    have := List.mem_range.mp hi
    exact bd_conv h h' (by omega)
theorem bd_pder {k l : Nat} {p : List Int} (h : BdP k p) (hl : p.length < 2 ^ l) : BdP (l + k) (pder p) := fun c hc => by
  unfold pder at hc
  obtain ⟨i, hi, e⟩ := List.mem_map.mp hc
  rw [← e]
  have := List.mem_range.mp hi
  have b : Bd l ((i : Int) + 1) := by unfold Bd; omega
  exact b.mul (h.cf _)
theorem bd_trim {k : Nat} {p : List Int} (h : BdP k p) : BdP k (trim p) := fun c hc => h c (trim_mem hc)
theorem bd_pby {k l : Nat} {n : Int} {p : List Int} (h : BdP l p) (hn : Bd k n) : BdP (k + l) (pby n p) := fun c hc => by
  unfold pby at hc
  split at hc
  · cases hc
  · obtain ⟨d, hd, e⟩ := List.mem_map.mp hc
    rw [← e]
    exact hn.mul (h d hd)
theorem bd_pmov {k l : Nat} {m : Int} (hm : Bd l m) (hl : 1 ≤ l) : ∀ {p : List Int}, BdP k p → p.length ≤ 60 → BdP (k + p.length * (l + 8)) (pmov m p) ∧ (pmov m p).length ≤ p.length
  | [], _, _ => ⟨(fun _ h => nomatch h), Nat.le_refl _⟩
  | c :: p, h, hp => by
    have hp' : p.length + 1 ≤ 60 := hp
    obtain ⟨b, len⟩ := bd_pmov hm hl (p := p) (fun d hd => h d (List.mem_cons_of_mem _ hd)) (by omega)
    have e : (c :: p).length = p.length + 1 := rfl
    have b1 : BdP l (trim [m, 1]) := bd_trim fun d hd => by
      rcases List.mem_cons.mp hd with q | hd
      · rw [q]; exact hm
      · rcases List.mem_cons.mp hd with q | hd
        · rw [q]; unfold Bd; exact Nat.lt_of_lt_of_le (by decide) (Nat.pow_le_pow_right (by decide) hl)
        · cases hd
    have l1 : (trim [m, 1]).length ≤ 2 := trim_len _
    have b2 : BdP (k + p.length * (l + 8) + l + 6) (pmul (pmov m p) (trim [m, 1])) := bd_pmul b b1 (by omega)
    have b3 : BdP k (trim [c]) := bd_trim fun d hd => h d (by rw [List.mem_singleton.mp hd]; exact List.mem_cons_self)
    have b4 := bd_pplus (b2.mono (l := k + p.length * (l + 8) + l + 7) (by omega)) (b3.mono (by omega))
    refine ⟨?_, ?_⟩
    · rw [e, Nat.succ_mul]
      exact b4.mono (by omega)
    · show (pplus (pmul (pmov m p) (trim [m, 1])) (trim [c])).length ≤ _
      have h1 := pplus_len (pmul (pmov m p) (trim [m, 1])) (trim [c])
      have h2 : (pmul (pmov m p) (trim [m, 1])).length ≤ p.length + 1 := by
        unfold pmul
        split
        · exact Nat.zero_le _
        · simp; omega
      have h3 : (trim [c]).length ≤ 1 := trim_len _
      rw [e]; omega
theorem bd_hv {k l : Nat} {a b : Int} (ha : Bd l a) (hb : Bd l b) : ∀ {p : List Int}, BdP k p → Bd (k + 1 + p.length * (l + 1)) (hv a b p).1 ∧ Bd (1 + p.length * l) (hv a b p).2
  | [], _ => ⟨bd_zero, by show (1 : Int).natAbs < 2 ^ (1 + 0 * l); simp⟩
  | c :: p, h => by
    obtain ⟨b1, b2⟩ := bd_hv ha hb (p := p) fun d hd => h d (List.mem_cons_of_mem _ hd)
    have e : (c :: p).length = p.length + 1 := rfl
    refine ⟨?_, ?_⟩
    · have x1 := b1.mul ha
      have x2 := (h c List.mem_cons_self).mul b2
      have le2 : p.length * l ≤ p.length * (l + 1) := Nat.mul_le_mul_left _ (Nat.le_succ _)
      have x3 := (x1.mono (l := k + 1 + p.length * (l + 1) + l) (by omega)).add (x2.mono (by omega))
      rw [e, Nat.succ_mul]
      exact x3.mono (by omega)
    · rw [e, Nat.succ_mul]
      exact (b2.mul hb).mono (by omega)
theorem bd_num {k : Nat} {n d : Int} (h : Bd k n) : Bd k (Rat.divInt n d).num := by
  rw [Rat.num_divInt]
  unfold Bd at *
  refine Nat.lt_of_le_of_lt ?_ h
  refine Nat.le_trans (Int.natAbs_ediv_le_natAbs _ _) ?_
  rw [Int.natAbs_mul]
  rcases Int.lt_trichotomy d 0 with z | z | z
  · rw [Int.sign_eq_neg_one_of_neg z]; simp
  · subst z; simp
  · rw [Int.sign_eq_one_of_pos z]; simp
theorem bd_den {k : Nat} {n d : Int} (h : Bd k d) (hk : 1 ≤ k) : Bd k (Rat.divInt n d).den := by
  rw [Rat.den_divInt]
  unfold Bd at *
  split
  · exact Nat.lt_of_lt_of_le (by decide) (Nat.pow_le_pow_right (by decide) hk)
  · refine Nat.lt_of_le_of_lt ?_ h
    exact Nat.div_le_self d.natAbs (d.gcd n)
end PM

/-! ### the law's defs: numbers, bodies, table -/
namespace LW
open PySem PySem.Spec PyProof.Rows L2 DL
namespace F
abbrev _law_dice : Nat := 0
abbrev _law_is_of : Nat := 1
abbrev _law_sorts : Nat := 2
abbrev _law_roll : Nat := 3
abbrev _law_pick : Nat := 4
abbrev _law_told : Nat := 5
abbrev law : Nat := 6
end F
namespace G
end G
abbrev cls : List (String × List Str) := []
abbrev xcs : List String := ["SeriesError", "InvalidRow", "InvalidLot", "InvalidPoly", "InvalidRatio", "InvalidTable", "InvalidTerm", "InvalidLaw", "InvalidTold", "InvalidOperation", "ParseError", "UnknownName", "InvalidCount", "TooMany", "Refused", "NothingToUndo"]
def mts : List (Str × List (Nat × HC) × Option D) := []
def b__law_dice : Bl := (.cons (.asg (.nm 2) (.ite (.cmp .lt (.var 1) (.bi .len (.cons (.var 0) .nil))) (.bi .int (.cons (.idx (.var 0) (.var 1)) .nil)) (.bin .add (.bin .mul (.cst (.int 137)) (.var 1)) (.cst (.int 41))))) (.cons (.asg (.nm 3) (.bin .mod (.bi .int (.cons (.bi .abs (.cons (.var 2) .nil)) .nil)) (.bin .pow (.bin .pow (.cst (.int 10)) (.cst (.int 53))) (.cst (.int 6))))) (.cons (.asg (.nm 4) (.bin .add (.bin .add (.bin .add (.bin .mul (.bin .mod (.var 3) (.cst (.int 2305843009213693907))) (.cst (.int 73))) (.bin .mul (.cst (.int 619)) (.var 1))) (.bin .mul (.cst (.int 41)) (.bi .int (.cons (.cmp .lt (.var 2) (.cst (.int 0))) .nil)))) (.cst (.int 17)))) (.cons (.ret (.own (.disp (.cons (.bi .max (.cons (.cst (.int 0)) (.cons (.bin .sub (.var 3) (.bin .pow (.cst (.int 10)) (.cst (.int 16)))) .nil))) (.cons (.var 4) (.cons (.cst (.int 0)) .nil)))))) .nil))))
def d__law_dice : Df := ⟨F._law_dice, "_law_dice", ["script", "spot"], ["script", "spot", "cell", "great", "seed"], 35, [], [], b__law_dice, (.fn "_law_dice"), cls, [], [], [], xcs, [], false, []⟩
def b__law_is_of : Bl := (.cons (.ife (.cmp .eq (.var 1) (.cst (.int 0))) (.cons (.ret (.isX true "SeriesError" (.var 0))) .nil) .nil) (.cons (.ife (.cmp .eq (.var 1) (.cst (.int 1))) (.cons (.ret (.isX false "KeyError" (.var 0))) .nil) .nil) (.cons (.ife (.cmp .eq (.var 1) (.cst (.int 2))) (.cons (.ret (.isX false "IndexError" (.var 0))) .nil) .nil) (.cons (.ife (.cmp .eq (.var 1) (.cst (.int 3))) (.cons (.ret (.isX false "OverflowError" (.var 0))) .nil) .nil) (.cons (.ife (.cmp .eq (.var 1) (.cst (.int 4))) (.cons (.ret (.isX false "ArithmeticError" (.var 0))) .nil) .nil) (.cons (.ife (.cmp .eq (.var 1) (.cst (.int 5))) (.cons (.ret (.isX false "LookupError" (.var 0))) .nil) .nil) (.cons (.ret (.isX false "ValueError" (.var 0))) .nil)))))))
def d__law_is_of : Df := ⟨F._law_is_of, "_law_is_of", ["error", "at"], ["error", "at"], 35, [], [], b__law_is_of, (.fn "_law_is_of"), cls, [], [], [], xcs, [], false, []⟩
def b__law_sorts : Bl := (.cons (.ret (.frz (.comp [1] (.nm 1) (.rng1 (.cst (.int 7))) (.cons (.call F._law_is_of (.cons (.var 0) (.cons (.var 1) .nil))) .nil) (.var 1)))) .nil)
def d__law_sorts : Df := ⟨F._law_sorts, "_law_sorts", ["error"], ["error", "at"], 40, [(F._law_is_of, "_law_is_of")], [], b__law_sorts, (.fn "_law_sorts"), cls, [], [], [], xcs, [], false, []⟩
def b__law_roll : Bl := (.cons (.ife (.cmp .gt (.idx (.var 0) (.cst (.int 0))) (.cst (.int 0))) (.cons (.asg (.nm 2) (.bin .mod (.idx (.var 0) (.cst (.int 0))) (.var 1))) (.cons (.asg (.sub (.var 0) (.cst (.int 0))) (.bin .fdiv (.idx (.var 0) (.cst (.int 0))) (.var 1))) (.cons (.ret (.bi .int (.cons (.var 2) .nil))) .nil))) .nil) (.cons (.asg (.sub (.var 0) (.cst (.int 2))) (.bin .add (.idx (.var 0) (.cst (.int 2))) (.cst (.int 1)))) (.cons (.asg (.nm 3) (.bin .mod (.bin .add (.idx (.var 0) (.cst (.int 1))) (.bin .mul (.cst (.int 49979693)) (.idx (.var 0) (.cst (.int 2))))) (.cst (.int 2305843009213693951)))) (.cons (.asg (.nm 4) (.bin .add (.bin .mul (.bin .mod (.bin .add (.bin .mul (.var 3) (.var 3)) (.bin .mul (.cst (.int 131)) (.idx (.var 0) (.cst (.int 2))))) (.cst (.int 2305843009213693921))) (.cst (.int 32452867))) (.var 3))) (.cons (.ret (.bin .mod (.bi .int (.cons (.bin .fdiv (.var 4) (.cst (.int 65599))) .nil)) (.var 1))) .nil)))))
def d__law_roll : Df := ⟨F._law_roll, "_law_roll", ["dice", "total"], ["dice", "total", "found", "one", "two"], 35, [], [], b__law_roll, (.fn "_law_roll"), cls, [], [], [], xcs, [], false, []⟩
def b__law_pick : Bl := (.cons (.ret (.idx (.var 1) (.call F._law_roll (.cons (.var 0) (.cons (.bi .len (.cons (.var 1) .nil)) .nil))))) .nil)
def d__law_pick : Df := ⟨F._law_pick, "_law_pick", ["dice", "items"], ["dice", "items"], 40, [(F._law_roll, "_law_roll")], [], b__law_pick, (.fn "_law_pick"), cls, [], [], [], xcs, [], false, []⟩
def b__law_told : Bl := (.cons (.asg (.nm 1) (.call F._law_pick (.cons (.var 0) (.cons (.frz (.disp (.cons (.cst (.str "")) (.cons (.cst (.str "a poly is expected")) (.cons (.cst (.str "1")) (.cons (.cst (.str "x y")) .nil)))))) .nil)))) (.cons (.asg (.nm 2) (.own (.disp (.cons (.mkx 1 (.var 1)) (.cons (.mkx 2 (.var 1)) (.cons (.mkx 3 (.var 1)) (.cons (.mkx 4 (.var 1)) .nil))))))) (.cons (.asg (.nm 2) (.own (.cat (.var 2) (.frz (.disp (.cons (.mkx 5 (.var 1)) (.cons (.mkx 6 (.var 1)) (.cons (.mkx 7 (.var 1)) (.cons (.mkx 8 (.var 1)) .nil))))))))) (.cons (.ex (.app (.var 2) (.mkx 9 (.var 1)))) (.cons (.ife (.cmp .ne (.frz (.comp [3] (.nm 3) (.seq (.frz (.cat (.var 2) (.frz (.disp (.cons (.mkx 0 (.var 1)) .nil)))))) (.cons (.cmp .ne (.call F._law_sorts (.cons (.var 3) .nil)) (.frz (.disp (.cons (.cst (.int 0)) (.cons (.cst (.int 6)) .nil))))) .nil) (.cst (.int 1)))) (.frz (.disp .nil))) (.cons (.ret (.cst (.bl false))) .nil) .nil) (.cons (.for (.tp (.cons (.nm 4) (.cons (.nm 3) .nil))) (.enum (.var 2)) (.cons (.asg (.nm 5) (.own (.disp (.cons (.isX true "InvalidRow" (.var 3)) (.cons (.isX true "InvalidLot" (.var 3)) (.cons (.isX true "InvalidPoly" (.var 3)) .nil)))))) (.cons (.asg (.nm 5) (.own (.cat (.var 5) (.frz (.disp (.cons (.isX true "InvalidRatio" (.var 3)) (.cons (.isX true "InvalidTable" (.var 3)) .nil))))))) (.cons (.asg (.nm 5) (.own (.cat (.var 5) (.frz (.disp (.cons (.isX true "InvalidTerm" (.var 3)) (.cons (.isX true "InvalidLaw" (.var 3)) (.cons (.isX true "InvalidTold" (.var 3)) .nil)))))))) (.cons (.ex (.app (.var 5) (.isX true "InvalidOperation" (.var 3)))) (.cons (.ife (.or (.cmp .ne (.var 5) (.frz (.comp [6] (.nm 6) (.rng1 (.cst (.int 9))) .nil (.cmp .eq (.var 4) (.var 6))))) (.isX true "ParseError" (.var 3))) (.cons (.ret (.cst (.bl false))) .nil) .nil) .nil)))))) (.cons (.asg (.nm 7) (.call F._law_pick (.cons (.var 0) (.cons (.frz (.disp (.cons (.cst .non) (.cons (.cst (.int 0)) (.cons (.cst (.str "a")) (.cons (.tup (.cons (.cst (.int 1)) (.cons (.cst (.int 2)) .nil))) (.cons (.bin .pow (.cst (.int 10)) (.cst (.int 30))) (.cons (.cst (.bl true)) (.cons (.frz (.disp .nil)) (.cons (.cst (.str "x")) .nil)))))))))) .nil)))) (.cons (.par [8, 9, 10] (.cons (.mkx 10 (.var 7)) (.cons (.mkx 11 (.var 7)) (.cons (.mkx 12 (.var 7)) .nil)))) (.cons (.par [11, 12, 13] (.cons (.mkx 13 (.var 7)) (.cons (.mkx 14 (.var 7)) (.cons (.mkx 15 (.var 7)) .nil)))) (.cons (.asg (.nm 14) (.frz (.disp (.cons (.xfl "line" (.var 8)) (.cons (.xfl "wanted" (.var 9)) (.cons (.xfl "given" (.var 10)) (.cons (.xfl "limit" (.var 11)) (.cons (.xfl "reason" (.var 12)) (.cons (.xfl "wanted" (.var 13)) .nil))))))))) (.cons (.ife (.cmp .ne (.bi .reprG (.cons (.var 14) .nil)) (.bi .reprG (.cons (.frz (.rep (.frz (.disp (.cons (.var 7) .nil))) (.cst (.int 6)))) .nil))) (.cons (.ret (.cst (.bl false))) .nil) .nil) (.cons (.asg (.nm 15) (.frz (.comp [3] (.nm 3) (.seq (.tup (.cons (.var 8) (.cons (.var 9) (.cons (.var 10) (.cons (.var 11) (.cons (.var 12) (.cons (.var 13) .nil)))))))) .nil (.call F._law_sorts (.cons (.var 3) .nil))))) (.cons (.ret (.cmp .eq (.var 15) (.frz (.disp (.cons (.frz (.disp (.cons (.cst (.int 0)) (.cons (.cst (.int 6)) .nil)))) (.cons (.frz (.disp (.cons (.cst (.int 1)) (.cons (.cst (.int 5)) .nil)))) (.cons (.frz (.disp (.cons (.cst (.int 2)) (.cons (.cst (.int 5)) .nil)))) (.cons (.frz (.disp (.cons (.cst (.int 3)) (.cons (.cst (.int 4)) .nil)))) (.cons (.frz (.disp (.cons (.cst (.int 4)) .nil))) (.cons (.frz (.disp (.cons (.cst (.int 5)) .nil))) .nil)))))))))) .nil)))))))))))))
def d__law_told : Df := ⟨F._law_told, "_law_told", ["dice"], ["dice", "message", "some", "error", "at", "kinds", "spot", "value", "line", "wanted", "given", "limit", "reason", "undo", "kept", "sorts"], 45, [(F._law_sorts, "_law_sorts"), (F._law_pick, "_law_pick")], [], b__law_told, (.fn "_law_told"), cls, [], [], [], xcs, [], true, []⟩
def b_law : Bl := (.cons (.for (.nm 1) (.rng1 (.bi .max (.cons (.cst (.int 1)) (.cons (.bi .min (.cons (.cst (.int 6)) (.cons (.bi .len (.cons (.var 0) .nil)) .nil))) .nil)))) (.cons (.asg (.nm 2) (.call F._law_dice (.cons (.var 0) (.cons (.var 1) .nil)))) (.cons (.for (.nm 3) (.rng1 (.cst (.int 3))) (.cons (.ife (.not (.callG F._law_told (.cons (.var 2) .nil))) (.cons (.ret (.cst (.bl false))) .nil) .nil) .nil)) .nil))) (.cons (.ret (.cst (.bl true))) .nil))
def d_law : Df := ⟨F.law, "law", ["script"], ["script", "spot", "dice", "turn"], 50, [(F._law_dice, "_law_dice")], [], b_law, (.fn "law"), cls, [], [], [], xcs, [], true, [(F._law_told, "_law_told")]⟩
end LW
/-! ### promises of the law's own defs (k10) -/
namespace LW
open PySem DL PM
abbrev Dice (p : Addr) (a b c : Int) (S : Sto) : Sto := sup S p (.lst [.int a, .int b, .int c])
abbrev HasDice (S : Sto) (p : Addr) : Prop := ∃ a b c : Int, S p = some (.lst [.int a, .int b, .int c])
abbrev sp__law_dice : FSp := fun ds S R Q => ∃ ns, ∃ i : Nat, ds = [.scr ns, .int i] ∧ ∀ p a b c, S p = none → Q (.ref p) (Dice p a b c S)
abbrev sp__law_roll : FSp := fun ds S R Q => ∃ p t, ds = [.ref p, .int t] ∧ HasDice S p ∧ 0 < t ∧ t < 2 ^ 30 ∧ ∀ r a b c : Int, 0 ≤ r → r < t → Q (.int r) (Dice p a b c S)
abbrev sp__law_pick : FSp := fun ds S R Q => ∃ p xs, ds = [.ref p, .lst xs] ∧ HasDice S p ∧ xs ≠ [] ∧ xs.length < 1000 ∧ ∀ x ∈ xs, ∀ a b c : Int, Q x (Dice p a b c S)
/-- the sorts told in the law -/
def tys7 : List String := ["SeriesError", "KeyError", "IndexError", "OverflowError", "ArithmeticError", "LookupError", "ValueError"]
def isOf (n : String) (i : Nat) : Bool := (xanc n).contains (tys7.getD i "")
def srt (n : String) : List Nat := (List.range 7).filter (isOf n)
abbrev sp__law_is_of : FSp := fun ds S R Q => ∃ n vs, ∃ i : Int, ds = [.exc n vs, .int i] ∧ xcs.contains n = true ∧ 0 ≤ i ∧ i < 7 ∧ Q (.bl (isOf n i.toNat)) S
abbrev sp__law_sorts : FSp := fun ds S R Q => ∃ n vs, ds = [.exc n vs] ∧ xcs.contains n = true ∧ Q (.lst ((srt n).map fun i => .int (i : Nat))) S
abbrev sp__law_told : FSp := fun ds S R Q => ∃ p, ds = [.ref p] ∧ HasDice S p ∧ ∀ S', HasDice S' p → Q (.bl true) S'
abbrev sp_law : FSp := fun ds S R Q => ∃ ns, ds = [.scr ns] ∧ ∀ S', Q (.bl true) S'
end LW

namespace LW
open PySem DL PM
/-! ### promises, by number -/
def fnT : List FSp := [sp__law_dice, sp__law_is_of, sp__law_sorts, sp__law_roll, sp__law_pick, sp__law_told, sp_law]
def glT : List D := []
def Gm : Gam := ⟨fun k => fnT.getD k fun _ _ _ _ => False, fun k => glT.getD k .non, cls, xcs, mts⟩
theorem xc_0 : Gm.xc[0]? = some "SeriesError" := rfl
theorem xs_SeriesError : xsup "SeriesError" = none := rfl
theorem xc_1 : Gm.xc[1]? = some "InvalidRow" := rfl
theorem xs_InvalidRow : xsup "InvalidRow" = none := rfl
theorem xc_2 : Gm.xc[2]? = some "InvalidLot" := rfl
theorem xs_InvalidLot : xsup "InvalidLot" = none := rfl
theorem xc_3 : Gm.xc[3]? = some "InvalidPoly" := rfl
theorem xs_InvalidPoly : xsup "InvalidPoly" = none := rfl
theorem xc_4 : Gm.xc[4]? = some "InvalidRatio" := rfl
theorem xs_InvalidRatio : xsup "InvalidRatio" = none := rfl
theorem xc_5 : Gm.xc[5]? = some "InvalidTable" := rfl
theorem xs_InvalidTable : xsup "InvalidTable" = none := rfl
theorem xc_6 : Gm.xc[6]? = some "InvalidTerm" := rfl
theorem xs_InvalidTerm : xsup "InvalidTerm" = none := rfl
theorem xc_7 : Gm.xc[7]? = some "InvalidLaw" := rfl
theorem xs_InvalidLaw : xsup "InvalidLaw" = none := rfl
theorem xc_8 : Gm.xc[8]? = some "InvalidTold" := rfl
theorem xs_InvalidTold : xsup "InvalidTold" = none := rfl
theorem xc_9 : Gm.xc[9]? = some "InvalidOperation" := rfl
theorem xs_InvalidOperation : xsup "InvalidOperation" = none := rfl
theorem xc_10 : Gm.xc[10]? = some "ParseError" := rfl
theorem xs_ParseError : xsup "ParseError" = some (("line" : Str), "ValueError") := rfl
theorem xc_11 : Gm.xc[11]? = some "UnknownName" := rfl
theorem xs_UnknownName : xsup "UnknownName" = some (("wanted" : Str), "KeyError") := rfl
theorem xc_12 : Gm.xc[12]? = some "InvalidCount" := rfl
theorem xs_InvalidCount : xsup "InvalidCount" = some (("given" : Str), "IndexError") := rfl
theorem xc_13 : Gm.xc[13]? = some "TooMany" := rfl
theorem xs_TooMany : xsup "TooMany" = some (("limit" : Str), "OverflowError") := rfl
theorem xc_14 : Gm.xc[14]? = some "Refused" := rfl
theorem xs_Refused : xsup "Refused" = some (("reason" : Str), "ArithmeticError") := rfl
theorem xc_15 : Gm.xc[15]? = some "NothingToUndo" := rfl
theorem xs_NothingToUndo : xsup "NothingToUndo" = some (("wanted" : Str), "LookupError") := rfl
theorem fn__law_dice : Gm.fn F._law_dice = sp__law_dice := rfl
theorem fn__law_is_of : Gm.fn F._law_is_of = sp__law_is_of := rfl
theorem fn__law_sorts : Gm.fn F._law_sorts = sp__law_sorts := rfl
theorem fn__law_roll : Gm.fn F._law_roll = sp__law_roll := rfl
theorem fn__law_pick : Gm.fn F._law_pick = sp__law_pick := rfl
theorem fn__law_told : Gm.fn F._law_told = sp__law_told := rfl
theorem fn_law : Gm.fn F.law = sp_law := rfl
local macro_rules | `(tactic| walk_at "wpx") => `(tactic| simp only [wpS, wpE, wpEs, wpFs, wpO, wpL, wpI, wpG, wpGs, wpTs, getV, setV, delV, delVs, parV, tgsLen, tstD, binD, cmpD, biD, res_i, res_b, res_s, res_n, res_t, res_l, res_c, res_ob, res_dc, res_sup, isCD,  seqD_t, seqD_l, seqD_c, seqD_sup, sup_same, sup_sup, pick_rev, at2_0, at2_1, at3_0, at3_1, at3_2, ix3_0, ix3_1, ix3_2, Option.some.injEq, exists_eq_left',  if_true, if_false, Bool.false_eq_true, List.length_cons, List.length_nil, decide_true, decide_false, Bool.not_true, Bool.not_false, true_and, and_true, xc_0, xs_SeriesError, xc_1, xs_InvalidRow, xc_2, xs_InvalidLot, xc_3, xs_InvalidPoly, xc_4, xs_InvalidRatio, xc_5, xs_InvalidTable, xc_6, xs_InvalidTerm, xc_7, xs_InvalidLaw, xc_8, xs_InvalidTold, xc_9, xs_InvalidOperation, xc_10, xs_ParseError, xc_11, xs_UnknownName, xc_12, xs_InvalidCount, xc_13, xs_TooMany, xc_14, xs_Refused, xc_15, xs_NothingToUndo, fn__law_dice, fn__law_is_of, fn__law_sorts, fn__law_roll, fn__law_pick, fn__law_told, fn_law])
local macro_rules | `(tactic| walk_at "szs") => `(tactic| repeat (with_reducible refine And.intro (by first | decide | (rw [sizeLine_eq]; decide)) ?_))
local macro_rules | `(tactic| walk_at "wpc") => `(tactic| ((try dsimp only); rw [wpB]; simp only [wpS, wpE, wpEs, wpFs, wpO, wpL, wpI, wpG, wpGs, wpTs, getV, setV, delV, delVs, parV, tgsLen, tstD, binD, cmpD, biD, res_i, res_b, res_s, res_n, res_t, res_l, res_c, res_ob, res_dc, res_sup, isCD,  seqD_t, seqD_l, seqD_c, seqD_sup, sup_same, sup_sup, pick_rev, at2_0, at2_1, at3_0, at3_1, at3_2, ix3_0, ix3_1, ix3_2, Option.some.injEq, exists_eq_left',  if_true, if_false, Bool.false_eq_true, List.length_cons, List.length_nil, decide_true, decide_false, Bool.not_true, Bool.not_false, true_and, and_true, xc_0, xs_SeriesError, xc_1, xs_InvalidRow, xc_2, xs_InvalidLot, xc_3, xs_InvalidPoly, xc_4, xs_InvalidRatio, xc_5, xs_InvalidTable, xc_6, xs_InvalidTerm, xc_7, xs_InvalidLaw, xc_8, xs_InvalidTold, xc_9, xs_InvalidOperation, xc_10, xs_ParseError, xc_11, xs_UnknownName, xc_12, xs_InvalidCount, xc_13, xs_TooMany, xc_14, xs_Refused, xc_15, xs_NothingToUndo, fn__law_dice, fn__law_is_of, fn__law_sorts, fn__law_roll, fn__law_pick, fn__law_told, fn_law]))

theorem sup_self {S : Sto} {p : Addr} {o : DO} (h : S p = some o) : sup S p o = S := by
  funext a
  unfold sup
  split
  · rename_i e; rw [e, h]
  · rfl
theorem noPy {x y : Int} : PyOk x y := trivial
theorem fmod_rng (a t : Int) (h : 0 < t) : 0 ≤ a.fmod t ∧ a.fmod t < t := ⟨Int.fmod_nonneg_of_pos a h, Int.fmod_lt_of_pos a h⟩
theorem sok__law_dice : SpecOk Gm d__law_dice := by
  rintro ds S R Q ⟨ns, i, rfl, q⟩
  refine ⟨rfl, ?_⟩
  show wpB Gm b__law_dice _ _ [some (.scr ns), some (.int i), none, none, none] S
  unfold b__law_dice
  walk_at "wpc"
  by_cases h : (i : Int) < (ns.length : Int)
  · simp only [h, decide_true, if_true]
    refine ⟨ns[i]'(by omega), L2.atI_nat (List.getElem?_eq_getElem (by omega)), ?_⟩
    generalize ns[i]'(by omega) = c
    walk_at "wpc"
    refine ⟨⟨by decide, by decide +kernel⟩, ⟨by decide, by decide +kernel⟩, by decide +kernel, ?_⟩
    generalize Int.fmod _ _ = g
    walk_at "wpc"
    refine ⟨by decide, .of_right (by decide), .of_left (by decide), .of_left (by decide), ?_⟩
    walk_at "wpc"
    refine ⟨⟨by decide, by decide +kernel⟩, _, _, rfl, rfl, by decide, fun p hp => ?_⟩
    exact rtq (q p _ _ _ hp)
  · simp only [h, decide_false, Bool.false_eq_true, if_false]
    refine ⟨.of_left (by decide), ?_⟩
    generalize 137 * (i : Int) + 41 = c
    walk_at "wpc"
    refine ⟨⟨by decide, by decide +kernel⟩, ⟨by decide, by decide +kernel⟩, by decide +kernel, ?_⟩
    generalize Int.fmod _ _ = g
    walk_at "wpc"
    refine ⟨by decide, .of_right (by decide), .of_left (by decide), .of_left (by decide), ?_⟩
    walk_at "wpc"
    refine ⟨⟨by decide, by decide +kernel⟩, _, _, rfl, rfl, by decide, fun p hp => ?_⟩
    exact rtq (q p _ _ _ hp)
theorem sok__law_roll : SpecOk Gm d__law_roll := by
  rintro ds S R Q ⟨p, t, rfl, ⟨a, b, c, hS⟩, ht, ht2, q⟩
  refine ⟨rfl, ?_⟩
  show wpB Gm b__law_roll _ _ [some (.ref p), some (.int t), none, none, none] S
  unfold b__law_roll
  rw [← sup_self hS]
  have hpy : t.natAbs < 2 ^ 9000 := Nat.lt_of_lt_of_le (show t.natAbs < 2 ^ 30 by omega) (Nat.pow_le_pow_right (by decide) (by decide))
  walk_at "wpc"
  by_cases h : 0 < a
  · simp only [h, decide_true, if_true]
    walk_at "wpc"
    refine ⟨by omega, ?_⟩
    walk_at "wpc"
    refine ⟨by omega, noPy, _, _, _, 0, rfl, rfl, sup_same, rfl, ?_⟩
    simp only [sup_sup, List.set_cons_zero]
    walk_at "wpc"
    obtain ⟨r1, r2⟩ := fmod_rng a t ht
    exact rtq (q _ _ _ _ r1 r2)
  · simp only [h, decide_false, Bool.false_eq_true, if_false]
    rw [wpB]
    walk_at "wpc"
    refine ⟨_, _, _, 2, rfl, rfl, sup_same, rfl, ?_⟩
    simp only [sup_sup, List.set_cons_succ, List.set_cons_zero]
    walk_at "wpc"
    refine ⟨.of_left (by decide), by decide, ?_⟩
    obtain ⟨o1, o2⟩ := fmod_rng (b + 49979693 * (c + 1)) 2305843009213693951 (by decide)
    revert o1 o2
    generalize Int.fmod _ _ = o
    intro o1 o2
    walk_at "wpc"
    have ho : o.natAbs < 2 ^ 61 := by omega
    refine ⟨mulOk ho ho (by decide) (by decide), .of_left (by decide), by decide, .of_right (by decide), ?_⟩
    walk_at "wpc"
    refine ⟨by decide, noPy, by omega, ?_⟩
    obtain ⟨r1, r2⟩ := fmod_rng ((Int.fmod (o * o + 131 * (c + 1)) 2305843009213693921 * 32452867 + o).fdiv 65599) t ht
    exact rtq (q _ _ _ _ r1 r2)
theorem sok__law_pick : SpecOk Gm d__law_pick := by
  rintro ds S R Q ⟨p, xs, rfl, hS, hne, hl, q⟩
  refine ⟨rfl, ?_⟩
  show wpB Gm b__law_pick _ _ [some (.ref p), some (.lst xs)] S
  unfold b__law_pick
  walk_at "wpc"
  have hp : 0 < xs.length := List.length_pos_iff.mpr hne
  refine ⟨p, _, rfl, hS, by omega, by omega, fun r a b c h0 h1 => ?_⟩
  obtain ⟨n, rfl⟩ : ∃ n : Nat, r = n := ⟨r.toNat, by omega⟩
  walk_at "wpx"
  have hn : n < xs.length := by omega
  exact ⟨xs[n], at_nat (List.getElem?_eq_getElem hn), rtq (q _ (List.getElem_mem hn) a b c)⟩
theorem strs_py : ∀ ts : List Str, D.py.pys (ts.map D.str) = some (ts.map PyData.str)
  | [] => rfl
  | t :: ts => by
    rw [List.map_cons, List.map_cons, D.py.pys, strs_py ts]
    rfl
theorem strs_lay : ∀ {ts : List Str}, (∀ t ∈ ts, PyData.strOk t = true) → PyData.canLayAll0 (ts.map PyData.str) = true
  | [], _ => rfl
  | t :: ts, h => by
    have h1 := h t List.mem_cons_self
    have h2 := strs_lay (ts := ts) fun x hx => h x (List.mem_cons_of_mem _ hx)
    rw [List.map_cons, PyData.canLayAll0, h2, Bool.and_true]
    simp only [PyData.canLay0, h1]
theorem strs_dep : ∀ ts : List Str, PyData.depthAll (ts.map PyData.str) ≤ 1
  | [] => Nat.zero_le _
  | t :: ts => by
    have h2 := strs_dep ts
    rw [List.map_cons, PyData.depthAll]
    exact Nat.max_le.mpr ⟨by simp [PyData.depth], h2⟩
theorem strs_eqv : ∀ ts : List Str, PyData.eqvAll (ts.map PyData.str) (ts.map PyData.str) = true
  | [] => rfl
  | t :: ts => by
    rw [List.map_cons, PyData.eqvAll, strs_eqv ts, Bool.and_true]
    simp [PyData.eqv]
theorem eqD_strs {ts : List Str} {k : Bool → Prop} (h : ∀ t ∈ ts, PyData.strOk t = true) (q : k true) : eqD (.lst (ts.map D.str)) (.lst (ts.map D.str)) k := by
  have hp : (D.lst (ts.map D.str)).py = some (.list (ts.map PyData.str)) := by
    show (D.py.pys (ts.map D.str)).map PyData.list = _
    rw [strs_py]; rfl
  have hs : SeqAt.shaped (.list (ts.map PyData.str)) = true := by
    show (PyData.canLay0 _ && decide (PyData.depth _ ≤ 64)) = true
    have := strs_dep ts
    rw [PyData.canLay0, strs_lay h, Bool.true_and, PyData.depth]
    exact decide_eq_true (by omega)
  exact ⟨_, _, hp, hp, hs, hs, by rw [PyData.eqv, strs_eqv]; exact q⟩

theorem gxc {n : String} (h : xcs.contains n = true) : Gm.xc.contains n = true := h
theorem sok__law_is_of : SpecOk Gm d__law_is_of := by
  rintro ds S R Q ⟨n, vs, i, rfl, hn, h0, h7, q⟩
  refine ⟨rfl, ?_⟩
  show wpB Gm b__law_is_of _ _ [some (.exc n vs), some (.int i)] S
  unfold b__law_is_of
  have e : i = 0 ∨ i = 1 ∨ i = 2 ∨ i = 3 ∨ i = 4 ∨ i = 5 ∨ i = 6 := by omega
  rcases e with rfl | rfl | rfl | rfl | rfl | rfl | rfl
  all_goals
    repeat (walk_at "wpc"; (try simp only [Int.reduceEq, decide_true, decide_false, if_true, if_false, Bool.false_eq_true]))
    exact ⟨n, vs, rfl, ⟨gxc hn, by decide⟩, rtq q⟩
theorem srt_step (n : String) (j : Nat) : ((List.range (j + 1)).filter (isOf n)) = ((List.range j).filter (isOf n)) ++ (if isOf n j = true then [j] else []) := by
  rw [List.range_succ, List.filter_append]
  congr 1
  by_cases h : isOf n j = true
  · simp [h]
  · simp [h]
theorem sok__law_sorts : SpecOk Gm d__law_sorts := by
  rintro ds S R Q ⟨n, vs, rfl, hn, q⟩
  refine ⟨rfl, ?_⟩
  show wpB Gm b__law_sorts _ _ [some (.exc n vs), none] S
  unfold b__law_sorts
  walk_at "wpc"
  refine ⟨7, rfl, by decide, by decide, ?_⟩
  refine compL_ind (fun rest S' acc => S' = S ∧ ∃ j : Nat, j ≤ 7 ∧ rest = (List.range' j (7 - j)).map (fun k => D.int (k : Nat)) ∧ acc = ((List.range j).filter (isOf n)).map fun i => D.int (i : Nat)) ?_ ?_ _ _ _ ⟨rfl, 0, by decide, by rfl, rfl⟩
  · rintro S' acc ⟨rfl, j, hj, hr, rfl⟩
    have : j = 7 := by
      cases h : 7 - j with
      | zero => omega
      | succ m => rw [h, List.range'_succ] at hr; cases hr
    subst this
    exact ⟨trivial, rtq q⟩
  · rintro d rest S' acc N ⟨rfl, j, hj, hr, rfl⟩ hN
    refine ⟨trivial, ?_⟩
    cases h : 7 - j with
    | zero => rw [h] at hr; cases hr
    | succ m =>
      rw [h, List.range'_succ, List.map_cons] at hr
      injection hr with hd hr
      subst hd
      try dsimp only
      walk_at "wpx"
      refine ⟨n, vs, (j : Int), rfl, hn, by omega, by omega, ?_⟩
      rw [Int.toNat_natCast]
      have hs := srt_step n j
      have hj' : 7 - (j + 1) = m := by omega
      by_cases hb : isOf n j = true
      · rw [if_pos hb] at hs
        rw [hb]
        show N _ _
        refine hN _ _ ⟨rfl, j + 1, by omega, by rw [hj', hr], ?_⟩
        rw [hs, List.map_append]
        rfl
      · rw [if_neg hb] at hs
        have hb : isOf n j = false := by simpa using hb
        rw [hb]
        show N _ _
        refine hN _ _ ⟨rfl, j + 1, by omega, by rw [hj', hr], ?_⟩
        rw [hs, List.append_nil]

theorem at_new {S : Sto} {p q : Addr} {o o' : DO} (h : S p = some o) (hq : S q = none) : sup S q o' p = some o := by
  rw [sup_ne]; exact h
  intro e; rw [e, hq] at h; cases h
def eqO (x y : D) : Option Bool := match x.py, y.py with
  | some p, some q => if SeqAt.shaped p && SeqAt.shaped q then some (PyData.eqv p q) else none
  | _, _ => none
theorem eqO_ok {x y : D} {b : Bool} {k : Bool → Prop} (e : eqO x y = some b) (h : k b) : eqD x y k := by
  unfold eqO at e
  split at e
  · rename_i p q hp hq
    split at e
    · rename_i c
      rw [Bool.and_eq_true] at c
      cases e
      exact ⟨p, q, hp, hq, c.1, c.2, h⟩
    · cases e
  · cases e
abbrev nine : List String := ["InvalidRow", "InvalidLot", "InvalidPoly", "InvalidRatio", "InvalidTable", "InvalidTerm", "InvalidLaw", "InvalidTold", "InvalidOperation"]
abbrev six : List String := ["ParseError", "UnknownName", "InvalidCount", "TooMany", "Refused", "NothingToUndo"]
abbrev nineD : List D := nine.map fun n => .exc n []
/-- a value that the errors keep -/
structure Vl (v : D) : Prop where
  kp : kpB v = true
  sh : ∃ s, shD (.lst [v, v, v, v, v, v]) = some s ∧ SeqAt.shaped (.str s) = true
def vlB (v : D) : Bool := kpB v && (match shD (.lst [v, v, v, v, v, v]) with
  | some s => SeqAt.shaped (.str s)
  | none => false)
theorem vl_ok {v : D} (h : vlB v = true) : Vl v := by
  unfold vlB at h
  rw [Bool.and_eq_true] at h
  refine ⟨h.1, ?_⟩
  have h2 := h.2
  split at h2
  · rename_i s e; exact ⟨s, e, h2⟩
  · cases h2
theorem vl_all : ∀ v ∈ [D.non, .int 0, .str "a", .tup [.int 1, .int 2], .int (10 ^ Int.toNat 30), .bl true, .lst [], .str "x"], Vl v := by
  have h : ([D.non, .int 0, .str "a", .tup [.int 1, .int 2], .int (10 ^ Int.toNat 30), .bl true, .lst [], .str "x"].all vlB) = true := by decide +kernel
  exact fun v hv => vl_ok (List.all_eq_true.mp h v hv)
theorem eqD_str {s : Str} {k : Bool → Prop} (h : SeqAt.shaped (.str s) = true) (q : k true) : eqD (.str s) (.str s) k := ⟨_, _, rfl, rfl, h, h, by simpa [PyData.eqv] using q⟩

/-- one turn's judgement: how kinds compare -/
theorem kinds_eq : ∀ i : Nat, i < 9 → eqO (.lst (nine.map fun t => D.bl ((xanc (nine.getD i "")).contains t))) (.lst ((List.range 9).map fun (j : Nat) => D.bl (decide ((i : Int) = (j : Int))))) = some true := by decide +kernel
theorem nine_in : ∀ i : Nat, i < 9 → xcs.contains (nine.getD i "") = true ∧ (xanc (nine.getD i "")).contains "ParseError" = false := by decide +kernel
theorem sorts_nine : ∀ n ∈ nine ++ ["SeriesError"], xcs.contains n = true ∧ eqO (.lst ((srt n).map fun i => .int (i : Nat))) (.lst [.int 0, .int 6]) = some true := by decide +kernel
theorem six_in : ∀ n ∈ six, xcs.contains n = true := by decide +kernel
theorem sok__law_told : SpecOk Gm d__law_told := by
  rintro ds S R Q ⟨p, rfl, hS, q⟩
  refine ⟨rfl, ?_⟩
  show wpB Gm b__law_told _ _ [some (.ref p), none, none, none, none, none, none, none, none, none, none, none, none, none, none, none] S
  unfold b__law_told
  walk_at "wpc"
  walk_at "szs"
  refine ⟨p, _, rfl, hS, by simp, by decide, fun m _ a b c => ?_⟩
  walk_at "wpc"
  walk_at "szs"
  intro p1 h1
  walk_at "wpc"
  walk_at "szs"
  intro p2 h2
  walk_at "wpc"
  refine ⟨p2, rfl, ⟨_, sup_same⟩, nineD.take 8, sup_same, by rw [sizeLine_eq]; decide, ?_⟩
  rw [sup_sup]
  walk_at "wpc"
  walk_at "szs"
  have hp3 : HasDice (sup (sup (Dice p a b c S) p1 (DO.lst [D.exc "InvalidRow" [], D.exc "InvalidLot" [], D.exc "InvalidPoly" [], D.exc "InvalidRatio" []])) p2 (DO.lst (List.take 8 nineD ++ [D.exc "InvalidOperation" []]))) p := ⟨a, b, c, at_new (at_new sup_same h1) h2⟩
  have hp4 : (sup (sup (Dice p a b c S) p1 (DO.lst [D.exc "InvalidRow" [], D.exc "InvalidLot" [], D.exc "InvalidPoly" [], D.exc "InvalidRatio" []])) p2 (DO.lst (List.take 8 nineD ++ [D.exc "InvalidOperation" []]))) p2 = some (.lst nineD) := sup_same
  generalize sup (sup (Dice p a b c S) p1 (DO.lst [D.exc "InvalidRow" [], D.exc "InvalidLot" [], D.exc "InvalidPoly" [], D.exc "InvalidRatio" []])) p2 (DO.lst (List.take 8 nineD ++ [D.exc "InvalidOperation" []])) = S3 at hp3 hp4 ⊢
  clear h1 h2
  refine compL_ind (fun rest S' acc => S' = S3 ∧ acc = [] ∧ ∀ d ∈ rest, ∃ n ∈ nine ++ ["SeriesError"], d = .exc n []) ?_ ?_ _ _ _ ⟨rfl, rfl, ?_⟩
  rotate_left
  · rintro d rest S' acc N ⟨rfl, rfl, hd⟩ hN
    refine ⟨trivial, ?_⟩
    obtain ⟨n, hn, rfl⟩ := hd d List.mem_cons_self
    obtain ⟨hx, he⟩ := sorts_nine n hn
    try dsimp only
    walk_at "wpx"
    refine ⟨n, [], rfl, hx, ?_⟩
    walk_at "wpx"
    walk_at "szs"
    refine eqO_ok he ?_
    show N _ _
    exact hN _ _ ⟨rfl, rfl, fun d' h' => hd d' (List.mem_cons_of_mem _ h')⟩
  · intro d hd
    have e : List.take 8 nineD ++ [D.exc "InvalidOperation" []] ++ [D.exc "SeriesError" []] = (nine ++ ["SeriesError"]).map fun n => D.exc n [] := rfl
    rw [e] at hd
    obtain ⟨n, hn, rfl⟩ := List.mem_map.mp hd
    exact ⟨n, hn, rfl⟩
  rintro S' acc ⟨rfl, rfl, _⟩
  refine ⟨trivial, ?_⟩
  walk_at "szs"
  refine eqO_ok (b := true) (by decide +kernel) ?_
  try simp only [Bool.not_true, Bool.false_eq_true, if_false]
  rw [wpB]
  try dsimp only
  walk_at "wpc"
  rw [seqD_of hp4]
  refine forL_ind (fun rest ρ S2 => (∃ x y z u, ρ = [some (.ref p), some m, some (.ref p2), x, y, z, u, none, none, none, none, none, none, none, none, none]) ∧ HasDice S2 p ∧ S2 p2 = some (.lst nineD) ∧ ∀ d ∈ rest, ∃ i : Nat, i < 9 ∧ d = .tup [.int i, .exc (nine.getD i "") []]) ?_ ?_ _ _ _ ⟨⟨none, none, none, none, rfl⟩, hp3, hp4, ?_⟩
  rotate_left
  · rintro d rest ρ S2 N ⟨⟨x, y, z, u, rfl⟩, hA, hB, hd⟩ hN
    refine ⟨hB, ?_⟩
    obtain ⟨i, hi, rfl⟩ := hd d List.mem_cons_self
    obtain ⟨hx, hpe⟩ := nine_in i hi
    have hk := kinds_eq i hi
    have hd : ∀ d ∈ rest, ∃ i : Nat, i < 9 ∧ d = .tup [.int i, .exc (nine.getD i "") []] := fun d' h' => hd d' (List.mem_cons_of_mem _ h')
    generalize nine.getD i "" = n at hx hpe hk ⊢
    try dsimp only
    refine ⟨rfl, ?_⟩
    try dsimp only
    walk_at "wpc"
    iterate 3 (refine ⟨n, [], rfl, ⟨gxc hx, by decide⟩, ?_⟩)
    walk_at "szs"
    intro q1 g1
    walk_at "wpc"
    iterate 2 (refine ⟨n, [], rfl, ⟨gxc hx, by decide⟩, ?_⟩)
    walk_at "szs"
    intro q2 g2
    walk_at "wpc"
    iterate 3 (refine ⟨n, [], rfl, ⟨gxc hx, by decide⟩, ?_⟩)
    simp only [List.cons_append, List.nil_append, List.length_cons, List.length_nil]
    walk_at "szs"
    intro q3 g3
    have a1 := at_new (o' := DO.lst [D.bl ((xanc n).contains "InvalidRow"), D.bl ((xanc n).contains "InvalidLot"), D.bl ((xanc n).contains "InvalidPoly")]) hB g1
    obtain ⟨a2, b2, c2, hA⟩ := hA
    have e1 := at_new (o' := DO.lst [D.bl ((xanc n).contains "InvalidRow"), D.bl ((xanc n).contains "InvalidLot"), D.bl ((xanc n).contains "InvalidPoly")]) hA g1
    revert g2 g3 a1 e1
    generalize sup S2 q1 _ = T1
    intro g2 g3 a1 e1
    have a1 := at_new (o' := DO.lst [D.bl ((xanc n).contains "InvalidRow"), D.bl ((xanc n).contains "InvalidLot"), D.bl ((xanc n).contains "InvalidPoly"), D.bl ((xanc n).contains "InvalidRatio"), D.bl ((xanc n).contains "InvalidTable")]) a1 g2
    have e1 := at_new (o' := DO.lst [D.bl ((xanc n).contains "InvalidRow"), D.bl ((xanc n).contains "InvalidLot"), D.bl ((xanc n).contains "InvalidPoly"), D.bl ((xanc n).contains "InvalidRatio"), D.bl ((xanc n).contains "InvalidTable")]) e1 g2
    revert g3 a1 e1
    generalize sup T1 q2 _ = T2
    intro g3 a1 e1
    walk_at "wpc"
    refine ⟨q3, rfl, ⟨_, sup_same⟩, ?_⟩
    refine ⟨n, [], rfl, ⟨gxc hx, by decide⟩, ?_⟩
    refine ⟨_, sup_same, by rw [sizeLine_eq]; simp, ?_⟩
    rw [sup_sup]
    walk_at "wpc"
    refine ⟨9, rfl, by decide, by decide, ?_⟩
    refine compL_mapG (fun k : Nat => D.int (0 + (k : Int) * 1)) (fun k : Nat => D.bl (decide ((i : Int) = (0 + (k : Int) * 1)))) trivial (List.range 9) [] (fun k _ N' hN' => ?_) ?_
    · try dsimp only
      walk_at "wpx"
      exact hN'
    rw [res_sup]
    refine eqO_ok (b := true) hk ?_
    simp only [Bool.not_true, Bool.false_eq_true, if_false]
    refine ⟨n, [], rfl, ⟨gxc hx, by decide⟩, ?_⟩
    rw [hpe]
    simp only [Bool.false_eq_true, if_false]
    rw [wpB]
    try dsimp only
    rw [wpB]
    exact hN _ _ ⟨⟨_, _, _, _, rfl⟩, ⟨a2, b2, c2, at_new e1 g3⟩, at_new a1 g3, hd⟩
  · intro d hd
    have e : enumD 0 nineD = (List.range 9).map fun (i : Nat) => .tup [.int i, .exc (nine.getD i "") []] := rfl
    rw [e] at hd
    obtain ⟨i, hi, rfl⟩ := List.mem_map.mp hd
    exact ⟨i, List.mem_range.mp hi, rfl⟩
  rintro ρ S2 ⟨⟨x, y, z, u, rfl⟩, hA, hB, _⟩
  refine ⟨hB, ?_⟩
  try dsimp only
  walk_at "wpc"
  walk_at "szs"
  refine ⟨p, _, rfl, hA, by simp, by decide, fun v hv a b c => ?_⟩
  obtain ⟨kv, ⟨rs, hrs, hsh⟩⟩ := vl_all v hv
  have hB' : HasDice (Dice p a b c S2) p := ⟨_, _, _, sup_same⟩
  generalize Dice p a b c S2 = S4 at hB' ⊢
  walk_at "wpc"
  refine ⟨kv, kv, kv, ?_⟩
  walk_at "wpc"
  refine ⟨kv, kv, kv, ?_⟩
  walk_at "wpc"
  refine ⟨"ParseError", v, _, rfl, rfl, rfl, rfl, ?_⟩
  refine ⟨"UnknownName", v, _, rfl, rfl, rfl, rfl, ?_⟩
  refine ⟨"InvalidCount", v, _, rfl, rfl, rfl, rfl, ?_⟩
  refine ⟨"TooMany", v, _, rfl, rfl, rfl, rfl, ?_⟩
  refine ⟨"Refused", v, _, rfl, rfl, rfl, rfl, ?_⟩
  refine ⟨"NothingToUndo", v, _, rfl, rfl, rfl, rfl, ?_⟩
  walk_at "szs"
  walk_at "wpc"
  refine ⟨rs, hrs, by rw [sizeLine_eq]; decide, by decide, by decide, by rw [sizeLine_eq]; decide, rs, hrs, ?_⟩
  refine eqD_str hsh ?_
  simp only [Bool.not_true, Bool.false_eq_true, if_false]
  rw [wpB]
  try dsimp only
  walk_at "wpc"
  walk_at "szs"
  refine compL_mapG (fun n : String => D.exc n [v]) (fun n : String => D.lst ((srt n).map fun i => .int (i : Nat))) trivial six [] (fun n hn N' hN' => ?_) ?_
  · try dsimp only
    walk_at "wpx"
    exact ⟨n, [v], rfl, six_in n hn, hN'⟩
  walk_at "wpc"
  walk_at "szs"
  refine eqO_ok (b := true) (by decide +kernel) ?_
  exact rtq (q _ hB')
theorem told_of {S : Sto} {p : Addr} {Q : QD} {R : XD} (hS : HasDice S p) (q : ∀ S', HasDice S' p → Q (.bl true) S') : sp__law_told [.ref p] S R Q := ⟨p, rfl, hS, q⟩
theorem sok_law : SpecOk Gm d_law := by
  rintro ds S R Q ⟨ns, rfl, q⟩
  refine ⟨rfl, ?_⟩
  show wpB Gm b_law _ _ [some (.scr ns), none, none, none] S
  unfold b_law
  walk_at "wpc"
  refine ⟨_, _, rfl, rfl, ?_⟩
  refine ⟨_, _, rfl, rfl, ?_⟩
  generalize hm : (if (if (ns.length : Int) < 6 then (ns.length : Int) else 6) > 1 then (if (ns.length : Int) < 6 then (ns.length : Int) else 6) else 1) = m
  have m1 : 1 ≤ m ∧ m ≤ 6 := by rw [← hm]; split <;> (try split) <;> omega
  refine ⟨m, rfl, by omega, by omega, ?_⟩
  refine forL_ind (fun rest ρ S' => ∃ x y z, ρ = [some (.scr ns), x, y, z] ∧ ∀ d ∈ rest, ∃ i : Nat, d = .int i) ?_ ?_ _ _ _ ⟨none, none, none, rfl, fun d hd => ?_⟩
  · rintro ρ S' ⟨x, y, z, rfl, _⟩
    refine ⟨trivial, ?_⟩
    try walk_at "wpc"
    exact rtq (q _)
  · rintro d rest ρ S' N ⟨x, y, z, rfl, hd⟩ hN
    obtain ⟨i, rfl⟩ := hd d List.mem_cons_self
    refine ⟨trivial, ?_⟩
    walk_at "wpc"
    refine ⟨ns, i, rfl, fun p a b c hp => ?_⟩
    walk_at "wpc"
    refine ⟨3, rfl, by decide, by decide, ?_⟩
    refine forL_ind (fun rest ρ S' => ∃ z, ρ = [some (.scr ns), some (.int i), some (.ref p), z] ∧ HasDice S' p) ?_ ?_ _ _ _ ⟨z, rfl, ⟨_, _, _, sup_same⟩⟩
    · rintro ρ S2 ⟨z, rfl, hS⟩
      refine ⟨trivial, ?_⟩
      try dsimp only
      rw [wpB]
      exact hN _ _ ⟨_, _, _, rfl, fun d' h' => hd d' (List.mem_cons_of_mem _ h')⟩
    · rintro d rest ρ S2 N' ⟨z, rfl, hS⟩ hN'
      refine ⟨trivial, ?_⟩
      walk_at "wpc"
      refine ⟨p, rfl, hS, fun S3 hS3 => ?_⟩
      try walk_at "wpx"
      rw [wpB]
      try dsimp only
      rw [wpB]
      exact hN' _ _ ⟨_, rfl, hS3⟩
  · obtain ⟨j, _, rfl⟩ := List.mem_map.mp hd
    exact ⟨j, by congr 1; omega⟩
theorem law_fin (ns : List Int) (S : Sto) (h : TbSto [] S) : Gm.fn F.law [.scr ns] S xNo fun d _ => d = .bl true := by
  rw [fn_law]
  exact ⟨ns, rfl, fun _ => rfl⟩

end LW
namespace LW
open PySem PySem.Spec PyProof.Rows L2 DL
/-! ### against the text -/
abbrev top (i : Nat) : Stmt := PySem.Challenge.pw_sumsclose_k10_whole_errors.main.body.getD i (.Pass ⟨0, 0, 0, 0⟩)
theorem ok__law_dice : okD d__law_dice (defScope (top 18)) (defBody (top 18)) = true := by kernel_rfl
theorem bd__law_dice : BindOk (defArgs (top 18)) ["script", "spot"] := fun _ _ _ _ _ _ _ _ _ _ us hl => match us, hl with | [_, _], _ => rfl
theorem ok__law_is_of : okD d__law_is_of (defScope (top 21)) (defBody (top 21)) = true := by kernel_rfl
theorem bd__law_is_of : BindOk (defArgs (top 21)) ["error", "at"] := fun _ _ _ _ _ _ _ _ _ _ us hl => match us, hl with | [_, _], _ => rfl
theorem ok__law_sorts : okD d__law_sorts (defScope (top 22)) (defBody (top 22)) = true := by kernel_rfl
theorem bd__law_sorts : BindOk (defArgs (top 22)) ["error"] := fun _ _ _ _ _ _ _ _ _ _ us hl => match us, hl with | [_], _ => rfl
theorem ok__law_roll : okD d__law_roll (defScope (top 19)) (defBody (top 19)) = true := by kernel_rfl
theorem bd__law_roll : BindOk (defArgs (top 19)) ["dice", "total"] := fun _ _ _ _ _ _ _ _ _ _ us hl => match us, hl with | [_, _], _ => rfl
theorem ok__law_pick : okD d__law_pick (defScope (top 20)) (defBody (top 20)) = true := by kernel_rfl
theorem bd__law_pick : BindOk (defArgs (top 20)) ["dice", "items"] := fun _ _ _ _ _ _ _ _ _ _ us hl => match us, hl with | [_, _], _ => rfl
theorem ok__law_told : okD d__law_told (defScope (top 23)) (defBody (top 23)) = true := by kernel_rfl
theorem bd__law_told : BindOk (defArgs (top 23)) ["dice"] := fun _ _ _ _ _ _ _ _ _ _ us hl => match us, hl with | [_], _ => rfl
theorem ok_law : okD d_law (defScope (top 24)) (defBody (top 24)) = true := by kernel_rfl
theorem bd_law : BindOk (defArgs (top 24)) ["script"] := fun _ _ _ _ _ _ _ _ _ _ us hl => match us, hl with | [_], _ => rfl
def tb0 : List (Df × Stmt) := [(d__law_dice, top 18), (d__law_is_of, top 21), (d__law_sorts, top 22), (d__law_roll, top 19), (d__law_pick, top 20), (d__law_told, top 23), (d_law, top 24)]
def tab : List (Df × Stmt) := tb0
def mtab : List (Df × Stmt) := []
def lam : List Str := []
theorem calls_ok : callsAll [] (tab.map (·.1)) = true := by kernel_rfl
theorem ok_all_0 : ∀ p ∈ tb0, okD p.1 (defScope p.2) (defBody p.2) = true := List.forall_mem_cons.2 ⟨ok__law_dice, List.forall_mem_cons.2 ⟨ok__law_is_of, List.forall_mem_cons.2 ⟨ok__law_sorts, List.forall_mem_cons.2 ⟨ok__law_roll, List.forall_mem_cons.2 ⟨ok__law_pick, List.forall_mem_cons.2 ⟨ok__law_told, List.forall_mem_cons.2 ⟨ok_law, (fun _ h => nomatch h)⟩⟩⟩⟩⟩⟩⟩
theorem ok_all : ∀ p ∈ tab, okD p.1 (defScope p.2) (defBody p.2) = true := ok_all_0
theorem bd_all_0 : ∀ p ∈ tb0, BindOk (defArgs p.2) p.1.ps := List.forall_mem_cons.2 ⟨bd__law_dice, List.forall_mem_cons.2 ⟨bd__law_is_of, List.forall_mem_cons.2 ⟨bd__law_sorts, List.forall_mem_cons.2 ⟨bd__law_roll, List.forall_mem_cons.2 ⟨bd__law_pick, List.forall_mem_cons.2 ⟨bd__law_told, List.forall_mem_cons.2 ⟨bd_law, (fun _ h => nomatch h)⟩⟩⟩⟩⟩⟩⟩
theorem bd_all : ∀ p ∈ tab, BindOk (defArgs p.2) p.1.ps := bd_all_0
def gs : List (Str × D) := []
def ns0 : List Str := ["SeriesError", "InvalidRow", "InvalidLot", "InvalidPoly", "InvalidRatio", "InvalidTable", "InvalidTerm", "InvalidLaw", "InvalidTold", "InvalidOperation", "ParseError", "UnknownName", "InvalidCount", "TooMany", "Refused", "NothingToUndo", "_law_dice", "_law_roll", "_law_pick", "_law_is_of"]
def ns1 : List Str := ["_law_sorts", "_law_told"]
def names : List Str := ns0 ++ ns1
abbrev HRw : PySem.W.OpenRow := PySem.W.OpenLaw.row PySem.Challenge.rw_sumsclose_k10_whole_errors
abbrev hk : PySem.W.Hook := hookQ 5 cls xcs (tab ++ mtab) gs lam
def ob (s : PySem.W.SharedT) : AlQ := obsQG 5 cls xcs (tab ++ mtab) gs lam (HandSHeadRun.getT s)
theorem ob_eq (s : PySem.W.SharedT) : ob s = hk.obs s.abs := obsQG_eq (HandSHeadRun.getT_eq s)
section
open PySem PySem.W PySem.Calls PyProof.Rows
set_option maxHeartbeats 0 in
theorem runL (w : PySem.World) : ∀ os : PySem.OsState, ((HandSHeadRun.endF (HandSHeadRun.stepQ (HandSHeadRun.denQ HandSHeadRun.tabQ) HRw.prog w) 30000 HRw.prog w os).map fun s => HandSHeadRun.looksF HRw.prog (boot_heap w.params) s.abs) = some true := by
  intro os
  kernel_rfl
set_option maxHeartbeats 0 in
theorem runS (w : PySem.World) : ∀ os : PySem.OsState, ((HandSHeadRun.endF (HandSHeadRun.stepQ (HandSHeadRun.denQ HandSHeadRun.tabQ) HRw.prog w) 30000 HRw.prog w os).map fun s => HandSHeadRun.seenQ (PySem.W.view HRw.prog [24]) names (importedModules HRw.prog.main.body) (fun s => xlAt (PySem.W.view HRw.prog [24]) [] s && recOk HRw.toRowW.records s) s.abs) = some (openGood (PySem.W.view HRw.prog [24]) names) := by
  intro os
  kernel_rfl
set_option maxHeartbeats 0 in
theorem runO0 (w : PySem.World) : ∀ os : PySem.OsState, ((HandSHeadRun.endF (HandSHeadRun.stepQ (HandSHeadRun.denQ HandSHeadRun.tabQ) HRw.prog w) 30000 HRw.prog w os).map fun s => obsQG 5 cls xcs tb0 gs lam (HandSHeadRun.getT s)) = some (valQ tb0) := by
  intro os
  kernel_rfl
set_option maxHeartbeats 0 in
theorem runM (w : PySem.World) : ∀ os : PySem.OsState, ((HandSHeadRun.endF (HandSHeadRun.stepQ (HandSHeadRun.denQ HandSHeadRun.tabQ) HRw.prog w) 30000 HRw.prog w os).map fun s => obsQG 5 [] [] mtab [] [] (HandSHeadRun.getT s)) = some (valQ mtab) := by
  intro os
  kernel_rfl
end
theorem run (w : World) : HandSHeadRun.RunEq HRw (PySem.W.view HRw.prog [24]) hk ob 30000 names w := by
  intro os
  exact map3 (runL w os) (runS w os) (map_obsQ (runO0 w os) (runM w os))
theorem sp_all_0 : ∀ p ∈ tb0, SpecOk Gm p.1 := List.forall_mem_cons.2 ⟨sok__law_dice, List.forall_mem_cons.2 ⟨sok__law_is_of, List.forall_mem_cons.2 ⟨sok__law_sorts, List.forall_mem_cons.2 ⟨sok__law_roll, List.forall_mem_cons.2 ⟨sok__law_pick, List.forall_mem_cons.2 ⟨sok__law_told, List.forall_mem_cons.2 ⟨sok_law, (fun _ h => nomatch h)⟩⟩⟩⟩⟩⟩⟩
theorem sp_all : ∀ p ∈ tab, SpecOk Gm p.1 := sp_all_0
theorem cls_all : ∀ p ∈ tab, ∀ q ∈ p.1.cls, q ∈ LW.cls := by
  have e : (tab.all fun p => decide (p.1.cls = LW.cls)) = true := by kernel_rfl
  intro p hp q hq
  have := of_decide_eq_true (List.all_eq_true.mp e p hp)
  rw [this] at hq
  exact hq
def LL (K : PySem.W.Frag) : Lnk := ⟨Gm, xrOf K xcs⟩
theorem xc_all : ∀ p ∈ tab, p.1.xc = xcs := by
  have e : (tab.all fun p => decide (p.1.xc = xcs)) = true := by kernel_rfl
  intro p hp
  exact of_decide_eq_true (List.all_eq_true.mp e p hp)
theorem gl_all {K : PySem.W.Frag} {mg : Str → Option Value} (h : ∀ g ∈ gs, ∃ (u : Value) (v : V), mg g.1 = some u ∧ RelV v u ∧ ∀ O H, Rp K O H v g.2) : ∀ p ∈ tab, ∀ g ∈ p.1.gls, GlG (LL K) K mg g.1 g.2 := by
  have e : (tab.all fun p => p.1.gls.isEmpty) = true := by kernel_rfl
  intro p hp g hq
  have := List.all_eq_true.mp e p hp
  rw [List.isEmpty_iff.mp this] at hq
  cases hq
theorem met_all {K : PySem.W.Frag} {mg : Str → Option Value} (hT : ∀ p ∈ tab ++ mtab, Told K mg p.1 p.2) : ∀ {q}, q ∈ mts → MetG K mg xcs q := by
  intro q hq
  cases hq
theorem lam_all : ∀ p ∈ tab, p.1.mets ≠ [] → p.1.name ∈ lam := by
  have e : (tab.all fun p => p.1.mets.isEmpty || lam.contains p.1.name) = true := by kernel_rfl
  intro p hp hm
  have := List.all_eq_true.mp e p hp
  rw [Bool.or_eq_true] at this
  rcases this with z | z
  · exact absurd (List.isEmpty_iff.mp z) hm
  · simpa using z
theorem mets_all : ∀ p ∈ tab, ∀ q ∈ p.1.mets, ∃ r, mts[q.1]? = some r ∧ r.1 = q.2 := by
  have e : (tab.all fun p => p.1.mets.all fun q => match mts[q.1]? with | some r => decide (r.1 = q.2) | none => false) = true := by kernel_rfl
  intro p hp q hq
  have := List.all_eq_true.mp (List.all_eq_true.mp e p hp) q hq
  split at this
  · rename_i r er
    exact ⟨r, er, of_decide_eq_true this⟩
  · cases this
theorem facts {P : Program} {w : World} {K KT : PySem.W.Frag} {h : Heap} {mg : Str → Option Value} {f : Addr} (X : K.In h) (G : h.Ns mainGlobals mg) (N : h.NoSeer) (ht : P.given.tree = none) (hfa : mg ("law" : Str) = some (.ref f)) (fo : FileOk P) (c : SaysQ cls xcs (tab ++ mtab) gs lam K KT) :
    ∃ (K1 : PySem.W.Frag) (fd : FuncData), K1 = K ∧ tabsQ lam K1 KT = true ∧ K1.In h ∧ (∀ (s : Shared) (v : Value), BindsTo s fd ⟨[v], []⟩ [("script", v)]) ∧ ∀ base : Heap, K1.In base → base.Ns mainGlobals mg → (∀ x ∈ lam, ∃ c P, PySem.W.tabIn K1 x = some (c, P) ∧ LamX.TabB base mg c P) → FnG P w K1 mg base CX0 d_law.lvl f fd ["script"] (fun vs H Q _ => spOf (LL K1) K1 (Gm.fn F.law) vs H Q E0) := by
  obtain ⟨hT, hbl, hgs, ⟨ca, cm⟩, ⟨xa, xm⟩, sr, tq⟩ := says_ok (tab := tab ++ mtab) fo X G c
  have hin : (d_law, top 24) ∈ tab := List.mem_of_getElem? (i := 6) rfl
  obtain ⟨f1, fd, FF, m1⟩ := hT _ (List.mem_append_left _ hin)
  have e1 : f1 = f := by
    have := m1.1.symm.trans hfa
    exact Value.ref.inj (Option.some.inj this)
  subst e1
  refine ⟨K, fd, rfl, tq, X, fun s v => FF.bindsA (ps := ["script"]) (fun kV doc pm an cdv ct us hl => bd_law _ _ _ _ kV doc pm an cdv ct us hl) s [v] rfl, fun base hbs gbs hTB => ?_⟩
  obtain ⟨f2, fd2, hF, m2, _, oc, od, osl, lk⟩ := (link_all (L := LL K) (P := P) (w := w) (base := base) (seer_ok X N sr base hbs) ht hbl ⟨fun j q e => met_all hT (List.mem_of_getElem? e), fun x u e => PySem.W.mg_of hbs gbs e, ca, cm, xa, xm, rfl⟩ tab [] (fun _ h => nomatch h) calls_ok (fun p hp => hT p (List.mem_append_left _ hp)) ok_all bd_all sp_all (gl_all hgs) (fun p hp q hq => cls_all p hp q hq) xc_all (fun p hp => ⟨fun hm => hTB _ (lam_all p hp hm), fun q hq => mets_all p hp q hq⟩) _ hin).2 rfl
  have e2 : f2 = f1 := by
    have := m2.1.symm.trans hfa
    exact Value.ref.inj (Option.some.inj this)
  subst e2
  obtain ⟨oc2, od2, dV, kV, doc, pm, an, cdv, ct, osl2, _, lk2, _⟩ := FF.ex
  have e3 : fd2 = fd := by
    rw [lk] at lk2
    injection lk2 with z
    injection z with _ _ z2 _
    injection z2
  subst e3
  exact FnG.to0 hF
end LW
open PySem PySem.W PySem.Calls PyProof.Rows
set_option maxHeartbeats 0 in
theorem PySem.Challenge.cw_sumsclose_k10_whole_errors_holds : PySem.Challenge.rw_sumsclose_k10_whole_errors.Holds := by
  w_on; o_law
  refine HandSHeadRun.head_any (r := OpenLaw.row PySem.Challenge.rw_sumsclose_k10_whole_errors) (q := view (OpenLaw.row PySem.Challenge.rw_sumsclose_k10_whole_errors).prog [24]) (H := LW.hk) (ob := LW.ob) (M := 30000) (loose := LW.names) (d := HandSHeadRun.topDef (OpenLaw.row PySem.Challenge.rw_sumsclose_k10_whole_errors).prog 24) (kwd := []) LW.ob_eq
    (by kernel_rfl) (fun s => by kernel_rfl) LW.run (by kernel_rfl) (by kernel_rfl) (by kernel_rfl) (by rfl) (by first | assumption | decide +kernel) (by decide +kernel) ⟨rfl, rfl, rfl, rfl, rfl, by decide +kernel⟩ ?hw ?hc
  case hw => w_witness2
  case hc =>
    refine DL.walk_farG (law' := PySem.Challenge.rw_sumsclose_k10_whole_errors) (most := 63) (k := 50) (lam := LW.lam) (name := "script") rfl (by decide) (by kernel_rfl) ⟨rfl, by decide, by decide⟩ (by kernel_rfl) ?F (Nat.le_refl _)
    intro w mg fa h Y G N hmg0
    obtain ⟨K, KT, KX, KY, c⟩ := Y
    have hmg : mg ("law" : PySem.Str) = some (.ref fa) := by
      have e : (HandSHeadRun.topDef (OpenLaw.row PySem.Challenge.rw_sumsclose_k10_whole_errors).prog 24).name = ("law" : PySem.Str) := by kernel_rfl
      rw [← e]
      exact hmg0
    obtain ⟨K1, fd, rfl, tq, X1, hb, hF⟩ := LW.facts (P := (PySem.Challenge.rw_sumsclose_k10_whole_errors).prog) (w := w) KX G N (by kernel_rfl) hmg ⟨by kernel_rfl, by kernel_rfl⟩ c
    exact ⟨_, KT, fd, LW.Gm.fn LW.F.law, LW.LL _, X1, KY, tq, hb, LW.law_fin, hF⟩
