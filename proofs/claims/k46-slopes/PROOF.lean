import PyProof.Rows.All
import Wide.All
import OpenK.AllK
import Wide.FinOn
import HandS.ForMost
import HandS.Exc
import HandS.ExcOwn
import HandS.Star
import HandS.TupAny
import HandS.IsInst
import HandS.Flow
import HandS.Wide
import HandS.WordsExc
import HandS.Defaults
import HandS.Deep
import HandS.Style
import HandS.TupMul
import HandS.RaiseMore
import KE.GoesNew
import KE.SortData
import HandS.SlotsOwn
import HandS.HeadHook1
import HandS.FStr
import HandS.Property
import KE.KCallOwn
import HandS.Dict
import KE.SortKeyHeap
import HandS.SortKw
import HandS.SetFor
import HandS.SortInts
import KE.KRevSl
import HandS.TryMany
import KE.KStateDown
import HandS.Head0
import HandS.Head1
import HandS.Head2
import HandS.HeadEnd
import HandS.HeadHook2
import PySem.Challenge.RW_sumsclose_k46_slopes_and_what_they_lead
set_option Elab.async false
set_option linter.all false
set_option maxRecDepth 100000
set_option exponentiation.threshold 10000
/-! DL1: data values D, the store of owned lists, own position-free syntax, its weakest preconditions over data. -/
namespace DL
open PySem

/-- a value as data; `ref`: an owned (mutable) list that stands in the store -/
inductive D where
  | non | bl (b : Bool) | int (i : Int) | str (x : Str) | tup (xs : List D) | lst (xs : List D) | ref (a : Addr) | ty (n : String) | scr (xs : List Int) | obj (c : String) (fs : List D) | dct
  deriving Inhabited

/-- what stands in the store -/
inductive DO where
  | lst (ds : List D) | obj (c : String) (q : Addr) (fs : List (Option D)) | dx
abbrev Sto := Addr → Option DO
def sup (S : Sto) (a : Addr) (o : DO) : Sto := fun b => if b = a then some o else S b
def sdel (S : Sto) (a : Addr) : Sto := fun b => if b = a then none else S b
@[simp] theorem sup_same {S : Sto} {a : Addr} {o : DO} : sup S a o a = some o := if_pos rfl
theorem sup_ne {S : Sto} {a b : Addr} {o : DO} (h : b ≠ a) : sup S a o b = S b := if_neg h
@[simp] theorem sup_sup {S : Sto} {a : Addr} {o u : DO} : sup (sup S a o) a u = sup S a u := by funext b; unfold sup; split <;> rfl
theorem sdel_same {S : Sto} {a : Addr} : sdel S a a = none := if_pos rfl
theorem sdel_ne {S : Sto} {a b : Addr} (h : b ≠ a) : sdel S a b = S b := if_neg h
theorem sdel_sup {S : Sto} {a : Addr} {o : DO} (h : S a = none) : sdel (sup S a o) a = S := by
  funext b; unfold sdel sup; split
  · rename_i e; rw [e, h]
  · rfl

abbrev Env := List (Option D)
def getV : Env → Nat → Option D
  | [], _ => none
  | x :: _, 0 => x
  | _ :: r, n + 1 => getV r n
def setV : Env → Nat → D → Env
  | [], _, _ => []
  | _ :: r, 0, d => some d :: r
  | x :: r, n + 1, d => x :: setV r n d
/-- names forgotten -/
def delV : Env → Nat → Env
  | [], _ => []
  | _ :: r, 0 => none :: r
  | x :: r, n + 1 => x :: delV r n
def delVs (ρ : Env) : List Nat → Env
  | [] => ρ
  | v :: vs => delV (delVs ρ vs) v

abbrev QD := D → Sto → Prop
/-- the wish about exceptions: the class's number, the payload -/
abbrev XD := Nat → D → Sto → Prop
abbrev FSp := List D → Sto → XD → QD → Prop

inductive BOp where | add | sub | mul | fdiv | mod | pow deriving DecidableEq
inductive COp where | eq | ne | lt | le | gt | ge | is | isn | inn | nin deriving DecidableEq
inductive BI where | len | abs | max | min | int | sum | all | any | tuple | isinst | repr | str deriving DecidableEq

/-! ### the syntax -/
mutual
inductive Ex where
  | var (i : Nat)
  | cst (d : D)
  | glb (k : Nat)
  | bin (op : BOp) (a b : Ex)
  | neg (a : Ex)
  | not (a : Ex)
  | cmp (op : COp) (a b : Ex)
  | chn (o1 o2 : COp) (a b c : Ex)
  | and (a b : Ex)
  | or (a b : Ex)
  | ite (c a b : Ex)
  | idx (a i : Ex)
  | slc (a : Ex) (lo hi : Ox)
  | stp (a : Ex) (lo hi : Ox) (st : Ex)
  | tup (es : Exs)
  | frz (l : Lx)
  | own (l : Lx)
  | call (f : Nat) (es : Exs)
  | bi (b : BI) (es : Exs)
  | app (o e : Ex)
  | fld (c : String) (i : Nat) (e : Ex)
  | isC (c : String) (e : Ex)
  | meth (f : Nat) (c : String) (o : Ex) (es : Exs)
  | prop (f : Nat) (c : String) (o : Ex)
  | new (f : Nat) (c : String) (n : Nat) (es : Exs)
  | cmpO (op : COp) (f : Nat) (c : String) (a b : Ex)
  | cmpOD (op : COp) (f : Nat) (c : String) (a b : Ex)
  | lenO (f : Nat) (c : String) (o : Ex)
  | strO (f : Nat) (c : String) (o : Ex)
  | fst (es : Exs)
  | dct
inductive Exs where
  | nil
  | cons (e : Ex) (r : Exs)
  | star (e : Ex) (r : Exs)
inductive Ox where
  | no
  | so (e : Ex)
/-- what makes a new list -/
inductive Lx where
  | disp (es : Exs)
  | comp (own : List Nat) (tg : Tg) (it : It) (ts : Exs) (el : Ex)
  | comp2 (own own2 : List Nat) (tg : Tg) (it : It) (ts : Exs) (tg2 : Tg) (it2 : It) (ts2 : Exs) (el : Ex)
  | rep (a n : Ex)
  | cat (a b : Ex)
  | ofSeq (a : Ex)
  | slc (a : Ex) (lo hi : Ox)
  | sorted (a : Ex)
  | sortK (f : Nat) (a : Ex)
  | sortSet (a : Ex)
  | sortI (a : Ex)
  | stpL (a : Ex) (lo hi : Ox) (st : Ex)
/-- what a loop walks -/
inductive It where
  | seq (e : Ex)
  | rng1 (a : Ex)
  | rng2 (a b : Ex)
  | rng3 (a b c : Ex)
  | enum (e : Ex)
  | zip (a b : Ex)
inductive Tg where
  | nm (i : Nat)
  | tp (ts : Tgs)
  | sub (o i : Ex)
  | fld (o : Ex) (c : String) (i : Nat)
inductive Tgs where
  | nil
  | cons (t : Tg) (r : Tgs)
end
mutual
inductive Sm where
  | asg (t : Tg) (e : Ex)
  | par (is : List Nat) (es : Exs)
  | aug (i : Nat) (op : BOp) (e : Ex)
  | ex (e : Ex)
  | ret (e : Ex)
  | retF (e : Ex)
  | retN
  | ife (c : Ex) (a b : Bl)
  | whl (c : Ex) (b : Bl)
  | for (tg : Tg) (it : It) (b : Bl)
  | raise (k : Nat) (e : Ex)
  | rse (k : Nat)
  | tryC (b : Bl) (hs : List (Nat × D))
  | pass
  | brk
  | cont
inductive Bl where
  | nil
  | cons (s : Sm) (r : Bl)
end

/-! ### values -/
/-- an owned list seen as a value -/
def res (S : Sto) : D → D
  | .ref p => match S p with
    | some (.lst ds) => .lst ds
    | _ => .ref p
  | d => d

def D.py : D → Option PyData
  | .non => some .none
  | .bl b => some (.bool b)
  | .int i => some (.int i)
  | .str x => some (.str x)
  | .tup xs => (pys xs).map .tuple
  | .lst xs => (pys xs).map .list
  | .ref _ => none
  | .ty _ => none
  | .scr _ => none
  | .obj _ _ => none
  | .dct => none
where pys : List D → Option (List PyData)
  | [] => some []
  | x :: xs => match D.py x, pys xs with
    | some p, some ps => some (p :: ps)
    | _, _ => none

/-- == of two values that are data -/
def eqD (x y : D) (k : Bool → Prop) : Prop := ∃ p q, x.py = some p ∧ y.py = some q ∧ SeqAt.shaped p = true ∧ SeqAt.shaped q = true ∧ k (PyData.eqv p q)
def inD (x y : D) (k : Bool → Prop) : Prop := match y with
  | .lst ds => ∃ p ps, x.py = some p ∧ D.py.pys ds = some ps ∧ SeqAt.shaped p = true ∧ SeqAt.shaped (.list ps) = true ∧ k (ps.any fun z => PyData.eqv z p)
  | .str z => ∃ c : Nat, x = .str ⟨#[c]⟩ ∧ k (decide (c ∈ z.cps.toList))
  | _ => False

/-- nothing is asked of the sizes: there is room for a long division -/
def PyOk (_ _ : Int) : Prop := True
def binD (op : BOp) (x y : D) (k : D → Prop) : Prop := match op, x, y with
  | .add, .int i, .int j => k (.int (i + j))
  | .sub, .int i, .int j => k (.int (i - j))
  | .mul, .int i, .int j => IntMulOk i j ∧ k (.int (i * j))
  | .mul, .tup xs, .int n => -(2 ^ 63) ≤ n ∧ n < 2 ^ 63 ∧ xs.length * n.toNat ≤ sizeLine ∧ k (.tup (List.replicate n.toNat xs).flatten)
  | .fdiv, .int i, .int j => j ≠ 0 ∧ PyOk i j ∧ k (.int (i.fdiv j))
  | .mod, .int i, .int j => j ≠ 0 ∧ k (.int (i.fmod j))
  | .pow, .int i, .int j => (0 ≤ j ∧ (Builtin.Int.intBits i : Int) * j ≤ 2 ^ 27) ∧ k (.int (i ^ j.toNat))
  | .add, .tup xs, .tup ys => xs.length + ys.length ≤ sizeLine ∧ k (.tup (xs ++ ys))
  | .add, .str a, .str b => a.length + b.length ≤ sizeLine ∧ k (.str (a ++ b))
  | _, _, _ => False

def cmpD (op : COp) (x y : D) (k : Bool → Prop) : Prop := match op, x, y with
  | .lt, .int i, .int j => k (decide (i < j))
  | .le, .int i, .int j => k (decide (i ≤ j))
  | .gt, .int i, .int j => k (decide (j < i))
  | .ge, .int i, .int j => k (decide (j ≤ i))
  | .eq, .int i, .int j => k (decide (i = j))
  | .ne, .int i, .int j => k (!decide (i = j))
  | .eq, x, y => eqD x y k
  | .ne, x, y => eqD x y fun b => k (!b)
  | .is, .bl a, .bl b => k (a == b)
  | .isn, .bl a, .bl b => k (a != b)
  | .is, x, .non => k (match x with | .non => true | _ => false)
  | .isn, x, .non => k (match x with | .non => false | _ => true)
  | .inn, x, y => inD x y k
  | .nin, x, y => inD x y fun b => k (!b)
  | _, _, _ => False

/-- the item at an index, from behind too -/
def atD (xs : List D) (i : Int) : Option D := L2.atI xs i
def cutD (xs : List D) (lo hi : Option Int) : List D := (xs.drop (HT.sIx xs.length 0 lo)).take (HT.sIx xs.length xs.length hi - HT.sIx xs.length 0 lo)

/-- in the order of the keys, equal ones as they stood -/
def byKeys {α : Type} (xs : List α) (kz : List Int) : List α := ((xs.zip kz).mergeSort fun p q => decide (p.2 ≤ q.2)).map Prod.fst
def typD : D → Option String
  | .non => some "NoneType"
  | .bl _ => some "bool"
  | .int _ => some "int"
  | .str _ => some "str"
  | .tup _ => some "tuple"
  | .lst _ => some "list"
  | .dct => some "dict"
  | _ => none
/-- xs[lo:hi:st] -/
def pick {α : Type} (xs : List α) (lo hi : Option Int) (st : Int) : List α :=
  (List.range (Builtin.Slice.slicePlaces (Builtin.Slice.sliceAdjust lo hi st (xs.length : Int)).1 (Builtin.Slice.sliceAdjust lo hi st (xs.length : Int)).2 st)).filterMap fun (k : Nat) => xs[((Builtin.Slice.sliceAdjust lo hi st (xs.length : Int)).1 + (k : Int) * st).toNat]?

/-! ### what is walked, as a list of items -/
def seqD (S : Sto) (d : D) (k : List D → (Sto → Prop) → Prop) : Prop := match d with
  | .tup xs => k xs fun _ => True
  | .lst xs => k xs fun _ => True
  | .scr xs => k (xs.map .int) fun _ => True
  | .ref p => match S p with
    | some (.lst ds) => k ds fun S' => S' p = some (.lst ds)
    | _ => False
  | _ => False
def rangeD (i c : Int) (n : Nat) : List D := (List.range n).map fun k => .int (i + (k : Nat) * c)
def enumD : Nat → List D → List D
  | _, [] => []
  | n, x :: r => .tup [.int n, x] :: enumD (n + 1) r
def zipD (xs ys : List D) : List D := List.zipWith (fun x y => .tup [x, y]) xs ys

def isiTys : List String := ["int", "bool", "tuple", "str", "list"]
def isiB (t n : String) : Bool := t == n || (t == "bool" && n == "int")
def biD (b : BI) (S : Sto) (ds : List D) (k : D → Prop) : Prop := match b, ds with
  | .len, [d] => match res S d with
    | .tup xs => k (.int xs.length)
    | .lst xs => k (.int xs.length)
    | .scr xs => k (.int xs.length)
    | .str x => x.length ≤ sizeLine ∧ k (.int x.length)
    | _ => False
  | .abs, [.int i] => k (.int (if i < 0 then -i else i))
  | .max, [d] => ∃ ns : List Int, res S d = .lst (ns.map .int) ∧ 0 < ns.length ∧ ∀ m ∈ ns, (∀ y ∈ ns, y ≤ m) → k (.int m)
  | .min, [d] => ∃ ns : List Int, res S d = .lst (ns.map .int) ∧ 0 < ns.length ∧ ∀ m ∈ ns, (∀ y ∈ ns, m ≤ y) → k (.int m)
  | .max, [x, y] => ∃ i j, x = .int i ∧ y = .int j ∧ k (.int (if j > i then j else i))
  | .min, [x, y] => ∃ i j, x = .int i ∧ y = .int j ∧ k (.int (if j < i then j else i))
  | .int, [.int i] => k (.int i)
  | .int, [.bl b] => k (.int (if b then 1 else 0))
  | .sum, [d] => ∃ ns : List Int, res S d = .lst (ns.map .int) ∧ k (.int ns.sum)
  | .all, [d] => ∃ bs : List Bool, res S d = .lst (bs.map .bl) ∧ k (.bl (bs.all id))
  | .any, [d] => ∃ bs : List Bool, res S d = .lst (bs.map .bl) ∧ k (.bl (bs.any id))
  | .tuple, [d] => match res S d with
    | .tup xs => k (.tup xs)
    | .lst xs => k (.tup xs)
    | _ => False
  | .repr, [.bl b] => k (.str (if b then "True" else "False"))
  | .repr, [.int i] => i.natAbs.log2 < 1920 ∧ k (.str (toString i))
  | .str, [.int i] => i.natAbs.log2 < 1920 ∧ k (.str (toString i))
  | .str, [.str x] => k (.str x)
  | .isinst, [x, .ty n] => ∃ t, typD (res S x) = some t ∧ n ∈ isiTys ∧ k (.bl (isiB t n))
  | _, _ => False

def tstD (d : D) (k : Bool → Prop) : Prop := match d with
  | .bl b => k b
  | _ => False

/-- what isinstance asks of a value and a class of the program -/
def isCD (has : String → Bool) (c : String) (x : D) (k : Bool → Prop) : Prop := match x with
  | .obj c' _ => has c' = true ∧ k (c' == c)
  | y => ∃ t, typD y = some t ∧ k false

/-- the turns of a comprehension; B: what is asked at an append -/
def compL (bd : D → Env → Sto → (Env → Sto → Prop) → Prop) (tw : Env → Sto → (Bool → Sto → Prop) → Prop) (ew : Env → Sto → QD → Prop) (B : List D → Prop) (C : Sto → Prop) (K : List D → Sto → Prop) (ρ : Env) : List D → Sto → List D → Prop
  | [], S, acc => C S ∧ K acc S
  | d :: ds, S, acc => C S ∧ bd d ρ S fun ρ' S1 => tw ρ' S1 fun b S2 => if b = true then ew ρ' S2 fun y S3 => B acc ∧ compL bd tw ew B C K ρ ds S3 (acc ++ [y]) else compL bd tw ew B C K ρ ds S2 acc
/-- .. of the outer clause: iw makes the inner walk, which ends in a list added -/
def compO (bd : D → Env → Sto → (Env → Sto → Prop) → Prop) (tw : Env → Sto → (Bool → Sto → Prop) → Prop) (iw : Env → Sto → List D → (List D → Sto → Prop) → Prop) (C : Sto → Prop) (K : List D → Sto → Prop) (ρ : Env) : List D → Sto → List D → Prop
  | [], S, acc => C S ∧ K acc S
  | d :: ds, S, acc => C S ∧ bd d ρ S fun ρ' S1 => tw ρ' S1 fun b S2 => if b = true then iw ρ' S2 acc fun acc' S3 => compO bd tw iw C K ρ ds S3 acc' else compO bd tw iw C K ρ ds S2 acc

/-- the context: what defs promise, what module constants are -/
structure Gam where
  fn : Nat → FSp
  gl : Nat → D
  cls : List (String × List Str) := []
  xc : List String := []
def Gam.has (Γ : Gam) (c : String) : Bool := Γ.cls.any fun p => p.1 == c

def xNo : XD := fun _ _ _ => False
def tgsLen : Tgs → Nat
  | .nil => 0
  | .cons _ r => tgsLen r + 1
mutual
def wpE (Γ : Gam) : Ex → Env → Sto → XD → QD → Prop
  | .var i, ρ, S, _, Q => match getV ρ i with
    | some d => Q d S
    | none => False
  | .cst d, _, S, _, Q => Q d S
  | .glb k, _, S, _, Q => Q (Γ.gl k) S
  | .bin op a b, ρ, S, R, Q => wpE Γ a ρ S R fun x S1 => wpE Γ b ρ S1 R fun y S2 => binD op x y fun z => Q z S2
  | .neg a, ρ, S, R, Q => wpE Γ a ρ S R fun x S1 => match x with
    | .int i => Q (.int (-i)) S1
    | _ => False
  | .not a, ρ, S, R, Q => wpE Γ a ρ S R fun x S1 => tstD x fun b => Q (.bl (!b)) S1
  | .cmp op a b, ρ, S, R, Q => wpE Γ a ρ S R fun x S1 => wpE Γ b ρ S1 R fun y S2 => cmpD op (res S2 x) (res S2 y) fun z => Q (.bl z) S2
  | .chn o1 o2 a b c, ρ, S, R, Q => wpE Γ a ρ S R fun x S1 => wpE Γ b ρ S1 R fun y S2 => cmpD o1 (res S2 x) (res S2 y) fun z => if z = true then wpE Γ c ρ S2 R fun u S3 => cmpD o2 (res S3 y) (res S3 u) fun v => Q (.bl v) S3 else Q (.bl false) S2
  | .and a b, ρ, S, R, Q => wpE Γ a ρ S R fun x S1 => tstD x fun c => if c = true then wpE Γ b ρ S1 R Q else Q (.bl false) S1
  | .or a b, ρ, S, R, Q => wpE Γ a ρ S R fun x S1 => tstD x fun c => if c = true then Q (.bl true) S1 else wpE Γ b ρ S1 R Q
  | .ite c a b, ρ, S, R, Q => wpE Γ c ρ S R fun x S1 => tstD x fun z => if z = true then wpE Γ a ρ S1 R Q else wpE Γ b ρ S1 R Q
  | .idx a i, ρ, S, R, Q => wpE Γ a ρ S R fun x S1 => wpE Γ i ρ S1 R fun y S2 => match res S2 x, y with
    | .tup xs, .int n => ∃ d, atD xs n = some d ∧ Q d S2
    | .lst xs, .int n => ∃ d, atD xs n = some d ∧ Q d S2
    | .scr xs, .int n => ∃ m, L2.atI xs n = some m ∧ Q (.int m) S2
    | _, _ => False
  | .slc a lo hi, ρ, S, R, Q => wpE Γ a ρ S R fun x S1 => wpO Γ lo ρ S1 R fun l S2 => wpO Γ hi ρ S2 R fun h S3 => match res S3 x with
    | .tup xs => Q (.tup (cutD xs l h)) S3
    | .lst xs => Q (.lst (cutD xs l h)) S3
    | _ => False
  | .stp a lo hi st, ρ, S, R, Q => wpE Γ a ρ S R fun x S1 => wpO Γ lo ρ S1 R fun l S2 => wpO Γ hi ρ S2 R fun h S3 => wpE Γ st ρ S3 R fun y S4 => match x, y with
    | .tup xs, .int k => k ≠ 0 ∧ k ≠ 1 ∧ Q (.tup (pick xs l h k)) S4
    | _, _ => False
  | .tup es, ρ, S, R, Q => wpEs Γ es ρ S R fun ds S1 => ds.length ≤ sizeLine ∧ Q (.tup ds) S1
  | .frz l, ρ, S, R, Q => wpL Γ l ρ S R fun ds S1 => Q (.lst ds) S1
  | .own l, ρ, S, R, Q => wpL Γ l ρ S R fun ds S1 => ∀ p, S1 p = none → Q (.ref p) (sup S1 p (.lst ds))
  | .call f es, ρ, S, R, Q => wpEs Γ es ρ S R fun ds S1 => Γ.fn f ds S1 R Q
  | .bi b es, ρ, S, R, Q => wpEs Γ es ρ S R fun ds S1 => biD b S1 ds fun d => Q d S1
  | .app o e, ρ, S, R, Q => wpE Γ o ρ S R fun x S1 => ∃ p, x = .ref p ∧ (∃ ds, S1 p = some (.lst ds)) ∧ wpE Γ e ρ S1 R fun y S2 => ∃ ds, S2 p = some (.lst ds) ∧ ds.length < sizeLine ∧ Q .non (sup S2 p (.lst (ds ++ [y])))
  | .fld c i e, ρ, S, R, Q => wpE Γ e ρ S R fun x S1 => match x with
    | .obj c' fs => c' = c ∧ (match fs[i]? with
      | some d => Q d S1
      | none => False)
    | _ => False
  | .isC c e, ρ, S, R, Q => wpE Γ e ρ S R fun x S1 => isCD Γ.has c (res S1 x) fun b => Q (.bl b) S1
  | .meth f c o es, ρ, S, R, Q => wpE Γ o ρ S R fun x S1 => (∃ fs, x = .obj c fs) ∧ wpEs Γ es ρ S1 R fun ds S2 => Γ.fn f (x :: ds) S2 R Q
  | .prop f c o, ρ, S, R, Q => wpE Γ o ρ S R fun x S1 => (∃ fs, x = .obj c fs) ∧ Γ.fn f [x] S1 xNo Q
  | .new f c n es, ρ, S, R, Q => wpEs Γ es ρ S R fun ds S1 => ∀ p q, S1 p = none → S1 q = none → q ≠ p → Γ.fn f (.ref p :: ds) (sup (sup S1 q .dx) p (.obj c q (List.replicate n none))) R fun v S2 => v = .non ∧ ∃ fs, S2 p = some (.obj c q (fs.map some)) ∧ S2 q = some .dx ∧ Q (.obj c fs) (sdel (sdel S2 p) q)
  | .cmpO _ f c a b, ρ, S, R, Q => wpE Γ a ρ S R fun x S1 => wpE Γ b ρ S1 R fun y S2 => (∃ fs, x = .obj c fs) ∧ (∃ fs, y = .obj c fs) ∧ Γ.fn f [x, y] S2 xNo Q
  | .cmpOD op f c a b, ρ, S, R, Q => wpE Γ a ρ S R fun x S1 => wpE Γ b ρ S1 R fun y S2 => ((∃ fs, x = .obj c fs) ∧ ((∃ fs, y = .obj c fs) ∨ ∃ t, typD (res S2 y) = some t) ∧ Γ.fn f [x, y] S2 xNo Q) ∨ cmpD op (res S2 x) (res S2 y) fun z => Q (.bl z) S2
  | .lenO f c o, ρ, S, R, Q => wpE Γ o ρ S R fun x S1 => (∃ fs, x = .obj c fs) ∧ Γ.fn f [x] S1 xNo fun v S2 => ∃ i : Int, v = .int i ∧ 0 ≤ i ∧ i < 2 ^ 62 ∧ Q v S2
  | .strO f c o, ρ, S, R, Q => wpE Γ o ρ S R fun x S1 => (∃ fs, x = .obj c fs) ∧ Γ.fn f [x] S1 xNo fun v S2 => ∃ s, v = .str s ∧ Q v S2
  | .fst es, ρ, S, R, Q => wpFs Γ es ρ S R Str.empty fun s S1 => Q (.str s) S1
  | .dct, _, S, _, Q => Q .dct S
def wpEs (Γ : Gam) : Exs → Env → Sto → XD → (List D → Sto → Prop) → Prop
  | .nil, _, S, _, Q => Q [] S
  | .cons e r, ρ, S, R, Q => wpE Γ e ρ S R fun x S1 => wpEs Γ r ρ S1 R fun xs S2 => Q (x :: xs) S2
  | .star e r, ρ, S, R, Q => wpE Γ e ρ S R fun x S1 => match res S1 x with
    | .tup ys => wpEs Γ r ρ S1 R fun xs S2 => Q (ys ++ xs) S2
    | .lst ys => wpEs Γ r ρ S1 R fun xs S2 => Q (ys ++ xs) S2
    | _ => False
/-- a text put together of texts and ints -/
def wpFs (Γ : Gam) : Exs → Env → Sto → XD → Str → (Str → Sto → Prop) → Prop
  | .nil, _, S, _, acc, Q => Q acc S
  | .cons e r, ρ, S, R, acc, Q => wpE Γ e ρ S R fun x S1 => match x with
    | .str y => y.length ≤ sizeLine ∧ (acc ++ y).length ≤ sizeLine ∧ wpFs Γ r ρ S1 R (acc ++ y) Q
    | .int i => i.natAbs.log2 < 1920 ∧ (acc ++ (toString i : Str)).length ≤ sizeLine ∧ wpFs Γ r ρ S1 R (acc ++ (toString i : Str)) Q
    | _ => False
  | .star _ _, _, _, _, _, _ => False
def wpO (Γ : Gam) : Ox → Env → Sto → XD → (Option Int → Sto → Prop) → Prop
  | .no, _, S, _, Q => Q none S
  | .so e, ρ, S, R, Q => wpE Γ e ρ S R fun x S1 => match x with
    | .int i => Q (some i) S1
    | _ => False
def wpL (Γ : Gam) : Lx → Env → Sto → XD → (List D → Sto → Prop) → Prop
  | .disp es, ρ, S, R, Q => wpEs Γ es ρ S R fun ds S1 => ds.length ≤ sizeLine ∧ Q ds S1
  | .comp own tg it ts el, ρ, S, R, Q => wpI Γ it ρ S R fun ds C S1 =>
      compL (fun d ρ S K => wpG Γ tg d ρ S xNo K) (fun ρ S K => wpTs Γ ts ρ S K) (fun ρ S K => wpE Γ el ρ S xNo K) (fun _ => True) C Q (delVs ρ own) ds S1 []
  | .comp2 own own2 tg it ts tg2 it2 ts2 el, ρ, S, R, Q => wpI Γ it ρ S R fun ds C S1 =>
      compO (fun d ρ S K => wpG Γ tg d ρ S xNo K) (fun ρ S K => wpTs Γ ts ρ S K)
        (fun ρ S acc K => wpI Γ it2 ρ S xNo fun ds2 C2 S2 => compL (fun d ρ S K => wpG Γ tg2 d ρ S xNo K) (fun ρ S K => wpTs Γ ts2 ρ S K) (fun ρ S K => wpE Γ el ρ S xNo K) (fun acc => acc.length < sizeLine) C2 K (delVs ρ own2) ds2 S2 acc) C Q (delVs ρ own) ds S1 []
  | .rep a n, ρ, S, R, Q => wpE Γ a ρ S R fun x S1 => wpE Γ n ρ S1 R fun y S2 => match res S2 x, y with
    | .lst xs, .int k => -(2 ^ 63) ≤ k ∧ k < 2 ^ 63 ∧ xs.length * k.toNat ≤ sizeLine ∧ Q (List.replicate k.toNat xs).flatten S2
    | _, _ => False
  | .cat a b, ρ, S, R, Q => wpE Γ a ρ S R fun x S1 => wpE Γ b ρ S1 R fun y S2 => match res S2 x, res S2 y with
    | .lst xs, .lst ys => xs.length + ys.length ≤ sizeLine ∧ Q (xs ++ ys) S2
    | _, _ => False
  | .ofSeq a, ρ, S, R, Q => wpE Γ a ρ S R fun x S1 => match res S1 x with
    | .tup xs => Q xs S1
    | .lst xs => Q xs S1
    | _ => False
  | .slc a lo hi, ρ, S, R, Q => wpE Γ a ρ S R fun x S1 => wpO Γ lo ρ S1 R fun l S2 => wpO Γ hi ρ S2 R fun h S3 => match res S3 x with
    | .lst xs => Q (cutD xs l h) S3
    | _ => False
  | .sorted a, ρ, S, R, Q => wpE Γ a ρ S R fun x S1 => match res S1 x with
    | .lst xs => ∃ (kz : List Int) (ps : List PyData), kz.length = xs.length ∧ kz.Nodup ∧ D.py.pys xs = some ps ∧ PySem.W.AllAlike ps ∧ (∀ p ∈ ps, p.depth ≤ 8) ∧
      (∀ (i : Nat) (d : PyData) (k : Int), ps[i]? = some d → kz[i]? = some k → ∃ r, d = .tuple (.int k :: r)) ∧ Q (byKeys xs kz) S1
    | _ => False
  | .stpL a lo hi st, ρ, S, R, Q => wpE Γ a ρ S R fun x S1 => wpO Γ lo ρ S1 R fun l S2 => wpO Γ hi ρ S2 R fun h S3 => wpE Γ st ρ S3 R fun y S4 => match res S4 x, y with
    | .lst xs, .int k => l = none ∧ h = none ∧ k = -1 ∧ Q xs.reverse S4
    | _, _ => False
  | .sortSet a, ρ, S, R, Q => wpE Γ a ρ S R fun x S1 => match res S1 x with
    | .lst xs => ∃ ns : List Int, xs = ns.map .int ∧ ns.length < 64 ∧ ∀ ms : List Int, ms.Pairwise (· < ·) → (∀ k, k ∈ ms ↔ k ∈ ns) → Q (ms.map .int) S1
    | _ => False
  | .sortI a, ρ, S, R, Q => wpE Γ a ρ S R fun x S1 => match res S1 x with
    | .lst xs => ∃ ns : List Int, xs = ns.map .int ∧ ∀ ms : List Int, ms.Perm ns → ms.Pairwise (· ≤ ·) → Q (ms.map .int) S1
    | _ => False
  | .sortK f a, ρ, S, R, Q => wpE Γ a ρ S R fun x S1 => match res S1 x with
    | .lst xs => ∃ kz : List Int, kz.length = xs.length ∧ (∀ (i : Nat) (d : D) (k : Int), xs[i]? = some d → kz[i]? = some k → Γ.fn f [d] S1 xNo fun v S2 => v = .int k ∧ ∀ a o, S1 a = some o → S2 a = some o) ∧ Q (byKeys xs kz) S1
    | _ => False
def wpI (Γ : Gam) : It → Env → Sto → XD → (List D → (Sto → Prop) → Sto → Prop) → Prop
  | .seq e, ρ, S, R, Q => wpE Γ e ρ S R fun x S1 => seqD S1 x fun ds C => Q ds C S1
  | .rng1 a, ρ, S, R, Q => wpE Γ a ρ S R fun x S1 => ∃ j : Int, x = .int j ∧ -(2 ^ 62) ≤ j ∧ j ≤ 16777216 ∧ Q (rangeD 0 1 j.toNat) (fun _ => True) S1
  | .rng2 a b, ρ, S, R, Q => wpE Γ a ρ S R fun x S1 => wpE Γ b ρ S1 R fun y S2 => ∃ i j : Int, x = .int i ∧ y = .int j ∧ (-(2 ^ 62) ≤ i ∧ i < 2 ^ 62 ∧ -(2 ^ 62) ≤ j ∧ j < 2 ^ 62) ∧ j - i ≤ 16777216 ∧ Q (rangeD i 1 (j - i).toNat) (fun _ => True) S2
  | .rng3 a b c, ρ, S, R, Q => wpE Γ a ρ S R fun x S1 => wpE Γ b ρ S1 R fun y S2 => wpE Γ c ρ S2 R fun z S3 => ∃ (i j c : Int) (n : Nat), x = .int i ∧ y = .int j ∧ z = .int c ∧ L2.RgC i j c n ∧ n ≤ sizeLine ∧ Q (rangeD i c n) (fun _ => True) S3
  | .enum e, ρ, S, R, Q => wpE Γ e ρ S R fun x S1 => seqD S1 x fun ds C => Q (enumD 0 ds) C S1
  | .zip a b, ρ, S, R, Q => wpE Γ a ρ S R fun x S1 => wpE Γ b ρ S1 R fun y S2 => seqD S2 x fun ds C => seqD S2 y fun ds2 C2 => Q (zipD ds ds2) (fun S => C S ∧ C2 S) S2
def wpG (Γ : Gam) : Tg → D → Env → Sto → XD → (Env → Sto → Prop) → Prop
  | .nm i, d, ρ, S, _, K => K (setV ρ i d) S
  | .tp ts, d, ρ, S, R, K => match d with
    | .tup ds => ds.length = tgsLen ts ∧ wpGs Γ ts ds ρ S R K
    | .lst ds => ds.length = tgsLen ts ∧ wpGs Γ ts ds ρ S R K
    | _ => False
  | .sub o i, d, ρ, S, R, K => wpE Γ o ρ S R fun x S1 => wpE Γ i ρ S1 R fun y S2 => ∃ p ds n j, x = .ref p ∧ y = .int n ∧ S2 p = some (.lst ds) ∧ L2.ixN ds.length n = some j ∧ K ρ (sup S2 p (.lst (ds.set j d)))
  | .fld o c i, d, ρ, S, R, K => wpE Γ o ρ S R fun x S1 => ∃ p q fs, x = .ref p ∧ S1 p = some (.obj c q fs) ∧ S1 q = some .dx ∧ i < fs.length ∧ K ρ (sup S1 p (.obj c q (fs.set i (some d))))
def wpGs (Γ : Gam) : Tgs → List D → Env → Sto → XD → (Env → Sto → Prop) → Prop
  | .nil, ds, ρ, S, _, K => match ds with
    | [] => K ρ S
    | _ => False
  | .cons t r, ds, ρ, S, R, K => match ds with
    | d :: ds => wpG Γ t d ρ S R fun ρ' S' => wpGs Γ r ds ρ' S' R K
    | [] => False
/-- the tests of a comprehension: at most one -/
def wpTs (Γ : Gam) : Exs → Env → Sto → (Bool → Sto → Prop) → Prop
  | .nil, _, S, K => K true S
  | .cons e r, ρ, S, K => wpE Γ e ρ S xNo fun x S1 => tstD x fun b => if b = true then wpTs Γ r ρ S1 K else K false S1
  | .star _ _, _, _, _ => False
end

structure DEnd where
  nx : Env → Sto → Prop
  rt : QD
  bk : Env → Sto → Prop := fun _ _ => False
  ct : Env → Sto → Prop := fun _ _ => False
/-- the turns of a for -/
def forL (bd : D → Env → Sto → (Env → Sto → Prop) → Prop) (body : DEnd → Env → Sto → Prop) (C : Sto → Prop) (E : DEnd) : List D → Env → Sto → Prop
  | [], ρ, S => C S ∧ E.nx ρ S
  | d :: ds, ρ, S => C S ∧ bd d ρ S fun ρ' S' => body { nx := forL bd body C E ds, ct := forL bd body C E ds, bk := E.nx, rt := E.rt } ρ' S'
/-- what is wanted of an exception out of a statement -/
abbrev XS := Nat → D → Env → Sto → Prop
def parV : List Nat → List D → Env → Env
  | i :: is, d :: ds, ρ => parV is ds (setV ρ i d)
  | _, _, ρ => ρ
mutual
def wpS (Γ : Gam) : Sm → DEnd → XS → Env → Sto → Prop
  | .asg t e, E, X, ρ, S => wpE Γ e ρ S (fun k d S => X k d ρ S) fun d S1 => wpG Γ t d ρ S1 xNo E.nx
  | .par is es, E, X, ρ, S => wpEs Γ es ρ S (fun k d S => X k d ρ S) fun ds S1 => ds.length = is.length ∧ E.nx (parV is ds ρ) S1
  | .aug i op e, E, X, ρ, S => match getV ρ i with
    | some x => wpE Γ e ρ S (fun k d S => X k d ρ S) fun y S1 => ∃ a b, x = .int a ∧ y = .int b ∧ binD op x y fun z => E.nx (setV ρ i z) S1
    | none => False
  | .ex e, E, X, ρ, S => wpE Γ e ρ S (fun k d S => X k d ρ S) fun _ S1 => E.nx ρ S1
  | .ret e, E, X, ρ, S => wpE Γ e ρ S (fun k d S => X k d ρ S) fun d S1 => E.rt d S1
  | .retF e, E, X, ρ, S => wpE Γ e ρ S (fun k d S => X k d ρ S) fun d S1 => ∃ p ds, d = .ref p ∧ S1 p = some (.lst ds) ∧ E.rt (.lst ds) (sdel S1 p)
  | .retN, E, _, _, S => E.rt .non S
  | .ife c a b, E, X, ρ, S => wpE Γ c ρ S (fun k d S => X k d ρ S) fun d S1 => tstD d fun z => if z = true then wpB Γ a E X ρ S1 else wpB Γ b E X ρ S1
  | .whl c b, E, X, ρ, S => ∃ W : Nat → Env → Sto → Prop, (∃ m, W m ρ S) ∧ ∀ m ρ S, W m ρ S → wpE Γ c ρ S (fun k d S => X k d ρ S) fun d S1 => tstD d fun z =>
      if z = true then wpB Γ b { nx := fun ρ' S' => ∃ m', m' < m ∧ W m' ρ' S', ct := fun ρ' S' => ∃ m', m' < m ∧ W m' ρ' S', bk := E.nx, rt := E.rt } X ρ S1 else E.nx ρ S1
  | .for tg it b, E, X, ρ, S => wpI Γ it ρ S (fun k d S => X k d ρ S) fun ds C S1 => forL (fun d ρ S K => wpG Γ tg d ρ S xNo K) (fun E' ρ S => wpB Γ b E' X ρ S) C E ds ρ S1
  | .raise _ _, _, _, _, _ => False
  | .rse k, _, X, ρ, S => X k .non ρ S
  | .tryC b hs, E, X, ρ, S => wpB Γ b E (fun k d ρ' S' => match hs.lookup k with
    | some c => E.rt c S'
    | none => X k d ρ' S') ρ S
  | .pass, E, _, ρ, S => E.nx ρ S
  | .brk, E, _, ρ, S => E.bk ρ S
  | .cont, E, _, ρ, S => E.ct ρ S
def wpB (Γ : Gam) : Bl → DEnd → XS → Env → Sto → Prop
  | .nil, E, _, ρ, S => E.nx ρ S
  | .cons s r, E, X, ρ, S => wpS Γ s { E with nx := wpB Γ r E X } X ρ S
end
end DL

/-! DL2: data against the heap; readings of HandS against weakest preconditions over data. -/
namespace DL
open PySem PySem.Spec PyProof.Rows L2
abbrev Ow := Addr → Prop
/-- what nobody ever changes -/
def Imm (u : HO) : Prop := (∃ xs, u = .tup xs) ∨ ∃ o x, u = .frz o x
mutual
/-- the value v stands for the datum d -/
inductive Rp (K : PySem.W.Frag) (O : Ow) (H : Hp) : V → D → Prop
  | non : Rp K O H .non .non
  | bl (b : Bool) : Rp K O H (.bl b) (.bl b)
  | int (i : Int) : Rp K O H (.int i) (.int i)
  | str (x : Str) : Rp K O H (.str x) (.str x)
  | ty (n : String) : Rp K O H (.ty n) (.ty n)
  | ref {a : Addr} : Rp K O H (.ref a) (.ref a)
  | scr {a : Addr} {ns : List Int} {o : Obj} : ns.length ≤ sizeLine → H a = some (.frz o (.lst (ns.map V.int))) → Rp K O H (.ref a) (.scr ns)
  | scrK {a : Addr} {ns : List Int} : ns.length ≤ sizeLine → (∀ H', SqL K H' a (ns.map V.int)) → Rp K O H (.ref a) (.scr ns)
  | tup {a : Addr} {xs : List V} {ds : List D} : SqT K H a xs → xs.length ≤ sizeLine → Rps K O H xs ds → Rp K O H (.ref a) (.tup ds)
  | lst {a : Addr} {xs : List V} {ds : List D} : H a = some (.lst xs) → ¬ O a → xs.length ≤ sizeLine → Rps K O H xs ds → Rp K O H (.ref a) (.lst ds)
  | obj {a dx : Addr} {c : String} {vs : List (Option V)} {ws : List V} {ds : List D} : SlX.Slt H a (He.ga K c) dx vs → (∃ u, H dx = some u) → ¬ O a → ¬ O dx → (∀ (i : Nat) (v : V), ws[i]? = some v → vs[i]? = some (some v)) → Rps K O H ws ds → Rp K O H (.ref a) (.obj c ds)
  | dct {a : Addr} : H a = some (.dK []) → ¬ O a → Rp K O H (.ref a) .dct
inductive Rps (K : PySem.W.Frag) (O : Ow) (H : Hp) : List V → List D → Prop
  | nil : Rps K O H [] []
  | cons {v : V} {vs : List V} {d : D} {ds : List D} : Rp K O H v d → Rps K O H vs ds → Rps K O H (v :: vs) (d :: ds)
end
/-- the heap goes on: what is not owned stays, tuples stay, nothing old is newly owned -/
structure Mo (O : Ow) (H : Hp) (O' : Ow) (H' : Hp) : Prop where
  k : ∀ a u, H a = some u → ¬ O a → H' a = some u
  t : ∀ a u, H a = some u → Imm u → H' a = some u
  o : ∀ a u, H a = some u → O' a → O a
section
variable {K : PySem.W.Frag} {O O' O2 : Ow} {H H' H2 : Hp}
theorem Mo.refl : Mo O H O H := ⟨fun _ _ h _ => h, fun _ _ h _ => h, fun _ _ _ h => h⟩
theorem Mo.rd (m : Mo O H O' H') {a : Addr} {u : HO} (h : Rd H a u) (hn : Imm u) : Rd H' a u := by
  rcases h with h | ⟨o, h⟩
  · exact .inl (m.t _ _ h hn)
  · exact .inr ⟨o, m.t _ _ h (.inr ⟨_, _, rfl⟩)⟩
theorem Mo.sqT (m : Mo O H O' H') {a : Addr} {xs : List V} (h : SqT K H a xs) : SqT K H' a xs := by
  rcases h with h | h
  · exact .inl (m.rd h (.inl ⟨_, rfl⟩))
  · exact .inr h
theorem Mo.slt (m : Mo O H O' H') {a C dx : Addr} {vs : List (Option V)} (h : SlX.Slt H a C dx vs) (h1 : ¬ O a) (h2 : ¬ O dx) : SlX.Slt H' a C dx vs := by
  rcases h with ⟨h, e⟩ | ⟨h, e⟩
  · exact .inl ⟨m.k _ _ h h1, e⟩
  · exact .inr ⟨m.k _ _ h h1, m.k _ _ e h2⟩
theorem slt_some {a C dx : Addr} {vs : List (Option V)} (h : SlX.Slt H a C dx vs) : ∃ u, H a = some u ∧ ¬ Imm u := by
  rcases h with ⟨h, _⟩ | ⟨h, _⟩
  · exact ⟨_, h, fun z => by rcases z with ⟨_, e⟩ | ⟨_, _, e⟩ <;> cases e⟩
  · exact ⟨_, h, fun z => by rcases z with ⟨_, e⟩ | ⟨_, _, e⟩ <;> (unfold SlX.SlO at e; cases e)⟩
mutual
theorem Rp.mono (m : Mo O H O' H') : ∀ {v : V} {d : D}, Rp K O H v d → Rp K O' H' v d
  | _, _, .non => .non
  | _, _, .bl b => .bl b
  | _, _, .int i => .int i
  | _, _, .str x => .str x
  | _, _, .ty n => .ty n
  | _, _, .ref => .ref
  | _, _, .scr z h => .scr z (m.t _ _ h (.inr ⟨_, _, rfl⟩))
  | _, _, .scrK z h => .scrK z h
  | _, _, .tup h z r => .tup (m.sqT h) z (Rps.mono m r)
  | _, _, .lst h n z r => .lst (m.k _ _ h n) (fun q => n (m.o _ _ h q)) z (Rps.mono m r)
  | _, _, .obj h ⟨u, hd⟩ n n2 f r => .obj (m.slt h n n2) ⟨u, m.k _ _ hd n2⟩ (fun q => by obtain ⟨u, hu, _⟩ := slt_some h; exact n (m.o _ _ hu q)) (fun q => n2 (m.o _ _ hd q)) f (Rps.mono m r)
  | _, _, .dct h n => .dct (m.k _ _ h n) fun q => n (m.o _ _ h q)
theorem Rps.mono (m : Mo O H O' H') : ∀ {vs : List V} {ds : List D}, Rps K O H vs ds → Rps K O' H' vs ds
  | _, _, .nil => .nil
  | _, _, .cons r t => .cons (Rp.mono m r) (Rps.mono m t)
end
theorem Rps.len : ∀ {vs : List V} {ds : List D}, Rps K O H vs ds → vs.length = ds.length
  | _, _, .nil => rfl
  | _, _, .cons _ t => by rw [List.length_cons, List.length_cons, t.len]
theorem Rps.append : ∀ {vs us : List V} {ds es : List D}, Rps K O H vs ds → Rps K O H us es → Rps K O H (vs ++ us) (ds ++ es)
  | _, _, _, _, .nil, h => h
  | _, _, _, _, .cons r t, h => .cons r (t.append h)
theorem Rps.get : ∀ {vs : List V} {ds : List D} {i : Nat} {d : D}, Rps K O H vs ds → ds[i]? = some d → ∃ v, vs[i]? = some v ∧ Rp K O H v d
  | _, _, 0, _, .cons r _, e => ⟨_, rfl, by cases e; exact r⟩
  | _, _, i + 1, _, .cons _ t, e => t.get (i := i) e
theorem Rps.getV : ∀ {vs : List V} {ds : List D} {i : Nat} {v : V}, Rps K O H vs ds → vs[i]? = some v → ∃ d, ds[i]? = some d ∧ Rp K O H v d
  | _, _, 0, _, .cons r _, e => ⟨_, rfl, by cases e; exact r⟩
  | _, _, i + 1, _, .cons _ t, e => t.getV (i := i) e
theorem Rps.set : ∀ {vs : List V} {ds : List D} (i : Nat) {v : V} {d : D}, Rps K O H vs ds → Rp K O H v d → Rps K O H (vs.set i v) (ds.set i d)
  | _, _, _, _, _, .nil, _ => .nil
  | _, _, 0, _, _, .cons _ t, h => .cons h t
  | _, _, i + 1, _, _, .cons r t, h => .cons r (t.set i h)
theorem Rps.take : ∀ {vs : List V} {ds : List D} (n : Nat), Rps K O H vs ds → Rps K O H (vs.take n) (ds.take n)
  | _, _, 0, _ => .nil
  | _, _, _ + 1, .nil => .nil
  | _, _, n + 1, .cons r t => .cons r (t.take n)
theorem Rps.drop : ∀ {vs : List V} {ds : List D} (n : Nat), Rps K O H vs ds → Rps K O H (vs.drop n) (ds.drop n)
  | _, _, 0, h => h
  | _, _, _ + 1, .nil => .nil
  | _, _, n + 1, .cons _ t => t.drop n
theorem Rps.reverse : ∀ {vs : List V} {ds : List D}, Rps K O H vs ds → Rps K O H vs.reverse ds.reverse
  | _, _, .nil => .nil
  | _, _, .cons r t => by rw [List.reverse_cons, List.reverse_cons]; exact t.reverse.append (.cons r .nil)
theorem Rps.ints : ∀ {vs : List V} {ns : List Int}, Rps K O H vs (ns.map D.int) → vs = ns.map V.int
  | _, [], .nil => rfl
  | _, _ :: _, .cons r t => by cases r; rw [List.map_cons, t.ints]
theorem Rps.ofInts : ∀ (ns : List Int), Rps K O H (ns.map V.int) (ns.map D.int)
  | [] => .nil
  | n :: ns => .cons (.int n) (Rps.ofInts ns)
theorem Rps.bls : ∀ {vs : List V} {ns : List Bool}, Rps K O H vs (ns.map D.bl) → vs = ns.map V.bl
  | _, [], .nil => rfl
  | _, _ :: _, .cons r t => by cases r; rw [List.map_cons, t.bls]
theorem Rps.rep {vs : List V} {ds : List D} (h : Rps K O H vs ds) : ∀ n : Nat, Rps K O H (List.replicate n vs).flatten (List.replicate n ds).flatten
  | 0 => .nil
  | n + 1 => by rw [List.replicate_succ, List.replicate_succ, List.flatten_cons, List.flatten_cons]; exact h.append (h.rep n)
theorem Rps.dropLast {vs : List V} {ds : List D} (h : Rps K O H vs ds) : Rps K O H vs.dropLast ds.dropLast := by
  rw [List.dropLast_eq_take, List.dropLast_eq_take, h.len]; exact h.take _

/-- the store stands -/
def FsR (K : PySem.W.Frag) (O : Ow) (H : Hp) (vs : List (Option V)) (fs : List (Option D)) : Prop := ∀ (i : Nat) (d : D), fs[i]? = some (some d) → ∃ v, vs[i]? = some (some v) ∧ Rp K O H v d
structure Sok (K : PySem.W.Frag) (S : Sto) (O : Ow) (H : Hp) : Prop where
  dom : ∀ a ds, S a = some (.lst ds) → O a ∧ ∃ xs, H a = some (.lst xs) ∧ xs.length ≤ sizeLine ∧ Rps K O H xs ds
  ex : ∀ a, O a → ∃ u, H a = some u ∧ ¬ Imm u
  obj : ∀ a c q fs, S a = some (.obj c q fs) → O a ∧ (∃ u, H q = some u) ∧ ∃ vs, SlX.Slt H a (He.ga K c) q vs ∧ FsR K O H vs fs
  dx : ∀ a, S a = some .dx → O a ∧ ((∃ x, H a = some (.own x)) ∨ H a = some (.xd []))
  inj : ∀ a a' c c' q fs fs', S a = some (.obj c q fs) → S a' = some (.obj c' q fs') → a = a'
/-- from a state to a later one -/
structure Ev (S : Sto) (O : Ow) (H : Hp) (S' : Sto) (O' : Ow) (H' : Hp) : Prop where
  keep : ∀ a u, H a = some u → S a = none → H' a = some u
  own : ∀ a, O' a → O a ∨ H a = none
  res : ∀ a, O a → S a = none → O' a ∧ S' a = none
  there : ∀ a, H' a = none → H a = none
variable {S S' S2 : Sto}
theorem Sok.isO (s : Sok K S O H) {a : Addr} {o : DO} (h : S a = some o) : O a := by
  cases o with
  | lst ds => exact (s.dom _ _ h).1
  | obj c q fs => exact (s.obj _ _ _ _ h).1
  | dx => exact (s.dx _ h).1
theorem FsR.mono (m : Mo O H O' H') {vs : List (Option V)} {fs : List (Option D)} (f : FsR K O H vs fs) : FsR K O' H' vs fs := fun i d e => let ⟨v, h, r⟩ := f i d e; ⟨v, h, r.mono m⟩
theorem Sok.none (s : Sok K S O H) {a : Addr} (h : ¬ O a) : S a = Option.none := by
  cases q : S a with
  | none => rfl
  | some o => exact absurd (s.isO q) h
theorem Sok.noneH (s : Sok K S O H) {a : Addr} (h : H a = Option.none) : S a = Option.none := s.none fun q => by obtain ⟨_, e, _⟩ := s.ex _ q; rw [h] at e; cases e
theorem Sok.notO (s : Sok K S O H) {a : Addr} (h : H a = Option.none) : ¬ O a := fun q => by obtain ⟨_, e, _⟩ := s.ex _ q; rw [h] at e; cases e
theorem Sok.noL (s : Sok K S O H) {a : Addr} {u : HO} (h : H a = some u) (hn : Imm u) : ¬ O a := fun q => by
  obtain ⟨v, e, n⟩ := s.ex _ q; rw [h] at e; cases e; exact n hn
theorem imm_lst {xs : List V} : ¬ Imm (.lst xs) := fun z => by rcases z with ⟨_, e⟩ | ⟨_, _, e⟩ <;> cases e
theorem Ev.mo (e : Ev S O H S' O' H') (s : Sok K S O H) : Mo O H O' H' where
  k := fun a u h n => e.keep a u h (s.none n)
  t := fun a u h n => e.keep a u h (s.none (s.noL h n))
  o := fun a u h q => (e.own a q).elim id fun z => by rw [h] at z; cases z
theorem Ev.refl : Ev S O H S O H := ⟨fun _ _ h _ => h, fun _ h => .inl h, fun _ h n => ⟨h, n⟩, fun _ h => h⟩
theorem Ev.trans (a : Ev S O H S' O' H') (s' : Sok K S' O' H') (b : Ev S' O' H' S2 O2 H2) : Ev S O H S2 O2 H2 := by
  have nn : ∀ c u, H c = some u → S c = none → S' c = none := fun c u h n => by
    cases q : S' c with
    | none => rfl
    | some o =>
      rcases a.own c (s'.isO q) with z | z
      · rw [(a.res c z n).2] at q; cases q
      · rw [h] at z; cases z
  refine ⟨fun c u h n => b.keep c u (a.keep c u h n) (nn c u h n), fun c h => ?_, fun c h n => b.res c (a.res c h n).1 (a.res c h n).2, fun c h => a.there c (b.there c h)⟩
  rcases b.own c h with z | z
  · exact a.own c z
  · exact .inr (a.there c z)

/-- the names' values -/
def REnv (K : PySem.W.Frag) (O : Ow) (H : Hp) : Env → L2.St → Prop
  | [], [] => True
  | none :: ρ, _ :: σ => REnv K O H ρ σ
  | some d :: ρ, v :: σ => (∃ x, v = some x ∧ Rp K O H x d) ∧ REnv K O H ρ σ
  | _, _ => False
theorem REnv.mono (m : Mo O H O' H') : ∀ {ρ : Env} {σ : L2.St}, REnv K O H ρ σ → REnv K O' H' ρ σ
  | [], [], _ => trivial
  | none :: ρ, _ :: σ, h => REnv.mono (ρ := ρ) (σ := σ) m h
  | some d :: ρ, _ :: σ, ⟨⟨x, e, r⟩, h⟩ => ⟨⟨x, e, r.mono m⟩, REnv.mono (ρ := ρ) (σ := σ) m h⟩
  | [], _ :: _, h => h.elim
  | none :: _, [], h => h.elim
  | some _ :: _, [], h => h.elim
theorem REnv.get : ∀ {ρ : Env} {σ : L2.St} {i : Nat} {d : D}, REnv K O H ρ σ → DL.getV ρ i = some d → ∃ x, σ[i]? = some (some x) ∧ Rp K O H x d
  | none :: ρ, _ :: σ, 0, d, _, e => nomatch e
  | some d :: ρ, _ :: σ, 0, _, ⟨⟨x, e, r⟩, _⟩, q => by cases q; exact ⟨x, by rw [e]; rfl, r⟩
  | none :: ρ, _ :: σ, i + 1, d, h, e => REnv.get (ρ := ρ) (σ := σ) (i := i) h e
  | some _ :: ρ, _ :: σ, i + 1, d, ⟨_, h⟩, e => REnv.get (ρ := ρ) (σ := σ) (i := i) h e
theorem REnv.set : ∀ {ρ : Env} {σ : L2.St} (i : Nat) {d : D} {x : V}, REnv K O H ρ σ → Rp K O H x d → REnv K O H (setV ρ i d) (σ.set i (some x))
  | [], [], _, _, _, _, _ => trivial
  | none :: ρ, _ :: σ, 0, _, _, h, r => ⟨⟨_, rfl, r⟩, h⟩
  | some _ :: ρ, _ :: σ, 0, _, _, ⟨_, h⟩, r => ⟨⟨_, rfl, r⟩, h⟩
  | none :: ρ, _ :: σ, i + 1, _, _, h, r => REnv.set (ρ := ρ) (σ := σ) i h r
  | some _ :: ρ, _ :: σ, i + 1, _, _, ⟨q, h⟩, r => ⟨q, REnv.set (ρ := ρ) (σ := σ) i h r⟩
  | [], _ :: _, _, _, _, h, _ => h.elim
  | none :: _, [], _, _, _, h, _ => h.elim
  | some _ :: _, [], _, _, _, h, _ => h.elim
theorem REnv.del : ∀ {ρ : Env} {σ : L2.St} (i : Nat), REnv K O H ρ σ → REnv K O H (delV ρ i) (σ.set i none)
  | [], [], _, _ => trivial
  | none :: ρ, _ :: σ, 0, h => h
  | some _ :: ρ, _ :: σ, 0, ⟨_, h⟩ => h
  | none :: ρ, _ :: σ, i + 1, h => REnv.del (ρ := ρ) (σ := σ) i h
  | some _ :: ρ, _ :: σ, i + 1, ⟨q, h⟩ => ⟨q, REnv.del (ρ := ρ) (σ := σ) i h⟩
  | [], _ :: _, _, h => h.elim
  | none :: _, [], _, h => h.elim
  | some _ :: _, [], _, h => h.elim
theorem REnv.dels {ρ : Env} {σ : L2.St} (h : REnv K O H ρ σ) : ∀ vs : List Nat, REnv K O H (delVs ρ vs) (wipe σ vs)
  | [] => h
  | v :: vs => (h.dels vs).del v
/-- what is known less: a slot forgotten -/
theorem REnv.start : ∀ {vs : List V} {ds : List D} (n : Nat), Rps K O H vs ds → REnv K O H (ds.map some ++ List.replicate n none) (vs.map some ++ List.replicate n none)
  | [], [], 0, _ => trivial
  | [], [], n + 1, h => REnv.start n h
  | _ :: _, _ :: _, n, .cons r t => ⟨⟨_, rfl, r⟩, REnv.start n t⟩

/-! ### allocation, writing, freezing -/
theorem ev_new {p : Addr} {u : HO} (hp : H p = none) (s : Sok K S O H) : Ev S O H S O (upd H p u) :=
  ⟨fun a v h _ => by rw [upd_ne (ne_of_none h hp)]; exact h, fun _ h => .inl h, fun _ h n => ⟨h, n⟩, fun a h => by
    by_cases e : a = p
    · rw [e, upd_same] at h; cases h
    · rwa [upd_ne e] at h⟩
/-- the store stands on where what is owned stays -/
theorem Sok.go (s : Sok K S O H) (m : Mo O H O' H') (k : ∀ a u, H a = some u → O a → H' a = some u) (o : ∀ a, O a → O' a) (n : ∀ a, O' a → O a ∨ ∃ u, H' a = some u ∧ ¬ Imm u) : Sok K S O' H' where
  dom := fun a ds h => by
    obtain ⟨ho, xs, e, z, r⟩ := s.dom a ds h
    exact ⟨o _ ho, xs, k _ _ e ho, z, r.mono m⟩
  ex := fun a h => by
    rcases n a h with q | q
    · obtain ⟨u, e, n⟩ := s.ex a q; exact ⟨u, k _ _ e q, n⟩
    · exact q
  obj := fun a c q fs h => by
    obtain ⟨ho, ⟨u, hu⟩, vs, e, r⟩ := s.obj a c q fs h
    refine ⟨o _ ho, ⟨u, ?_⟩, vs, ?_, r.mono m⟩
    · by_cases hq : O q
      · exact k _ _ hu hq
      · exact m.k _ _ hu hq
    rcases e with ⟨e, z⟩ | ⟨e, z⟩
    · exact .inl ⟨k _ _ e ho, z⟩
    · refine .inr ⟨k _ _ e ho, ?_⟩
      by_cases hq : O q
      · exact k _ _ z hq
      · exact m.k _ _ z hq
  dx := fun a h => by
    obtain ⟨ho, e⟩ := s.dx a h
    refine ⟨o _ ho, ?_⟩
    rcases e with ⟨x, e⟩ | e
    · exact .inl ⟨x, k _ _ e ho⟩
    · exact .inr (k _ _ e ho)
  inj := s.inj
theorem Sok.new {p : Addr} {u : HO} (hp : H p = Option.none) (s : Sok K S O H) : Sok K S O (upd H p u) :=
  s.go ((ev_new hp s).mo s) (fun a v e _ => by rw [upd_ne (ne_of_none e hp)]; exact e) (fun _ h => h) fun _ h => .inl h
/-- a new list, reserved -/
def oadd (O : Ow) (p : Addr) : Ow := fun a => O a ∨ a = p
theorem ev_resU {p : Addr} {u : HO} (hp : H p = none) (s : Sok K S O H) : Ev S O H S (oadd O p) (upd H p u) :=
  ⟨(ev_new hp s).keep, fun a h => h.elim .inl fun e => .inr (e ▸ hp), fun _ h n => ⟨.inl h, n⟩, (ev_new (u := u) hp s).there⟩
theorem ev_res {p : Addr} {xs : List V} (hp : H p = none) (s : Sok K S O H) : Ev S O H S (oadd O p) (upd H p (.lst xs)) := ev_resU hp s
theorem Sok.resvU {p : Addr} {u : HO} (hp : H p = Option.none) (hu : ¬ Imm u) (s : Sok K S O H) : Sok K S (oadd O p) (upd H p u) :=
  s.go ((ev_resU hp s).mo s) (fun a v e _ => by rw [upd_ne (ne_of_none e hp)]; exact e) (fun _ h => .inl h) fun a h => h.elim .inl fun e => .inr ⟨u, by rw [e]; exact upd_same, hu⟩
theorem Sok.resv {p : Addr} {xs : List V} (hp : H p = Option.none) (s : Sok K S O H) : Sok K S (oadd O p) (upd H p (.lst xs)) := s.resvU hp imm_lst
/-- what is owned changes -/
theorem mo_writeU {p : Addr} {u v : HO} (hp : H p = some u) (hu : ¬ Imm u) (ho : O p) : Mo O H O (upd H p v) where
  k := fun a u h n => by rw [upd_ne (fun e => n (by rw [e]; exact ho))]; exact h
  t := fun a w h n => by rw [upd_ne (fun e => by rw [e, hp] at h; cases h; exact hu n)]; exact h
  o := fun _ _ _ q => q
theorem mo_write {p : Addr} {xs ys : List V} (hp : H p = some (.lst xs)) (ho : O p) : Mo O H O (upd H p (.lst ys)) := mo_writeU hp imm_lst ho
/-- one owned object changes; the others of the store stay -/
theorem upd_some {p q : Addr} {v : HO} (h : ∃ u, H q = some u) : ∃ u, upd H p v q = some u := by
  by_cases e : q = p
  · exact ⟨v, by rw [e]; exact upd_same⟩
  · obtain ⟨u, h⟩ := h; exact ⟨u, by rw [upd_ne e]; exact h⟩
theorem slt_upd {p a C q : Addr} {u : HO} {vs : List (Option V)} (h : SlX.Slt H a C q vs) (h1 : a ≠ p) (h2 : q ≠ p) : SlX.Slt (upd H p u) a C q vs := by
  rcases h with ⟨h, z⟩ | ⟨h, z⟩
  · exact .inl ⟨by rw [upd_ne h1]; exact h, z⟩
  · exact .inr ⟨by rw [upd_ne h1]; exact h, by rw [upd_ne h2]; exact z⟩
theorem slt_dx {a C q : Addr} {vs : List (Option V)} {xs : List V} (h : SlX.Slt H a C q vs) (hp : H q = some (.lst xs)) : vs = [] := by
  rcases h with ⟨_, z⟩ | ⟨_, z⟩
  · exact z
  · rw [hp] at z; cases z
theorem slt_updL {p a C q : Addr} {xs ys : List V} {vs : List (Option V)} (hp : H p = some (.lst xs)) (h : SlX.Slt H a C q vs) : SlX.Slt (upd H p (.lst ys)) a C q vs := by
  have h1 : a ≠ p := fun e => by
    rcases h with ⟨h, _⟩ | ⟨h, _⟩
    · rw [e, hp] at h; cases h
    · rw [e, hp] at h; unfold SlX.SlO at h; cases h
  rcases h with ⟨h, z⟩ | ⟨h, z⟩
  · exact .inl ⟨by rw [upd_ne h1]; exact h, z⟩
  · exact .inr ⟨by rw [upd_ne h1]; exact h, by rw [upd_ne (fun e => by rw [e, hp] at z; cases z)]; exact z⟩
theorem dx_updL {p a : Addr} {xs ys : List V} (hp : H p = some (.lst xs)) (h : (∃ x, H a = some (.own x)) ∨ H a = some (.xd [])) : (∃ x, upd H p (.lst ys) a = some (.own x)) ∨ upd H p (.lst ys) a = some (.xd []) := by
  have ne : a ≠ p := fun e => by
    rw [e, hp] at h
    rcases h with ⟨_, h⟩ | h <;> cases h
  rw [upd_ne ne]; exact h
/-- a reserved list changes -/
theorem Sok.wres {p : Addr} {xs ys : List V} (hp : H p = some (.lst xs)) (ho : O p) (hs : S p = Option.none) (s : Sok K S O H) : Sok K S O (upd H p (.lst ys)) where
  dom := fun a ds h => by
    obtain ⟨o, zs, e, z, r⟩ := s.dom a ds h
    have ne : a ≠ p := fun q => by rw [q, hs] at h; cases h
    exact ⟨o, zs, by rw [upd_ne ne]; exact e, z, r.mono (mo_write hp ho)⟩
  ex := fun a h => by
    by_cases e : a = p
    · exact ⟨.lst ys, by rw [e]; exact upd_same, imm_lst⟩
    · obtain ⟨zs, q, n⟩ := s.ex a h; exact ⟨zs, by rw [upd_ne e]; exact q, n⟩
  obj := fun a c q fs h => by
    obtain ⟨o, hu, vs, e, r⟩ := s.obj a c q fs h
    exact ⟨o, upd_some hu, vs, slt_updL hp e, r.mono (mo_write hp ho)⟩
  dx := fun a h => ⟨(s.dx a h).1, dx_updL hp (s.dx a h).2⟩
  inj := s.inj
/-- an owned list changes -/
theorem Sok.write {p : Addr} {xs ys : List V} {ds es : List D} (hs : S p = some (.lst ds)) (hp : H p = some (.lst xs)) (hz : ys.length ≤ sizeLine) (r : Rps K O H ys es) (s : Sok K S O H) : Sok K (sup S p (.lst es)) O (upd H p (.lst ys)) where
  dom := fun a fs h => by
    have ho := (s.dom _ _ hs).1
    by_cases e : a = p
    · subst e
      rw [sup_same] at h; cases h
      exact ⟨ho, ys, upd_same, hz, r.mono (mo_write hp ho)⟩
    · rw [sup_ne e] at h
      obtain ⟨o, zs, q, z, r⟩ := s.dom a fs h
      exact ⟨o, zs, by rw [upd_ne e]; exact q, z, r.mono (mo_write hp ho)⟩
  ex := fun a h => by
    by_cases e : a = p
    · exact ⟨.lst ys, by rw [e]; exact upd_same, imm_lst⟩
    · obtain ⟨zs, q, n⟩ := s.ex a h; exact ⟨zs, by rw [upd_ne e]; exact q, n⟩
  obj := fun a c q fs h => by
    have ne : a ≠ p := fun e => by rw [e, sup_same] at h; cases h
    rw [sup_ne ne] at h
    obtain ⟨o, hu, vs, e, r⟩ := s.obj a c q fs h
    exact ⟨o, upd_some hu, vs, slt_updL hp e, r.mono (mo_write hp (s.dom _ _ hs).1)⟩
  dx := fun a h => by
    have ne : a ≠ p := fun e => by rw [e, sup_same] at h; cases h
    rw [sup_ne ne] at h
    exact ⟨(s.dx a h).1, dx_updL hp (s.dx a h).2⟩
  inj := fun a a' c c' q fs fs' h h' => by
    have ne : a ≠ p := fun e => by rw [e, sup_same] at h; cases h
    have ne' : a' ≠ p := fun e => by rw [e, sup_same] at h'; cases h'
    rw [sup_ne ne] at h
    rw [sup_ne ne'] at h'
    exact s.inj _ _ _ _ _ _ _ h h'
theorem ev_writeU {p : Addr} {u : HO} {o o' : DO} (hs : S p = some o) : Ev S O H (sup S p o') O (upd H p u) :=
  ⟨fun a u h n => by rw [upd_ne (fun e => by rw [e, hs] at n; cases n)]; exact h, fun _ h => .inl h, fun a h n => ⟨h, by rw [sup_ne (fun e => by rw [e, hs] at n; cases n)]; exact n⟩, fun a h => by
    by_cases e : a = p
    · rw [e, upd_same] at h; cases h
    · rwa [upd_ne e] at h⟩
theorem ev_write {p : Addr} {ys : List V} {ds es : List D} (hs : S p = some (.lst ds)) (s : Sok K S O H) : Ev S O H (sup S p (.lst es)) O (upd H p (.lst ys)) := ev_writeU hs
/-- a reserved list becomes an owned one -/
theorem Sok.take {p : Addr} {xs : List V} {ds : List D} (ho : O p) (hp : H p = some (.lst xs)) (hz : xs.length ≤ sizeLine) (r : Rps K O H xs ds) (s : Sok K S O H) : Sok K (sup S p (.lst ds)) O H where
  dom := fun a fs h => by
    by_cases e : a = p
    · subst e; rw [sup_same] at h; cases h; exact ⟨ho, xs, hp, hz, r⟩
    · rw [sup_ne e] at h; exact s.dom a fs h
  ex := s.ex
  obj := fun a c q fs h => by
    have ne : a ≠ p := fun e => by rw [e, sup_same] at h; cases h
    rw [sup_ne ne] at h
    exact s.obj a c q fs h
  dx := fun a h => by
    have ne : a ≠ p := fun e => by rw [e, sup_same] at h; cases h
    rw [sup_ne ne] at h
    exact s.dx a h
  inj := fun a a' c c' q fs fs' h h' => by
    have ne : a ≠ p := fun e => by rw [e, sup_same] at h; cases h
    have ne' : a' ≠ p := fun e => by rw [e, sup_same] at h'; cases h'
    rw [sup_ne ne] at h
    rw [sup_ne ne'] at h'
    exact s.inj _ _ _ _ _ _ _ h h'
/-- what is reserved is let go: nobody changes it any more -/
def orem (O : Ow) (p : Addr) : Ow := fun a => O a ∧ a ≠ p
theorem mo_free {p : Addr} : Mo O H (orem O p) H := ⟨fun _ _ h _ => h, fun _ _ h _ => h, fun _ _ _ q => q.1⟩
theorem Sok.free {p : Addr} (hs : S p = Option.none) (s : Sok K S O H) : Sok K S (orem O p) H where
  dom := fun a ds h => by
    obtain ⟨o, xs, e, z, r⟩ := s.dom a ds h
    exact ⟨⟨o, fun q => by rw [q, hs] at h; cases h⟩, xs, e, z, r.mono mo_free⟩
  ex := fun a h => s.ex a h.1
  obj := fun a c q fs h => by
    obtain ⟨o, hu, vs, e, r⟩ := s.obj a c q fs h
    exact ⟨⟨o, fun q => by rw [q, hs] at h; cases h⟩, hu, vs, e, r.mono mo_free⟩
  dx := fun a h => ⟨⟨(s.dx a h).1, fun q => by rw [q, hs] at h; cases h⟩, (s.dx a h).2⟩
  inj := s.inj
/-- less is known -/
theorem Sok.less {T : Sto} (sb : ∀ a o, T a = some o → S a = some o) (s : Sok K S O H) : Sok K T O H :=
  ⟨fun a ds h => s.dom a ds (sb a _ h), s.ex, fun a c q fs h => s.obj a c q fs (sb a _ h), fun a h => s.dx a (sb a _ h), fun a a' c c' q fs fs' h h' => s.inj a a' c c' q fs fs' (sb a _ h) (sb a' _ h')⟩
theorem sdel_sub {p : Addr} (a : Addr) (o : DO) (h : sdel S p a = some o) : S a = some o := by
  by_cases e : a = p
  · rw [e, sdel_same] at h; cases h
  · rwa [sdel_ne e] at h
theorem Sok.sdel {p : Addr} (s : Sok K S O H) : Sok K (sdel S p) O H := s.less sdel_sub
end
end DL

/-! DL3: the judgements over data; expressions' readings. -/
namespace DL
open PySem PySem.Spec PyProof.Rows L2

/-- what links numbers to a text: promises, constants; how an exception (number, payload) lies -/
structure Lnk where
  Γ : Gam
  xr : Ow → Hp → Nat → D → Value → Option Addr → Prop
/-- a state at which code runs -/
structure At (L : Lnk) (K : PySem.W.Frag) (W : WX) (σ : L2.St) (H : Hp) (ρ : Env) (S : Sto) (O : Ow) (R : XD) : Prop where
  sok : Sok K S O H
  env : REnv K O H ρ σ
  x : ∀ k d S' O' H' c dd, Sok K S' O' H' → Ev S O H S' O' H' → L.xr O' H' k d c dd → R k d S' → W c dd σ H'
section
variable {L : Lnk} {K : PySem.W.Frag} {W : WX} {σ : L2.St} {H H1 : Hp} {ρ : Env} {S S1 : Sto} {O O1 : Ow} {R : XD}
theorem At.next (A : At L K W σ H ρ S O R) (s : Sok K S1 O1 H1) (e : Ev S O H S1 O1 H1) : At L K W σ H1 ρ S1 O1 R :=
  ⟨s, A.env.mono (e.mo A.sok), fun k d S' O' H' c dd s' e' x r => A.x k d S' O' H' c dd s' (e.trans s e') x r⟩
theorem At.mo (A : At L K W σ H ρ S O R) (e : Ev S O H S1 O1 H1) : Mo O H O1 H1 := e.mo A.sok
end
abbrev WE' := Env → Sto → XD → QD → Prop
/-- a reading carries a weakest precondition -/
def RE (L : Lnk) (K : PySem.W.Frag) (W : WX) (t : TE) (w : WE') : Prop :=
  ∀ (σ : L2.St) (H : Hp) (ρ : Env) (S : Sto) (O : Ow) (R : XD) (Q : QD) (Q' : VK), At L K W σ H ρ S O R → w ρ S R Q →
    (∀ v H' d S' O', Rp K O' H' v d → Sok K S' O' H' → Ev S O H S' O' H' → Q d S' → Q' v H') → t σ H Q'
def RT (L : Lnk) (K : PySem.W.Frag) (W : WX) (t : TT) (w : WE') : Prop :=
  ∀ (σ : L2.St) (H : Hp) (ρ : Env) (S : Sto) (O : Ow) (R : XD) (Q : Bool → Sto → Prop) (Q' : Bool → Hp → Prop), At L K W σ H ρ S O R → w ρ S R (fun d S' => tstD d fun b => Q b S') →
    (∀ b H' S' O', Sok K S' O' H' → Ev S O H S' O' H' → Q b S' → Q' b H') → t σ H Q'
def RA (L : Lnk) (K : PySem.W.Frag) (W : WX) (t : TA) (w : Env → Sto → XD → (List D → Sto → Prop) → Prop) : Prop :=
  ∀ (σ : L2.St) (H : Hp) (ρ : Env) (S : Sto) (O : Ow) (R : XD) (Q : List D → Sto → Prop) (Q' : List V → Hp → Prop), At L K W σ H ρ S O R → w ρ S R Q →
    (∀ vs H' ds S' O', Rps K O' H' vs ds → Sok K S' O' H' → Ev S O H S' O' H' → Q ds S' → Q' vs H') → t σ H Q'
/-- a new list: it is reserved, its items stand -/
def RL (L : Lnk) (K : PySem.W.Frag) (W : WX) (t : TE) (w : Env → Sto → XD → (List D → Sto → Prop) → Prop) : Prop :=
  ∀ (σ : L2.St) (H : Hp) (ρ : Env) (S : Sto) (O : Ow) (R : XD) (Q : List D → Sto → Prop) (Q' : VK), At L K W σ H ρ S O R → w ρ S R Q →
    (∀ p xs H' ds S' O', H p = none → O' p → S' p = none → H' p = some (.lst xs) → xs.length ≤ sizeLine → Rps K O' H' xs ds → Sok K S' O' H' → Ev S O H S' O' H' → Q ds S' → Q' (.ref p) H') → t σ H Q'
def RO (L : Lnk) (K : PySem.W.Frag) (W : WX) (t : TO) (w : Env → Sto → XD → (Option Int → Sto → Prop) → Prop) : Prop :=
  ∀ (σ : L2.St) (H : Hp) (ρ : Env) (S : Sto) (O : Ow) (R : XD) (Q : Option Int → Sto → Prop) (Q' : Option Int → Hp → Prop), At L K W σ H ρ S O R → w ρ S R Q →
    (∀ o H' S' O', Sok K S' O' H' → Ev S O H S' O' H' → Q o S' → Q' o H') → t σ H Q'
section
variable {L : Lnk} {K : PySem.W.Frag} {W : WX} {t ta tb tc : TE} {w wa wb wc : WE'}
theorem RE.go (h : RE L K W t w) {σ : L2.St} {H : Hp} {ρ : Env} {S : Sto} {O : Ow} {R : XD} {Q : QD} {Q' : VK} (A : At L K W σ H ρ S O R) (hw : w ρ S R Q)
    (k : ∀ v H1 d S1 O1, Rp K O1 H1 v d → At L K W σ H1 ρ S1 O1 R → Ev S O H S1 O1 H1 → Q d S1 → Q' v H1) : t σ H Q' :=
  h σ H ρ S O R Q Q' A hw fun v H' d S' O' r s e q => k v H' d S' O' r (A.next s e) e q
theorem RT.go {t : TT} (h : RT L K W t w) {σ : L2.St} {H : Hp} {ρ : Env} {S : Sto} {O : Ow} {R : XD} {Q : Bool → Sto → Prop} {Q' : Bool → Hp → Prop} (A : At L K W σ H ρ S O R) (hw : w ρ S R (fun d S' => tstD d fun b => Q b S'))
    (k : ∀ b H1 S1 O1, At L K W σ H1 ρ S1 O1 R → Ev S O H S1 O1 H1 → Q b S1 → Q' b H1) : t σ H Q' :=
  h σ H ρ S O R Q Q' A hw fun v H' S' O' s e q => k v H' S' O' (A.next s e) e q
theorem RA.go {t : TA} {w : Env → Sto → XD → (List D → Sto → Prop) → Prop} (h : RA L K W t w) {σ : L2.St} {H : Hp} {ρ : Env} {S : Sto} {O : Ow} {R : XD} {Q : List D → Sto → Prop} {Q' : List V → Hp → Prop} (A : At L K W σ H ρ S O R) (hw : w ρ S R Q)
    (k : ∀ vs H1 ds S1 O1, Rps K O1 H1 vs ds → At L K W σ H1 ρ S1 O1 R → Ev S O H S1 O1 H1 → Q ds S1 → Q' vs H1) : t σ H Q' :=
  h σ H ρ S O R Q Q' A hw fun v H' d S' O' r s e q => k v H' d S' O' r (A.next s e) e q
theorem RO.go {t : TO} {w : Env → Sto → XD → (Option Int → Sto → Prop) → Prop} (h : RO L K W t w) {σ : L2.St} {H : Hp} {ρ : Env} {S : Sto} {O : Ow} {R : XD} {Q : Option Int → Sto → Prop} {Q' : Option Int → Hp → Prop} (A : At L K W σ H ρ S O R) (hw : w ρ S R Q)
    (k : ∀ o H1 S1 O1, At L K W σ H1 ρ S1 O1 R → Ev S O H S1 O1 H1 → Q o S1 → Q' o H1) : t σ H Q' :=
  h σ H ρ S O R Q Q' A hw fun v H' S' O' s e q => k v H' S' O' (A.next s e) e q
/-- a value that is a bool -/
theorem tst_bl {v : V} {d : D} {O : Ow} {H : Hp} {k : Bool → Prop} (r : Rp K O H v d) (h : tstD d k) : ∃ b, v = .bl b ∧ d = .bl b ∧ k b := by
  cases d with
  | bl b => cases r; exact ⟨b, rfl, rfl, h⟩
  | _ => exact h.elim
/-- from a value's reading to a test's -/
theorem RE.tB (h : RE L K W t w) : RT L K W (tB t) w := fun σ H ρ S O R Q Q' A hw k =>
  h σ H ρ S O R _ _ A hw fun v H' d S' O' r s e q => by
    obtain ⟨b, rfl, rfl, q⟩ := tst_bl r q
    exact ⟨b, rfl, k b H' S' O' s e q⟩

/-! ### the value forms -/
theorem re_var {i : Nat} : RE L K W (tVar i) fun ρ S _ Q => match getV ρ i with
    | some d => Q d S
    | none => False := fun σ H ρ S O R Q Q' A hw k => by
  cases e : getV ρ i with
  | none => simp only [e] at hw
  | some d =>
    simp only [e] at hw
    obtain ⟨x, ex, r⟩ := A.env.get e
    exact ⟨x, ex, k x H d S O r A.sok .refl hw⟩
theorem re_c {v : V} {d : D} (h : ∀ O H, Rp K O H v d) : RE L K W (tC v) fun _ S _ Q => Q d S := fun σ H ρ S O R Q Q' A hw k => k v H d S O (h O H) A.sok .refl hw
theorem re_op {r : R2} {f : Sto → D → D → (D → Prop) → Prop} (ha : RE L K W ta wa) (hb : RE L K W tb wb)
    (hr : ∀ x y dx dy H S O (P : D → Prop) (Q' : VK), Sok K S O H → Rp K O H x dx → Rp K O H y dy → f S dx dy P → (∀ v H' d, Rp K O H' v d → Sok K S O H' → Ev S O H S O H' → P d → Q' v H') → r x y H Q') :
    RE L K W (tOp r ta tb) fun ρ S R Q => wa ρ S R fun x S1 => wb ρ S1 R fun y S2 => f S2 x y fun z => Q z S2 := fun σ H ρ S O R Q Q' A hw k => by
  refine ha.go A hw fun x H1 dx S1 O1 r1 A1 e1 q1 => ?_
  refine hb.go A1 q1 fun y H2 dy S2 O2 r2 A2 e2 q2 => ?_
  refine hr x y dx dy H2 S2 O2 _ Q' A2.sok (r1.mono (A1.mo e2)) r2 q2 fun v H' d rv s e q => ?_
  exact k v H' d S2 O2 rv s ((e1.trans A1.sok e2).trans A2.sok e) q
theorem re_not (ha : RE L K W ta wa) : RE L K W (tNotV ta) fun ρ S R Q => wa ρ S R fun x S1 => tstD x fun b => Q (.bl (!b)) S1 := fun σ H ρ S O R Q Q' A hw k => by
  refine ha.go A hw fun x H1 dx S1 O1 r1 A1 e1 q1 => ?_
  obtain ⟨b, rfl, rfl, q⟩ := tst_bl r1 q1
  exact ⟨b, rfl, k _ H1 _ S1 O1 (.bl _) A1.sok e1 q⟩
theorem rt_not {t : TT} (ha : RT L K W t wa) : RT L K W (tNot t) fun ρ S R Q => wa ρ S R fun x S1 => tstD x fun b => Q (.bl (!b)) S1 := fun σ H ρ S O R Q Q' A hw k =>
  ha.go (Q := fun b S1 => Q (!b) S1) A hw fun b H1 S1 O1 A1 e1 q1 => k _ H1 S1 O1 A1.sok e1 q1
theorem re_and (ha : RE L K W ta wa) (hb : RE L K W tb wb) : RE L K W (tAndV ta tb) fun ρ S R Q => wa ρ S R fun x S1 => tstD x fun c => if c = true then wb ρ S1 R Q else Q (.bl false) S1 := fun σ H ρ S O R Q Q' A hw k => by
  refine ha.go A hw fun x H1 dx S1 O1 r1 A1 e1 q1 => ?_
  obtain ⟨b, rfl, rfl, q⟩ := tst_bl r1 q1
  refine ⟨b, rfl, ?_⟩
  cases b with
  | true => exact hb.go A1 q fun v H2 d S2 O2 r2 A2 e2 q2 => k v H2 d S2 O2 r2 A2.sok (e1.trans A1.sok e2) q2
  | false => exact k _ H1 _ S1 O1 (.bl _) A1.sok e1 q
theorem re_or (ha : RE L K W ta wa) (hb : RE L K W tb wb) : RE L K W (tOrV ta tb) fun ρ S R Q => wa ρ S R fun x S1 => tstD x fun c => if c = true then Q (.bl true) S1 else wb ρ S1 R Q := fun σ H ρ S O R Q Q' A hw k => by
  refine ha.go A hw fun x H1 dx S1 O1 r1 A1 e1 q1 => ?_
  obtain ⟨b, rfl, rfl, q⟩ := tst_bl r1 q1
  refine ⟨b, rfl, ?_⟩
  cases b with
  | false => exact hb.go A1 q fun v H2 d S2 O2 r2 A2 e2 q2 => k v H2 d S2 O2 r2 A2.sok (e1.trans A1.sok e2) q2
  | true => exact k _ H1 _ S1 O1 (.bl _) A1.sok e1 q
theorem rt_and {t u : TT} (ha : RT L K W t wa) (hb : RT L K W u wb) : RT L K W (tAnd t u) fun ρ S R Q => wa ρ S R fun x S1 => tstD x fun c => if c = true then wb ρ S1 R Q else Q (.bl false) S1 := fun σ H ρ S O R Q Q' A hw k => by
  refine ha.go (Q := fun c S1 => if c = true then wb ρ S1 R (fun d S' => tstD d fun b => Q b S') else Q false S1) A hw fun b H1 S1 O1 A1 e1 q => ?_
  cases b with
  | true => exact hb.go A1 q fun b H2 S2 O2 A2 e2 q2 => k b H2 S2 O2 A2.sok (e1.trans A1.sok e2) q2
  | false => exact k _ H1 S1 O1 A1.sok e1 q
theorem rt_or {t u : TT} (ha : RT L K W t wa) (hb : RT L K W u wb) : RT L K W (tOr t u) fun ρ S R Q => wa ρ S R fun x S1 => tstD x fun c => if c = true then Q (.bl true) S1 else wb ρ S1 R Q := fun σ H ρ S O R Q Q' A hw k => by
  refine ha.go (Q := fun c S1 => if c = true then Q true S1 else wb ρ S1 R (fun d S' => tstD d fun b => Q b S')) A hw fun b H1 S1 O1 A1 e1 q => ?_
  cases b with
  | false => exact hb.go A1 q fun b H2 S2 O2 A2 e2 q2 => k b H2 S2 O2 A2.sok (e1.trans A1.sok e2) q2
  | true => exact k _ H1 S1 O1 A1.sok e1 q
theorem re_ite {t : TT} (hc : RT L K W t wc) (ha : RE L K W ta wa) (hb : RE L K W tb wb) : RE L K W (tIf t ta tb) fun ρ S R Q => wc ρ S R fun x S1 => tstD x fun z => if z = true then wa ρ S1 R Q else wb ρ S1 R Q := fun σ H ρ S O R Q Q' A hw k => by
  refine hc.go (Q := fun z S1 => if z = true then wa ρ S1 R Q else wb ρ S1 R Q) A hw fun b H1 S1 O1 A1 e1 q => ?_
  cases b with
  | true => exact ha.go A1 q fun v H2 d S2 O2 r2 A2 e2 q2 => k v H2 d S2 O2 r2 A2.sok (e1.trans A1.sok e2) q2
  | false => exact hb.go A1 q fun v H2 d S2 O2 r2 A2 e2 q2 => k v H2 d S2 O2 r2 A2.sok (e1.trans A1.sok e2) q2
theorem re_neg (ha : RE L K W ta wa) : RE L K W (tUn (rU fun i => .int (-i)) ta) fun ρ S R Q => wa ρ S R fun x S1 => match x with
    | .int i => Q (.int (-i)) S1
    | _ => False := fun σ H ρ S O R Q Q' A hw k => by
  refine ha.go A hw fun x H1 dx S1 O1 r1 A1 e1 q1 => ?_
  cases dx with
  | int i => cases r1; exact ⟨i, rfl, k _ H1 _ S1 O1 (.int _) A1.sok e1 q1⟩
  | _ => exact q1.elim

/-! ### argument lists -/
theorem ra_nil : RA L K W tNil fun _ S _ Q => Q [] S := fun σ H ρ S O R Q Q' A hw k => k [] H [] S O .nil A.sok .refl hw
theorem ra_cons {t : TE} {u : TA} {wr : Env → Sto → XD → (List D → Sto → Prop) → Prop} (h : RE L K W t w) (hr : RA L K W u wr) : RA L K W (tCons t u) fun ρ S R Q => w ρ S R fun x S1 => wr ρ S1 R fun xs S2 => Q (x :: xs) S2 := fun σ H ρ S O R Q Q' A hw k => by
  refine h.go A hw fun x H1 dx S1 O1 r1 A1 e1 q1 => ?_
  refine hr.go A1 q1 fun xs H2 ds S2 O2 r2 A2 e2 q2 => ?_
  exact k _ H2 _ S2 O2 (.cons (r1.mono (A1.mo e2)) r2) A2.sok (e1.trans A1.sok e2) q2
/-- an owned list, or a value, read as a sequence -/
theorem seq_of {v : V} {d : D} {S : Sto} {O : Ow} {H : Hp} (r : Rp K O H v d) (s : Sok K S O H) : 
    (∀ ds, res S d = .lst ds → ∃ a xs, v = .ref a ∧ H a = some (.lst xs) ∧ xs.length ≤ sizeLine ∧ Rps K O H xs ds) ∧ (∀ ds, res S d = .tup ds → ∃ a xs, v = .ref a ∧ SqT K H a xs ∧ xs.length ≤ sizeLine ∧ Rps K O H xs ds) ∧
    (∀ ns, res S d = .scr ns → ∃ a, v = .ref a ∧ SqL K H a (ns.map V.int)) := by
  cases r with
  | ref =>
    rename_i a
    cases q : S a with
    | none => simp only [res, q]; exact ⟨(fun _ e => nomatch e), (fun _ e => nomatch e), (fun _ e => nomatch e)⟩
    | some o =>
      cases o with
      | lst es =>
        simp only [res, q]
        obtain ⟨_, xs, h1, h2, h3⟩ := s.dom _ _ q
        exact ⟨(fun ds e => by cases e; exact ⟨a, xs, rfl, h1, h2, h3⟩), (fun _ e => nomatch e), (fun _ e => nomatch e)⟩
      | _ => simp only [res, q]; exact ⟨(fun _ e => nomatch e), (fun _ e => nomatch e), (fun _ e => nomatch e)⟩
  | tup h1 h2 h3 => exact ⟨(fun _ e => nomatch e), (fun ds e => by cases e; exact ⟨_, _, rfl, h1, h2, h3⟩), (fun _ e => nomatch e)⟩
  | lst h1 _ h2 h3 => exact ⟨(fun ds e => by cases e; exact ⟨_, _, rfl, h1, h2, h3⟩), (fun _ e => nomatch e), (fun _ e => nomatch e)⟩
  | scr _ h => exact ⟨(fun _ e => nomatch e), (fun _ e => nomatch e), (fun ns e => by cases e; exact ⟨_, rfl, .inl (.inr ⟨_, h⟩)⟩)⟩
  | scrK _ h => exact ⟨(fun _ e => nomatch e), (fun _ e => nomatch e), (fun ns e => by cases e; exact ⟨_, rfl, h _⟩)⟩
  | _ => exact ⟨(fun _ e => nomatch e), (fun _ e => nomatch e), (fun _ e => nomatch e)⟩
theorem ra_star {t : TE} {u : TA} {wr : Env → Sto → XD → (List D → Sto → Prop) → Prop} (h : RE L K W t w) (hr : RA L K W u wr) : RA L K W (StX.tStar K t u) fun ρ S R Q => w ρ S R fun x S1 => match res S1 x with
    | .tup ys => wr ρ S1 R fun xs S2 => Q (ys ++ xs) S2
    | .lst ys => wr ρ S1 R fun xs S2 => Q (ys ++ xs) S2
    | _ => False := fun σ H ρ S O R Q Q' A hw k => by
  refine h.go A hw fun x H1 dx S1 O1 r1 A1 e1 q1 => ?_
  obtain ⟨hl, ht, _⟩ := seq_of r1 A1.sok
  cases e : res S1 dx with
  | tup ys =>
    simp only [e] at q1
    obtain ⟨a, xs, rfl, h1, h2, h3⟩ := ht _ e
    refine ⟨a, xs, rfl, .inl h1, ?_⟩
    refine hr.go A1 q1 fun vs H2 ds S2 O2 r2 A2 e2 q2 => ?_
    exact k _ H2 _ S2 O2 ((h3.mono (A1.mo e2)).append r2) A2.sok (e1.trans A1.sok e2) q2
  | lst ys =>
    simp only [e] at q1
    obtain ⟨a, xs, rfl, h1, h2, h3⟩ := hl _ e
    refine ⟨a, xs, rfl, .inr (SqL.of h1), ?_⟩
    refine hr.go A1 q1 fun vs H2 ds S2 O2 r2 A2 e2 q2 => ?_
    exact k _ H2 _ S2 O2 ((h3.mono (A1.mo e2)).append r2) A2.sok (e1.trans A1.sok e2) q2
  | _ => simp only [e] at q1
/-- new tuples -/
theorem rp_new {S : Sto} {O : Ow} {H : Hp} {p : Addr} {xs : List V} {ds : List D} (s : Sok K S O H) (hp : H p = none) (z : xs.length ≤ sizeLine) (r : Rps K O H xs ds) : Rp K O (upd H p (.tup xs)) (.ref p) (.tup ds) :=
  .tup (SqT.of upd_same) z (r.mono ((ev_new hp s).mo s))
theorem re_tup {t : TA} {ws : Env → Sto → XD → (List D → Sto → Prop) → Prop} (h : RA L K W t ws) : RE L K W (tTup t) fun ρ S R Q => ws ρ S R fun ds S1 => ds.length ≤ sizeLine ∧ Q (.tup ds) S1 := fun σ H ρ S O R Q Q' A hw k => by
  refine h.go A hw fun xs H1 ds S1 O1 r1 A1 e1 ⟨z, q1⟩ => ?_
  have z' : xs.length ≤ sizeLine := by rw [r1.len]; exact z
  refine ⟨z', fun p hp => k _ _ _ S1 O1 (rp_new A1.sok hp z' r1) (A1.sok.new hp) (e1.trans A1.sok (ev_new hp A1.sok)) q1⟩
end
end DL

set_option maxHeartbeats 4000000
/-! DL17: tuple * int, any int. -/
namespace L2
open PySem PySem.Spec PyProof.Rows
theorem tuple_mul_same (l : Addr) (items : Array Value) (n : Nat) (dd : Option Addr) (sl : Array (Option Value)) (x : Int) (u : Tok) (c0 : (decide (x < -(2 ^ 63)) || decide (x ≥ 2 ^ 63)) = false) (c1 : (items.isEmpty || x == 1) = true) :
    Meets (Builtin.«tuple.__mul__» ⟨[.ref l, .int x u], []⟩) (fun _ R s => s.heap.get? l = some { cls := .type "tuple", dict := dd, data := .seq items n, slots := sl } ∧ R (.ok (.ret (Value.ref l))) s) :=
  .of_wp fun prog w A R s h => by
    obtain ⟨hp, g, d, tk, os⟩ := s
    obtain ⟨hl, h⟩ := h
    have f1 := AutoSeq1.idx_int
    have ht : ({ heap := hp, gens := g, drawn := d, toks := tk, os := os } : Shared).TypeIs (.ref l) "tuple" := ⟨_, hl, rfl⟩
    wp_walk using wpAny_loadPart' hl
    repeat (first
      | (refine wpAny_ite_false (decide_eq_false (by rw [c0]; exact Bool.false_ne_true)) ?_; wp_walk using wpAny_loadPart' hl)
      | (refine wpAny_ite_true (decide_eq_true (by rw [c1])) ?_; wp_walk using wpAny_loadPart' hl))
    all_goals first
      | exact ⟨_, rfl, h⟩
      | skip
theorem tuple_mul_none (l : Addr) (items : Array Value) (n : Nat) (dd : Option Addr) (sl : Array (Option Value)) (x : Int) (u : Tok) (c0 : (decide (x < -(2 ^ 63)) || decide (x ≥ 2 ^ 63)) = false) (c1 : (items.isEmpty || x == 1) = false) (c2 : (decide (x ≤ 0) || items.isEmpty) = true) :
    Meets (Builtin.«tuple.__mul__» ⟨[.ref l, .int x u], []⟩) (fun _ R s => s.heap.get? l = some { cls := .type "tuple", dict := dd, data := .seq items n, slots := sl } ∧
      R (.ok (.ret (Value.ref s.heap.objs.size))) { s with heap := s.heap.push { cls := Value.type "tuple", data := Data.seq #[] }, toks := s.toks }) :=
  .of_wp fun prog w A R s h => by
    obtain ⟨hp, g, d, tk, os⟩ := s
    obtain ⟨hl, h⟩ := h
    have f1 := AutoSeq1.idx_int
    wp_walk using wpAny_loadPart' hl
    repeat (first
      | (refine wpAny_ite_false (decide_eq_false (by rw [c0]; exact Bool.false_ne_true)) ?_; wp_walk using wpAny_loadPart' hl)
      | (refine wpAny_ite_false (decide_eq_false (by rw [c1]; exact Bool.false_ne_true)) ?_; wp_walk using wpAny_loadPart' hl)
      | (refine wpAny_ite_true (decide_eq_true (by rw [c2])) ?_; wp_walk using wpAny_loadPart' hl))
    exact ⟨_, rfl, h⟩
/-- tuple * int, any -/
def rRepG (K : PySem.W.Frag) : R2 := fun x y H Q => ∃ l k xs, x = .ref l ∧ y = .int k ∧ SqT K H l xs ∧ -(2 ^ 63) ≤ k ∧ k < 2 ^ 63 ∧ xs.length * k.toNat ≤ sizeLine ∧
  ((xs = [] ∨ k = 1) → Q (.ref l) H) ∧ (¬ (xs = [] ∨ k = 1) → ∀ p, H p = none → Q (.ref p) (upd H p (.tup (List.replicate k.toNat xs).flatten)))
section
variable {X : Cx}
theorem op_repG : OpR X (binaryOp .Mult) (rRepG X.K) := by
  intro pins s σ H x y v u Q I rx ry h
  obtain ⟨l, k, xs, rfl, rfl, hT, h1, h2, hz, q1, q2⟩ := h
  cases rx
  obtain ⟨t, rfl⟩ := ry
  obtain ⟨its, r, ⟨⟨cls, dd, data, sl⟩, ho, hc, n, hd⟩, hs⟩ := I.tuple hT
  simp only at hc hd
  subst hc hd
  have hle : its.length = xs.length := r.length.symm
  have c0 : (decide (k < -(2 ^ 63)) || decide (k ≥ 2 ^ 63)) = false := by
    rw [decide_eq_false (by omega), decide_eq_false (by omega)] <;> rfl
  have hemp : its.toArray.isEmpty = decide (xs = []) := by
    cases xs with
    | nil => have : its = [] := List.eq_nil_of_length_eq_zero hle
             subst this; rfl
    | cons a b =>
      cases its with
      | nil => cases hle
      | cons c d => rfl
  have road : ∀ {Q' : Value → Shared → Prop}, wpAny (model X.prog X.w) X.A (call (.builtin "tuple.__mul__") [.ref l, .int k t]) Q' X.xe s → wpAny (model X.prog X.w) X.A (binaryOp .Mult (.ref l) (.int k t)) Q' X.xe s := fun {Q'} hq =>
    wpAny_binaryOp_repeat_ref (T := "tuple") (U := "int") (by decide) ⟨_, ho, rfl⟩ (fun s' => typeIs_int s' k t) noFill_tuple_mul F.fills_int_mul F.slot_int_rmul repeat_tuple F.slot_int_index.lookup
      (call_meets F.slot_int_rmul (typeIs_int s k t) F.entry_int_rmul (F.args_int_rmul_2 _ _) (int_rmul_tuple k t l its.toArray n dd sl) ⟨ho, rfl, ⟨_, ho, rfl⟩, hq⟩)
  by_cases c1 : xs = [] ∨ k = 1
  · refine road (call_meets F.slot_tuple_mul ⟨_, ho, rfl⟩ F.entry_tuple_mul (F.args_tuple_mul_2 _ _) (tuple_mul_same l its.toArray n dd sl k t c0 ?_) ⟨ho, ?_⟩)
    · rw [hemp]
      rcases c1 with c1 | c1
      · rw [decide_eq_true c1, Bool.true_or]
      · rw [c1]; simp
    · exact ⟨.ref l, H, I, rfl, q1 c1⟩
  · have hx : xs ≠ [] := fun e => c1 (.inl e)
    have hk : k ≠ 1 := fun e => c1 (.inr e)
    have e1 : (its.toArray.isEmpty || k == 1) = false := by
      rw [hemp, decide_eq_false hx, Bool.false_or]
      exact beq_eq_false_iff_ne.mpr hk
    have fin := q2 c1
    by_cases c2 : k ≤ 0
    · refine road (call_meets F.slot_tuple_mul ⟨_, ho, rfl⟩ F.entry_tuple_mul (F.args_tuple_mul_2 _ _) (tuple_mul_none l its.toArray n dd sl k t c0 e1 (by rw [decide_eq_true c2, Bool.true_or])) ⟨ho, ?_⟩)
      have hz0 : k.toNat = 0 := by omega
      rw [hz0] at fin
      refine ⟨.ref s.heap.objs.size, _, I.laid (t' := s.toks) (o := .tup (List.replicate 0 xs).flatten) (fun b ob q => Heap.get?_push_of_some _ q) (Nat.le_refl _) ?_, rfl, fin _ (I.hok.fresh (Nat.le_refl _))⟩
      exact ⟨Nat.zero_le _, [], .nil, IsTup.new _ _⟩
    · have hm : ((its.toArray.size : Nat) : Int) * k = ((xs.length * k.toNat : Nat) : Int) := by
        rw [List.size_toArray, hle, Int.natCast_mul, Int.toNat_of_nonneg (by omega)]
      have flen : (List.replicate k.toNat its).flatten.length ≤ sizeLine := by
        rw [PyProof.Rows.lm_len_rep_flat, hle, Nat.mul_comm]; exact hz
      have hz' : xs.length * k.toNat ≤ 16777216 := by rw [← sizeLine_eq]; exact hz
      have c4 : Builtin.Tuple.tupleTooMany (((its.toArray.size : Nat) : Int) * k) = false := by
        unfold Builtin.Tuple.tupleTooMany
        rw [hm]
        exact decide_eq_false (by omega)
      refine road (call_meets F.slot_tuple_mul ⟨_, ho, rfl⟩ F.entry_tuple_mul (F.args_tuple_mul_2 _ _) (tuple_mulW l its.toArray n dd sl k t c0 e1 (by rw [hemp, decide_eq_false hx, Bool.or_false]; exact decide_eq_false c2) (by rw [hm]; omega) c4 (by rw [size_rep, List.size_toArray]; exact flen)) ⟨ho, ?_⟩)
      rw [size_rep]
      refine ⟨.ref s.heap.objs.size, _, I.laid (t' := s.toks) (o := .tup (List.replicate k.toNat xs).flatten) (fun b ob q => Heap.get?_push_of_some _ q) (Nat.le_refl _) ?_, rfl, fin _ (I.hok.fresh (Nat.le_refl _))⟩
      exact ⟨by rw [PyProof.Rows.lm_len_rep_flat, Nat.mul_comm]; exact hz, _, r.rep k.toNat, IsTup.new _ _⟩
theorem op_isB : OpR X (compareOp .Is) (fun x y H Q => ∃ a b, x = .bl a ∧ y = .bl b ∧ Q (.bl (a == b)) H) := by
  intro pins s σ H x y v u Q I rx ry h
  obtain ⟨a, b, rfl, rfl, q⟩ := h
  cases (show v = Value.bool a from rx)
  cases (show u = Value.bool b from ry)
  exact is_bool ⟨.bl _, H, I, rfl, q⟩
theorem op_notB : OpR X (compareOp .IsNot) (fun x y H Q => ∃ a b, x = .bl a ∧ y = .bl b ∧ Q (.bl (a != b)) H) := by
  intro pins s σ H x y v u Q I rx ry h
  obtain ⟨a, b, rfl, rfl, q⟩ := h
  cases (show v = Value.bool a from rx)
  cases (show u = Value.bool b from ry)
  exact isnot_bool ⟨.bl _, H, I, rfl, q⟩
end
end L2

/-! DL4: operators, comparisons, items, slices, built-ins over data. -/
namespace DL
open PySem PySem.Spec PyProof.Rows L2
section
variable {X : Cx} {K : PySem.W.Frag} {S : Sto} {O : Ow} {H : Hp}
/-- a rule by values keeps what data say: the store and the owned stay -/
def Hr (K : PySem.W.Frag) (r : R2) (f : Sto → D → D → (D → Prop) → Prop) : Prop :=
  ∀ x y dx dy H S O (P : D → Prop) (Q' : VK), Sok K S O H → Rp K O H x dx → Rp K O H y dy → f S dx dy P → (∀ v H' d, Rp K O H' v d → Sok K S O H' → Ev S O H S O H' → P d → Q' v H') → r x y H Q'
theorem op_mulI : OpR X (binaryOp .Mult) (rI IntMulOk fun i j => .int (i * j)) := opI fun _ _ _ _ _ _ _ hc q => mul_int q hc
theorem iop_mulI : OpR X (inplaceOp .Mult) (rI IntMulOk fun i j => .int (i * j)) := opI fun _ _ _ _ _ _ _ hc q => imul_int q hc
/-- a context in which a division of great integers finds room -/
structure PyX (X : Cx) : Prop where
  env : ∃ e l, X.stack = e :: l ∧ e.scope.isGenerator = false ∧ e.scope.isCoroutine = false ∧ e.builtins = builtinsNs ∧ e.globals = mainGlobals
  seer : X.base.NoSeer
  tree : X.prog.given.tree = none
  deep : X.A.depth + Builtin.pylongFrames < recursionLimit
theorem PyX.room (x : PyX X) {pins : List (Addr × Obj)} {s : Shared} {σ : L2.St} {H : Hp} (I : Inv X pins σ H s) : PylongRoom (model X.prog X.w) X.A s := by
  obtain ⟨e, l, hs, h1, h2, h3, h4⟩ := x.env
  exact PylongRoom.of I.nolimit x.deep (SeerAt.of (x.seer.keeps I.bk) x.tree (by rw [I.ok.frames, hs]) h1 h2 h3 h4)
theorem op_fdivI (hp : PyX X) : OpR X (binaryOp .FloorDiv) (rI (fun _ j => j ≠ 0) fun i j => .int (i.fdiv j)) := by
  intro pins s σ H x y v u Q I rx ry h
  obtain ⟨i, j, rfl, rfl, hc, q⟩ := h
  obtain ⟨t, rfl⟩ := rx
  obtain ⟨t', rfl⟩ := ry
  exact floordiv_int hc ⟨.int (i.fdiv j), H, I.tok _, ⟨_, rfl⟩, q⟩ (.inr (hp.room I))
theorem op_powW : OpR X (binaryOp .Pow) (rI (fun i j => 0 ≤ j ∧ (Builtin.Int.intBits i : Int) * j ≤ 2 ^ 27) fun i j => .int (i ^ j.toNat)) := opI fun _ _ _ _ _ _ _ hc q => pow_int hc.1 hc.2 q
def bop : BOp → Operator
  | .add => .Add | .sub => .Sub | .mul => .Mult | .fdiv => .FloorDiv | .mod => .Mod | .pow => .Pow
theorem hr_int {C : Int → Int → Prop} {g : Int → Int → Int} {x y : V} {dx dy : D} {H : Hp} {P : D → Prop} {Q' : VK} (s : Sok K S O H) (rx : Rp K O H x dx) (ry : Rp K O H y dy) {i j : Int} (ex : dx = .int i) (ey : dy = .int j) (hc : C i j) (hp : P (.int (g i j)))
    (k : ∀ v H' d, Rp K O H' v d → Sok K S O H' → Ev S O H S O H' → P d → Q' v H') : rI C (fun i j => .int (g i j)) x y H Q' := by
  subst ex ey
  cases rx; cases ry
  exact ⟨i, j, rfl, rfl, hc, k _ H _ (.int _) s .refl hp⟩
theorem flat_rep_nil {α : Type} : ∀ n : Nat, (List.replicate n ([] : List α)).flatten = []
  | 0 => rfl
  | n + 1 => by rw [List.replicate_succ, List.flatten_cons, flat_rep_nil n]; rfl
theorem rep_rp {xs : List V} {ds : List D} (r : Rps K O H xs ds) : ∀ n : Nat, Rps K O H (List.replicate n xs).flatten (List.replicate n ds).flatten
  | 0 => .nil
  | n + 1 => by rw [List.replicate_succ, List.flatten_cons, List.replicate_succ, List.flatten_cons]; exact r.append (rep_rp r n)
theorem bin_ok (hp : PyX X) (op : BOp) : ∃ r, OpR X (binaryOp (bop op)) r ∧ Hr X.K r fun _ dx dy P => binD op dx dy P := by
  cases op with
  | add =>
    refine ⟨_, (op_add.or (op_catA.or op_add_str)), fun x y dx dy H S O P Q' s rx ry h k => ?_⟩
    cases dx <;> cases dy <;> try exact h.elim
    · cases rx; cases ry
      exact .inl ⟨_, _, rfl, rfl, k _ H _ (.int _) s .refl h⟩
    · cases rx; cases ry
      exact .inr (.inr ⟨_, _, rfl, rfl, h.1, k _ H _ (.str _) s .refl h.2⟩)
    · rename_i xs ys
      cases rx with
      | tup h1 z1 r1 =>
      cases ry with
      | tup h2 z2 r2 =>
      rename_i a xs' b ys'
      refine .inr (.inl ⟨a, b, xs', ys', rfl, rfl, h1, h2, by rw [r1.len, r2.len]; exact h.1, fun e => ?_, fun _ e => ?_, fun _ _ p hp => ?_⟩)
      · subst e; cases r1; exact k _ H _ (.tup h2 z2 r2) s .refl h.2
      · subst e; cases r2; refine k _ H _ (.tup h1 z1 ?_) s .refl h.2; rw [List.append_nil]; exact r1
      · exact k _ _ _ (rp_new s hp (by rw [List.length_append, r1.len, r2.len]; exact h.1) (r1.append r2)) (s.new hp) (ev_new hp s) h.2
  | sub =>
    refine ⟨_, op_sub, fun x y dx dy H S O P Q' s rx ry h k => ?_⟩
    cases dx <;> cases dy <;> try exact h.elim
    cases rx; cases ry
    exact ⟨_, _, rfl, rfl, k _ H _ (.int _) s .refl h⟩
  | mul =>
    refine ⟨_, op_mulI.or op_repG, fun x y dx dy H S O P Q' s rx ry h k => ?_⟩
    cases dx <;> cases dy <;> try exact h.elim
    · cases rx; cases ry
      exact .inl ⟨_, _, rfl, rfl, h.1, k _ H _ (.int _) s .refl h.2⟩
    · rename_i xs n
      cases ry
      cases rx with
      | tup h1 z1 r1 =>
      rename_i a xs'
      obtain ⟨l1, l2, l3, hk⟩ := h
      have e3 : xs'.length * n.toNat ≤ sizeLine := by rw [r1.len]; exact l3
      refine .inr ⟨a, n, xs', rfl, rfl, h1, l1, l2, e3, fun hc => ?_, fun hc p hp => ?_⟩
      · rcases hc with rfl | rfl
        · cases r1
          refine k _ H _ (.tup h1 z1 ?_) s .refl hk
          rw [flat_rep_nil]; exact .nil
        · refine k _ H _ (.tup h1 z1 ?_) s .refl hk
          have e1 : Int.toNat 1 = 0 + 1 := rfl
          rw [e1, List.replicate_succ, List.flatten_cons, List.replicate_zero, List.flatten_nil, List.append_nil]; exact r1
      · exact k _ _ _ (rp_new s hp (by rw [PyProof.Rows.lm_len_rep_flat, Nat.mul_comm]; exact e3) (rep_rp r1 _)) (s.new hp) (ev_new hp s) hk
  | fdiv =>
    refine ⟨_, op_fdivI hp, fun x y dx dy H S O P Q' s rx ry h k => ?_⟩
    cases dx <;> cases dy <;> try exact h.elim
    cases rx; cases ry
    exact ⟨_, _, rfl, rfl, h.1, k _ H _ (.int _) s .refl h.2.2⟩
  | mod =>
    refine ⟨_, op_modN, fun x y dx dy H S O P Q' s rx ry h k => ?_⟩
    cases dx <;> cases dy <;> try exact h.elim
    cases rx; cases ry
    exact ⟨_, _, rfl, rfl, h.1, k _ H _ (.int _) s .refl h.2⟩
  | pow =>
    refine ⟨_, op_powW, fun x y dx dy H S O P Q' s rx ry h k => ?_⟩
    cases dx <;> cases dy <;> try exact h.elim
    cases rx; cases ry
    exact ⟨_, _, rfl, rfl, h.1, k _ H _ (.int _) s .refl h.2⟩
/-- in place, on ints -/
theorem iop_ok (op : BOp) (ho : op = .add ∨ op = .sub ∨ op = .mul) : ∃ r, OpR X (inplaceOp (bop op)) r ∧ Hr X.K r fun _ dx dy P => ∃ a b, dx = .int a ∧ dy = .int b ∧ binD op dx dy P := by
  rcases ho with rfl | rfl | rfl
  · refine ⟨_, iop_add, fun x y dx dy H S O P Q' s rx ry h k => ?_⟩
    obtain ⟨a, b, rfl, rfl, h⟩ := h
    cases rx; cases ry
    exact ⟨_, _, rfl, rfl, k _ H _ (.int _) s .refl h⟩
  · refine ⟨_, iop_sub, fun x y dx dy H S O P Q' s rx ry h k => ?_⟩
    obtain ⟨a, b, rfl, rfl, h⟩ := h
    cases rx; cases ry
    exact ⟨_, _, rfl, rfl, k _ H _ (.int _) s .refl h⟩
  · refine ⟨_, iop_mulI, fun x y dx dy H S O P Q' s rx ry h k => ?_⟩
    obtain ⟨a, b, rfl, rfl, h⟩ := h
    cases rx; cases ry
    exact ⟨_, _, rfl, rfl, h.1, k _ H _ (.int _) s .refl h.2⟩

/-! ### data as PyData -/
mutual
theorem dp_of : ∀ {v : V} {d : D} {p : PyData}, Rp K O H v d → d.py = some p → Dp K H v p
  | _, _, _, .non, e => by cases e; exact .non
  | _, _, _, .bl b, e => by cases e; exact .bl b
  | _, _, _, .int i, e => by cases e; exact .int i
  | _, _, _, .str x, e => by cases e; exact .str x
  | _, _, _, .ty n, e => nomatch e
  | _, _, _, .ref, e => nomatch e
  | _, _, _, .scr _ _, e => nomatch e
  | _, _, _, .scrK _ _, e => nomatch e
  | _, _, _, .obj _ _ _ _ _ _, e => nomatch e
  | _, _, _, .dct _ _, e => nomatch e
  | _, .tup ds, _, .tup h z r, e => by
    simp only [D.py] at e
    cases q : D.py.pys ds with
    | none => rw [q] at e; cases e
    | some ps => rw [q] at e; cases e; exact .tup h (dps_of r q)
  | _, .lst ds, _, .lst h n z r, e => by
    simp only [D.py] at e
    cases q : D.py.pys ds with
    | none => rw [q] at e; cases e
    | some ps => rw [q] at e; cases e; exact .lst (SqL.of h) (dps_of r q)
theorem dps_of : ∀ {vs : List V} {ds : List D} {ps : List PyData}, Rps K O H vs ds → D.py.pys ds = some ps → DpAll K H vs ps
  | _, _, _, .nil, e => by cases e; exact .nil
  | _, d :: ds, _, .cons r t, e => by
    simp only [D.py.pys] at e
    cases q : d.py with
    | none => rw [q] at e; cases e
    | some p =>
      cases q2 : D.py.pys ds with
      | none => rw [q, q2] at e; cases e
      | some ps => rw [q, q2] at e; cases e; exact .cons (dp_of r q) (dps_of t q2)
end
theorem rp_res {v : V} {d : D} {p : PyData} (s : Sok K S O H) (r : Rp K O H v d) (e : (res S d).py = some p) : Dp K H v p := by
  cases r with
  | ref =>
    rename_i a
    cases q : S a with
    | none => simp only [res, q] at e; cases e
    | some o =>
      cases o with
      | lst ds =>
        simp only [res, q] at e
        obtain ⟨_, xs, h1, h2, h3⟩ := s.dom _ _ q
        simp only [D.py] at e
        cases q2 : D.py.pys ds with
        | none => rw [q2] at e; cases e
        | some ps => rw [q2] at e; cases e; exact .lst (SqL.of h1) (dps_of h3 q2)
      | _ => simp only [res, q] at e; cases e
  | obj _ _ _ _ _ _ => exact nomatch e
  | dct _ _ => exact nomatch e
  | non => exact dp_of (O := O) .non e
  | bl b => exact dp_of (O := O) (.bl b) e
  | int i => exact dp_of (O := O) (.int i) e
  | str x => exact dp_of (O := O) (.str x) e
  | ty n => exact dp_of (O := O) (.ty n) e
  | scr _ h => exact nomatch e
  | scrK _ h => exact nomatch e
  | tup h z r => exact dp_of (O := O) (.tup h z r) e
  | lst h n z r => exact dp_of (O := O) (.lst h n z r) e
def cop : COp → CmpOp
  | .eq => .Eq | .ne => .NotEq | .lt => .Lt | .le => .LtE | .gt => .Gt | .ge => .GtE | .is => .Is | .isn => .IsNot | .inn => .In | .nin => .NotIn
theorem res_int {d : D} {i : Int} (h : res S d = .int i) : d = .int i := by
  cases d with
  | ref p => simp only [res] at h; split at h <;> cases h
  | int j => exact h
  | _ => cases h
theorem res_non {d : D} (h : res S d = .non) : d = .non := by
  cases d with
  | ref p => simp only [res] at h; split at h <;> cases h
  | non => rfl
  | _ => cases h
theorem res_bl {d : D} {b : Bool} (h : res S d = .bl b) : d = .bl b := by
  cases d with
  | ref p => simp only [res] at h; split at h <;> cases h
  | bl j => exact h
  | _ => cases h
theorem res_str {d : D} {x : Str} (h : res S d = .str x) : d = .str x := by
  cases d with
  | ref p => simp only [res] at h; split at h <;> cases h
  | str y => exact h
  | _ => cases h
/-- what a comparison asks -/
theorem cmp_ok (op : COp) (hu : X.A.units + 65 < cLine) : ∃ r, OpR X (compareOp (cop op)) r ∧ Hr X.K r fun S dx dy P => cmpD op (res S dx) (res S dy) fun z => P (.bl z) := by
  have eqs : ∀ (x y : V) (dx dy : D) (H : Hp) (S : Sto) (O : Ow) (P : Bool → Prop), Sok X.K S O H → Rp X.K O H x dx → Rp X.K O H y dy → eqD (res S dx) (res S dy) P →
      ∃ d e, Dp X.K H x d ∧ Dp X.K H y e ∧ SeqAt.shaped d = true ∧ SeqAt.shaped e = true ∧ P (PyData.eqv d e) := fun x y dx dy H S O P s rx ry h => by
    obtain ⟨p, q, ep, eq, h1, h2, h⟩ := h
    exact ⟨p, q, rp_res s rx ep, rp_res s ry eq, h1, h2, h⟩
  have itOf : ∀ {x : V} {dx : D} {H : Hp} {S : Sto} {O : Ow} {i : Int}, Rp X.K O H x dx → res S dx = .int i → x = .int i := fun {x dx H S O i} rx e => by
    have := res_int e; subst this; cases rx; rfl
  cases op with
  | lt =>
    refine ⟨_, op_lt, fun x y dx dy H S O P Q' s rx ry h k => ?_⟩
    replace h : cmpD _ (res S dx) (res S dy) (fun z => P (.bl z)) := h
    cases e1 : res S dx <;> cases e2 : res S dy <;> rw [e1, e2] at h <;> try exact h.elim
    exact ⟨_, _, itOf rx e1, itOf ry e2, k _ H _ (.bl _) s .refl h⟩
  | le =>
    refine ⟨_, op_le, fun x y dx dy H S O P Q' s rx ry h k => ?_⟩
    replace h : cmpD _ (res S dx) (res S dy) (fun z => P (.bl z)) := h
    cases e1 : res S dx <;> cases e2 : res S dy <;> rw [e1, e2] at h <;> try exact h.elim
    exact ⟨_, _, itOf rx e1, itOf ry e2, k _ H _ (.bl _) s .refl h⟩
  | gt =>
    refine ⟨_, op_gt, fun x y dx dy H S O P Q' s rx ry h k => ?_⟩
    replace h : cmpD _ (res S dx) (res S dy) (fun z => P (.bl z)) := h
    cases e1 : res S dx <;> cases e2 : res S dy <;> rw [e1, e2] at h <;> try exact h.elim
    exact ⟨_, _, itOf rx e1, itOf ry e2, k _ H _ (.bl _) s .refl h⟩
  | ge =>
    refine ⟨_, op_ge, fun x y dx dy H S O P Q' s rx ry h k => ?_⟩
    replace h : cmpD _ (res S dx) (res S dy) (fun z => P (.bl z)) := h
    cases e1 : res S dx <;> cases e2 : res S dy <;> rw [e1, e2] at h <;> try exact h.elim
    exact ⟨_, _, itOf rx e1, itOf ry e2, k _ H _ (.bl _) s .refl h⟩
  | eq =>
    refine ⟨_, op_eqD (by omega), fun x y dx dy H S O P Q' s rx ry h k => ?_⟩
    replace h : cmpD _ (res S dx) (res S dy) (fun z => P (.bl z)) := h
    have h' : eqD (res S dx) (res S dy) fun z => P (.bl z) := by
      cases e1 : res S dx <;> cases e2 : res S dy <;> rw [e1, e2] at h <;> try exact h
      exact ⟨_, _, rfl, rfl, rfl, rfl, by
        rename_i i j
        have e : PyData.eqv (.int i) (.int j) = decide (i = j) := by simp only [PyData.eqv]; exact Bool.beq_eq_decide_eq _ _
        rw [e]; exact h⟩
    obtain ⟨d, e, h1, h2, h3, h4, h5⟩ := eqs x y dx dy H S O _ s rx ry h'
    exact ⟨d, e, h1, h2, h3, h4, k _ H _ (.bl _) s .refl h5⟩
  | ne =>
    refine ⟨_, op_neD (by omega), fun x y dx dy H S O P Q' s rx ry h k => ?_⟩
    replace h : cmpD _ (res S dx) (res S dy) (fun z => P (.bl z)) := h
    have h' : eqD (res S dx) (res S dy) fun z => P (.bl (!z)) := by
      cases e1 : res S dx <;> cases e2 : res S dy <;> rw [e1, e2] at h <;> try exact h
      exact ⟨_, _, rfl, rfl, rfl, rfl, by
        rename_i i j
        have e : PyData.eqv (.int i) (.int j) = decide (i = j) := by simp only [PyData.eqv]; exact Bool.beq_eq_decide_eq _ _
        rw [e]; exact h⟩
    obtain ⟨d, e, h1, h2, h3, h4, h5⟩ := eqs x y dx dy H S O _ s rx ry h'
    exact ⟨d, e, h1, h2, h3, h4, k _ H _ (.bl _) s .refl h5⟩
  | is =>
    refine ⟨_, op_isN.or op_isB, fun x y dx dy H S O P Q' s rx ry h k => ?_⟩
    replace h : cmpD _ (res S dx) (res S dy) (fun z => P (.bl z)) := h
    cases e2 : res S dy <;> rw [e2] at h <;> try (cases e1 : res S dx <;> rw [e1] at h <;> exact h.elim)
    case' bl b =>
      cases e1 : res S dx <;> rw [e1] at h <;> try exact h.elim
      have e3 := res_bl e1
      have e4 := res_bl e2
      subst e3 e4
      cases rx; cases ry
      exact .inr ⟨_, _, rfl, rfl, k _ H _ (.bl _) s .refl h⟩
    refine .inl ?_
    have e3 := res_non e2
    subst e3
    cases ry
    refine ⟨rfl, ?_⟩
    have e : decide (x = V.non) = (match res S dx with | .non => true | _ => false) := by
      cases rx with
      | ref =>
        rename_i a
        cases q : S a with
        | none => simp only [res, q]; rfl
        | some o => cases o <;> simp only [res, q] <;> rfl
      | _ => rfl
    rw [e]
    exact k _ H _ (.bl _) s .refl (by cases e4 : res S dx <;> rw [e4] at h <;> exact h)
  | isn =>
    refine ⟨_, op_notN.or op_notB, fun x y dx dy H S O P Q' s rx ry h k => ?_⟩
    replace h : cmpD _ (res S dx) (res S dy) (fun z => P (.bl z)) := h
    cases e2 : res S dy <;> rw [e2] at h <;> try (cases e1 : res S dx <;> rw [e1] at h <;> exact h.elim)
    case' bl b =>
      cases e1 : res S dx <;> rw [e1] at h <;> try exact h.elim
      have e3 := res_bl e1
      have e4 := res_bl e2
      subst e3 e4
      cases rx; cases ry
      exact .inr ⟨_, _, rfl, rfl, k _ H _ (.bl _) s .refl h⟩
    refine .inl ?_
    have e3 := res_non e2
    subst e3
    cases ry
    refine ⟨rfl, ?_⟩
    have e : (!decide (x = V.non)) = (match res S dx with | .non => false | _ => true) := by
      cases rx with
      | ref =>
        rename_i a
        cases q : S a with
        | none => simp only [res, q]; rfl
        | some o => cases o <;> simp only [res, q] <;> rfl
      | _ => rfl
    rw [e]
    exact k _ H _ (.bl _) s .refl (by cases e4 : res S dx <;> rw [e4] at h <;> exact h)
  | inn =>
    refine ⟨_, (op_inD hu).or op_in_sign, fun x y dx dy H S O P Q' s rx ry h k => ?_⟩
    replace h : cmpD _ (res S dx) (res S dy) (fun z => P (.bl z)) := h
    have hh : inD (res S dx) (res S dy) fun z => P (.bl z) := by cases e1 : res S dx <;> cases e2 : res S dy <;> rw [e1, e2] at h <;> exact h
    cases e2 : res S dy <;> rw [e2] at hh <;> try exact hh.elim
    · obtain ⟨c, e1, hh⟩ := hh
      have e3 := res_str e2
      have e4 := res_str e1
      subst e3 e4
      cases rx; cases ry
      exact .inr ⟨c, _, rfl, rfl, k _ H _ (.bl _) s .refl hh⟩
    · obtain ⟨p, ps, e1, e3, h1, h2, hh⟩ := hh
      refine .inl ⟨p, ps, rp_res s rx e1, rp_res s ry ?_, h1, h2, k _ H _ (.bl _) s .refl hh⟩
      rw [e2]; simp only [D.py, e3]; rfl
  | nin =>
    refine ⟨_, (op_notInD hu).or op_notIn_sign, fun x y dx dy H S O P Q' s rx ry h k => ?_⟩
    replace h : cmpD _ (res S dx) (res S dy) (fun z => P (.bl z)) := h
    have hh : inD (res S dx) (res S dy) fun z => P (.bl (!z)) := by cases e1 : res S dx <;> cases e2 : res S dy <;> rw [e1, e2] at h <;> exact h
    cases e2 : res S dy <;> rw [e2] at hh <;> try exact hh.elim
    · obtain ⟨c, e1, hh⟩ := hh
      have e3 := res_str e2
      have e4 := res_str e1
      subst e3 e4
      cases rx; cases ry
      exact .inr ⟨c, _, rfl, rfl, k _ H _ (.bl _) s .refl hh⟩
    · obtain ⟨p, ps, e1, e3, h1, h2, hh⟩ := hh
      refine .inl ⟨p, ps, rp_res s rx e1, rp_res s ry ?_, h1, h2, k _ H _ (.bl _) s .refl hh⟩
      rw [e2]; simp only [D.py, e3]; rfl
end
end DL

/-! DL5: canonical readings; items, slices, new lists, what is walked. -/
namespace DL
open PySem PySem.Spec PyProof.Rows L2
/-- the canonical readings of weakest preconditions -/
def tO (L : Lnk) (K : PySem.W.Frag) (W : WX) (w : WE') : TE := fun σ H Q' => ∃ ρ S O R Q, At L K W σ H ρ S O R ∧ w ρ S R Q ∧ ∀ v H' d S' O', Rp K O' H' v d → Sok K S' O' H' → Ev S O H S' O' H' → Q d S' → Q' v H'
def tOT (L : Lnk) (K : PySem.W.Frag) (W : WX) (w : WE') : TT := fun σ H Q' => ∃ ρ S O R, ∃ Q : Bool → Sto → Prop, At L K W σ H ρ S O R ∧ w ρ S R (fun d S' => tstD d fun b => Q b S') ∧ ∀ b H' S' O', Sok K S' O' H' → Ev S O H S' O' H' → Q b S' → Q' b H'
def tOA (L : Lnk) (K : PySem.W.Frag) (W : WX) (w : Env → Sto → XD → (List D → Sto → Prop) → Prop) : TA := fun σ H Q' => ∃ ρ S O R Q, At L K W σ H ρ S O R ∧ w ρ S R Q ∧ ∀ vs H' ds S' O', Rps K O' H' vs ds → Sok K S' O' H' → Ev S O H S' O' H' → Q ds S' → Q' vs H'
def tOL (L : Lnk) (K : PySem.W.Frag) (W : WX) (w : Env → Sto → XD → (List D → Sto → Prop) → Prop) : TE := fun σ H Q' => ∃ ρ S O R Q, At L K W σ H ρ S O R ∧ w ρ S R Q ∧ ∀ p xs H' ds S' O', H p = none → O' p → S' p = none → H' p = some (.lst xs) → xs.length ≤ sizeLine → Rps K O' H' xs ds → Sok K S' O' H' → Ev S O H S' O' H' → Q ds S' → Q' (.ref p) H'
def tOO (L : Lnk) (K : PySem.W.Frag) (W : WX) (w : Env → Sto → XD → (Option Int → Sto → Prop) → Prop) : TO := fun σ H Q' => ∃ ρ S O R Q, At L K W σ H ρ S O R ∧ w ρ S R Q ∧ ∀ o H' S' O', Sok K S' O' H' → Ev S O H S' O' H' → Q o S' → Q' o H'
section
variable {L : Lnk} {K : PySem.W.Frag} {W : WX} {X : Cx} {e : Expr} {es : List Expr} {w wa wb : WE'}
theorem re_tO : RE L K W (tO L K W w) w := fun σ H ρ S O R Q Q' A hw k => ⟨ρ, S, O, R, Q, A, hw, k⟩
theorem rt_tO : RT L K W (tOT L K W w) w := fun σ H ρ S O R Q Q' A hw k => ⟨ρ, S, O, R, Q, A, hw, k⟩
theorem ra_tO {w : Env → Sto → XD → (List D → Sto → Prop) → Prop} : RA L K W (tOA L K W w) w := fun σ H ρ S O R Q Q' A hw k => ⟨ρ, S, O, R, Q, A, hw, k⟩
theorem rl_tO {w : Env → Sto → XD → (List D → Sto → Prop) → Prop} : RL L K W (tOL L K W w) w := fun σ H ρ S O R Q Q' A hw k => ⟨ρ, S, O, R, Q, A, hw, k⟩
theorem ro_tO {w : Env → Sto → XD → (Option Int → Sto → Prop) → Prop} : RO L K W (tOO L K W w) w := fun σ H ρ S O R Q Q' A hw k => ⟨ρ, S, O, R, Q, A, hw, k⟩
theorem _root_.L2.PE.can {t : TE} (h : PE X e t) (r : RE L K W t w) : PE X e (tO L K W w) := ⟨fun pins s σ H Q' I ⟨ρ, S, O, R, Q, A, hw, k⟩ => h.run pins s σ H Q' I (r σ H ρ S O R Q Q' A hw k)⟩
theorem _root_.L2.PT.can {t : TT} (h : PT X e t) (r : RT L K W t w) : PT X e (tOT L K W w) := ⟨fun pins s σ H Q' I ⟨ρ, S, O, R, Q, A, hw, k⟩ => h.run pins s σ H Q' I (r σ H ρ S O R Q Q' A hw k)⟩
theorem _root_.L2.PW.can {t : TT} (h : PW X e t) (r : RT L K W t w) : PW X e (tOT L K W w) := ⟨fun wh pins s σ H Q' I ⟨ρ, S, O, R, Q, A, hw, k⟩ => h.run wh pins s σ H Q' I (r σ H ρ S O R Q Q' A hw k)⟩
theorem _root_.L2.PA.can {t : TA} {w : Env → Sto → XD → (List D → Sto → Prop) → Prop} (h : PA X es t) (r : RA L K W t w) : PA X es (tOA L K W w) := ⟨fun pos pins s σ H Q' I ⟨ρ, S, O, R, Q, A, hw, k⟩ => h.run pos pins s σ H Q' I (r σ H ρ S O R Q Q' A hw k)⟩
theorem _root_.L2.PE.canL {t : TE} {w : Env → Sto → XD → (List D → Sto → Prop) → Prop} (h : PE X e t) (r : RL L K W t w) : PE X e (tOL L K W w) := ⟨fun pins s σ H Q' I ⟨ρ, S, O, R, Q, A, hw, k⟩ => h.run pins s σ H Q' I (r σ H ρ S O R Q Q' A hw k)⟩
theorem _root_.L2.PO.can {o : Option Expr} {t : TO} {w : Env → Sto → XD → (Option Int → Sto → Prop) → Prop} (h : PO X o t) (r : RO L K W t w) : PO X o (tOO L K W w) := by
  refine ⟨?_⟩
  intro pins s σ H Q' I ⟨ρ, S, O, R, Q, A, hw, k⟩
  exact h.run pins s σ H Q' I (r σ H ρ S O R Q Q' A hw k)

/-! ### lists: kept as values, owned -/
theorem re_frz {t : TE} {w : Env → Sto → XD → (List D → Sto → Prop) → Prop} (h : RL L K W t w) : RE L K W t fun ρ S R Q => w ρ S R fun ds S1 => Q (.lst ds) S1 := fun σ H ρ S O R Q Q' A hw k =>
  h σ H ρ S O R _ Q' A hw fun p xs H' ds S' O' hp ho hs hl z r s e q => by
    have ne : ∀ a, O a → a ≠ p := fun a ha q => by rw [q] at ha; exact A.sok.notO hp ha
    refine k _ H' _ S' (orem O' p) (.lst hl (fun q => q.2 rfl) z (r.mono mo_free)) (s.free hs) ⟨e.keep, fun a h => e.own a h.1, fun a h n => ⟨⟨(e.res a h n).1, ne a h⟩, (e.res a h n).2⟩, e.there⟩ q
theorem re_own {t : TE} {w : Env → Sto → XD → (List D → Sto → Prop) → Prop} (h : RL L K W t w) : RE L K W t fun ρ S R Q => w ρ S R fun ds S1 => ∀ p, S1 p = none → Q (.ref p) (sup S1 p (.lst ds)) := fun σ H ρ S O R Q Q' A hw k =>
  h σ H ρ S O R _ Q' A hw fun p xs H' ds S' O' hp ho hs hl z r s e q => by
    have ne : ∀ a, O a → a ≠ p := fun a ha q => by rw [q] at ha; exact A.sok.notO hp ha
    exact k _ H' _ _ O' .ref (s.take ho hl z r) ⟨e.keep, e.own, fun a h n => ⟨(e.res a h n).1, by rw [sup_ne (ne a h)]; exact (e.res a h n).2⟩, e.there⟩ (q p hs)
/-- a new list laid at once -/
theorem rl_new {σ : L2.St} {H H1 : Hp} {ρ : Env} {S S1 : Sto} {O O1 : Ow} {R : XD} {xs : List V} {ds : List D} {Q' : VK} {P : Prop} (A : At L K W σ H1 ρ S1 O1 R) (e : Ev S O H S1 O1 H1) (z : xs.length ≤ sizeLine) (r : Rps K O1 H1 xs ds) (q : P)
    (k : ∀ p xs H' ds' S' O', H p = none → O' p → S' p = none → H' p = some (.lst xs) → xs.length ≤ sizeLine → Rps K O' H' xs ds' → Sok K S' O' H' → Ev S O H S' O' H' → ds' = ds ∧ S' = S1 → Q' (.ref p) H') : ∀ p, H1 p = none → Q' (.ref p) (upd H1 p (.lst xs)) := fun p hp =>
  k p xs _ ds S1 (oadd O1 p) (e.there p hp) (.inr rfl) (A.sok.noneH hp) upd_same z (r.mono ((ev_res hp A.sok).mo A.sok)) (A.sok.resv hp) (e.trans A.sok (ev_res hp A.sok)) ⟨rfl, rfl⟩
theorem rl_disp {t : TA} {ws : Env → Sto → XD → (List D → Sto → Prop) → Prop} (h : RA L K W t ws) : RL L K W (tLst t) fun ρ S R Q => ws ρ S R fun ds S1 => ds.length ≤ sizeLine ∧ Q ds S1 := fun σ H ρ S O R Q Q' A hw k => by
  refine h.go A hw fun xs H1 ds S1 O1 r1 A1 e1 ⟨z, q1⟩ => ?_
  have z' : xs.length ≤ sizeLine := by rw [r1.len]; exact z
  exact ⟨z', rl_new A1 e1 z' r1 trivial fun p xs H' ds' S' O' a b c d e f g i j => k p xs H' ds' S' O' a b c d e f g i (by rw [j.1, j.2]; exact q1)⟩
theorem rl_rep {ta tb : TE} (ha : RE L K W ta wa) (hb : RE L K W tb wb) : RL L K W (tOp rRep ta tb) fun ρ S R Q => wa ρ S R fun x S1 => wb ρ S1 R fun y S2 => match res S2 x, y with
    | .lst xs, .int k => -(2 ^ 63) ≤ k ∧ k < 2 ^ 63 ∧ xs.length * k.toNat ≤ sizeLine ∧ Q (List.replicate k.toNat xs).flatten S2
    | _, _ => False := fun σ H ρ S O R Q Q' A hw k => by
  refine ha.go A hw fun x H1 dx S1 O1 r1 A1 e1 q1 => ?_
  refine hb.go A1 q1 fun y H2 dy S2 O2 r2 A2 e2 q2 => ?_
  have r1 := r1.mono (A1.mo e2)
  cases e : res S2 dx <;> rw [e] at q2 <;> try exact q2.elim
  cases dy <;> try exact q2.elim
  cases r2
  obtain ⟨h1, h2, h3, q2⟩ := q2
  obtain ⟨a, xs, rfl, g1, g2, g3⟩ := (seq_of r1 A2.sok).1 _ e
  rw [← g3.len] at h3
  refine ⟨a, _, xs, rfl, rfl, g1, h1, h2, h3, rl_new A2 (e1.trans A1.sok e2) ?_ (g3.rep _) trivial fun p xs H' ds' S' O' a b c d e f g i j => k p xs H' ds' S' O' a b c d e f g i (by rw [j.1, j.2]; exact q2)⟩
  rw [PyProof.Rows.lm_len_rep_flat, Nat.mul_comm]; exact h3
theorem rl_cat {ta tb : TE} (ha : RE L K W ta wa) (hb : RE L K W tb wb) : RL L K W (tOp rCat ta tb) fun ρ S R Q => wa ρ S R fun x S1 => wb ρ S1 R fun y S2 => match res S2 x, res S2 y with
    | .lst xs, .lst ys => xs.length + ys.length ≤ sizeLine ∧ Q (xs ++ ys) S2
    | _, _ => False := fun σ H ρ S O R Q Q' A hw k => by
  refine ha.go A hw fun x H1 dx S1 O1 r1 A1 e1 q1 => ?_
  refine hb.go A1 q1 fun y H2 dy S2 O2 r2 A2 e2 q2 => ?_
  have r1 := r1.mono (A1.mo e2)
  cases e : res S2 dx <;> rw [e] at q2 <;> try exact q2.elim
  cases e' : res S2 dy <;> rw [e'] at q2 <;> try exact q2.elim
  obtain ⟨h3, q2⟩ := q2
  obtain ⟨a, xs, rfl, g1, g2, g3⟩ := (seq_of r1 A2.sok).1 _ e
  obtain ⟨b, ys, rfl, f1, f2, f3⟩ := (seq_of r2 A2.sok).1 _ e'
  rw [← g3.len, ← f3.len] at h3
  refine ⟨a, b, xs, ys, rfl, rfl, g1, f1, h3, rl_new A2 (e1.trans A1.sok e2) ?_ (g3.append f3) trivial fun p xs H' ds' S' O' a b c d e f g i j => k p xs H' ds' S' O' a b c d e f g i (by rw [j.1, j.2]; exact q2)⟩
  rw [List.length_append]; exact h3
theorem rl_ofSeq {ta : TE} (ha : RE L K W ta wa) : RL L K W (tCB (fun xs H Q => ∃ p ys, xs = [.ref p] ∧ (SqL K H p ys ∨ SqT K H p ys) ∧ ∀ l, H l = none → Q (.ref l) (upd H l (.lst ys))) (tCons ta tNil)) fun ρ S R Q => wa ρ S R fun x S1 => match res S1 x with
    | .tup xs => Q xs S1
    | .lst xs => Q xs S1
    | _ => False := fun σ H ρ S O R Q Q' A hw k => by
  refine ha.go A hw fun x H1 dx S1 O1 r1 A1 e1 q1 => ?_
  obtain ⟨hl, ht, _⟩ := seq_of r1 A1.sok
  cases e : res S1 dx <;> rw [e] at q1 <;> try exact q1.elim
  · obtain ⟨a, xs, rfl, g1, g2, g3⟩ := ht _ e
    exact ⟨a, xs, rfl, .inr g1, rl_new A1 e1 g2 g3 trivial fun p xs H' ds' S' O' a b c d e f g i j => k p xs H' ds' S' O' a b c d e f g i (by rw [j.1, j.2]; exact q1)⟩
  · obtain ⟨a, xs, rfl, g1, g2, g3⟩ := hl _ e
    exact ⟨a, xs, rfl, .inl (SqL.of g1), rl_new A1 e1 g2 g3 trivial fun p xs H' ds' S' O' a b c d e f g i j => k p xs H' ds' S' O' a b c d e f g i (by rw [j.1, j.2]; exact q1)⟩
theorem Rps.cut {O : Ow} {H : Hp} {vs : List V} {ds : List D} (h : Rps K O H vs ds) (lo hi : Option Int) : Rps K O H (cutV vs lo hi) (cutD ds lo hi) := by
  unfold cutV cutD
  rw [h.len]
  exact (h.drop _).take _
theorem rl_slc {te : TE} {tl th : TO} {wl wh : Env → Sto → XD → (Option Int → Sto → Prop) → Prop} (ha : RE L K W te wa) (hl : RO L K W tl wl) (hh : RO L K W th wh) : RL L K W (tSl (rSlL K) te tl th) fun ρ S R Q => wa ρ S R fun x S1 => wl ρ S1 R fun l S2 => wh ρ S2 R fun h S3 => match res S3 x with
    | .lst xs => Q (cutD xs l h) S3
    | _ => False := fun σ H ρ S O R Q Q' A hw k => by
  refine ha.go A hw fun x H1 dx S1 O1 r1 A1 e1 q1 => ?_
  refine hl.go A1 q1 fun l H2 S2 O2 A2 e2 q2 => ?_
  refine hh.go A2 q2 fun h H3 S3 O3 A3 e3 q3 => ?_
  have r1 := (r1.mono (A1.mo e2)).mono (A2.mo e3)
  cases e : res S3 dx <;> rw [e] at q3 <;> try exact q3.elim
  obtain ⟨a, xs, rfl, g1, g2, g3⟩ := (seq_of r1 A3.sok).1 _ e
  refine ⟨a, xs, rfl, SqL.of g1, rl_new A3 ((e1.trans A1.sok e2).trans A2.sok e3) ?_ (g3.cut l h) trivial fun p xs H' ds' S' O' a b c d e f g i j => k p xs H' ds' S' O' a b c d e f g i (by rw [j.1, j.2]; exact q3)⟩
  exact Nat.le_trans (cutV_length _ _ _) g2
/-! ### items, slices -/
theorem ro_no : RO L K W tNoPart fun _ S _ Q => Q none S := fun σ H ρ S O R Q Q' A hw k => k none H S O A.sok .refl hw
theorem ro_so {t : TE} (h : RE L K W t w) : RO L K W (tPart t) fun ρ S R Q => w ρ S R fun x S1 => match x with
    | .int i => Q (some i) S1
    | _ => False := fun σ H ρ S O R Q Q' A hw k => by
  refine h.go A hw fun x H1 dx S1 O1 r1 A1 e1 q1 => ?_
  cases dx <;> try exact q1.elim
  cases r1
  exact ⟨_, rfl, k _ H1 S1 O1 A1.sok e1 q1⟩
theorem re_slcT {te : TE} {tl th : TO} {wl wh : Env → Sto → XD → (Option Int → Sto → Prop) → Prop} (ha : RE L K W te wa) (hl : RO L K W tl wl) (hh : RO L K W th wh) : RE L K W (tSl (rSlA K) te tl th) fun ρ S R Q => wa ρ S R fun x S1 => wl ρ S1 R fun l S2 => wh ρ S2 R fun h S3 => match x with
    | .tup xs => Q (.tup (cutD xs l h)) S3
    | _ => False := fun σ H ρ S O R Q Q' A hw k => by
  refine ha.go A hw fun x H1 dx S1 O1 r1 A1 e1 q1 => ?_
  refine hl.go A1 q1 fun l H2 S2 O2 A2 e2 q2 => ?_
  refine hh.go A2 q2 fun h H3 S3 O3 A3 e3 q3 => ?_
  have r1 := (r1.mono (A1.mo e2)).mono (A2.mo e3)
  obtain ⟨ds, rfl⟩ : ∃ ds, dx = .tup ds := by
    cases dx with
    | tup ds => exact ⟨ds, rfl⟩
    | _ => exact q3.elim
  cases r1 with
  | tup g1 g2 g3 =>
  rename_i a xs
  have ev := (e1.trans A1.sok e2).trans A2.sok e3
  refine ⟨a, xs, rfl, g1, fun hw => ?_, fun _ p hp => ?_⟩
  · refine k _ H3 _ S3 O3 (.tup g1 g2 ?_) A3.sok ev q3
    have e : cutD ds l h = ds := by
      unfold cutD
      rw [← g3.len, hw.1, hw.2, g3.len]
      simp
    rw [e]; exact g3
  · exact k _ _ _ S3 O3 (rp_new A3.sok hp (Nat.le_trans (cutV_length _ _ _) g2) (g3.cut l h)) (A3.sok.new hp) (ev.trans A3.sok (ev_new hp A3.sok)) q3
theorem re_slcG {te : TE} {tl th : TO} {wl wh : Env → Sto → XD → (Option Int → Sto → Prop) → Prop} (ha : RE L K W te wa) (hl : RO L K W tl wl) (hh : RO L K W th wh) : RE L K W (tSl (fun x lo hi H Q => rSlA K x lo hi H Q ∨ rSlL K x lo hi H Q) te tl th) fun ρ S R Q => wa ρ S R fun x S1 => wl ρ S1 R fun l S2 => wh ρ S2 R fun h S3 => match res S3 x with
    | .tup xs => Q (.tup (cutD xs l h)) S3
    | .lst xs => Q (.lst (cutD xs l h)) S3
    | _ => False := fun σ H ρ S O R Q Q' A hw k => by
  refine ha.go A hw fun x H1 dx S1 O1 r1 A1 e1 q1 => ?_
  refine hl.go A1 q1 fun l H2 S2 O2 A2 e2 q2 => ?_
  refine hh.go A2 q2 fun h H3 S3 O3 A3 e3 q3 => ?_
  have r1 := (r1.mono (A1.mo e2)).mono (A2.mo e3)
  have ev := (e1.trans A1.sok e2).trans A2.sok e3
  obtain ⟨hl, ht, _⟩ := seq_of r1 A3.sok
  cases e : res S3 dx <;> rw [e] at q3 <;> try exact q3.elim
  · rename_i ds
    obtain ⟨a, xs, rfl, g1, g2, g3⟩ := ht _ e
    refine .inl ⟨a, xs, rfl, g1, fun hw => ?_, fun _ p hp => ?_⟩
    · refine k _ H3 _ S3 O3 (.tup g1 g2 ?_) A3.sok ev q3
      have e : cutD ds l h = ds := by
        unfold cutD
        rw [← g3.len, hw.1, hw.2, g3.len]
        simp
      rw [e]; exact g3
    · exact k _ _ _ S3 O3 (rp_new A3.sok hp (Nat.le_trans (cutV_length _ _ _) g2) (g3.cut l h)) (A3.sok.new hp) (ev.trans A3.sok (ev_new hp A3.sok)) q3
  · obtain ⟨a, xs, rfl, g1, g2, g3⟩ := hl _ e
    refine .inr ⟨a, xs, rfl, SqL.of g1, fun p hp => ?_⟩
    exact k _ _ _ S3 O3 (.lst upd_same (A3.sok.notO hp) (Nat.le_trans (cutV_length _ _ _) g2) ((g3.cut l h).mono ((ev_new hp A3.sok).mo A3.sok))) (A3.sok.new hp) (ev.trans A3.sok (ev_new hp A3.sok)) q3
def ixD (S : Sto) (x y : D) (P : D → Prop) : Prop := match res S x, y with
    | .tup xs, .int n => ∃ d, atD xs n = some d ∧ P d
    | .lst xs, .int n => ∃ d, atD xs n = some d ∧ P d
    | .scr xs, .int n => ∃ m, L2.atI xs n = some m ∧ P (.int m)
    | _, _ => False
theorem at_of {O : Ow} {H : Hp} {xs : List V} {ds : List D} {n : Int} {d : D} (r : Rps K O H xs ds) (h : atD ds n = some d) : ∃ v, atI xs n = some v ∧ Rp K O H v d := by
  unfold atD atI at h
  unfold atI
  rw [r.len]
  cases e : ixN ds.length n with
  | none => rw [e] at h; cases h
  | some j =>
    rw [e] at h
    exact r.get (i := j) h
theorem hr_ix : ∀ x y dx dy H S O (P : D → Prop) (Q' : VK), Sok K S O H → Rp K O H x dx → Rp K O H y dy → ixD S dx dy P → (∀ v H' d, Rp K O H' v d → Sok K S O H' → Ev S O H S O H' → P d → Q' v H') → rIx K x y H Q' := fun x y dx dy H S O P Q' s rx ry h k => by
  unfold ixD at h
  obtain ⟨hl, ht, hs⟩ := seq_of rx s
  cases e : res S dx <;> rw [e] at h <;> try exact h.elim
  · cases dy <;> try exact h.elim
    cases ry
    obtain ⟨d, hd, q⟩ := h
    obtain ⟨a, xs, rfl, g1, g2, g3⟩ := ht _ e
    obtain ⟨v, hv, rv⟩ := at_of g3 hd
    exact .inr (.inl ⟨a, xs, _, v, rfl, rfl, g1, hv, k v H d rv s .refl q⟩)
  · cases dy <;> try exact h.elim
    cases ry
    obtain ⟨d, hd, q⟩ := h
    obtain ⟨a, xs, rfl, g1, g2, g3⟩ := hl _ e
    obtain ⟨v, hv, rv⟩ := at_of g3 hd
    exact .inl ⟨a, xs, _, v, rfl, rfl, SqL.of g1, hv, k v H d rv s .refl q⟩
  · cases dy <;> try exact h.elim
    cases ry
    obtain ⟨m, hm, q⟩ := h
    obtain ⟨a, rfl, g1⟩ := hs _ e
    refine .inl ⟨a, _, _, .int m, rfl, rfl, g1, ?_, k _ H _ (.int m) s .refl q⟩
    unfold atI at hm ⊢
    rw [List.length_map]
    revert hm
    generalize ixN _ _ = o
    intro hm
    cases o with
    | none => cases hm
    | some j =>
      show (List.map V.int _)[j]? = _
      rw [List.getElem?_map]
      exact congrArg (Option.map V.int) hm
end
end DL

/-! DL6: walks over a list or a tuple, in any mix. -/
namespace PySem
open Sem (wp)
set_option maxHeartbeats 1000000 in
theorem dl_meets_enum1 {v : Value} {o : Obj} {H : Heap → Prop} (B : Begins v o H) :
    Meets (Builtin.«enumerate.__new__» ⟨[.type "enumerate", v], []⟩) (fun _ R s => H s.heap ∧
      R (.ok (.ret (.ref (s.heap.push o).objs.size))) { s with heap := (s.heap.push o).push { cls := .type "enumerate", data := .fields #[.none, .bool false, .ref s.heap.objs.size, rawInt 0, .none, .none] } }) :=
  .of_wp fun prog w A R s h => by
    obtain ⟨hp, g, d, tk, os⟩ := s; obtain ⟨h1, h⟩ := h
    have hsub := sub_enumerate
    have q1 : ∀ {A' : Around} {E : Value → Shared → Prop} {Q : Value → Shared → Prop}, Q (.ref hp.objs.size) ⟨hp.push o, g, d, tk, os⟩ → wpAny (model prog w) A' (pyIter v) Q E ⟨hp, g, d, tk, os⟩ :=
      fun q => B.iter prog w _ _ ⟨hp, g, d, tk, os⟩ _ h1 q
    wp_walk using q1
    refine wpAny_stack_any fun st => wpAny_pure ?_
    split
    · rename_i c _ _ _ _ _
      cases (c == Value.type "enumerate")
      · wp_walk using q1
        exact ⟨_, rfl, h⟩
      · wp_walk using q1
        exact ⟨_, rfl, h⟩
    · wp_walk using q1
      exact ⟨_, rfl, h⟩
section
variable {prog : Program} {w : World} {A : Around} {E : Value → Shared → Prop} {s : Shared}
theorem dl_enum_begins1 {v : Value} {o : Obj} {H : Heap → Prop} {Q : Value → Shared → Prop} (B : Begins v o H) (h1 : H s.heap)
    (h : ∀ h', IsEnum h' (s.heap.objs.size + 1) s.heap.objs.size 0 .none → h'.get? s.heap.objs.size = some o → h'.objs.size = s.heap.objs.size + 2 →
      (∀ b o, s.heap.get? b = some o → h'.get? b = some o) → Q (.ref (s.heap.objs.size + 1)) { s with heap := h' }) :
    wpAny (model prog w) A (call (.type "enumerate") [v]) Q E s := by
  refine callType_new F.called_enumerate (by decide) (F.typeCall_enumerate_1 _) (F.newCall_enumerate_1 _) (fun obj => F.args_object_init_2 obj _) F.entry_enumerate_new
    (dl_meets_enum1 B) ⟨h1, ?_⟩
  have hz : (s.heap.push o).objs.size = s.heap.objs.size + 1 := Heap.size_push ..
  show _ ∧ _
  rw [hz]
  have he : IsEnum ((s.heap.push o).push { cls := .type "enumerate", data := .fields #[.none, .bool false, .ref s.heap.objs.size, rawInt 0, .none, .none] }) (s.heap.objs.size + 1) s.heap.objs.size 0 .none := by
    have := Heap.get?_push_size (s.heap.push o) (o := { cls := .type "enumerate", data := .fields #[.none, .bool false, .ref s.heap.objs.size, rawInt 0, .none, .none] }) rfl
    rw [hz] at this; exact this
  refine ⟨⟨_, he, rfl⟩, h _ he (Heap.get?_push_of_some _ (Heap.get?_push_size _ B.free)) (by rw [Heap.size_push, hz]) fun b o x => Heap.get?_push_of_some _ (Heap.get?_push_of_some _ x)⟩
end
end PySem

namespace DL
open PySem PySem.Spec PyProof.Rows L2
/-- a list (k) or a tuple -/
def Sq (K : PySem.W.Frag) (k : Bool) (H : Hp) (a : Addr) (xs : List V) : Prop := match k with
  | true => SqL K H a xs
  | false => SqT K H a xs
def IsIt (k : Bool) (h : Heap) (it a : Addr) (i : Nat) : Prop := match k with
  | true => h.IsListIter it a i
  | false => h.IsTupleIter it a i
def IsSq (k : Bool) (h : Heap) (a : Addr) (items : Array Value) : Prop := match k with
  | true => h.IsList a items
  | false => h.IsTuple a items
def itObj (k : Bool) (a : Addr) : Obj := match k with
  | true => { cls := .type "list_iterator", data := .fields #[.ref a, .int 0 0] }
  | false => { cls := .type "tuple_iterator", data := .fields #[.ref a, .int 0 0] }
section
variable {X : Cx} {pins : List (Addr × Obj)} {σ : L2.St} {H : Hp} {s : Shared} {k : Bool} {a : Addr} {xs : List V}
theorem inv_sq (I : Inv X pins σ H s) (h : Sq X.K k H a xs) : ∃ its : List Value, Vals xs its ∧ IsSq k s.heap a its.toArray ∧ xs.length ≤ sizeLine := by
  cases k with
  | true => obtain ⟨its, r, p, z⟩ := I.list h; exact ⟨its, r, p.isList, z⟩
  | false => obtain ⟨its, r, p, z⟩ := I.tuple h; exact ⟨its, r, p, z⟩
theorem inv_sq_inj {ys : List V} (I : Inv X pins σ H s) (h : Sq X.K k H a xs) (h' : Sq X.K k H a ys) : xs = ys := by
  cases k with
  | true => exact I.list_inj h h'
  | false => exact I.tuple_inj h h'
theorem sq_lt {items : Array Value} {h : Heap} (x : IsSq k h a items) : a < h.objs.size := by
  cases k with
  | true => obtain ⟨o, e, _⟩ := x; exact Heap.lt_size e
  | false => obtain ⟨o, e, _⟩ := x; exact Heap.lt_size e
theorem begins_sq (items : Array Value) : Begins (.ref a) (itObj k a) fun h => IsSq k h a items := by
  cases k with
  | true => exact begins_list a items
  | false => exact begins_tuple a items
theorem draws_sq {prog : Program} {w : World} {A : Around} (hh : A.handled = none) (it : Addr) (hne : a ≠ it) (items : Array Value) :
    Draws prog w A it [it, a] items.size (fun i v => items[i]? = some v) (fun i h => IsIt k h it a i ∧ IsSq k h a items) := by
  cases k with
  | true => exact Draws.list hh it a hne items
  | false => exact Draws.tuple hh it a hne items
theorem isIt_obj {h : Heap} {it : Addr} {i : Nat} (x : IsIt k h it a i) : ∃ o, h.get? it = some o ∧ ∀ v, o.data ≠ .cell v := by
  cases k with
  | true => obtain ⟨o, e, _, d⟩ := x; exact ⟨o, e, fun v q => by rw [d] at q; cases q⟩
  | false => obtain ⟨o, e, _, d⟩ := x; exact ⟨o, e, fun v q => by rw [d] at q; cases q⟩
theorem isIt_at {h h' : Heap} {it : Addr} {i : Nat} (x : IsIt k h it a i) (hk : ∀ o, h.get? it = some o → h'.get? it = some o) : IsIt k h' it a i := by
  cases k with
  | true => obtain ⟨o, e, r⟩ := x; exact ⟨o, hk o e, r⟩
  | false => obtain ⟨o, e, r⟩ := x; exact ⟨o, hk o e, r⟩
theorem isIt_new {h : Heap} {it : Addr} (e : h.get? it = some (itObj k a)) : IsIt k h it a 0 := by
  cases k with
  | true => exact ⟨_, e, rfl, rfl⟩
  | false => exact ⟨_, e, rfl, rfl⟩
end
/-- enumerate(a) -/
def IteG (K : PySem.W.Frag) (k : Bool) (a : Addr) : L2.It :=
  ⟨fun i H => ∃ xs x, Sq K k H a xs ∧ xs[i]? = some x, fun i H v H' => ∃ T x, v = .ref T ∧ H T = none ∧ H' = upd H T (.tup [.int (i : Nat), x]) ∧ ∀ xs, Sq K k H a xs → xs[i]? = some x, fun i H => ∃ xs, Sq K k H a xs ∧ xs.length = i⟩
theorem turn_enumG {P : Program} {w : World} {K : PySem.W.Frag} {elts : List Expr} {kk : Nat} {tpos : Pos} (k : Bool) (a e it : Addr) (n1 : e ≠ it) (n2 : a ≠ it) (n3 : a ≠ e) :
    Turn P w K (.Tuple elts kk tpos) (IteG K k a) [e, it] e (fun i h => (∃ old, IsEnum h e it ((i : Nat) : Int) old) ∧ IsIt k h it a i) where
  mem := by simp
  obj := fun i h st b hb => by
    obtain ⟨⟨old, he⟩, hi⟩ := st
    have e' : b = e ∨ b = it := by simpa using hb
    rcases e' with z | z
    · rw [z]; exact ⟨_, he, fun v q => nomatch q⟩
    · rw [z]; exact isIt_obj hi
  keep := fun i h h' st hk => let ⟨⟨old, he⟩, hi⟩ := st; ⟨⟨old, hk e (by simp) _ he⟩, isIt_at hi fun o q => hk it (by simp) o q⟩
  item := by
    intro X hP hw hK hc i pins s σ H E I hf st hg
    subst hP hw hK
    obtain ⟨⟨old, he⟩, hit⟩ := st
    obtain ⟨xs, x, hq, hx⟩ := hg
    obtain ⟨its, rv, p, hz⟩ := inv_sq I hq
    obtain ⟨u, hu, ru⟩ := rv.get hx
    have hh : X.A.in1.handled = none := I.ok.hd hc
    have G := GoesN.enumFrom (elts := elts) (x1 := kk) (pos := tpos) 0 (draws_sq (prog := X.prog) (w := X.w) (k := k) hh it n2 its.toArray) e n1 (by simp; exact ⟨n1, fun z => n3 z.symm⟩) (by simp)
    have hi : i < its.toArray.size := by
      have := (List.getElem?_eq_some_iff.mp hu).1
      simpa using this
    refine G.goes i s _ E hi ⟨⟨old, by rw [Int.zero_add]; exact he⟩, hit, p⟩ fun v h' tk hY st' hk htk => ?_
    obtain ⟨T, t, y, rfl, hT, hy, hTup⟩ := hY
    have ey : y = u := by
      have : its.toArray[i]? = some u := by simpa using hu
      rw [this] at hy; cases hy; rfl
    subst ey
    rw [Int.zero_add] at hTup
    have hTn : H T = none := I.hok.fresh hT
    have new : ObjOk X.prog X.w (upd H T (.tup [.int (i : Nat), x])) h' T (.tup [.int (i : Nat), x]) :=
      ⟨by show 2 ≤ sizeLine; decide, [.int i t, y], .cons ⟨_, rfl⟩ (.cons ru .nil), hTup⟩
    have I1 : Inv X pins σ (upd H T (.tup [.int (i : Nat), x])) { s with heap := h', toks := tk } := I.turnedNew (ch := [e, it]) hk hf hT new
    refine ⟨.ref T, _, I1, rfl, ⟨T, x, rfl, hTn, rfl, fun ys hy => by rw [inv_sq_inj I hy hq]; exact hx⟩, ⟨?_, st'.2.1⟩, fun b hb => ?_⟩
    · obtain ⟨old', he'⟩ := st'.1
      rw [Int.zero_add] at he'
      exact ⟨old', he'⟩
    · have hb' : b < s.heap.objs.size := by
        have e' : b = e ∨ b = it := by simpa using hb
        rcases e' with z | z
        · rw [z]; exact Heap.lt_size he
        · rw [z]; obtain ⟨o, q, _⟩ := isIt_obj hit; exact Heap.lt_size q
      rw [upd_ne (Nat.ne_of_lt (Nat.lt_of_lt_of_le hb' hT))]
      exact (hf b hb).1
  done := by
    intro X hP hw hK hc i pins s σ H E I hf st hg
    subst hP hw hK
    obtain ⟨⟨old, he⟩, hit⟩ := st
    obtain ⟨xs, hq, hx⟩ := hg
    obtain ⟨its, rv, p, hz⟩ := inv_sq I hq
    have hh : X.A.handled = none := I.ok.hd hc
    have hl := rv.length
    obtain ⟨f0, f1, f2, f3, f4, f5⟩ := hf it (by simp)
    have D := draws_sq (prog := X.prog) (w := X.w) (A := X.A.in1) (k := k) hh it n2 its.toArray
    have e : its.toArray.size = i := by rw [List.size_toArray]; omega
    exact wpAny_pyNext_enum_endD D he (by rw [e]; exact ⟨hit, p⟩) fun h' eb => ⟨rfl, I.turned (t' := s.toks) (fun b o hb q => eb b o hb q) f0 f1 f3 f4 f5⟩
  self := fun A i s Q E st h => let ⟨⟨_, he⟩, _⟩ := st; wpAny_pyIter_enum he h

def iEnumG (K : PySem.W.Frag) (ta : TA) : TI := fun σ H R => ta σ H fun vs H1 => ∃ k a xs, vs = [.ref a] ∧ Sq K k H1 a xs ∧ R (IteG K k a) H1
theorem pi_enumG {X : Cx} {e : Expr} {ta : TA} {p pos tpos : Pos} {elts : List Expr} {kk : Nat} (hg : Gl X "enumerate") (hm : X.mg "enumerate" = none) (ha : PA X [e] ta) (hs : starEach [e] X.env = [(false, eval e X.env)] := by rfl) :
    PI X (.Tuple elts kk tpos) (.Call (.Name "enumerate" p) [e] [] pos) (iEnumG X.K ta) := by
  refine ⟨fun pins s σ H R I h => ?_⟩
  refine Call_ (ld_blt I hg hm boot_enumerate (PyProof.Rows.callWith_type1 (thn (ha.run pos pins s σ H _ I h) fun us s1 ⟨vs, H1, I1, r1, q1⟩ => ?_) hs rfl))
  obtain ⟨k, a, xs, ex, hq, q⟩ := q1
  subst ex
  cases r1 with
  | cons r rr =>
    cases rr
    cases r
    obtain ⟨its, rv, p', hz⟩ := inv_sq I1 hq
    have la := sq_lt p'
    refine dl_enum_begins1 (begins_sq (k := k) its.toArray) p' fun h' he ho hsz hk => wpAny_pyIter_enum he ?_
    have I2 : Inv X pins σ H1 { s1 with heap := h' } := I1.kept (t' := s1.toks) hk
    refine ⟨s1.heap.objs.size + 1, [s1.heap.objs.size + 1, s1.heap.objs.size], _, _, H1, rfl, I2, turn_enumG k a (s1.heap.objs.size + 1) s1.heap.objs.size (Nat.succ_ne_self _) (Nat.ne_of_lt la) (Nat.ne_of_lt (Nat.lt_succ_of_lt la)), ⟨⟨.none, he⟩, isIt_new ho⟩, fun b hb => ?_, q⟩
    have e' : b = s1.heap.objs.size + 1 ∨ b = s1.heap.objs.size := by simpa using hb
    have hle : s1.heap.objs.size ≤ b := by
      rcases e' with z | z
      · rw [z]; exact Nat.le_add_right _ _
      · rw [z]; exact Nat.le_refl _
    exact I1.fpOk hle (I1.hok.fresh hle)
/-- zip(a, b) -/
def ItzG (K : PySem.W.Frag) (k1 k2 : Bool) (a b : Addr) : L2.It :=
  ⟨fun i H => (∃ xs x, Sq K k1 H a xs ∧ xs[i]? = some x) ∧ ∃ ys y, Sq K k2 H b ys ∧ ys[i]? = some y,
   fun i H v H' => ∃ T x y, v = .ref T ∧ H T = none ∧ H' = upd H T (.tup [x, y]) ∧ (∀ xs, Sq K k1 H a xs → xs[i]? = some x) ∧ ∀ ys, Sq K k2 H b ys → ys[i]? = some y,
   fun i H => ∃ xs ys, Sq K k1 H a xs ∧ Sq K k2 H b ys ∧ min xs.length ys.length = i⟩
theorem turn_zipG {P : Program} {w : World} {K : PySem.W.Frag} {elts : List Expr} {kk : Nat} {tpos : Pos} {k1 k2 : Bool} {a b z TI TO i1 i2 : Addr} (D : ZipSep2 z TI TO i1 i2 [i1, a] [i2, b]) (na : a ≠ i1) (nb : b ≠ i2) :
    Turn P w K (.Tuple elts kk tpos) (ItzG K k1 k2 a b) [z, TI, TO, i1, i2] z (fun i h => IsZip h z TI TO .none ∧ IsTupOf2 h TI (.ref i1) (.ref i2) ∧ (∃ x y, IsTupOf2 h TO x y) ∧ IsIt k1 h i1 a i ∧ IsIt k2 h i2 b i) where
  mem := by simp
  obj := fun i h st c hc => by
    obtain ⟨hz, hT, ⟨_, _, hO⟩, h1, h2⟩ := st
    have e' : c = z ∨ c = TI ∨ c = TO ∨ c = i1 ∨ c = i2 := by simpa using hc
    rcases e' with q | q | q | q | q
    · rw [q]; exact ⟨_, hz, fun v q => nomatch q⟩
    · rw [q]; exact ⟨_, hT, fun v q => nomatch q⟩
    · rw [q]; exact ⟨_, hO, fun v q => nomatch q⟩
    · rw [q]; exact isIt_obj h1
    · rw [q]; exact isIt_obj h2
  keep := fun i h h' st hk => let ⟨hz, hT, ⟨x, y, hO⟩, h1, h2⟩ := st
    ⟨hk z (by simp) _ hz, hk TI (by simp) _ hT, ⟨x, y, hk TO (by simp) _ hO⟩, isIt_at h1 fun o q => hk i1 (by simp) o q, isIt_at h2 fun o q => hk i2 (by simp) o q⟩
  item := by
    intro X hP hw hK hc i pins s σ H E I hf st hg
    subst hP hw hK
    obtain ⟨hz, hT, hO, h1, h2⟩ := st
    obtain ⟨⟨xs, x, hq, hx⟩, ys, y, hq2, hy⟩ := hg
    obtain ⟨its, rv, p, _⟩ := inv_sq I hq
    obtain ⟨its2, rv2, p2, _⟩ := inv_sq I hq2
    obtain ⟨u, hu, ru⟩ := rv.get hx
    obtain ⟨u2, hu2, ru2⟩ := rv2.get hy
    have hh : X.A.in1.handled = none := I.ok.hd hc
    have G := GoesN.zip2 (elts := elts) (x1 := kk) (pos := tpos) D (draws_sq (prog := X.prog) (w := X.w) (k := k1) hh i1 na its.toArray) (draws_sq (prog := X.prog) (w := X.w) (k := k2) hh i2 nb its2.toArray)
    have hi : i < min its.toArray.size its2.toArray.size := by
      have a1 := (List.getElem?_eq_some_iff.mp hu).1
      have a2 := (List.getElem?_eq_some_iff.mp hu2).1
      rw [List.size_toArray, List.size_toArray]; omega
    refine G.goes i s _ E hi ⟨hz, hT, hO, ⟨h1, p⟩, ⟨h2, p2⟩⟩ fun v h' tk hY st' hk htk => ?_
    obtain ⟨T, v1, v2, rfl, hTs, hv1, hv2, hTup⟩ := hY
    have e1 : v1 = u := by
      have : its.toArray[i]? = some u := by simpa using hu
      rw [this] at hv1; cases hv1; rfl
    have e2 : v2 = u2 := by
      have : its2.toArray[i]? = some u2 := by simpa using hu2
      rw [this] at hv2; cases hv2; rfl
    subst e1 e2
    have hTn : H T = none := I.hok.fresh hTs
    have new : ObjOk X.prog X.w (upd H T (.tup [x, y])) h' T (.tup [x, y]) := ⟨by show 2 ≤ sizeLine; decide, [v1, v2], .cons ru (.cons ru2 .nil), hTup⟩
    have I1 : Inv X pins σ (upd H T (.tup [x, y])) { s with heap := h', toks := tk } := I.turnedNew (ch := [z, TO, i1, i2]) hk (fun c hc => hf c (by
      have e' : c = z ∨ c = TO ∨ c = i1 ∨ c = i2 := by simpa using hc
      rcases e' with q | q | q | q <;> rw [q] <;> simp)) hTs new
    refine ⟨.ref T, _, I1, rfl, ⟨T, x, y, rfl, hTn, rfl, fun zs hs => by rw [inv_sq_inj I hs hq]; exact hx, fun zs hs => by rw [inv_sq_inj I hs hq2]; exact hy⟩, ⟨st'.1, st'.2.1, st'.2.2.1, st'.2.2.2.1.1, st'.2.2.2.2.1⟩, fun c hc => ?_⟩
    have hb' : c < s.heap.objs.size := by
      have e' : c = z ∨ c = TI ∨ c = TO ∨ c = i1 ∨ c = i2 := by simpa using hc
      rcases e' with q | q | q | q | q
      · rw [q]; exact Heap.lt_size hz
      · rw [q]; exact Heap.lt_size hT
      · rw [q]; obtain ⟨_, _, hO⟩ := hO; exact Heap.lt_size hO
      · rw [q]; obtain ⟨o, q, _⟩ := isIt_obj h1; exact Heap.lt_size q
      · rw [q]; obtain ⟨o, q, _⟩ := isIt_obj h2; exact Heap.lt_size q
    rw [upd_ne (Nat.ne_of_lt (Nat.lt_of_lt_of_le hb' hTs))]
    exact (hf c hc).1
  done := by
    intro X hP hw hK hc i pins s σ H E I hf st hg
    subst hP hw hK
    obtain ⟨hz, hT, hO, h1, h2⟩ := st
    obtain ⟨xs, ys, hq, hq2, hl⟩ := hg
    obtain ⟨its, rv, p, _⟩ := inv_sq I hq
    obtain ⟨its2, rv2, p2, _⟩ := inv_sq I hq2
    have l1 := rv.length
    have l2 := rv2.length
    have hh : X.A.in1.handled = none := I.ok.hd hc
    have G := GoesN.zip2 (elts := elts) (x1 := kk) (pos := tpos) D (draws_sq (prog := X.prog) (w := X.w) (k := k1) hh i1 na its.toArray) (draws_sq (prog := X.prog) (w := X.w) (k := k2) hh i2 nb its2.toArray)
    have e : min its.toArray.size its2.toArray.size = i := by rw [List.size_toArray, List.size_toArray]; omega
    refine G.stops s _ E (by rw [e]; exact ⟨hz, hT, hO, ⟨h1, p⟩, ⟨h2, p2⟩⟩) fun h' tk hk htk => ?_
    exact I.turnedL (ch := [z, TO, i1, i2]) hk (fun c hc => hf c (by
      have e' : c = z ∨ c = TO ∨ c = i1 ∨ c = i2 := by simpa using hc
      rcases e' with q | q | q | q <;> rw [q] <;> simp))
  self := fun A i s Q E st h => wpAny_pyIter_zip st.1 h
def iZipG (K : PySem.W.Frag) (ta : TA) : TI := fun σ H R => ta σ H fun vs H1 => ∃ k1 k2 a b xs ys, vs = [.ref a, .ref b] ∧ Sq K k1 H1 a xs ∧ Sq K k2 H1 b ys ∧ R (ItzG K k1 k2 a b) H1
theorem pi_zipG {X : Cx} {e e2 : Expr} {ta : TA} {p pos tpos : Pos} {elts : List Expr} {kk : Nat} (hg : Gl X "zip") (hm : X.mg "zip" = none) (ha : PA X [e, e2] ta)
    (hs : starEach [e, e2] X.env = (false, eval e X.env) :: starEach [e2] X.env) (hpl : (backTo pos (starEach [e2] X.env)).any (·.1) = false) :
    PI X (.Tuple elts kk tpos) (.Call (.Name "zip" p) [e, e2] [] pos) (iZipG X.K ta) := by
  refine ⟨fun pins s σ H R I h => ?_⟩
  refine Call_ (ld_blt I hg hm PyProof.Rows.boot_zip (PyProof.Rows.callWith_type1 (thn (ha.run pos pins s σ H _ I h) fun us s1 ⟨vs, H1, I1, r1, q1⟩ => ?_) hs hpl))
  obtain ⟨k1, k2, a, b, xs, ys, ex, hqx, hqy, q⟩ := q1
  subst ex
  cases r1 with
  | cons r rr =>
    cases rr with
    | cons r' rr =>
      cases rr
      cases r
      cases r'
      obtain ⟨its, rv, p1, _⟩ := inv_sq I1 hqx
      obtain ⟨its2, rv2, p2, _⟩ := inv_sq I1 hqy
      have la := sq_lt p1
      have lb := sq_lt p2
      refine zip_begins2 (begins_sq (k := k1) its.toArray) (begins_sq (k := k2) its2.toArray) p1 p2 fun h' hz hTI hTO h1 h2 hsz hk => wpAny_pyIter_zip hz ?_
      have I2 : Inv X pins σ H1 { s1 with heap := h' } := I1.kept (t' := s1.toks) hk
      have D : ZipSep2 (s1.heap.objs.size + 4) (s1.heap.objs.size + 2) (s1.heap.objs.size + 3) s1.heap.objs.size (s1.heap.objs.size + 1) [s1.heap.objs.size, a] [s1.heap.objs.size + 1, b] := zip_sep2 (fun c hc => by rw [List.mem_singleton.mp hc]; exact la) (fun c hc => by rw [List.mem_singleton.mp hc]; exact lb)
      refine ⟨s1.heap.objs.size + 4, [s1.heap.objs.size + 4, s1.heap.objs.size + 2, s1.heap.objs.size + 3, s1.heap.objs.size, s1.heap.objs.size + 1], _, _, H1, rfl, I2, turn_zipG D (Nat.ne_of_lt la) (Nat.ne_of_lt (Nat.lt_succ_of_lt lb)), ⟨hz, hTI, ⟨_, _, hTO⟩, isIt_new h1, isIt_new h2⟩, fun c hcm => ?_, q⟩
      have e' : c = s1.heap.objs.size + 4 ∨ c = s1.heap.objs.size + 2 ∨ c = s1.heap.objs.size + 3 ∨ c = s1.heap.objs.size ∨ c = s1.heap.objs.size + 1 := by simpa using hcm
      have hle : s1.heap.objs.size ≤ c := by
        rcases e' with z | z | z | z | z
        · rw [z]; exact Nat.le_add_right _ _
        · rw [z]; exact Nat.le_add_right _ _
        · rw [z]; exact Nat.le_add_right _ _
        · rw [z]; exact Nat.le_refl _
        · rw [z]; exact Nat.le_add_right _ _
      exact I1.fpOk hle (I1.hok.fresh hle)
/-- a list or a tuple -/
def iSeqG (K : PySem.W.Frag) (tl : TE) : TI := fun σ H R => tl σ H fun x H1 => ∃ a, x = .ref a ∧ (((∃ xs, SqL K H1 a xs) ∧ R (Itl K a) H1) ∨ ((∃ xs, SqT K H1 a xs) ∧ R (Itt K a) H1))
theorem pi_seqG {X : Cx} {tg l : Expr} {tl : TE} (hl : PE X l tl) : PI X tg l (iSeqG X.K tl) := by
  refine ⟨fun pins s σ H R I h => ?_⟩
  refine thn (hl.run pins s σ H _ I h) fun v s1 ⟨x, H1, I1, r1, q1⟩ => ?_
  obtain ⟨a, e, q⟩ := q1
  subst e
  cases r1
  rcases q with ⟨⟨xs, hq⟩, q⟩ | ⟨⟨xs, hq⟩, q⟩
  · obtain ⟨its, rv, p, hz⟩ := I1.list hq
    refine wpAny_pyIter_list p.isList ?_
    refine ⟨s1.heap.objs.size, [s1.heap.objs.size], _, _, H1, rfl, I1.kept (t' := s1.toks) fun b o e => Heap.get?_push_of_some _ e, turn_list a _, ⟨_, Heap.get?_push_size _ rfl, rfl, rfl⟩, fun b hb => ?_, q⟩
    have e : b = s1.heap.objs.size := by simpa using hb
    subst e
    exact I1.fpOk (Nat.le_refl _) (I1.hok.fresh (Nat.le_refl _))
  · obtain ⟨its, rv, p, hz⟩ := I1.tuple hq
    refine wpAny_pyIter_tuple (show s1.heap.IsTuple a its.toArray from p) ?_
    refine ⟨s1.heap.objs.size, [s1.heap.objs.size], _, _, H1, rfl, I1.kept (t' := s1.toks) fun b o e => Heap.get?_push_of_some _ e, turn_tuple a _, ⟨_, Heap.get?_push_size _ rfl, rfl, rfl⟩, fun b hb => ?_, q⟩
    have e : b = s1.heap.objs.size := by simpa using hb
    subst e
    exact I1.fpOk (Nat.le_refl _) (I1.hok.fresh (Nat.le_refl _))
end DL

/-! DL7: what is walked as data; comprehensions; targets. -/
namespace DL
open PySem PySem.Spec PyProof.Rows L2
/-- the turns of a walk are the items ds, while C holds of the store -/
structure ItOk (K : PySem.W.Frag) (J : L2.It) (ds : List D) (C : Sto → Prop) (O0 : Ow) (H0 : Hp) : Prop where
  go : ∀ i S O H, Sok K S O H → Mo O0 H0 O H → C S → i < ds.length → J.go i H ∧ ∀ x H', J.yld i H x H' → ∃ d, ds[i]? = some d ∧ Rp K O H' x d ∧ Sok K S O H' ∧ Ev S O H S O H'
  stop : ∀ i S O H, Sok K S O H → Mo O0 H0 O H → C S → ds.length = i → J.stop i H
abbrev WI := Env → Sto → XD → (List D → (Sto → Prop) → Sto → Prop) → Prop
def RI (L : Lnk) (K : PySem.W.Frag) (W : WX) (t : TI) (w : WI) : Prop :=
  ∀ (σ : L2.St) (H : Hp) (ρ : Env) (S : Sto) (O : Ow) (R : XD) (Q : List D → (Sto → Prop) → Sto → Prop) (R' : L2.It → Hp → Prop), At L K W σ H ρ S O R → w ρ S R Q →
    (∀ J H' ds C S' O', ItOk K J ds C O' H' → ds.length ≤ sizeLine → Sok K S' O' H' → Ev S O H S' O' H' → Q ds C S' → R' J H') → t σ H R'
def tOI (L : Lnk) (K : PySem.W.Frag) (W : WX) (w : WI) : TI := fun σ H R' => ∃ ρ S O R, ∃ Q : List D → (Sto → Prop) → Sto → Prop, At L K W σ H ρ S O R ∧ w ρ S R Q ∧ ∀ J H' ds C S' O', ItOk K J ds C O' H' → ds.length ≤ sizeLine → Sok K S' O' H' → Ev S O H S' O' H' → Q ds C S' → R' J H'
/-! ### a, b, .. = a list of that length -/
section
variable {prog : Program} {w : World} {A : Around} {E : Value → Shared → Prop} {s : Shared}
theorem draw_lst {it t : Addr} {items : Array Value} (hne : t ≠ it) : ∀ (n i : Nat) (s : Shared) (Q : List Value → Shared → Prop), s.heap.IsListIter it t i → s.heap.IsList t items → i + n ≤ items.size →
    (∀ h' : Heap, h'.IsListIter it t (i + n) → Heap.SameBut it s.heap h' → Q ((items.toList.drop i).take n) { s with heap := h' }) → wpAny (model prog w) A (draw (.ref it) n) Q E s
  | 0, i, s, Q, hit, _, _, hQ => by
    show wpAny _ _ (pure []) Q E s
    exact wpAny_pure (by simpa using hQ s.heap hit (Heap.SameBut.refl ..))
  | n + 1, i, s, Q, hit, ht, hle, hQ => by
    have hlt : i < items.size := by omega
    show wpAny _ _ (pyNext (.ref it) >>= _) Q E s
    refine wpAny_bind (wpAny_pyNext_list_item hit ht (x := items[i]) (by simp [hlt]) fun h₁ hit₁ hs₁ => ?_)
    refine wpAny_bind (wpAny_holding (draw_lst hne n (i + 1) _ _ hit₁ (ht.extBut hs₁.extBut hne) (by omega) fun h₂ hit₂ hs₂ => wpAny_pure ?_))
    have hd : items.toList.drop i = items[i] :: items.toList.drop (i + 1) := by simp [List.drop_eq_getElem_cons, hlt]
    have := hQ h₂ (by rw [show i + (n + 1) = i + 1 + n by omega]; exact hit₂) (hs₁.trans hs₂)
    rw [hd, List.take_succ_cons] at this
    exact this
theorem unpackItems_lst {t : Addr} {items : Array Value} {Q : List Value → Shared → Prop} (hh : A.handled = none) (ht : s.heap.IsList t items)
    (hQ : ∀ h', Heap.ExtBut s.heap.objs.size s.heap h' → Q items.toList { s with heap := h' }) : wpAny (model prog w) A (unpackItems (.ref t) items.size none) Q E s := by
  have hlt : t ≠ s.heap.objs.size := by obtain ⟨o, ho, _⟩ := ht; exact Nat.ne_of_lt (Heap.lt_size ho)
  unfold unpackItems
  refine wpAny_bind ?_
  · unfold notIterableAtAll
    refine wpAny_bind (wpAny_specialOf ht.typeIs slot_list_iter.lookup ?_)
    refine wpAny_pure ?_
    simp only [Bool.false_eq_true, if_false]
    refine wpAny_bind (wpAny_holding (wpAny_pyIter_list ht ?_))
    refine wpAny_bind (wpAny_holding (draw_lst hlt items.size 0 _ _ ⟨_, Heap.get?_push_size _ rfl, rfl, rfl⟩ (ht.push _) (by omega) fun h₁ hit₁ hs₁ => ?_))
    have hall : List.take items.size (List.drop 0 items.toList) = items.toList := by
      rw [List.drop_zero]; exact List.take_of_length_le (by simp)
    rw [hall]
    rw [if_neg (by simp)]
    have ht₁ : h₁.IsList t items := (ht.push _).extBut hs₁.extBut hlt
    refine wpAny_bind (wpAny_holding (wpAny_pyNext_list_end hh hit₁ ht₁ (by simp) fun h₂ he₂ => ?_))
    simp only [Option.isSome_none, Bool.false_eq_true, if_false]
    refine wpAny_pure (hQ h₂ fun b o hb e => he₂ b o hb (hs₁.extBut b o hb (Heap.get?_push_of_some _ e)))
theorem assign_Tuple_lst {env : PySem.Env} {elts : List Expr} {x1} {pos : Pos} {t : Addr} {items : Array Value} {Q : Unit → Shared → Prop} (hh : A.handled = none) (ht : s.heap.IsList t items)
    (hn : (assignEach elts env).length = items.size) (hstar : (assignEach elts env).findIdx? (·.1) = none)
    (h : ∀ h', Heap.ExtBut s.heap.objs.size s.heap h' → wpAny (model prog w) A (assignInOrder ((assignEach elts env).map (·.2)) items.toList) Q E { s with heap := h' }) :
    wpAny (model prog w) A (assign (.Tuple elts x1 pos) env (.ref t)) Q E s := by
  rw [assign_Tuple]
  refine wpAny_bind (wpAny_standAt ?_)
  unfold unpack
  rw [hn, hstar]
  exact wpAny_bind (wpAny_holding (unpackItems_lst hh ht h))
end
/-- (a, b, ..) = a tuple or a list of that length -/
def gSeq (K : PySem.W.Frag) (n : Nat) (t : TGs) : TG := fun v σ H Q => ∃ a xs, v = .ref a ∧ (SqT K H a xs ∨ SqL K H a xs) ∧ xs.length = n ∧ t xs σ H Q
theorem pg_seq {X : Cx} {es : List Expr} {k : Nat} {pos : Pos} {t : TGs} {n : Nat} (hc : X.calm = true) (h : PGs X es t)
    (hn : (assignEach es X.env).length = n := by rfl) (hst : (assignEach es X.env).findIdx? (·.1) = none := by rfl) : PG X (.Tuple es k pos) (gSeq X.K n t) := by
  refine ⟨fun pins s σ H v u Q I r hw => ?_⟩
  obtain ⟨a, xs, e1, hq, hl, hw⟩ := hw
  subst e1
  cases r
  rcases hq with hq | hq
  · obtain ⟨its, rv, ht, hz⟩ := I.tuple hq
    refine assign_Tuple_tuple (I.ok.hd hc) ht (by simp [hn, ← hl, rv.length]) hst fun h' hx => ?_
    have I1 : Inv X pins σ H { s with heap := h' } := I.kept (t' := s.toks) fun b o e => hx b o (Nat.ne_of_lt (Heap.lt_size e)) e
    exact h.run pins _ σ H xs _ Q I1 (by simpa using rv) hw
  · obtain ⟨its, rv, ht, hz⟩ := I.list hq
    refine assign_Tuple_lst (I.ok.hd hc) ht.isList (by simp [hn, ← hl, rv.length]) hst fun h' hx => ?_
    have I1 : Inv X pins σ H { s with heap := h' } := I.kept (t' := s.toks) fun b o e => hx b o (Nat.ne_of_lt (Heap.lt_size e)) e
    exact h.run pins _ σ H xs _ Q I1 (by simpa using rv) hw
section
variable {L : Lnk} {K : PySem.W.Frag} {W : WX} {X : Cx} {w wa wb wc : WE'} {ta tb tc : TE}
theorem ri_tO {w : WI} : RI L K W (tOI L K W w) w := fun σ H ρ S O R Q Q' A hw k => ⟨ρ, S, O, R, Q, A, hw, k⟩
theorem _root_.L2.PI.can {tg e : Expr} {t : TI} {w : WI} (h : PI X tg e t) (r : RI L K W t w) : PI X tg e (tOI L K W w) := ⟨fun pins s σ H R' I ⟨ρ, S, O, R, Q, A, hw, k⟩ => h.run pins s σ H R' I (r σ H ρ S O R Q R' A hw k)⟩
theorem rangeD_get {i c : Int} {n k : Nat} (h : k < n) : (rangeD i c n)[k]? = some (.int (i + (k : Nat) * c)) := by
  unfold rangeD
  rw [List.getElem?_map, List.getElem?_range h]; rfl
theorem rangeD_len {i c : Int} {n : Nat} : (rangeD i c n).length = n := by unfold rangeD; simp
theorem itOk_r {lo : Int} {n : Nat} {O : Ow} {H : Hp} : ItOk K (Itr lo n) (rangeD lo 1 n) (fun _ => True) O H where
  go := fun i S O H s m _ hi => by
    rw [rangeD_len] at hi
    refine ⟨hi, fun x H' y => ?_⟩
    obtain ⟨rfl, rfl⟩ := y
    exact ⟨_, rangeD_get hi, by rw [Int.mul_one]; exact .int _, s, .refl⟩
  stop := fun i S O H s m _ hi => by rw [rangeD_len] at hi; exact Nat.le_of_eq hi
theorem itOk_c {lo c : Int} {n : Nat} {O : Ow} {H : Hp} : ItOk K (Itc lo c n) (rangeD lo c n) (fun _ => True) O H where
  go := fun i S O H s m _ hi => by
    rw [rangeD_len] at hi
    refine ⟨hi, fun x H' y => ?_⟩
    obtain ⟨rfl, rfl⟩ := y
    exact ⟨_, rangeD_get hi, .int _, s, .refl⟩
  stop := fun i S O H s m _ hi => by rw [rangeD_len] at hi; exact Nat.le_of_eq hi
theorem ri_rng1 (ha : RE L K W ta wa) : RI L K W (iRng1 (tCons ta tNil)) fun ρ S R Q => wa ρ S R fun x S1 => ∃ j : Int, x = .int j ∧ -(2 ^ 62) ≤ j ∧ j ≤ 16777216 ∧ Q (rangeD 0 1 j.toNat) (fun _ => True) S1 := fun σ H ρ S O R Q Q' A hw k => by
  refine ha.go A hw fun x H1 dx S1 O1 r1 A1 e1 q1 => ?_
  obtain ⟨j, rfl, h1, h2, q⟩ := q1
  cases r1
  exact ⟨j, rfl, h1, by omega, k _ H1 _ _ S1 O1 itOk_r (by rw [rangeD_len, sizeLine_eq]; omega) A1.sok e1 q⟩
theorem ri_rng2 (ha : RE L K W ta wa) (hb : RE L K W tb wb) : RI L K W (iRng2 (tCons ta (tCons tb tNil))) fun ρ S R Q => wa ρ S R fun x S1 => wb ρ S1 R fun y S2 => ∃ i j : Int, x = .int i ∧ y = .int j ∧ (-(2 ^ 62) ≤ i ∧ i < 2 ^ 62 ∧ -(2 ^ 62) ≤ j ∧ j < 2 ^ 62) ∧ j - i ≤ 16777216 ∧ Q (rangeD i 1 (j - i).toNat) (fun _ => True) S2 := fun σ H ρ S O R Q Q' A hw k => by
  refine ha.go A hw fun x H1 dx S1 O1 r1 A1 e1 q1 => ?_
  refine hb.go A1 q1 fun y H2 dy S2 O2 r2 A2 e2 q2 => ?_
  obtain ⟨i, j, rfl, rfl, h1, h2, q⟩ := q2
  cases r1; cases r2
  exact ⟨i, j, rfl, h1, k _ H2 _ _ S2 O2 itOk_r (by rw [rangeD_len, sizeLine_eq]; omega) A2.sok (e1.trans A1.sok e2) q⟩
theorem ri_rng3 (ha : RE L K W ta wa) (hb : RE L K W tb wb) (hc : RE L K W tc wc) : RI L K W (iRng3 (tCons ta (tCons tb (tCons tc tNil)))) fun ρ S R Q => wa ρ S R fun x S1 => wb ρ S1 R fun y S2 => wc ρ S2 R fun z S3 => ∃ (i j c : Int) (n : Nat), x = .int i ∧ y = .int j ∧ z = .int c ∧ RgC i j c n ∧ n ≤ sizeLine ∧ Q (rangeD i c n) (fun _ => True) S3 := fun σ H ρ S O R Q Q' A hw k => by
  refine ha.go A hw fun x H1 dx S1 O1 r1 A1 e1 q1 => ?_
  refine hb.go A1 q1 fun y H2 dy S2 O2 r2 A2 e2 q2 => ?_
  refine hc.go A2 q2 fun z H3 dz S3 O3 r3 A3 e3 q3 => ?_
  obtain ⟨i, j, c, n, rfl, rfl, rfl, h1, h2, q⟩ := q3
  cases r1; cases r2; cases r3
  exact ⟨i, j, c, n, rfl, h1, k _ H3 _ _ S3 O3 itOk_c (by rw [rangeD_len]; exact h2) A3.sok ((e1.trans A1.sok e2).trans A2.sok e3) q⟩

/-! ### lists and tuples walked -/
/-- a sequence by data: a list or a tuple at a, its items at every later state -/
theorem sq_of {v : V} {d : D} {S : Sto} {O : Ow} {H : Hp} {k : List D → (Sto → Prop) → Prop} (r : Rp K O H v d) (s : Sok K S O H) (h : seqD S d k) : ∃ a b ds C, v = .ref a ∧ C S ∧ ds.length ≤ sizeLine ∧
    (∀ S' O' H', Sok K S' O' H' → Mo O H O' H' → C S' → ∃ xs, Sq K b H' a xs ∧ Rps K O' H' xs ds) ∧ k ds C := by
  cases d with
  | tup ds =>
    cases r with
    | tup h1 z h2 => exact ⟨_, false, ds, fun _ => True, rfl, trivial, by rw [← h2.len]; exact z, fun S' O' H' _ m _ => ⟨_, m.sqT h1, h2.mono m⟩, h⟩
  | lst ds =>
    cases r with
    | lst h1 n z h2 => exact ⟨_, true, ds, fun _ => True, rfl, trivial, by rw [← h2.len]; exact z, fun S' O' H' _ m _ => ⟨_, SqL.of (m.k _ _ h1 n), h2.mono m⟩, h⟩
  | scr ns =>
    cases r with
    | scr z h1 => exact ⟨_, true, ns.map .int, fun _ => True, rfl, trivial, by rw [List.length_map]; exact z, fun S' O' H' _ m _ => ⟨_, .inl (.inr ⟨_, m.t _ _ h1 (.inr ⟨_, _, rfl⟩)⟩), Rps.ofInts ns⟩, h⟩
    | scrK z h1 => exact ⟨_, true, ns.map .int, fun _ => True, rfl, trivial, by rw [List.length_map]; exact z, fun S' O' H' _ m _ => ⟨_, h1 _, Rps.ofInts ns⟩, h⟩
  | ref p =>
    cases r
    unfold seqD at h
    cases q : S p with
    | none => simp only [q] at h
    | some o =>
      cases o with
      | lst ds =>
        simp only [q] at h
        obtain ⟨_, xs, h1, z, h2⟩ := s.dom _ _ q
        refine ⟨p, true, ds, fun S' => S' p = some (.lst ds), rfl, q, by rw [← h2.len]; exact z, fun S' O' H' s' m c => ?_, h⟩
        obtain ⟨_, ys, g1, _, g2⟩ := s'.dom _ _ c
        exact ⟨ys, SqL.of g1, g2⟩
      | _ => simp only [q] at h
  | _ => exact h.elim
theorem itOk_seq {b : Bool} {a : Addr} {ds : List D} {C : Sto → Prop} {O : Ow} {H : Hp} (h : ∀ S' O' H', Sok K S' O' H' → Mo O H O' H' → C S' → ∃ xs, Sq K b H' a xs ∧ Rps K O' H' xs ds) : ItOk K (if b = true then Itl K a else Itt K a) ds C O H := by
  cases b with
  | true =>
    refine ⟨fun i S O' H' s m c hi => ?_, fun i S O' H' s m c hi => ?_⟩
    · obtain ⟨xs, hq, hr⟩ := h S O' H' s m c
      obtain ⟨v, hv, rv⟩ := hr.get (i := i) (List.getElem?_eq_getElem hi)
      refine ⟨⟨xs, v, hq, hv⟩, fun x H2 y => ?_⟩
      obtain ⟨rfl, y⟩ := y
      have := y xs hq
      rw [hv] at this; cases this
      exact ⟨_, List.getElem?_eq_getElem hi, rv, s, .refl⟩
    · obtain ⟨xs, hq, hr⟩ := h S O' H' s m c
      exact ⟨xs, hq, by rw [hr.len]; exact Nat.le_of_eq hi⟩
  | false =>
    refine ⟨fun i S O' H' s m c hi => ?_, fun i S O' H' s m c hi => ?_⟩
    · obtain ⟨xs, hq, hr⟩ := h S O' H' s m c
      obtain ⟨v, hv, rv⟩ := hr.get (i := i) (List.getElem?_eq_getElem hi)
      refine ⟨⟨xs, v, hq, hv⟩, fun x H2 y => ?_⟩
      obtain ⟨rfl, y⟩ := y
      have := y xs hq
      rw [hv] at this; cases this
      exact ⟨_, List.getElem?_eq_getElem hi, rv, s, .refl⟩
    · obtain ⟨xs, hq, hr⟩ := h S O' H' s m c
      exact ⟨xs, hq, by rw [hr.len]; exact Nat.le_of_eq hi⟩
theorem ri_seq (ha : RE L K W ta wa) : RI L K W (iSeqG K ta) fun ρ S R Q => wa ρ S R fun x S1 => seqD S1 x fun ds C => Q ds C S1 := fun σ H ρ S O R Q Q' A hw k => by
  refine ha.go A hw fun x H1 dx S1 O1 r1 A1 e1 q1 => ?_
  obtain ⟨a, b, ds, C, rfl, c, z, h, q⟩ := sq_of r1 A1.sok q1
  have I := itOk_seq h
  obtain ⟨xs, hq, hr⟩ := h S1 O1 H1 A1.sok Mo.refl c
  cases b with
  | true => exact ⟨a, rfl, .inl ⟨⟨xs, hq⟩, k _ H1 ds C S1 O1 I z A1.sok e1 q⟩⟩
  | false => exact ⟨a, rfl, .inr ⟨⟨xs, hq⟩, k _ H1 ds C S1 O1 I z A1.sok e1 q⟩⟩
theorem enumD_len : ∀ (n : Nat) (ds : List D), (enumD n ds).length = ds.length
  | _, [] => rfl
  | n, _ :: r => by rw [enumD, List.length_cons, List.length_cons, enumD_len (n + 1) r]
theorem enumD_get : ∀ (n : Nat) (ds : List D) (i : Nat) (d : D), ds[i]? = some d → (enumD n ds)[i]? = some (.tup [.int ((n + i : Nat) : Int), d])
  | n, d :: r, 0, _, e => by cases e; rfl
  | n, _ :: r, i + 1, d, e => by
    have := enumD_get (n + 1) r i d e
    rw [show n + 1 + i = n + (i + 1) by omega] at this
    exact this
theorem ev_new' {S : Sto} {O : Ow} {H : Hp} {T : Addr} {u : HO} (s : Sok K S O H) (h : H T = none) : Sok K S O (upd H T u) ∧ Ev S O H S O (upd H T u) := ⟨s.new h, ev_new h s⟩
theorem ri_enum (ha : RE L K W ta wa) : RI L K W (iEnumG K (tCons ta tNil)) fun ρ S R Q => wa ρ S R fun x S1 => seqD S1 x fun ds C => Q (enumD 0 ds) C S1 := fun σ H ρ S O R Q Q' A hw k => by
  refine ha.go A hw fun x H1 dx S1 O1 r1 A1 e1 q1 => ?_
  obtain ⟨a, b, ds, C, rfl, c, z, h, q⟩ := sq_of r1 A1.sok q1
  obtain ⟨xs, hq, hr⟩ := h S1 O1 H1 A1.sok Mo.refl c
  refine ⟨b, a, xs, rfl, hq, k _ H1 _ C S1 O1 ⟨fun i S O H' s m c hi => ?_, fun i S O H' s m c hi => ?_⟩ (by rw [enumD_len]; exact z) A1.sok e1 q⟩
  · rw [enumD_len] at hi
    obtain ⟨ys, hq, hr⟩ := h S O H' s m c
    obtain ⟨v, hv, rv⟩ := hr.get (i := i) (List.getElem?_eq_getElem hi)
    refine ⟨⟨ys, v, hq, hv⟩, fun x H2 y => ?_⟩
    obtain ⟨T, x', rfl, hT, rfl, y⟩ := y
    have := y ys hq
    rw [hv] at this; cases this
    refine ⟨_, enumD_get 0 ds i _ (List.getElem?_eq_getElem hi), ?_, s.new hT, ev_new hT s⟩
    rw [Nat.zero_add]
    exact rp_new s hT (by show 2 ≤ sizeLine; decide) (.cons (.int _) (.cons rv .nil))
  · rw [enumD_len] at hi
    obtain ⟨ys, hq, hr⟩ := h S O H' s m c
    exact ⟨ys, hq, by rw [hr.len]; exact hi⟩
theorem zipD_len (xs ys : List D) : (zipD xs ys).length = min xs.length ys.length := by unfold zipD; simp
theorem zipD_get {xs ys : List D} {i : Nat} {x y : D} (h1 : xs[i]? = some x) (h2 : ys[i]? = some y) : (zipD xs ys)[i]? = some (.tup [x, y]) := by
  unfold zipD
  rw [List.getElem?_zipWith, h1, h2]
theorem ri_zip (ha : RE L K W ta wa) (hb : RE L K W tb wb) : RI L K W (iZipG K (tCons ta (tCons tb tNil))) fun ρ S R Q => wa ρ S R fun x S1 => wb ρ S1 R fun y S2 => seqD S2 x fun ds C => seqD S2 y fun ds2 C2 => Q (zipD ds ds2) (fun S => C S ∧ C2 S) S2 := fun σ H ρ S O R Q Q' A hw k => by
  refine ha.go A hw fun x H1 dx S1 O1 r1 A1 e1 q1 => ?_
  refine hb.go A1 q1 fun y H2 dy S2 O2 r2 A2 e2 q2 => ?_
  have r1 := r1.mono (A1.mo e2)
  obtain ⟨a, b, ds, C, rfl, c, z, h, q⟩ := sq_of r1 A2.sok q2
  obtain ⟨a', b', ds', C', rfl, c', z', h', q⟩ := sq_of r2 A2.sok q
  obtain ⟨xs, hq, hr⟩ := h S2 O2 H2 A2.sok Mo.refl c
  obtain ⟨ys, hq', hr'⟩ := h' S2 O2 H2 A2.sok Mo.refl c'
  refine ⟨b, b', a, a', xs, ys, rfl, hq, hq', k _ H2 _ _ S2 O2 ⟨fun i S O H' s m c hi => ?_, fun i S O H' s m c hi => ?_⟩ (by rw [zipD_len]; omega) A2.sok (e1.trans A1.sok e2) q⟩
  · rw [zipD_len] at hi
    obtain ⟨us, hq, hr⟩ := h S O H' s m c.1
    obtain ⟨ws, hq', hr'⟩ := h' S O H' s m c.2
    have l1 : i < ds.length := by omega
    have l2 : i < ds'.length := by omega
    obtain ⟨v, hv, rv⟩ := hr.get (i := i) (List.getElem?_eq_getElem l1)
    obtain ⟨v', hv', rv'⟩ := hr'.get (i := i) (List.getElem?_eq_getElem l2)
    refine ⟨⟨⟨us, v, hq, hv⟩, ws, v', hq', hv'⟩, fun x H2 y => ?_⟩
    obtain ⟨T, x', y', rfl, hT, rfl, y1, y2⟩ := y
    have := y1 us hq
    rw [hv] at this; cases this
    have := y2 ws hq'
    rw [hv'] at this; cases this
    exact ⟨_, zipD_get (List.getElem?_eq_getElem l1) (List.getElem?_eq_getElem l2), rp_new s hT (by show 2 ≤ sizeLine; decide) (.cons rv (.cons rv' .nil)), s.new hT, ev_new hT s⟩
  · rw [zipD_len] at hi
    obtain ⟨us, hq, hr⟩ := h S O H' s m c.1
    obtain ⟨ws, hq', hr'⟩ := h' S O H' s m c.2
    exact ⟨us, ws, hq, hq', by rw [hr.len, hr'.len]; exact hi⟩

/-! ### targets -/
abbrev WG := D → Env → Sto → XD → (Env → Sto → Prop) → Prop
abbrev WGs := List D → Env → Sto → XD → (Env → Sto → Prop) → Prop
/-- the names keep apart from vs: their slots set, the rest as it was -/
def SetIn (vs : List Nat) (σ σ' : L2.St) : Prop := ∀ us : List Nat, (∀ v ∈ vs, v ∈ us) → wipe σ' us = wipe σ us
theorem wipe_set {σ : L2.St} {i : Nat} {v : Option V} : ∀ {us : List Nat}, i ∈ us → wipe (σ.set i v) us = wipe σ us := by
  intro us
  induction us with
  | nil => intro h; cases h
  | cons u us ih =>
    intro h
    unfold wipe
    by_cases e : i ∈ us
    · rw [ih e]
    · have e1 : i = u := by
        rcases List.mem_cons.mp h with z | z
        · exact z
        · exact absurd z e
      subst e1
      clear ih h
      have comm : ∀ us : List Nat, (wipe (σ.set i v) us).set i none = (wipe σ us).set i none := by
        intro us
        induction us with
        | nil => unfold wipe; rw [List.set_set]
        | cons w us ih =>
          unfold wipe
          by_cases q : w = i
          · subst q; rw [List.set_set, List.set_set, ih]
          · rw [List.set_comm _ _ (fun z => q z), ih, List.set_comm _ _ (fun z => q z.symm)]
      exact comm us
theorem wipe_idem (σ : L2.St) (us : List Nat) : wipe (wipe σ us) us = wipe σ us := by
  have key : ∀ (vs : List Nat) (τ : L2.St), (∀ v ∈ vs, ∀ x, τ[v]? = some x → x = none) → wipe τ vs = τ := by
    intro vs
    induction vs with
    | nil => intro τ _; rfl
    | cons w vs ih =>
      intro τ h
      unfold wipe
      rw [ih τ fun v hv => h v (List.mem_cons_of_mem _ hv)]
      apply List.ext_getElem?
      intro j
      by_cases e : w = j
      · subst e
        by_cases l : w < τ.length
        · rw [List.getElem?_set_self l, List.getElem?_eq_getElem l, h w List.mem_cons_self _ (List.getElem?_eq_getElem l)]
        · rw [List.getElem?_eq_none (by simpa using l), List.getElem?_eq_none (by omega)]
      · rw [List.getElem?_set_ne e]
  refine key us _ fun v hv x hx => ?_
  cases x with
  | none => rfl
  | some y => exact absurd hv (wipe_some hx).2
def RG (L : Lnk) (K : PySem.W.Frag) (W : WX) (vs : List Nat) (t : TG) (w : WG) : Prop :=
  ∀ (v : V) (d : D) (σ : L2.St) (H : Hp) (ρ : Env) (S : Sto) (O : Ow) (Q : Env → Sto → Prop) (Q' : L2.St → Hp → Prop), At L K W σ H ρ S O xNo → Rp K O H v d → w d ρ S xNo Q →
    (∀ σ' H' ρ' S' O', Sok K S' O' H' → Ev S O H S' O' H' → REnv K O' H' ρ' σ' → SetIn vs σ σ' → Q ρ' S' → Q' σ' H') → t v σ H Q'
def RGs (L : Lnk) (K : PySem.W.Frag) (W : WX) (vs : List Nat) (t : TGs) (w : WGs) : Prop :=
  ∀ (us : List V) (ds : List D) (σ : L2.St) (H : Hp) (ρ : Env) (S : Sto) (O : Ow) (Q : Env → Sto → Prop) (Q' : L2.St → Hp → Prop), At L K W σ H ρ S O xNo → Rps K O H us ds → w ds ρ S xNo Q →
    (∀ σ' H' ρ' S' O', Sok K S' O' H' → Ev S O H S' O' H' → REnv K O' H' ρ' σ' → SetIn vs σ σ' → Q ρ' S' → Q' σ' H') → t us σ H Q'
theorem At.no {σ : L2.St} {H : Hp} {ρ : Env} {S : Sto} {O : Ow} (s : Sok K S O H) (e : REnv K O H ρ σ) : At L K W σ H ρ S O xNo := ⟨s, e, fun _ _ _ _ _ _ _ _ _ _ z => z.elim⟩
theorem SetIn.refl {vs : List Nat} {σ : L2.St} : SetIn vs σ σ := fun _ _ => rfl
theorem SetIn.trans {vs us : List Nat} {σ σ1 σ2 : L2.St} (a : SetIn vs σ σ1) (b : SetIn us σ1 σ2) : SetIn (vs ++ us) σ σ2 := fun ws h =>
  (b ws fun v hv => h v (List.mem_append_right _ hv)).trans (a ws fun v hv => h v (List.mem_append_left _ hv))
theorem rg_nm {i : Nat} : RG L K W [i] (gName i) fun d ρ S _ Q => Q (setV ρ i d) S := fun v d σ H ρ S O Q Q' A r hw k =>
  k _ H _ S O A.sok .refl (A.env.set i r) (fun us h => wipe_set (h i (by simp))) hw
theorem rgs_nil : RGs L K W [] gNil fun ds ρ S _ Q => match ds with
    | [] => Q ρ S
    | _ => False := fun vs ds σ H ρ S O Q Q' A r hw k => by
  cases r with
  | nil => exact ⟨rfl, k σ H ρ S O A.sok .refl A.env .refl hw⟩
  | cons _ _ => exact hw.elim
theorem rgs_cons {t : TG} {u : TGs} {w : WG} {wr : WGs} {vs us : List Nat} (h : RG L K W vs t w) (hr : RGs L K W us u wr) : RGs L K W (vs ++ us) (gCons t u) fun ds ρ S R Q => match ds with
    | d :: ds => w d ρ S R fun ρ' S' => wr ds ρ' S' R Q
    | [] => False := fun xs ds σ H ρ S O Q Q' A r hw k => by
  cases r with
  | nil => exact hw.elim
  | cons r1 rr =>
    refine ⟨_, _, rfl, h _ _ σ H ρ S O _ _ A r1 hw fun σ1 H1 ρ1 S1 O1 s1 e1 n1 i1 q1 => ?_⟩
    exact hr _ _ σ1 H1 ρ1 S1 O1 _ _ (At.no s1 n1) (rr.mono (e1.mo A.sok)) q1 fun σ2 H2 ρ2 S2 O2 s2 e2 n2 i2 q2 => k σ2 H2 ρ2 S2 O2 s2 (e1.trans s1 e2) n2 (i1.trans i2) q2
theorem rg_tup {n : Nat} {vs : List Nat} {t : TGs} {w : WGs} (h : RGs L K W vs t w) : RG L K W vs (gTup K n t) fun d ρ S R Q => match d with
    | .tup ds => ds.length = n ∧ w ds ρ S R Q
    | _ => False := fun v d σ H ρ S O Q Q' A r hw k => by
  cases d <;> try exact hw.elim
  cases r with
  | tup h1 z h2 => exact ⟨_, _, rfl, h1, by rw [h2.len]; exact hw.1, h _ _ σ H ρ S O Q Q' A h2 hw.2 k⟩
theorem rg_seq {n : Nat} {vs : List Nat} {t : TGs} {w : WGs} (h : RGs L K W vs t w) : RG L K W vs (gSeq K n t) fun d ρ S R Q => match d with
    | .tup ds => ds.length = n ∧ w ds ρ S R Q
    | .lst ds => ds.length = n ∧ w ds ρ S R Q
    | _ => False := fun v d σ H ρ S O Q Q' A r hw k => by
  cases d <;> try exact hw.elim
  case tup ds =>
    cases r with
    | tup h1 z h2 => exact ⟨_, _, rfl, .inl h1, by rw [h2.len]; exact hw.1, h _ _ σ H ρ S O Q Q' A h2 hw.2 k⟩
  case lst ds =>
    cases r with
    | lst h1 m z h2 => exact ⟨_, _, rfl, .inr (SqL.of h1), by rw [h2.len]; exact hw.1, h _ _ σ H ρ S O Q Q' A h2 hw.2 k⟩
theorem rg_sub {to ti : TE} {wo wi : WE'} (ho : RE L K W to wo) (hi : RE L K W ti wi) : RG L K W [] (gSub to ti rSetL) fun d ρ S R Q => wo ρ S R fun x S1 => wi ρ S1 R fun y S2 => ∃ p ds n j, x = .ref p ∧ y = .int n ∧ S2 p = some (.lst ds) ∧ ixN ds.length n = some j ∧ Q ρ (sup S2 p (.lst (ds.set j d))) := fun v d σ H ρ S O Q Q' A r hw k => by
  refine ho.go A hw fun x H1 dx S1 O1 r1 A1 e1 q1 => ?_
  refine hi.go A1 q1 fun y H2 dy S2 O2 r2 A2 e2 q2 => ?_
  obtain ⟨p, ds, n, j, rfl, rfl, hs, hj, q⟩ := q2
  cases r1; cases r2
  obtain ⟨ho, xs, h1, z, h2⟩ := A2.sok.dom _ _ hs
  have r2 := (r.mono (A.mo e1)).mono (A1.mo e2)
  have ev := ev_write (ys := xs.set j v) (es := ds.set j d) hs A2.sok
  have sk := A2.sok.write hs h1 (ys := xs.set j v) (es := ds.set j d) (by rw [List.length_set]; exact z) (h2.set j r2)
  exact ⟨p, xs, n, j, rfl, rfl, h1, by rw [h2.len]; exact hj, k σ _ ρ _ O2 sk ((e1.trans A1.sok e2).trans A2.sok ev) (A2.env.mono (ev.mo A2.sok)) .refl q⟩
abbrev WTs := Env → Sto → (Bool → Sto → Prop) → Prop
def RTs (L : Lnk) (K : PySem.W.Frag) (W : WX) (t : TT) (w : WTs) : Prop :=
  ∀ (σ : L2.St) (H : Hp) (ρ : Env) (S : Sto) (O : Ow) (Q : Bool → Sto → Prop) (Q' : Bool → Hp → Prop), At L K W σ H ρ S O xNo → w ρ S Q →
    (∀ b H' S' O', Sok K S' O' H' → Ev S O H S' O' H' → Q b S' → Q' b H') → t σ H Q'
theorem rts_nil : RTs L K W tYes fun _ S K => K true S := fun σ H ρ S O Q Q' A hw k => k true H S O A.sok .refl hw
theorem rts_one {t : TT} (h : RT L K W t w) : RTs L K W t fun ρ S K => w ρ S xNo fun x S1 => tstD x fun b => if b = true then K true S1 else K false S1 := fun σ H ρ S O Q Q' A hw k => by
  refine h.go (Q := fun b S1 => if b = true then Q true S1 else Q false S1) A hw fun b H1 S1 O1 A1 e1 q => ?_
  cases b with
  | true => exact k true H1 S1 O1 A1.sok e1 q
  | false => exact k false H1 S1 O1 A1.sok e1 q

/-! ### list comprehensions -/
theorem ev_wres {S S' : Sto} {O O' : Ow} {H H' : Hp} {p : Addr} {u : HO} (e : Ev S O H S' O' H') (hp : H p = none) : Ev S O H S' O' (upd H' p u) :=
  ⟨fun a v h n => by rw [upd_ne (ne_of_none h hp)]; exact e.keep a v h n, e.own, e.res, fun a h => by
    by_cases q : a = p
    · rw [q]; exact hp
    · rw [upd_ne q] at h; exact e.there a h⟩
theorem drop_cons {α : Type} {ds : List α} {i : Nat} (h : i < ds.length) : ds.drop i = ds[i] :: ds.drop (i + 1) := List.drop_eq_getElem_cons h
theorem rl_comp {W' : WX} {wi : TI} {g : TG} {tt : TT} {te : TE} {vs ts : List Nat} {wI : WI} {wG : WG} {wT : WTs} {wE : WE'} (hI : RI L K W wi wI) (hG : RG L K W' ts g wG) (hT : RTs L K W' tt wT) (hE : RE L K W' te wE) (hv : ∀ v ∈ ts, v ∈ vs) :
    RL L K W (tLc wi g tt te vs) fun ρ S R Q => wI ρ S R fun ds C S1 =>
      compL (fun d ρ S K => wG d ρ S xNo K) wT (fun ρ S K => wE ρ S xNo K) (fun _ => True) C Q (delVs ρ vs) ds S1 [] := fun σ H ρ S O R Q Q' A hw k => by
  refine hI σ H ρ S O R _ _ A hw fun J H1 ds C S1 O1 it z s1 e1 q1 => ?_
  intro Dl hD
  have env1 : REnv K O1 H1 (delVs ρ vs) (wipe σ vs) := (A.env.mono (A.mo e1)).dels vs
  refine ⟨fun i m H' => m = ds.length - i ∧ i ≤ ds.length ∧ ∃ S' O' acc accv, Sok K S' O' H' ∧ Ev S1 O1 H1 S' O' H' ∧ O' Dl ∧ S' Dl = none ∧ H' Dl = some (.lst accv) ∧ accv.length ≤ i ∧ Rps K O' H' accv acc ∧
      compL (fun d ρ S K => wG d ρ S xNo K) wT (fun ρ S K => wE ρ S xNo K) (fun _ => True) C Q (delVs ρ vs) (ds.drop i) S' acc,
    ⟨ds.length, rfl, Nat.zero_le _, S1, oadd O1 Dl, [], [], s1.resv hD, ev_res hD s1, .inr rfl, s1.noneH hD, upd_same, Nat.le_refl _, .nil, q1⟩, ?_⟩
  rintro i m H' ⟨rfl, hi, S', O', acc, accv, s', e', hO, hS, hH, hl, hr, q⟩
  by_cases hlt : i < ds.length
  · right
    rw [drop_cons hlt] at q
    obtain ⟨c, q⟩ := q
    obtain ⟨go, yl⟩ := it.go i S' O' H' s' (e'.mo s1) c hlt
    refine ⟨go, fun H2 => ∃ m', m' < ds.length - i ∧ _, fun H2 h => h, fun x H2 y => ?_⟩
    obtain ⟨d, hd, rx, s2, e2⟩ := yl x H2 y
    rw [List.getElem?_eq_getElem hlt] at hd
    cases hd
    have ee2 := e'.trans s' e2
    refine hG x _ (wipe σ vs) H2 (delVs ρ vs) S' O' _ _ (At.no s2 (env1.mono (ee2.mo s1))) rx q fun σ3 H3 ρ3 S3 O3 s3 e3 n3 i3 q3 => ?_
    have ee3 := e2.trans s2 e3
    refine ⟨by rw [i3 vs hv, wipe_idem], ?_⟩
    refine hT σ3 H3 ρ3 S3 O3 _ _ (At.no s3 n3) q3 fun b H4 S4 O4 s4 e4 q4 => ?_
    have ee4 := ee3.trans s3 e4
    cases b with
    | false =>
      rw [if_neg Bool.false_ne_true] at q4 ⊢
      exact ⟨ds.length - (i + 1), by omega, rfl, hlt, S4, O4, acc, accv, s4, e'.trans s' ee4, (ee4.res _ hO hS).1, (ee4.res _ hO hS).2, ee4.keep _ _ hH hS, by omega, hr.mono (ee4.mo s'), q4⟩
    | true =>
      rw [if_pos rfl] at q4 ⊢
      refine hE.go (At.no s4 (n3.mono (e4.mo s3))) q4 fun y H5 dy S5 O5 r5 A5 e5 q5 => ?_
      have ee5 := ee4.trans s4 e5
      have hO5 := (ee5.res _ hO hS).1
      have hS5 := (ee5.res _ hO hS).2
      have hH5 := ee5.keep _ _ hH hS
      have hr5 := hr.mono (ee5.mo s')
      refine ⟨accv, hH5, by omega, ds.length - (i + 1), by omega, rfl, hlt, S5, O5, acc ++ [dy], accv ++ [y], A5.sok.wres hH5 hO5 hS5, ev_wres (e'.trans s' ee5) hD, hO5, hS5, upd_same, by rw [List.length_append]; exact Nat.add_le_add hl (Nat.le_refl 1), (hr5.append (.cons r5 .nil)).mono (mo_write hH5 hO5), q5.2⟩
  · left
    have ei : i = ds.length := by omega
    subst ei
    rw [List.drop_length] at q
    exact ⟨it.stop _ S' O' H' s' (e'.mo s1) q.1 rfl, k Dl accv H' acc S' O' (e1.there _ hD) hO hS hH (by omega) hr s' (e1.trans s1 e') q.2⟩
end
end DL

/-! DL8: comprehensions of two clauses; statements. -/
namespace DL
open PySem PySem.Spec PyProof.Rows L2
section
variable {L : Lnk} {K : PySem.W.Frag} {W : WX} {X : Cx} {w wa wb wc : WE'} {ta tb tc : TE}
theorem rl_comp2 {W' : WX} {wi wi1 : TI} {g g1 : TG} {tt tt1 : TT} {te : TE} {vs vs1 ts ts1 : List Nat} {wI wI1 : WI} {wG wG1 : WG} {wT wT1 : WTs} {wE : WE'} (hI : RI L K W wi wI) (hG : RG L K W' ts g wG) (hT : RTs L K W' tt wT)
    (hI1 : RI L K W' wi1 wI1) (hG1 : RG L K W' ts1 g1 wG1) (hT1 : RTs L K W' tt1 wT1) (hE : RE L K W' te wE) (hv : ∀ v ∈ ts, v ∈ vs) (hv1 : ∀ v ∈ ts1, v ∈ vs1) :
    RL L K W (tLc2 wi g tt wi1 g1 tt1 te vs vs1) fun ρ S R Q => wI ρ S R fun ds C S1 =>
      compO (fun d ρ S K => wG d ρ S xNo K) wT (fun ρ S acc K => wI1 ρ S xNo fun ds2 C2 S2 => compL (fun d ρ S K => wG1 d ρ S xNo K) wT1 (fun ρ S K => wE ρ S xNo K) (fun acc => acc.length < sizeLine) C2 K (delVs ρ vs1) ds2 S2 acc) C Q (delVs ρ vs) ds S1 [] := fun σ H ρ S O R Q Q' A hw k => by
  refine hI σ H ρ S O R _ _ A hw fun J H1 ds C S1 O1 it z s1 e1 q1 => ?_
  intro Dl hD
  have env1 : REnv K O1 H1 (delVs ρ vs) (wipe σ vs) := (A.env.mono (A.mo e1)).dels vs
  refine ⟨fun i m H' => m = ds.length - i ∧ i ≤ ds.length ∧ ∃ S' O' acc accv, Sok K S' O' H' ∧ Ev S1 O1 H1 S' O' H' ∧ O' Dl ∧ S' Dl = none ∧ H' Dl = some (.lst accv) ∧ accv.length ≤ sizeLine ∧ Rps K O' H' accv acc ∧
      compO (fun d ρ S K => wG d ρ S xNo K) wT (fun ρ S acc K => wI1 ρ S xNo fun ds2 C2 S2 => compL (fun d ρ S K => wG1 d ρ S xNo K) wT1 (fun ρ S K => wE ρ S xNo K) (fun acc => acc.length < sizeLine) C2 K (delVs ρ vs1) ds2 S2 acc) C Q (delVs ρ vs) (ds.drop i) S' acc,
    ⟨ds.length, rfl, Nat.zero_le _, S1, oadd O1 Dl, [], [], s1.resv hD, ev_res hD s1, .inr rfl, s1.noneH hD, upd_same, Nat.zero_le _, .nil, q1⟩, ?_⟩
  rintro i m H' ⟨rfl, hi, S', O', acc, accv, s', e', hO, hS, hH, hl, hr, q⟩
  by_cases hlt : i < ds.length
  · right
    rw [drop_cons hlt] at q
    obtain ⟨c, q⟩ := q
    obtain ⟨go, yl⟩ := it.go i S' O' H' s' (e'.mo s1) c hlt
    refine ⟨go, fun H2 => ∃ m', m' < ds.length - i ∧ _, fun H2 h => h, fun x H2 y => ?_⟩
    obtain ⟨d, hd, rx, s2, e2⟩ := yl x H2 y
    rw [List.getElem?_eq_getElem hlt] at hd
    cases hd
    have ee2 := e'.trans s' e2
    refine hG x _ (wipe σ vs) H2 (delVs ρ vs) S' O' _ _ (At.no s2 (env1.mono (ee2.mo s1))) rx q fun σ3 H3 ρ3 S3 O3 s3 e3 n3 i3 q3 => ?_
    have ee3 := e2.trans s2 e3
    refine ⟨by rw [i3 vs hv, wipe_idem], ?_⟩
    refine hT σ3 H3 ρ3 S3 O3 _ _ (At.no s3 n3) q3 fun b H4 S4 O4 s4 e4 q4 => ?_
    have ee4 := ee3.trans s3 e4
    have hO4 := (ee4.res _ hO hS).1
    have hS4 := (ee4.res _ hO hS).2
    have hH4 := ee4.keep _ _ hH hS
    have hr4 := hr.mono (ee4.mo s')
    have eS4 := e'.trans s' ee4
    cases b with
    | false =>
      rw [if_neg Bool.false_ne_true] at q4 ⊢
      exact ⟨ds.length - (i + 1), by omega, rfl, hlt, S4, O4, acc, accv, s4, eS4, hO4, hS4, hH4, hl, hr4, q4⟩
    | true =>
      rw [if_pos rfl] at q4 ⊢
      have n4 := n3.mono (e4.mo s3)
      refine hI1 σ3 H4 ρ3 S4 O4 xNo _ _ (At.no s4 n4) q4 fun J1 H5 ds2 C2 S5 O5 it1 z1 s5 e5 q5 => ?_
      have ee5 := ee4.trans s4 e5
      have eS5 := e'.trans s' ee5
      have n5 : REnv K O5 H5 (delVs ρ3 vs1) (wipe σ3 vs1) := (n4.mono (e5.mo s4)).dels vs1
      refine ⟨fun j k' H6 => k' = ds2.length - j ∧ j ≤ ds2.length ∧ ∃ S6 O6 acc6 accv6, Sok K S6 O6 H6 ∧ Ev S1 O1 H1 S6 O6 H6 ∧ Mo O5 H5 O6 H6 ∧ O6 Dl ∧ S6 Dl = none ∧ H6 Dl = some (.lst accv6) ∧ accv6.length ≤ sizeLine ∧ Rps K O6 H6 accv6 acc6 ∧
          compL (fun d ρ S K => wG1 d ρ S xNo K) wT1 (fun ρ S K => wE ρ S xNo K) (fun acc => acc.length < sizeLine) C2 (fun acc' S3 => compO (fun d ρ S K => wG d ρ S xNo K) wT (fun ρ S acc K => wI1 ρ S xNo fun ds2 C2 S2 => compL (fun d ρ S K => wG1 d ρ S xNo K) wT1 (fun ρ S K => wE ρ S xNo K) (fun acc => acc.length < sizeLine) C2 K (delVs ρ vs1) ds2 S2 acc) C Q (delVs ρ vs) (ds.drop (i + 1)) S3 acc') (delVs ρ3 vs1) (ds2.drop j) S6 acc6,
        ⟨ds2.length, rfl, Nat.zero_le _, S5, O5, acc, accv, s5, eS5, .refl, (ee5.res _ hO hS).1, (ee5.res _ hO hS).2, ee5.keep _ _ hH hS, hl, hr.mono (ee5.mo s'), q5⟩, ?_⟩
      rintro j k' H6 ⟨rfl, hj, S6, O6, acc6, accv6, s6, eS6, m6, hO6, hS6, hH6, hl6, hr6, q6⟩
      by_cases hlt1 : j < ds2.length
      · right
        rw [drop_cons hlt1] at q6
        obtain ⟨c6, q6⟩ := q6
        obtain ⟨go1, yl1⟩ := it1.go j S6 O6 H6 s6 m6 c6 hlt1
        refine ⟨go1, fun H7 => ∃ k'', k'' < ds2.length - j ∧ _, fun H7 h => h, fun x7 H7 y7 => ?_⟩
        obtain ⟨d7, hd7, rx7, s7, e7⟩ := yl1 x7 H7 y7
        rw [List.getElem?_eq_getElem hlt1] at hd7
        cases hd7
        have m7 : Mo O5 H5 O6 H7 := ⟨fun a u h n => (e7.mo s6).k a u (m6.k a u h n) (fun z => n (m6.o a u h z)), fun a u h n => (e7.mo s6).t a u (m6.t a u h n) n, fun a u h z => m6.o a u h z⟩
        refine hG1 x7 _ (wipe σ3 vs1) H7 (delVs ρ3 vs1) S6 O6 _ _ (At.no s7 (n5.mono m7)) rx7 q6 fun σ8 H8 ρ8 S8 O8 s8 e8 n8 i8 q8 => ?_
        have ee8 := e7.trans s7 e8
        refine ⟨by rw [i8 vs1 hv1, wipe_idem], ?_⟩
        refine hT1 σ8 H8 ρ8 S8 O8 _ _ (At.no s8 n8) q8 fun b H9 S9 O9 s9 e9 q9 => ?_
        have ee9 := ee8.trans s8 e9
        have mtr : ∀ {O2 : Ow} {H2 : Hp}, Mo O6 H6 O2 H2 → Mo O5 H5 O2 H2 := fun {O2 H2} m => ⟨fun a u h n => m.k a u (m6.k a u h n) (fun z => n (m6.o a u h z)), fun a u h n => m.t a u (m6.t a u h n) n, fun a u h z => by
          cases q : H6 a with
          | none => by_cases ho : O5 a
                    · exact ho
                    · rw [m6.k a _ h ho] at q; cases q
          | some u' =>
            have := m.o a u' q z
            exact m6.o a u h this⟩
        cases b with
        | false =>
          rw [if_neg Bool.false_ne_true] at q9 ⊢
          exact ⟨ds2.length - (j + 1), by omega, rfl, hlt1, S9, O9, acc6, accv6, s9, eS6.trans s6 ee9, mtr (ee9.mo s6), (ee9.res _ hO6 hS6).1, (ee9.res _ hO6 hS6).2, ee9.keep _ _ hH6 hS6, hl6, hr6.mono (ee9.mo s6), q9⟩
        | true =>
          rw [if_pos rfl] at q9 ⊢
          refine hE.go (At.no s9 (n8.mono (e9.mo s8))) q9 fun y H10 dy S10 O10 r10 A10 e10 q10 => ?_
          have ee10 := ee9.trans s9 e10
          have hO10 := (ee10.res _ hO6 hS6).1
          have hS10 := (ee10.res _ hO6 hS6).2
          have hH10 := ee10.keep _ _ hH6 hS6
          have hr10 := hr6.mono (ee10.mo s6)
          have hlen : accv6.length < sizeLine := by rw [hr6.len]; exact q10.1
          refine ⟨accv6, hH10, hlen, ds2.length - (j + 1), by omega, rfl, hlt1, S10, O10, acc6 ++ [dy], accv6 ++ [y], A10.sok.wres hH10 hO10 hS10, ev_wres (eS6.trans s6 ee10) hD, ?_, hO10, hS10, upd_same, by rw [List.length_append]; exact hlen, (hr10.append (.cons r10 .nil)).mono (mo_write hH10 hO10), q10.2⟩
          have mm := mtr (ee10.mo s6)
          have dl5 : ∀ a u, H5 a = some u → ¬ O5 a → a ≠ Dl := fun a u h n e => by
            subst e
            exact n (m6.o _ u h hO6)
          exact ⟨fun a u h n => by rw [upd_ne (dl5 a u h n)]; exact mm.k a u h n, fun a u h n => by
            rw [upd_ne fun e => ?_]
            · exact mm.t a u h n
            · subst e
              have := mm.t _ u h n
              rw [hH10] at this; cases this; exact imm_lst n, mm.o⟩
      · left
        have ej : j = ds2.length := by omega
        subst ej
        rw [List.drop_length] at q6
        refine ⟨it1.stop _ S6 O6 H6 s6 m6 q6.1 rfl, ds.length - (i + 1), by omega, rfl, hlt, S6, O6, acc6, accv6, s6, eS6, hO6, hS6, hH6, hl6, hr6, q6.2⟩
  · left
    have ei : i = ds.length := by omega
    subst ei
    rw [List.drop_length] at q
    exact ⟨it.stop _ S' O' H' s' (e'.mo s1) q.1 rfl, k Dl accv H' acc S' O' (e1.there _ hD) hO hS hH hl hr s' (e1.trans s1 e') q.2⟩

/-! ### statements -/
structure AtS (L : Lnk) (K : PySem.W.Frag) (W : WX) (σ : L2.St) (H : Hp) (ρ : Env) (S : Sto) (O : Ow) (X : XS) : Prop where
  sok : Sok K S O H
  env : REnv K O H ρ σ
  x : ∀ k d σ' ρ' S' O' H' c dd, Sok K S' O' H' → Ev S O H S' O' H' → REnv K O' H' ρ' σ' → L.xr O' H' k d c dd → X k d ρ' S' → W c dd σ' H'
/-- the wanted ends, over data, of a state (S, O, H) on -/
structure EndsOk (K : PySem.W.Frag) (S : Sto) (O : Ow) (H : Hp) (E : DEnd) (D : Ends) : Prop where
  nx : ∀ σ' H' ρ' S' O', Sok K S' O' H' → Ev S O H S' O' H' → REnv K O' H' ρ' σ' → E.nx ρ' S' → D.nx σ' H'
  rt : ∀ v H' d S' O', Rp K O' H' v d → Sok K S' O' H' → Ev S O H S' O' H' → E.rt d S' → D.rt v H'
  bk : ∀ σ' H' ρ' S' O', Sok K S' O' H' → Ev S O H S' O' H' → REnv K O' H' ρ' σ' → E.bk ρ' S' → D.bk σ' H'
  ct : ∀ σ' H' ρ' S' O', Sok K S' O' H' → Ev S O H S' O' H' → REnv K O' H' ρ' σ' → E.ct ρ' S' → D.ct σ' H'
abbrev WS' := DEnd → XS → Env → Sto → Prop
def RS (L : Lnk) (K : PySem.W.Frag) (W : WX) (t : TS) (w : WS') : Prop :=
  ∀ (σ : L2.St) (H : Hp) (ρ : Env) (S : Sto) (O : Ow) (X : XS) (E : DEnd) (D : Ends), AtS L K W σ H ρ S O X → w E X ρ S → EndsOk K S O H E D → t D σ H
def tOS (L : Lnk) (K : PySem.W.Frag) (W : WX) (w : WS') : TS := fun D σ H => ∃ ρ S O X E, AtS L K W σ H ρ S O X ∧ w E X ρ S ∧ EndsOk K S O H E D
theorem rs_tO {w : WS'} : RS L K W (tOS L K W w) w := fun σ H ρ S O X E D A hw k => ⟨ρ, S, O, X, E, A, hw, k⟩
theorem _root_.L2.PS.can {st : Stmt} {t : TS} {w : WS'} (h : PS X st t) (r : RS L K W t w) : PS X st (tOS L K W w) := ⟨fun pins s σ H D I ⟨ρ, S, O, XX, E, A, hw, k⟩ => h.run pins s σ H D I (r σ H ρ S O XX E D A hw k)⟩
theorem _root_.L2.PSs.can {st : List Stmt} {t : TS} {w : WS'} (h : PSs X st t) (r : RS L K W t w) : PSs X st (tOS L K W w) := ⟨fun pins s σ H D I ⟨ρ, S, O, XX, E, A, hw, k⟩ => h.run pins s σ H D I (r σ H ρ S O XX E D A hw k)⟩
section
variable {σ : L2.St} {H H1 : Hp} {ρ ρ1 : Env} {S S1 : Sto} {O O1 : Ow} {XX : XS} {E : DEnd} {D : Ends}
theorem AtS.ex (A : AtS L K W σ H ρ S O XX) : At L K W σ H ρ S O (fun k d S => XX k d ρ S) :=
  ⟨A.sok, A.env, fun k d S' O' H' c dd s e x r => A.x k d σ ρ S' O' H' c dd s e (A.env.mono (e.mo A.sok)) x r⟩
theorem AtS.next {σ1 : L2.St} (A : AtS L K W σ H ρ S O XX) (s : Sok K S1 O1 H1) (e : Ev S O H S1 O1 H1) (n : REnv K O1 H1 ρ1 σ1) : AtS L K W σ1 H1 ρ1 S1 O1 XX :=
  ⟨s, n, fun k d σ' ρ' S' O' H' c dd s' e' n' x r => A.x k d σ' ρ' S' O' H' c dd s' (e.trans s e') n' x r⟩
theorem EndsOk.next (k : EndsOk K S O H E D) (s : Sok K S1 O1 H1) (e : Ev S O H S1 O1 H1) : EndsOk K S1 O1 H1 E D :=
  ⟨fun σ' H' ρ' S' O' s' e' n q => k.nx σ' H' ρ' S' O' s' (e.trans s e') n q, fun v H' d S' O' r s' e' q => k.rt v H' d S' O' r s' (e.trans s e') q, fun σ' H' ρ' S' O' s' e' n q => k.bk σ' H' ρ' S' O' s' (e.trans s e') n q, fun σ' H' ρ' S' O' s' e' n q => k.ct σ' H' ρ' S' O' s' (e.trans s e') n q⟩
end
theorem rs_asg {te : TE} {g : TG} {vs : List Nat} {wG : WG} (h : RE L K W te w) (hg : RG L K W vs g wG) : RS L K W (tAsg te g) fun E X ρ S => w ρ S (fun k d S => X k d ρ S) fun d S1 => wG d ρ S1 xNo E.nx := fun σ H ρ S O X E D A hw k => by
  refine h.go A.ex hw fun v H1 d S1 O1 r1 A1 e1 q1 => ?_
  exact hg v d σ H1 ρ S1 O1 _ _ (At.no A1.sok A1.env) r1 q1 fun σ2 H2 ρ2 S2 O2 s2 e2 n2 _ q2 => k.nx σ2 H2 ρ2 S2 O2 s2 (e1.trans A1.sok e2) n2 q2
theorem rs_ret {te : TE} (h : RE L K W te w) : RS L K W (tRet te) fun E X ρ S => w ρ S (fun k d S => X k d ρ S) fun d S1 => E.rt d S1 := fun σ H ρ S O X E D A hw k =>
  h.go A.ex hw fun v H1 d S1 O1 r1 A1 e1 q1 => k.rt v H1 d S1 O1 r1 A1.sok e1 q1
theorem rs_retF {te : TE} (h : RE L K W te w) : RS L K W (tRet te) fun E X ρ S => w ρ S (fun k d S => X k d ρ S) fun d S1 => ∃ p ds, d = .ref p ∧ S1 p = some (.lst ds) ∧ E.rt (.lst ds) (sdel S1 p) := fun σ H ρ S O X E D A hw k => by
  refine h.go A.ex hw fun v H1 d S1 O1 r1 A1 e1 q1 => ?_
  obtain ⟨p, ds, rfl, hs, q⟩ := q1
  cases r1
  obtain ⟨ho, xs, h1, z, h2⟩ := A1.sok.dom _ _ hs
  have s' : Sok K (sdel S1 p) (orem O1 p) H1 := A1.sok.sdel.free sdel_same
  refine k.rt _ H1 _ _ (orem O1 p) (.lst h1 (fun q => q.2 rfl) z (h2.mono mo_free)) s' ⟨e1.keep, fun a h => e1.own a h.1, fun a h n => ?_, e1.there⟩ q
  have := e1.res a h n
  have ne : a ≠ p := fun q => by rw [q] at this; rw [hs] at this; cases this.2
  exact ⟨⟨this.1, ne⟩, by rw [sdel_ne ne]; exact this.2⟩
theorem rs_retN : RS L K W tRetN fun E _ _ S => E.rt .non S := fun σ H ρ S O X E D A hw k => k.rt _ H _ S O .non A.sok .refl hw
theorem rs_ex {te : TE} (h : RE L K W te w) : RS L K W (tDrop te) fun E X ρ S => w ρ S (fun k d S => X k d ρ S) fun _ S1 => E.nx ρ S1 := fun σ H ρ S O X E D A hw k =>
  h.go A.ex hw fun v H1 d S1 O1 r1 A1 e1 q1 => k.nx σ H1 ρ S1 O1 A1.sok e1 A1.env q1
theorem rs_nx : RS L K W tNext fun E _ ρ S => E.nx ρ S := fun σ H ρ S O X E D A hw k => k.nx σ H ρ S O A.sok .refl A.env hw
theorem rs_bk : RS L K W tBreak fun E _ ρ S => E.bk ρ S := fun σ H ρ S O X E D A hw k => k.bk σ H ρ S O A.sok .refl A.env hw
theorem rs_ct : RS L K W tCont fun E _ ρ S => E.ct ρ S := fun σ H ρ S O X E D A hw k => k.ct σ H ρ S O A.sok .refl A.env hw
theorem rs_seq {t u : TS} {w1 w2 : WS'} (h1 : RS L K W t w1) (h2 : RS L K W u w2) : RS L K W (tSeq t u) fun E X ρ S => w1 { E with nx := w2 E X } X ρ S := fun σ H ρ S O X E D A hw k =>
  h1 σ H ρ S O X _ _ A hw ⟨fun σ' H' ρ' S' O' s e n q => h2 σ' H' ρ' S' O' X E D (A.next s e n) q (k.next s e), k.rt, k.bk, k.ct⟩
theorem rs_if {c : TT} {t u : TS} {w1 w2 : WS'} (hc : RT L K W c w) (h1 : RS L K W t w1) (h2 : RS L K W u w2) : RS L K W (tIfS c t u) fun E X ρ S => w ρ S (fun k d S => X k d ρ S) fun d S1 => tstD d fun z => if z = true then w1 E X ρ S1 else w2 E X ρ S1 := fun σ H ρ S O X E D A hw k => by
  refine hc.go (Q := fun z S1 => if z = true then w1 E X ρ S1 else w2 E X ρ S1) A.ex hw fun b H1 S1 O1 A1 e1 q => ?_
  cases b with
  | true => exact h1 σ H1 ρ S1 O1 X E D (A.next A1.sok e1 A1.env) q (k.next A1.sok e1)
  | false => exact h2 σ H1 ρ S1 O1 X E D (A.next A1.sok e1 A1.env) q (k.next A1.sok e1)
theorem rs_whl {c : TT} {t : TS} {w1 : WS'} (hc : RT L K W c w) (h1 : RS L K W t w1) : RS L K W (tWhile c t) fun E X ρ S => ∃ W : Nat → Env → Sto → Prop, (∃ m, W m ρ S) ∧ ∀ m ρ S, W m ρ S → w ρ S (fun k d S => X k d ρ S) fun d S1 => tstD d fun z =>
      if z = true then w1 { nx := fun ρ' S' => ∃ m', m' < m ∧ W m' ρ' S', ct := fun ρ' S' => ∃ m', m' < m ∧ W m' ρ' S', bk := E.nx, rt := E.rt } X ρ S1 else E.nx ρ S1 := fun σ H ρ S O X E D A hw k => by
  obtain ⟨Wd, ⟨m0, w0⟩, turn⟩ := hw
  refine ⟨fun m σ' H' => ∃ ρ' S' O', Sok K S' O' H' ∧ Ev S O H S' O' H' ∧ REnv K O' H' ρ' σ' ∧ Wd m ρ' S', ⟨m0, ρ, S, O, A.sok, .refl, A.env, w0⟩, ?_⟩
  rintro m σ' H' ⟨ρ', S', O', s', e', n', w'⟩
  have A' := A.next s' e' n'
  refine hc.go (Q := fun z S1 => if z = true then w1 { nx := fun ρ' S' => ∃ m', m' < m ∧ Wd m' ρ' S', ct := fun ρ' S' => ∃ m', m' < m ∧ Wd m' ρ' S', bk := E.nx, rt := E.rt } X ρ' S1 else E.nx ρ' S1) A'.ex (turn m ρ' S' w') fun b H1 S1 O1 A1 e1 q => ?_
  have ee := e'.trans s' e1
  cases b with
  | false => exact k.nx σ' H1 ρ' S1 O1 A1.sok ee A1.env q
  | true =>
    rw [if_pos rfl] at q ⊢
    refine ⟨fun σ2 H2 => ∃ m', m' < m ∧ ∃ ρ' S' O', Sok K S' O' H2 ∧ Ev S O H S' O' H2 ∧ REnv K O' H2 ρ' σ2 ∧ Wd m' ρ' S', fun σ2 H2 h => h, ?_⟩
    refine h1 σ' H1 ρ' S1 O1 X _ _ (A.next A1.sok ee A1.env) q ⟨fun σ2 H2 ρ2 S2 O2 s2 e2 n2 q2 => ?_, (k.next A1.sok ee).rt, (k.next A1.sok ee).nx, fun σ2 H2 ρ2 S2 O2 s2 e2 n2 q2 => ?_⟩
    · obtain ⟨m', hm, q2⟩ := q2
      exact ⟨m', hm, ρ2, S2, O2, s2, ee.trans A1.sok e2, n2, q2⟩
    · obtain ⟨m', hm, q2⟩ := q2
      exact ⟨m', hm, ρ2, S2, O2, s2, ee.trans A1.sok e2, n2, q2⟩
theorem rs_for {wi : TI} {g : TG} {tb : TS} {ts : List Nat} {wI : WI} {wG : WG} {wB : WS'} (hI : RI L K W wi wI) (hG : RG L K W ts g wG) (hB : RS L K W tb wB) :
    RS L K W (tFor wi g tb) fun E X ρ S => wI ρ S (fun k d S => X k d ρ S) fun ds C S1 => forL (fun d ρ S K => wG d ρ S xNo K) (fun E' ρ S => wB E' X ρ S) C E ds ρ S1 := fun σ H ρ S O X E D A hw k => by
  refine hI σ H ρ S O _ _ _ A.ex hw fun J H1 ds C S1 O1 it z s1 e1 q1 => ?_
  refine ⟨fun i m σ' H' => m = ds.length - i ∧ i ≤ ds.length ∧ ∃ ρ' S' O', Sok K S' O' H' ∧ Ev S1 O1 H1 S' O' H' ∧ REnv K O' H' ρ' σ' ∧ forL (fun d ρ S K => wG d ρ S xNo K) (fun E' ρ S => wB E' X ρ S) C E (ds.drop i) ρ' S',
    ⟨ds.length, rfl, Nat.zero_le _, ρ, S1, O1, s1, .refl, A.env.mono (e1.mo A.sok), q1⟩, ?_⟩
  rintro i m σ' H' ⟨rfl, hi, ρ', S', O', s', e', n', q⟩
  have et := e1.trans s1 e'
  by_cases hlt : i < ds.length
  · right
    rw [drop_cons hlt] at q
    obtain ⟨c, q⟩ := q
    obtain ⟨go, yl⟩ := it.go i S' O' H' s' (e'.mo s1) c hlt
    refine ⟨go, fun σ2 H2 => ∃ m', m' < ds.length - i ∧ _, fun σ2 H2 h => h, fun x H2 y => ?_⟩
    obtain ⟨d, hd, rx, s2, e2⟩ := yl x H2 y
    rw [List.getElem?_eq_getElem hlt] at hd
    cases hd
    refine hG x _ σ' H2 ρ' S' O' _ _ (At.no s2 (n'.mono (e2.mo s'))) rx q fun σ3 H3 ρ3 S3 O3 s3 e3 n3 i3 q3 => ?_
    have ee3 := (et.trans s' e2).trans s2 e3
    have ei3 := (e'.trans s' e2).trans s2 e3
    have k3 := k.next s3 ee3
    refine hB σ3 H3 ρ3 S3 O3 X _ _ (A.next s3 ee3 n3) q3 ⟨fun σ4 H4 ρ4 S4 O4 s4 e4 n4 q4 => ?_, k3.rt, k3.nx, fun σ4 H4 ρ4 S4 O4 s4 e4 n4 q4 => ?_⟩
    · exact ⟨ds.length - (i + 1), by omega, rfl, hlt, ρ4, S4, O4, s4, ei3.trans s3 e4, n4, q4⟩
    · exact ⟨ds.length - (i + 1), by omega, rfl, hlt, ρ4, S4, O4, s4, ei3.trans s3 e4, n4, q4⟩
  · left
    have ei : i = ds.length := by omega
    subst ei
    rw [List.drop_length] at q
    exact ⟨it.stop _ S' O' H' s' (e'.mo s1) q.1 rfl, k.nx σ' H' ρ' S' O' s' et n' q.2⟩
theorem rs_aug {i : Nat} {te : TE} {op : BOp} {r : R2} (h : RE L K W te w) (hr : Hr K r fun _ dx dy P => ∃ a b, dx = .int a ∧ dy = .int b ∧ binD op dx dy P) : RS L K W (tAug i te r) fun E X ρ S => match getV ρ i with
    | some x => w ρ S (fun k d S => X k d ρ S) fun y S1 => ∃ a b, x = .int a ∧ y = .int b ∧ binD op x y fun z => E.nx (setV ρ i z) S1
    | none => False := fun σ H ρ S O X E D A hw k => by
  cases e : getV ρ i with
  | none => simp only [e] at hw
  | some x =>
    simp only [e] at hw
    obtain ⟨v, hv, rv⟩ := A.env.get e
    refine ⟨v, hv, h.go A.ex hw fun y H1 dy S1 O1 r1 A1 e1 q1 => ?_⟩
    refine hr v y x dy H1 S1 O1 (fun z => E.nx (setV ρ i z) S1) _ A1.sok (rv.mono (e1.mo A.sok)) r1 q1 fun z H2 dz r2 s2 e2 q2 => ?_
    exact k.nx _ H2 _ S1 O1 s2 (e1.trans A1.sok e2) ((A1.env.mono (e2.mo A1.sok)).set i r2) q2
end
end DL

/-! DL9: own rules: tuple[lo:hi:step]; if-expressions as tests; calls without arguments; built-ins over data. -/
namespace DL
open PySem PySem.Spec PyProof.Rows L2
section
variable {prog : Program} {w : World} {A : Around} {E : Value → Shared → Prop} {s : Shared}
theorem sliceApplied_step {sl : Addr} {vl vu vs : Value} {lo hi : Option Int} {st : Int} {n : Nat} {Q : Int × Int × Nat → Shared → Prop} (hs : s.heap.IsSliceOf sl vl vu vs) (pl : IsPart vl lo) (pu : IsPart vu hi) (ps : IsPart vs (some st)) (h0 : st ≠ 0)
    (h : Q ((Builtin.Slice.sliceAdjust lo hi st (n : Int)).1, st, Builtin.Slice.slicePlaces (Builtin.Slice.sliceAdjust lo hi st (n : Int)).1 (Builtin.Slice.sliceAdjust lo hi st (n : Int)).2 st) s) : wpAny (model prog w) A (Builtin.Slice.sliceApplied (.ref sl) (pure (n : Int))) Q E s := by
  obtain ⟨os, hos, hcs, hds⟩ := id hs
  unfold Builtin.Slice.sliceApplied Builtin.Slice.sliceFields
  refine wpAny_bind (wpAny_bind (wpAny_field hos hds (x := vl) rfl (wpAny_bind (wpAny_field hos hds (x := vu) rfl (wpAny_bind (wpAny_field hos hds (x := vs) rfl (wpAny_pure ?_)))))))
  refine wpAny_bind (HT.slicePart_ ps ?_)
  show wpAny _ _ (if (st == 0) = true then _ else _) _ _ s
  rw [if_neg (by simpa using h0)]
  refine wpAny_bind (HT.slicePart_ pl (wpAny_bind (HT.slicePart_ pu (wpAny_bind (wpAny_pure ?_)))))
  show wpAny _ _ (match Builtin.Slice.sliceAdjust lo hi st (n : Int) with | (lo, hi) => pure (lo, st, Builtin.Slice.slicePlaces lo hi st)) _ _ s
  exact wpAny_pure h
theorem adj_pos (lo hi : Option Int) (st : Int) (n : Nat) (h : 0 < st) : 0 ≤ (Builtin.Slice.sliceAdjust lo hi st (n : Int)).1 ∧ (Builtin.Slice.sliceAdjust lo hi st (n : Int)).2 ≤ n := by
  have hn : ¬ st < 0 := by omega
  unfold Builtin.Slice.sliceAdjust
  simp only [hn, if_false]
  cases lo <;> cases hi <;> simp only [] <;> constructor <;> (try split) <;> omega
theorem adj_neg (lo hi : Option Int) (st : Int) (n : Nat) (h : st < 0) : (Builtin.Slice.sliceAdjust lo hi st (n : Int)).1 ≤ (n : Int) - 1 ∧ -1 ≤ (Builtin.Slice.sliceAdjust lo hi st (n : Int)).2 := by
  unfold Builtin.Slice.sliceAdjust
  simp only [h, if_true]
  cases lo <;> cases hi <;> simp only [] <;> constructor <;> (try split) <;> omega
theorem places_le (lo hi : Option Int) (st : Int) (n : Nat) (h0 : st ≠ 0) : Builtin.Slice.slicePlaces (Builtin.Slice.sliceAdjust lo hi st (n : Int)).1 (Builtin.Slice.sliceAdjust lo hi st (n : Int)).2 st ≤ n := by
  have key : ∀ (d k : Int), 1 ≤ k → 0 < d → d ≤ n → (d - 1) / k + 1 ≤ n := fun d k hk h1 h2 => by
    have := Int.ediv_le_self (a := d - 1) k (by omega)
    omega
  unfold Builtin.Slice.slicePlaces
  by_cases hp : st > 0
  · obtain ⟨ha, hb⟩ := adj_pos lo hi st n hp
    revert ha hb
    generalize (Builtin.Slice.sliceAdjust lo hi st (n : Int)).1 = a
    generalize (Builtin.Slice.sliceAdjust lo hi st (n : Int)).2 = b
    intro ha hb
    simp only [hp, if_true]
    split
    · have := key (b - a) st (by omega) (by omega) (by omega)
      omega
    · simp
  · have hn : st < 0 := by omega
    obtain ⟨ha, hb⟩ := adj_neg lo hi st n hn
    revert ha hb
    generalize (Builtin.Slice.sliceAdjust lo hi st (n : Int)).1 = a
    generalize (Builtin.Slice.sliceAdjust lo hi st (n : Int)).2 = b
    intro ha hb
    simp only [hp, if_false]
    split
    · have := key (a - b) (-st) (by omega) (by omega) (by omega)
      omega
    · simp
theorem pick_len {α : Type} (xs : List α) (lo hi : Option Int) (st : Int) (h0 : st ≠ 0) : (pick xs lo hi st).length ≤ xs.length := by
  unfold pick
  refine Nat.le_trans (List.length_filterMap_le _ _) ?_
  rw [List.length_range]
  exact places_le lo hi st xs.length h0
theorem getItem_tuple_step {t sl : Addr} {its : List Value} {vl vu vs : Value} {lo hi : Option Int} {st : Int} {Q : Value → Shared → Prop} (ht : IsTup s.heap t its.toArray) (hs : s.heap.IsSliceOf sl vl vu vs) (pl : IsPart vl lo) (pu : IsPart vu hi) (ps : IsPart vs (some st)) (h0 : st ≠ 0) (h1 : st ≠ 1)
    (h : Q (.ref s.heap.objs.size) { s with heap := s.heap.push { cls := .type "tuple", data := .seq (pick its lo hi st).toArray } })
    (hsz : its.length ≤ sizeLine) : wpAny (model prog w) A (getItem (.ref t) (.ref sl)) Q E s := by
  have htake : sizeOk (.seq (pick its lo hi st).toArray) := by
    show (pick its lo hi st).toArray.size ≤ sizeLine
    rw [List.size_toArray]
    exact Nat.le_trans (pick_len its lo hi st h0) hsz
  obtain ⟨os, hos, hcs, hds⟩ := id hs
  have hTs : s.TypeIs (.ref sl) "slice" := ⟨os, hos, hcs⟩
  unfold getItem
  try with_reducible refine wpAny_holding ?_
  first | refine wpAny_bind (wpAny_pure ?_) | skip
  refine wpAny_bind (wpAny_sequenceKey ht.typeIs (by decide) ?_)
  refine wpAny_bind (wpAny_callSpecial?_slot (name := Str.ofString "__getitem__") ht.typeIs PyProof.Rows.slot_tuple_getitem
    (wpAny_call_entry PyProof.Rows.slot_tuple_getitem ht.typeIs entry_tuple_getitem ?_ (args_tuple_getitem _ _)))
  show wpAny _ _ (Builtin.Tuple.tupleItemsOf (.ref t) >>= _) _ _ s
  refine wpAny_bind (tupleItemsOf_ ht ?_)
  refine wpAny_bind (wpAny_typeOf hTs ?_)
  rw [if_pos (by decide)]
  refine wpAny_bind (sliceApplied_step hs pl pu ps h0 ?_)
  have hno : ¬ (((Builtin.Slice.sliceAdjust lo hi st (its.toArray.size : Int)).1 == 0 && st == 1 && Builtin.Slice.slicePlaces (Builtin.Slice.sliceAdjust lo hi st (its.toArray.size : Int)).1 (Builtin.Slice.sliceAdjust lo hi st (its.toArray.size : Int)).2 st == its.toArray.size) = true) := by
    intro q
    rw [Bool.and_eq_true, Bool.and_eq_true] at q
    exact h1 (eq_of_beq q.1.2)
  show wpAny _ _ (if ((Builtin.Slice.sliceAdjust lo hi st (its.toArray.size : Int)).1 == 0 && st == 1 && Builtin.Slice.slicePlaces (Builtin.Slice.sliceAdjust lo hi st (its.toArray.size : Int)).1 (Builtin.Slice.sliceAdjust lo hi st (its.toArray.size : Int)).2 st == its.toArray.size) = true then _ else _) _ _ s
  rw [if_neg hno]
  have e : ((List.range (Builtin.Slice.slicePlaces (Builtin.Slice.sliceAdjust lo hi st (its.toArray.size : Int)).1 (Builtin.Slice.sliceAdjust lo hi st (its.toArray.size : Int)).2 st)).filterMap fun (k : Nat) => its.toArray[((Builtin.Slice.sliceAdjust lo hi st (its.toArray.size : Int)).1 + (k : Int) * st).toNat]?).toArray = (pick its lo hi st).toArray := by
    simp [pick]
  rw [e]
  first
    | exact wpAny_bind (m := Builtin.Tuple.tupleExact _) (wpAny_newObj_type (wpAny_pure ⟨_, rfl, wpAny_pure h⟩) htake)
    | exact wpAny_bind (m := Builtin.Tuple.tupleExact _) (wpAny_newObj_type (wpAny_bind (wpAny_pure (wpAny_pure ⟨_, rfl, wpAny_pure h⟩))) htake)
    | exact wpAny_bind (wpAny_bind (m := Builtin.Tuple.tupleExact _) (wpAny_newObj_type (wpAny_pure (wpAny_pure ⟨_, rfl, wpAny_pure h⟩)) htake))
    | exact wpAny_bind (wpAny_bind (m := Builtin.Tuple.tupleExact _) (wpAny_newObj_type (wpAny_pure ⟨_, rfl, wpAny_pure h⟩) htake))
end
theorem filterMap_two {α β : Type} {R : α → β → Prop} {f : Nat → Option α} {g : Nat → Option β} (h : ∀ k, (f k = none ∧ g k = none) ∨ ∃ a b, f k = some a ∧ g k = some b ∧ R a b) : ∀ l : List Nat, Paired R (l.filterMap f) (l.filterMap g)
  | [] => .nil
  | k :: l => by
    rcases h k with ⟨e1, e2⟩ | ⟨a, b, e1, e2, r⟩
    · rw [List.filterMap_cons_none e1, List.filterMap_cons_none e2]; exact filterMap_two h l
    · rw [List.filterMap_cons_some e1, List.filterMap_cons_some e2]; exact .cons r (filterMap_two h l)
theorem vals_pick {xs : List V} {us : List Value} (r : Vals xs us) (lo hi : Option Int) (st : Int) : Vals (pick xs lo hi st) (pick us lo hi st) := by
  unfold pick
  rw [r.length]
  refine filterMap_two (fun k => ?_) _
  generalize (_ : Int).toNat = i
  cases e : xs[i]? with
  | none => exact .inl ⟨rfl, r.none_of e⟩
  | some a => obtain ⟨u, h1, h2⟩ := r.get e; exact .inr ⟨a, u, rfl, h1, h2⟩
theorem rps_of_paired {K : PySem.W.Frag} {O : Ow} {H : Hp} : ∀ {xs : List V} {ds : List D}, Paired (Rp K O H) xs ds → Rps K O H xs ds
  | _, _, .nil => .nil
  | _, _, .cons r t => .cons r (rps_of_paired t)
theorem Rps.pick {K : PySem.W.Frag} {O : Ow} {H : Hp} {xs : List V} {ds : List D} (r : Rps K O H xs ds) (lo hi : Option Int) (st : Int) : Rps K O H (DL.pick xs lo hi st) (DL.pick ds lo hi st) := by
  unfold DL.pick
  rw [r.len]
  refine rps_of_paired (filterMap_two (fun k => ?_) _)
  generalize (_ : Int).toNat = i
  cases e : xs[i]? with
  | none =>
    refine .inl ⟨rfl, ?_⟩
    have h1 := r.len
    have h2 := List.getElem?_eq_none_iff.mp e
    exact List.getElem?_eq_none_iff.mpr (by omega)
  | some a => obtain ⟨u, h1, h2⟩ := r.getV e; exact .inr ⟨a, u, rfl, h1, h2⟩
def tStp (K : PySem.W.Frag) (te : TE) (tl th ts : TO) : TE := fun σ H Q => te σ H fun x H1 => tl σ H1 fun l H2 => th σ H2 fun u H3 => ts σ H3 fun o H4 => ∃ a xs k, x = .ref a ∧ o = some k ∧ SqT K H4 a xs ∧ k ≠ 0 ∧ k ≠ 1 ∧ ∀ p, H4 p = none → Q (.ref p) (upd H4 p (.tup (pick xs l u k)))
section
variable {L : Lnk} {K : PySem.W.Frag} {W : WX} {X : Cx}
theorem pe_stp {e st : Expr} {lo hi : Option Expr} {te : TE} {tl th ts : TO} {p3 pos : Pos} (he : PE X e te) (hl : PO X lo tl) (hh : PO X hi th) (hst : PO X (some st) ts) : PE X (.Subscript e (.Slice lo hi (some st) p3) pos) (tStp X.K te tl th ts) := by
  refine ⟨fun pins s σ H Q I h => ?_⟩
  refine Subscript_ (thn (he.run pins s σ H _ I h) fun v s1 ⟨x, H1, I1, r1, q1⟩ => ?_)
  refine wpAny_Slice (thn (hl.run pins s1 σ H1 _ I1 q1) fun vl s2 ⟨l, H2, I2, pl, q2⟩ => ?_)
  refine thn (hh.run pins s2 σ H2 _ I2 q2) fun vu s3 ⟨u, H3, I3, pu, q3⟩ => ?_
  refine thn (hst.run pins s3 σ H3 _ I3 q3) fun vs s4 ⟨o, H4, I4, ps, a, xs, k, ex, eo, hx, h0, h1, q⟩ => ?_
  subst ex eo
  cases r1
  have I5 : Inv X pins σ H4 { s4 with heap := s4.heap.push { cls := .type "slice", data := .fields #[vl, vu, vs] } } := I4.kept (t' := s4.toks) fun b ob q => Heap.get?_push_of_some _ q
  obtain ⟨its, r, ht, hz⟩ := I5.tuple hx
  show wpAny (model X.prog X.w) X.A (subscriptTail e (.Slice lo hi (some st) p3) (.ref a) (.ref s4.heap.objs.size)) (EP X pins σ Q) X.xe { s4 with heap := s4.heap.push { cls := .type "slice", data := .fields #[vl, vu, vs] } }
  refine tail_any (ops := [.ref a, .ref s4.heap.objs.size]) ht.typeIs (PyProof.Rows.slot_tuple_getitem.lookup) ?_ (by with_unfolding_all rfl)
  refine getItem_tuple_step ht (Heap.IsSliceOf.new _ vl vu vs) pl pu ps h0 h1 ?_ (by rw [← r.length]; exact hz)
  refine ⟨.ref _, _, I5.laid (t' := s4.toks) (o := .tup (pick xs l u k)) (fun b ob q => Heap.get?_push_of_some _ q) (Nat.le_refl _) ?_, rfl, q _ (I5.hok.fresh (Nat.le_refl _))⟩
  exact ⟨Nat.le_trans (pick_len _ _ _ _ h0) hz, _, vals_pick r l u k, IsTup.new _ _⟩
theorem re_stp {te : TE} {tl th : TO} {ts : TE} {wa ws : WE'} {wl wh : Env → Sto → XD → (Option Int → Sto → Prop) → Prop} (ha : RE L K W te wa) (hl : RO L K W tl wl) (hh : RO L K W th wh) (hs : RE L K W ts ws) : RE L K W (tStp K te tl th (tPart ts)) fun ρ S R Q => wa ρ S R fun x S1 => wl ρ S1 R fun l S2 => wh ρ S2 R fun h S3 => ws ρ S3 R fun y S4 => match x, y with
    | .tup xs, .int k => k ≠ 0 ∧ k ≠ 1 ∧ Q (.tup (pick xs l h k)) S4
    | _, _ => False := fun σ H ρ S O R Q Q' A hw k => by
  refine ha.go A hw fun x H1 dx S1 O1 r1 A1 e1 q1 => ?_
  refine hl.go A1 q1 fun l H2 S2 O2 A2 e2 q2 => ?_
  refine hh.go A2 q2 fun h H3 S3 O3 A3 e3 q3 => ?_
  refine hs.go A3 q3 fun y H4 dy S4 O4 r4 A4 e4 q4 => ?_
  have r1 := ((r1.mono (A1.mo e2)).mono (A2.mo e3)).mono (A3.mo e4)
  cases dx <;> cases dy <;> try exact q4.elim
  cases r4
  obtain ⟨h0, h1, q⟩ := q4
  cases r1 with
  | tup g1 g2 g3 =>
  rename_i st _ a xs
  have ev := ((e1.trans A1.sok e2).trans A2.sok e3).trans A3.sok e4
  refine ⟨_, rfl, a, xs, _, rfl, rfl, g1, h0, h1, fun p hp => ?_⟩
  exact k _ _ _ S4 O4 (rp_new A4.sok hp (Nat.le_trans (pick_len _ _ _ _ h0) g2) (g3.pick l h _)) (A4.sok.new hp) (ev.trans A4.sok (ev_new hp A4.sok)) q

/-! ### c ? a : b as a test -/
theorem isTrue_ifExp (c a b : Expr) (pos : Pos) (env : PySem.Env) (wh : Sem Value) : isTrue (.IfExp c a b pos) env wh = (do if ← isTrue c env (eval c env) then isTrue a env (eval a env) else isTrue b env (eval b env)) := by first | rfl | simp [isTrue]
theorem pt_ite {c a b : Expr} {tc ta tb : TT} {pos : Pos} (hc : PT X c tc) (ha : PT X a ta) (hb : PT X b tb) : PT X (.IfExp c a b pos) fun σ H Q => tc σ H fun z H1 => if z = true then ta σ H1 Q else tb σ H1 Q := by
  refine ⟨fun pins s σ H Q I h => ?_⟩
  rw [isTrue_ifExp]
  refine wpAny_bind (thn (hc.run pins s σ H _ I h) fun d s1 ⟨H1, I1, q1⟩ => ?_)
  cases d with
  | true => exact ha.run pins s1 σ H1 Q I1 q1
  | false => exact hb.run pins s1 σ H1 Q I1 q1
theorem rt_ite {tc ta tb : TT} {wc wa wb : WE'} (hc : RT L K W tc wc) (ha : RT L K W ta wa) (hb : RT L K W tb wb) : RT L K W (fun σ H Q => tc σ H fun z H1 => if z = true then ta σ H1 Q else tb σ H1 Q) fun ρ S R Q => wc ρ S R fun x S1 => tstD x fun z => if z = true then wa ρ S1 R Q else wb ρ S1 R Q := fun σ H ρ S O R Q Q' A hw k => by
  refine hc.go (Q := fun z S1 => if z = true then wa ρ S1 R (fun d S' => tstD d fun b => Q b S') else wb ρ S1 R (fun d S' => tstD d fun b => Q b S')) A hw fun b H1 S1 O1 A1 e1 q => ?_
  cases b with
  | true => exact ha.go A1 q fun v H2 S2 O2 A2 e2 q2 => k v H2 S2 O2 A2.sok (e1.trans A1.sok e2) q2
  | false => exact hb.go A1 q fun v H2 S2 O2 A2 e2 q2 => k v H2 S2 O2 A2.sok (e1.trans A1.sok e2) q2

/-! ### chains -/
theorem re_chn {ta tb tc : TE} {wa wb wc : WE'} {r r' : R2} {o1 o2 : COp} (ha : RE L K W ta wa) (hb : RE L K W tb wb) (hc : RE L K W tc wc) (h1 : Hr K r fun S dx dy P => cmpD o1 (res S dx) (res S dy) fun z => P (.bl z)) (h2 : Hr K r' fun S dx dy P => cmpD o2 (res S dx) (res S dy) fun z => P (.bl z)) :
    RE L K W (tChain r r' ta tb tc) fun ρ S R Q => wa ρ S R fun x S1 => wb ρ S1 R fun y S2 => cmpD o1 (res S2 x) (res S2 y) fun z => if z = true then wc ρ S2 R fun u S3 => cmpD o2 (res S3 y) (res S3 u) fun v => Q (.bl v) S3 else Q (.bl false) S2 := fun σ H ρ S O R Q Q' A hw k => by
  refine ha.go A hw fun x H1 dx S1 O1 r1 A1 e1 q1 => ?_
  refine hb.go A1 q1 fun y H2 dy S2 O2 r2 A2 e2 q2 => ?_
  have ev := e1.trans A1.sok e2
  refine h1 x y dx dy H2 S2 O2 (fun d => ∃ z, d = .bl z ∧ if z = true then wc ρ S2 R fun u S3 => cmpD o2 (res S3 dy) (res S3 u) fun v => Q (.bl v) S3 else Q (.bl false) S2) _ A2.sok (r1.mono (A1.mo e2)) r2 ?_ fun v H3 d rv s e q => ?_
  · revert q2
    generalize hF : (fun z => if z = true then wc ρ S2 R fun u S3 => cmpD o2 (res S3 dy) (res S3 u) fun v => Q (.bl v) S3 else Q (.bl false) S2) = F
    have : (fun z => ∃ z', D.bl z = .bl z' ∧ if z' = true then wc ρ S2 R fun u S3 => cmpD o2 (res S3 dy) (res S3 u) fun v => Q (.bl v) S3 else Q (.bl false) S2) = F := by
      rw [← hF]
      funext z
      exact propext ⟨fun ⟨z', e, h⟩ => by cases e; exact h, fun h => ⟨z, rfl, h⟩⟩
    show cmpD o1 (res S2 dx) (res S2 dy) F → cmpD o1 (res S2 dx) (res S2 dy) fun z => ∃ z', D.bl z = .bl z' ∧ if z' = true then wc ρ S2 R fun u S3 => cmpD o2 (res S3 dy) (res S3 u) fun v => Q (.bl v) S3 else Q (.bl false) S2
    rw [this]
    exact id
  · obtain ⟨z, rfl, q⟩ := q
    cases rv
    refine ⟨z, rfl, ?_⟩
    have A3 := A2.next s e
    cases z with
    | false => exact k _ H3 _ S2 O2 (.bl _) s (ev.trans A2.sok e) q
    | true =>
      rw [if_pos rfl] at q ⊢
      refine hc.go A3 q fun u H4 du S4 O4 r4 A4 e4 q4 => ?_
      refine h2 y u dy du H4 S4 O4 (fun d => Q d S4) _ A4.sok ((r2.mono (e.mo A2.sok)).mono (A3.mo e4)) r4 q4 fun v H5 d rv s5 e5 q5 => ?_
      exact k v H5 d S4 O4 rv s5 (((ev.trans A2.sok e).trans s e4).trans A4.sok e5) q5

/-! ### xs.append(y) -/
theorem re_app {to te : TE} {wo we : WE'} (ho : RE L K W to wo) (he : RE L K W te we) : RE L K W (tBM K "list" rAppend to (tCons te tNil)) fun ρ S R Q => wo ρ S R fun x S1 => ∃ p, x = .ref p ∧ (∃ ds, S1 p = some (.lst ds)) ∧ we ρ S1 R fun y S2 => ∃ ds, S2 p = some (.lst ds) ∧ ds.length < sizeLine ∧ Q .non (sup S2 p (.lst (ds ++ [y]))) := fun σ H ρ S O R Q Q' A hw k => by
  refine ho.go A hw fun x H1 dx S1 O1 r1 A1 e1 q1 => ?_
  obtain ⟨p, rfl, ⟨ds, hs⟩, q1⟩ := q1
  cases r1
  obtain ⟨_, xs, h1, _, _⟩ := A1.sok.dom _ _ hs
  refine ⟨.inl ⟨rfl, xs, SqL.of h1⟩, ?_⟩
  refine he.go A1 q1 fun y H2 dy S2 O2 r2 A2 e2 q2 => ?_
  obtain ⟨ds, hs, hz, q⟩ := q2
  obtain ⟨ho, xs, h1, z, h2⟩ := A2.sok.dom _ _ hs
  have hl : xs.length < sizeLine := by rw [h2.len]; exact hz
  refine ⟨p, xs, y, rfl, rfl, h1, hl, ?_⟩
  have ev := ev_write (ys := xs ++ [y]) (es := ds ++ [dy]) hs A2.sok
  have sk := A2.sok.write hs h1 (ys := xs ++ [y]) (es := ds ++ [dy]) (by rw [List.length_append]; exact hl) (h2.append (.cons r2 .nil))
  exact k _ _ _ _ O2 .non sk ((e1.trans A1.sok e2).trans A2.sok ev) q
end
end DL

/-! DL10: built-ins over data. -/
namespace DL
open PySem PySem.Spec PyProof.Rows L2
section
variable {X : Cx} {K : PySem.W.Frag} {S : Sto} {O : Ow} {H : Hp}
def HB (K : PySem.W.Frag) (r : List V → Hp → VK → Prop) (b : BI) : Prop := ∀ (vs : List V) (ds : List D) (H : Hp) (S : Sto) (O : Ow) (P : D → Prop) (Q' : VK), Sok K S O H → Rps K O H vs ds → biD b S ds P → (∀ v H' d, Rp K O H' v d → Sok K S O H' → Ev S O H S O H' → P d → Q' v H') → r vs H Q'
def biName : BI → Str
  | .len => "len" | .abs => "abs" | .max => "max" | .min => "min" | .int => "int" | .sum => "sum" | .all => "all" | .any => "any" | .tuple => "tuple" | .isinst => "isinstance" | .repr => "repr" | .str => "str"
def biVal : BI → Value
  | .len => .builtin "len" | .abs => .builtin "abs" | .max => .builtin "max" | .min => .builtin "min" | .int => .type "int" | .sum => .builtin "sum" | .all => .builtin "all" | .any => .builtin "any" | .tuple => .type "tuple" | .isinst => .builtin "isinstance" | .repr => .builtin "repr" | .str => .type "str"
theorem bi_boot (b : BI) : bootBuiltins (biName b) = some (biVal b) := by
  cases b
  · exact boot_len
  · exact boot_abs
  · exact boot_max
  · exact boot_min
  · decide +kernel
  · exact boot_sum
  · exact boot_all
  · exact boot_any
  · decide +kernel
  · exact boot_isinstance
  · exact boot_repr
  · decide +kernel
theorem kitB_all : (["NoneType", "bool", "int", "str", "tuple", "list", "dict"].all fun t => isiTys.all fun n => kitB t n == some (isiB t n)) = true := by decide +kernel
theorem typD_mem {d : D} {t : String} (h : typD d = some t) : t ∈ ["NoneType", "bool", "int", "str", "tuple", "list", "dict"] := by
  cases d <;> simp only [typD] at h <;> first | (cases h; decide) | cases h
theorem kitB_of {d : D} {t n : String} (h : typD d = some t) (hn : n ∈ isiTys) : kitB t n = some (isiB t n) := by
  have := List.all_eq_true.mp (List.all_eq_true.mp kitB_all t (typD_mem h)) n hn
  exact eq_of_beq this
theorem tyx_of {v : V} {d : D} {t : String} (s : Sok K S O H) (r : Rp K O H v d) (e : typD (res S d) = some t) : TyX K H v (.type t) := by
  cases r with
  | non => cases e; exact .base .non
  | bl b => cases e; exact .base (.bl b)
  | int b => cases e; exact .base (.int b)
  | str b => cases e; exact .base (.str b)
  | ty n => cases e
  | ref =>
    rename_i a
    cases q : S a with
    | none => simp only [res, q] at e; cases e
    | some o =>
      cases o with
      | lst ds =>
        simp only [res, q] at e
        cases e
        obtain ⟨_, xs, h1, _, _⟩ := s.dom _ _ q
        exact .base (.lst h1)
      | _ => simp only [res, q] at e; cases e
  | obj _ _ _ _ _ _ => cases e
  | dct h _ => cases e; exact .base (.dK h)
  | scr _ h => cases e
  | scrK _ h => cases e
  | tup h z r =>
    cases e
    rcases h with (h | ⟨o, h⟩) | ⟨o, its, n, h, c, _⟩
    · exact .base (.tup h)
    · exact .fTuple h
    · exact .kTuple h c
  | lst h n z r => cases e; exact .base (.lst h)
theorem rps1 {vs : List V} {d : D} (r : Rps K O H vs [d]) : ∃ v, vs = [v] ∧ Rp K O H v d := by
  cases r with
  | cons r t => cases t; exact ⟨_, rfl, r⟩
theorem rps2 {vs : List V} {d e : D} (r : Rps K O H vs [d, e]) : ∃ v u, vs = [v, u] ∧ Rp K O H v d ∧ Rp K O H u e := by
  cases r with
  | cons r t =>
    cases t with
    | cons r2 t => cases t; exact ⟨_, _, rfl, r, r2⟩
theorem vals1' {x : V} {us : List Value} (r : Vals [x] us) : ∃ u, us = [u] ∧ RelV x u := Vals.one r
theorem call_repr_bl : CallR X (.builtin "repr") (fun xs H Q => ∃ b : Bool, xs = [.bl b] ∧ Q (.str (if b then "True" else "False")) H) := by
  intro pins s σ H xs us Q I r h
  obtain ⟨b, rfl, q⟩ := h
  obtain ⟨u, rfl, hu⟩ := Vals.one r
  cases hu
  exact PySem.P.repr_of_bool ⟨.str _, H, I.tok _, ⟨_, rfl⟩, q⟩
theorem bi_ok (b : BI) (hc : X.calm = true) : ∃ r, CallR X (biVal b) r ∧ HB X.K r b := by
  cases b with
  | len =>
    refine ⟨_, call_len_seq.or call_len_str, fun vs ds H S O P Q' s rs h k => ?_⟩
    match ds, h with
    | [d], h =>
      obtain ⟨v, rfl, r⟩ := rps1 rs
      replace h : (match res S d with
        | .tup xs => P (.int xs.length)
        | .lst xs => P (.int xs.length)
        | .scr xs => P (.int xs.length)
        | .str x => x.length ≤ sizeLine ∧ P (.int x.length)
        | _ => False) := h
      obtain ⟨hl, ht, hs⟩ := seq_of r s
      cases e : res S d <;> rw [e] at h <;> try exact h.elim
      · have e3 := res_str e
        subst e3
        cases r
        exact .inr ⟨_, rfl, h.1, k _ H _ (.int _) s .refl h.2⟩
      · obtain ⟨a, xs, rfl, g1, g2, g3⟩ := ht _ e
        exact .inl ⟨a, xs, rfl, .inr g1, by rw [g3.len]; exact k _ H _ (.int _) s .refl h⟩
      · obtain ⟨a, xs, rfl, g1, g2, g3⟩ := hl _ e
        exact .inl ⟨a, xs, rfl, .inl (SqL.of g1), by rw [g3.len]; exact k _ H _ (.int _) s .refl h⟩
      · obtain ⟨a, rfl, g1⟩ := hs _ e
        exact .inl ⟨a, _, rfl, .inl g1, by rw [List.length_map]; exact k _ H _ (.int _) s .refl h⟩
  | abs =>
    refine ⟨_, call_abs, fun vs ds H S O P Q' s rs h k => ?_⟩
    match ds, h with
    | [.int i], h =>
      obtain ⟨v, rfl, r⟩ := rps1 rs
      cases r
      exact ⟨i, rfl, k _ H _ (.int _) s .refl h⟩
  | max =>
    refine ⟨_, (call_max2 hc).or (cr_max hc), fun vs ds H S O P Q' s rs h k => ?_⟩
    match ds, h with
    | [x, y], h =>
      obtain ⟨i, j, rfl, rfl, h⟩ := h
      obtain ⟨v, u, rfl, r, r2⟩ := rps2 rs
      cases r; cases r2
      exact .inl ⟨i, j, rfl, k _ H _ (.int _) s .refl h⟩
    | [d], h =>
      obtain ⟨v, rfl, r⟩ := rps1 rs
      replace h : ∃ ns : List Int, res S d = .lst (ns.map .int) ∧ 0 < ns.length ∧ ∀ m ∈ ns, (∀ y ∈ ns, y ≤ m) → P (.int m) := h
      obtain ⟨ns, e, hp, h⟩ := h
      obtain ⟨a, xs, rfl, g1, g2, g3⟩ := (seq_of r s).1 _ e
      rw [g3.ints] at g1
      exact .inr ⟨a, ns, rfl, SqL.of g1, hp, fun m h1 h2 => k _ H _ (.int _) s .refl (h m h1 h2)⟩
  | min =>
    refine ⟨_, (call_min2 hc).or (cr_min hc), fun vs ds H S O P Q' s rs h k => ?_⟩
    match ds, h with
    | [x, y], h =>
      obtain ⟨i, j, rfl, rfl, h⟩ := h
      obtain ⟨v, u, rfl, r, r2⟩ := rps2 rs
      cases r; cases r2
      exact .inl ⟨i, j, rfl, k _ H _ (.int _) s .refl h⟩
    | [d], h =>
      obtain ⟨v, rfl, r⟩ := rps1 rs
      replace h : ∃ ns : List Int, res S d = .lst (ns.map .int) ∧ 0 < ns.length ∧ ∀ m ∈ ns, (∀ y ∈ ns, m ≤ y) → P (.int m) := h
      obtain ⟨ns, e, hp, h⟩ := h
      obtain ⟨a, xs, rfl, g1, g2, g3⟩ := (seq_of r s).1 _ e
      rw [g3.ints] at g1
      exact .inr ⟨a, ns, rfl, SqL.of g1, hp, fun m h1 h2 => k _ H _ (.int _) s .refl (h m h1 h2)⟩
  | int =>
    refine ⟨_, call_int1, fun vs ds H S O P Q' s rs h k => ?_⟩
    match ds, h with
    | [.int i], h =>
      obtain ⟨v, rfl, r⟩ := rps1 rs
      cases r
      exact .inl ⟨i, rfl, k _ H _ (.int _) s .refl h⟩
    | [.bl i], h =>
      obtain ⟨v, rfl, r⟩ := rps1 rs
      cases r
      exact .inr ⟨i, rfl, k _ H _ (.int _) s .refl h⟩
  | sum =>
    refine ⟨_, cr_sum hc, fun vs ds H S O P Q' s rs h k => ?_⟩
    match ds, h with
    | [d], h =>
      obtain ⟨v, rfl, r⟩ := rps1 rs
      obtain ⟨ns, e, h⟩ := h
      obtain ⟨a, xs, rfl, g1, g2, g3⟩ := (seq_of r s).1 _ e
      rw [g3.ints] at g1
      exact ⟨a, ns, rfl, SqL.of g1, k _ H _ (.int _) s .refl h⟩
  | all =>
    refine ⟨_, cr_all hc, fun vs ds H S O P Q' s rs h k => ?_⟩
    match ds, h with
    | [d], h =>
      obtain ⟨v, rfl, r⟩ := rps1 rs
      obtain ⟨ns, e, h⟩ := h
      obtain ⟨a, xs, rfl, g1, g2, g3⟩ := (seq_of r s).1 _ e
      rw [g3.bls] at g1
      exact ⟨a, ns, rfl, SqL.of g1, k _ H _ (.bl _) s .refl h⟩
  | any =>
    refine ⟨_, cr_any hc, fun vs ds H S O P Q' s rs h k => ?_⟩
    match ds, h with
    | [d], h =>
      obtain ⟨v, rfl, r⟩ := rps1 rs
      obtain ⟨ns, e, h⟩ := h
      obtain ⟨a, xs, rfl, g1, g2, g3⟩ := (seq_of r s).1 _ e
      rw [g3.bls] at g1
      exact ⟨a, ns, rfl, SqL.of g1, k _ H _ (.bl _) s .refl h⟩
  | tuple =>
    refine ⟨_, call_tuple_of, fun vs ds H S O P Q' s rs h k => ?_⟩
    match ds, h with
    | [d], h =>
      obtain ⟨v, rfl, r⟩ := rps1 rs
      replace h : (match res S d with
        | .tup xs => P (.tup xs)
        | .lst xs => P (.tup xs)
        | _ => False) := h
      obtain ⟨hl, ht, hs⟩ := seq_of r s
      cases e : res S d <;> rw [e] at h <;> try exact h.elim
      · obtain ⟨a, xs, rfl, g1, g2, g3⟩ := ht _ e
        exact ⟨a, xs, rfl, .inr ⟨g1, k _ H _ (.tup g1 g2 g3) s .refl h⟩⟩
      · obtain ⟨a, xs, rfl, g1, g2, g3⟩ := hl _ e
        exact ⟨a, xs, rfl, .inl ⟨SqL.of g1, fun p hp => k _ _ _ (rp_new s hp g2 g3) (s.new hp) (ev_new hp s) h⟩⟩
  | isinst =>
    refine ⟨_, call_isi, fun vs ds H S O P Q' s rs h k => ?_⟩
    match ds, h with
    | [x, .ty n], h =>
      obtain ⟨v, u, rfl, r, r2⟩ := rps2 rs
      cases r2
      obtain ⟨t, e, hn, h⟩ := h
      exact ⟨v, .ty n, .type t, .type n, isiB t n, rfl, .ty n, tyx_of s r e, kit_ty (kitB_of e hn), k _ H _ (.bl _) s .refl h⟩
  | repr =>
    refine ⟨_, call_repr_bl.or SkE.call_repr_int, fun vs ds H S O P Q' s rs h k => ?_⟩
    match ds, h with
    | [.bl b], h =>
      obtain ⟨v, rfl, r⟩ := rps1 rs
      cases r
      exact .inl ⟨b, rfl, k _ H _ (.str _) s .refl h⟩
    | [.int i], h =>
      obtain ⟨v, rfl, r⟩ := rps1 rs
      cases r
      exact .inr ⟨i, rfl, h.1, k _ H _ (.str _) s .refl h.2⟩
  | str =>
    refine ⟨_, call_str_int.or SkE.call_str_str, fun vs ds H S O P Q' s rs h k => ?_⟩
    match ds, h with
    | [.int i], h =>
      obtain ⟨v, rfl, r⟩ := rps1 rs
      cases r
      exact .inl ⟨i, rfl, h.1, k _ H _ (.str _) s .refl h.2⟩
    | [.str x], h =>
      obtain ⟨v, rfl, r⟩ := rps1 rs
      cases r
      exact .inr ⟨x, rfl, k _ H _ (.str _) s .refl h⟩
theorem re_bi {L : Lnk} {W : WX} {b : BI} {r : List V → Hp → VK → Prop} {t : TA} {ws : Env → Sto → XD → (List D → Sto → Prop) → Prop} (h : RA L K W t ws) (hb : HB K r b) : RE L K W (tCB r t) fun ρ S R Q => ws ρ S R fun ds S1 => biD b S1 ds fun d => Q d S1 := fun σ H ρ S O R Q Q' A hw k => by
  refine h.go A hw fun vs H1 ds S1 O1 r1 A1 e1 q1 => ?_
  exact hb vs ds H1 S1 O1 _ _ A1.sok r1 q1 fun v H2 d rv s2 e2 q2 => k v H2 d S1 O1 rv s2 (e1.trans A1.sok e2) q2
end
end DL

set_option maxHeartbeats 1000000
/-! DL24: classes with slots whose instances never change: read, made, asked, their methods. -/
namespace DL
open PySem PySem.Spec PyProof.Rows L2
/-- what of the text a class with slots must have -/
structure ClsG (K : PySem.W.Frag) (c : String) (sl : List Str) : Prop where
  sc : SlX.SCls K (He.ga K c)
  si : SlX.SIsi K (He.ga K c)
  sl : ∀ (i : Nat) (f : Str), sl[i]? = some f → ∃ p, SlX.Slot1 K (He.ga K c) f p i
  nf : PySem.W.notFirst K (He.ga K c) (.ref (He.ga K c)) = true
def tys7 : List String := ["NoneType", "bool", "int", "str", "tuple", "list", "dict"]
structure ClsA (K : PySem.W.Frag) (cls : List (String × List Str)) : Prop where
  g : ∀ p ∈ cls, ClsG K p.1 p.2
  pr : ∀ p ∈ cls, ∀ r ∈ cls, PySem.W.kitOne K (.ref (He.ga K p.1)) (.ref (He.ga K r.1)) = some (p.1 == r.1)
  ty : ∀ t ∈ tys7, ∀ r ∈ cls, PySem.W.kitOne K (.type t) (.ref (He.ga K r.1)) = some false
section
variable {L : Lnk} {K : PySem.W.Frag} {W : WX} {X : Cx} {t u : TE} {w w2 : WE'} {c : String} {sl : List Str}
theorem re_fld {f : Str} {i : Nat} (G : ClsG K c sl) (hi : sl[i]? = some f) (h : RE L K W t w) : RE L K W (SlX.tSl K t f) fun ρ S R Q => w ρ S R fun x S1 => match x with
    | .obj c' fs => c' = c ∧ (match fs[i]? with
      | some d => Q d S1
      | none => False)
    | _ => False := fun σ H ρ S O R Q Q' A hw k => by
  refine h.go A hw fun x H1 dx S1 O1 r1 A1 e1 q1 => ?_
  cases dx with
  | obj c' fs =>
    obtain ⟨rfl, q⟩ := q1
    cases r1 with
    | obj hs hd n n2 hv rs =>
      cases e : fs[i]? with
      | none => rw [e] at q; exact q.elim
      | some d =>
        rw [e] at q
        obtain ⟨v, h1, h2⟩ := rs.get e
        obtain ⟨p, sp⟩ := G.sl i f hi
        exact ⟨_, _, _, p, _, i, v, rfl, hs, G.sc, sp, hv i v h1, k v H1 d S1 O1 h2 A1.sok e1 q⟩
  | _ => exact q1.elim
/-- isinstance(x, C) -/
def rIsC (K : PySem.W.Frag) (C : Addr) : List V → Hp → VK → Prop := fun xs H Q => rIsi K xs H Q ∨ SlX.rIsiSl K (.ref C) xs H Q
theorem call_isC {C : Addr} : CallR X (.builtin "isinstance") (rIsC X.K C) := by
  intro pins s σ H xs us Q I r h
  rcases h with h | h
  · exact call_isi pins s σ H xs us Q I r h
  · exact SlX.call_isiSl (.ref C) pins s σ H xs us Q I r h
theorem has_mem {cls : List (String × List Str)} (h : (cls.any fun p => p.1 == c) = true) : ∃ p ∈ cls, p.1 = c := by
  obtain ⟨p, hp, e⟩ := List.any_eq_true.mp h
  exact ⟨p, hp, eq_of_beq e⟩
theorem re_isC (G : ClsA K L.Γ.cls) (hc : L.Γ.has c = true) (h : RE L K W t w) : RE L K W (tCB (rIsC K (He.ga K c)) (tCons t (tCons (tC (.ref (He.ga K c))) tNil))) fun ρ S R Q => w ρ S R fun x S1 => isCD L.Γ.has c (res S1 x) fun b => Q (.bl b) S1 := fun σ H ρ S O R Q Q' A hw k => by
  refine h.go A hw fun x H1 dx S1 O1 r1 A1 e1 q1 => ?_
  obtain ⟨pc, hpc, rfl⟩ := has_mem hc
  have gen : ∀ t, typD (res S1 dx) = some t → Q (.bl false) S1 → (tCB (rIsC K (He.ga K pc.1)) (tCons (fun σ H Q => Q x H1) (tCons (tC (.ref (He.ga K pc.1))) tNil))) σ H1 Q' := fun t ht q => by
    refine .inl ⟨x, .ref (He.ga K pc.1), .type t, .ref (He.ga K pc.1), false, rfl, .own _, tyx_of A1.sok r1 ht, G.ty t ?_ pc hpc, k _ H1 _ S1 O1 (.bl _) A1.sok e1 q⟩
    have := typD_mem ht
    exact this
  cases e : res S1 dx with
  | obj c' fs =>
    rw [e] at q1
    obtain ⟨hh, q⟩ := q1
    obtain ⟨p', hp', rfl⟩ := has_mem hh
    have e2 : dx = .obj p'.1 fs := by
      cases dx with
      | ref p => simp only [res] at e; split at e <;> cases e
      | _ => exact e
    subst e2
    cases r1 with
    | obj hs hd n n2 hv rs =>
      have G' := G.g p' hp'
      exact .inr ⟨_, _, _, _, .ref (He.ga K pc.1), p'.1 == pc.1, rfl, rfl, fun w' hw' => hw', hs, G'.sc, G'.si, G.pr p' hp' pc hpc, k _ H1 _ S1 O1 (.bl _) A1.sok e1 q⟩
  | _ => rw [e] at q1; obtain ⟨t, ht, q⟩ := q1; exact gen t (by rw [e]; exact ht) q
/-! ### methods -/
theorem meth_eval {o : Expr} {name : Str} {apos pos : Pos} {args : List Expr} {env : PySem.Env} (hbase : attributeBase o name env (eval o env) = eval o env)
    (hfew : methodCallForm (args.length + ([] : List Keyword).length) (backTo pos (starEach args env)) (backToKw pos (keywordEach [] env)) = true) (hline : (apos.endLine == pos.line) = true) :
    eval (.Call (.Attribute o name apos) args [] pos) env = (do
      let ov ← eval o env
      standAt apos.atName
      let (f, first) ← holding [ov] (getMethod ov name (do return (← importBound o env).getD true))
      callWith pos f first (backTo pos (starEach args env)) (backToKw pos (keywordEach [] env))) := by
  rw [arm_eval_Call, hbase]
  have hpos : methodCallPos true o env apos pos = pure pos := by unfold methodCallPos; simp [hline]
  unfold methodCall calleeOf
  rw [hfew, hpos]
  rfl
theorem few_ok {es : List Expr} {env : PySem.Env} {pos : Pos} (hl : es.length < 30) (hs : (backTo pos (starEach es env)).any (·.1) = false) : methodCallForm (es.length + ([] : List Keyword).length) (backTo pos (starEach es env)) (backToKw pos (keywordEach [] env)) = true := by
  have h1 : (backTo pos (starEach es env)).all (fun x => !x.1) = true := by
    rw [List.all_eq_true]
    intro x hx
    have := List.any_eq_false.mp hs x hx
    simpa using this
  have h2 : backToKw pos (keywordEach [] env) = [] := rfl
  unfold methodCallForm
  rw [h1, h2]
  simp [hl]
/-- o.m(e, ..) -/
def tMethS (C : Addr) (sp : Sp) (E : L2.St → XK) (ta : TE) (t : TA) : TE := fun σ H Q => ta σ H fun x H1 => ∃ a dx vs, x = .ref a ∧ SlX.Slt H1 a C dx vs ∧ t σ H1 fun ws H2 => sp (x :: ws) H2 Q (E σ)
theorem pe_methC {o e : Expr} {es : List Expr} {m : Str} {apos pos : Pos} {CX : CXT} {k : Nat} {C g : Addr} {fd : FuncData} {ps : List Str} {sp : Sp} {E : L2.St → XK} {ta : TE} {t : TA} (he : PE X o ta) (c : SlX.SCls X.K C) (hm : Meth X.K C m g)
    (F : FnOk X.prog X.w X.K X.mg X.base CX k g fd ps sp) (hr : Room k X.A) (hb : Binds X.K fd ps []) (hx : ∀ σ, PassesAt CX X σ (E σ)) (ha : PA X (e :: es) t)
    (hbase : attributeBase o m X.env (eval o X.env) = eval o X.env) (hline : (apos.endLine == pos.line) = true) (hlen : (e :: es).length < 30)
    (hst : starEach (e :: es) X.env = (false, eval e X.env) :: starEach es X.env) (hpl : (backTo pos (starEach es X.env)).any (·.1) = false) :
    PE X (.Call (.Attribute o m apos) (e :: es) [] pos) (tMethS C sp E ta t) := by
  refine ⟨fun pins s σ H Q I h => ?_⟩
  refine PySem.W.methodCall_KW (thn (he.run pins s σ H _ I h) fun u s1 ⟨x, H1, I1, rx, a, dx, vs, ex, hsl, q⟩ => ?_) (meth_eval hbase (few_ok hlen (by rw [hst]; exact hpl)) hline)
  subst ex
  obtain rfl : u = Value.ref a := rx
  refine SlX.getmethsl_ok I1 hsl c hm ?_
  refine PySem.W.callWith_K (first := [.ref a]) (h₀ := X.base) I.ok.mod.kin hm.kp (thn (ha.run pos pins s1 σ H1 _ I1 q) fun us s2 ⟨ws, H2, I2, r, q2⟩ => ⟨I2.kIn, ?_⟩) hst hpl
  exact run_fnS (us := .ref a :: us) (vs := .ref a :: ws) F hr hb (hx σ) I2 (.cons rfl r) q2
theorem pe_methC0 {o : Expr} {m : Str} {apos pos : Pos} {CX : CXT} {k : Nat} {C g : Addr} {fd : FuncData} {ps : List Str} {sp : Sp} {E : L2.St → XK} {ta : TE} (he : PE X o ta) (c : SlX.SCls X.K C) (hm : Meth X.K C m g)
    (F : FnOk X.prog X.w X.K X.mg X.base CX k g fd ps sp) (hr : Room k X.A) (hb : Binds X.K fd ps []) (hx : ∀ σ, PassesAt CX X σ (E σ))
    (hbase : attributeBase o m X.env (eval o X.env) = eval o X.env) (hline : (apos.endLine == pos.line) = true) :
    PE X (.Call (.Attribute o m apos) [] [] pos) (tMethS C sp E ta tNil) := by
  refine ⟨fun pins s σ H Q I h => ?_⟩
  refine PySem.W.methodCall_KW (thn (he.run pins s σ H _ I h) fun u s1 ⟨x, H1, I1, rx, a, dx, vs, ex, hsl, q⟩ => ?_) (meth_eval hbase (few_ok (es := []) (by decide) rfl) hline)
  subst ex
  obtain rfl : u = Value.ref a := rx
  refine SlX.getmethsl_ok I1 hsl c hm ?_
  exact PySem.W.callWith_K0 (first := [.ref a]) I1.kIn hm.kp (run_fnS (us := [.ref a]) (vs := [.ref a]) F hr hb (hx σ) I1 (.cons rfl .nil) q)
end
end DL

/-! DL11: own syntax against the text: the check, and why it is enough (expressions). -/
namespace DL
open PySem PySem.Spec PyProof.Rows L2
structure Ck where
  N : List Str
  sc : Scope
  own : Option Scope
  fns : List (Nat × Str)
  gls : List (Nat × Str)
  cls : List (String × List Str) := []
  mts : List (Nat × String × Str) := []
  prs : List (Nat × String × Str) := []
  nws : List (Nat × String × Str) := []
  xc : List String := []
def xcC (c : Ck) (k : Nat) (x : Str) : Bool := match c.xc[k]? with
  | some n => decide ((n : Str) = x)
  | none => false
def Ck.inn (c : Ck) (scope : Scope) : Ck := { c with sc := relS scope c.sc, own := some scope }
def visC (c : Ck) (x : Str) : Bool := match c.sc.names.lookup x with
  | some .local => true
  | some .cell => true
  | some .free => true
  | _ => false
def locC (c : Ck) (x : Str) : Bool := match c.sc.names.lookup x with
  | some .local => true
  | some .cell => (match c.own with
    | none => true
    | some s => decide (s.names.lookup x = some .cell))
  | _ => false
def dbg (x : Str) : Bool := x == ("__debug__" : Str)
def varC (c : Ck) (i : Nat) (x : Str) : Bool := decide (c.N[i]? = some x) && visC c x && !dbg x && !(x == ("__classdict__" : Str))
def gloC (c : Ck) (x : Str) : Bool := decide (c.sc.names.lookup x = some .globalImplicit) && !dbg x
def noStar : Expr → Bool
  | .Starred _ _ => false
  | _ => true
def noStars : List Expr → Bool
  | [] => true
  | x :: xs => noStar x && noStars xs
def noSet : Expr → Bool
  | .Set _ _ _ => false
  | _ => true
def noSlice : Expr → Bool
  | .Slice _ _ _ _ => false
  | _ => true
def noCall : Expr → Bool
  | .Call _ _ _ _ => false
  | _ => true
def noBase : Expr → Bool
  | .Call (.Name _ _) [] [] _ => false
  | _ => true
def isBO : Expr → Bool
  | .BoolOp _ _ _ => true
  | _ => false
def pairC (l : List (Nat × Str)) (k : Nat) (x : Str) : Bool := match l with
  | [] => false
  | p :: r => (Nat.beq p.1 k && decide (p.2 = x)) || pairC r k x
def mtC (l : List (Nat × String × Str)) (k : Nat) (c : String) (x : Str) : Bool := match l with
  | [] => false
  | p :: r => (Nat.beq p.1 k && decide (p.2.1 = c) && decide (p.2.2 = x)) || mtC r k c x
def hasC (l : List (String × List Str)) (c : String) : Bool := match l with
  | [] => false
  | p :: r => decide (p.1 = c) || hasC r c
def slC (l : List (String × List Str)) (c : String) (i : Nat) (f : Str) : Bool := match l with
  | [] => false
  | p :: r => (decide (p.1 = c) && decide (p.2[i]? = some f)) || slC r c i f
def isCS : Ex → Str → Bool
  | .cst (.str z), s => decide (z = s)
  | _, _ => false
theorem isCS_ok {e : Ex} {s : Str} (h : isCS e s = true) : e = .cst (.str s) := by
  unfold isCS at h
  split at h
  · rw [of_decide_eq_true h]
  · cases h
def cstC (c : Ck) : D → Expr → Bool
  | .int i, .Constant (.int j) _ _ => decide (i = j)
  | .bl i, .Constant (.bool j) _ _ => decide (i = j)
  | .str i, .Constant (.str j) _ _ => decide (i = j)
  | .non, .Constant .none _ _ => true
  | .ty n, .Name x _ => gloC c x && ((decide (n = "int") && decide (x = "int")) || (decide (n = "bool") && decide (x = "bool")) || (decide (n = "tuple") && decide (x = "tuple")) || (decide (n = "str") && decide (x = "str")) || (decide (n = "list") && decide (x = "list")))
  | _, _ => false
def ownP (c : Ck) : List Nat → List (Str × Nat)
  | [] => []
  | v :: vs => (c.N.getD v "", v) :: ownP c vs
theorem ownP_snd (c : Ck) : ∀ vs, (ownP c vs).map (·.2) = vs
  | [] => rfl
  | v :: vs => by rw [ownP, List.map_cons, ownP_snd c vs]
mutual
def tgV : Tg → List Nat
  | .nm i => [i]
  | .tp ts => tgsV ts
  | .sub _ _ => []
  | .fld _ _ _ => []
def tgsV : Tgs → List Nat
  | .nil => []
  | .cons t r => tgV t ++ tgsV r
end
def subV (us vs : List Nat) : Bool := us.all fun v => vs.contains v
mutual
def okE : Ex → Ck → Expr → Bool
  | .var i, c, x => match x with
    | .Name n _ => varC c i n
    | _ => false
  | .cst d, c, x => cstC c d x
  | .glb k, c, x => match x with
    | .Name n _ => gloC c n && pairC c.gls k n
    | _ => false
  | .bin op a b, c, x => match x with
    | .BinOp x o y _ => decide (o = bop op) && okE a c x && okE b c y
    | _ => false
  | .neg a, c, x => match x with
    | .UnaryOp .USub x _ => okE a c x
    | _ => false
  | .not a, c, x => match x with
    | .UnaryOp .Not x _ => okE a c x
    | _ => false
  | .cmp op a b, c, x => match x with
    | .Compare x [o] [y] _ => decide (o = cop op) && noSet y && okE a c x && okE b c y
    | _ => false
  | .chn o1 o2 a b d, c, x => match x with
    | .Compare x [p1, p2] [y, z] _ => decide (p1 = cop o1) && decide (p2 = cop o2) && noSet z && okE a c x && okE b c y && okE d c z
    | _ => false
  | .and a b, c, x => match x with
    | .BoolOp .And (x :: y :: r) p => okE a c x && (match r with
      | [] => okE b c y
      | z :: r => okE b c (.BoolOp .And (y :: z :: r) p))
    | _ => false
  | .or a b, c, x => match x with
    | .BoolOp .Or (x :: y :: r) p => okE a c x && (match r with
      | [] => okE b c y
      | z :: r => okE b c (.BoolOp .Or (y :: z :: r) p))
    | _ => false
  | .ite a b d, c, x => match x with
    | .IfExp x y z _ => okE a c x && okE b c y && okE d c z
    | _ => false
  | .idx a i, c, x => match x with
    | .Subscript x y _ => noSlice y && okE a c x && okE i c y
    | _ => false
  | .slc a lo hi, c, x => match x with
    | .Subscript x (.Slice l h none _) _ => okE a c x && okO lo c l && okO hi c h
    | _ => false
  | .stp a lo hi st, c, x => match x with
    | .Subscript x (.Slice l h (some s) _) _ => okE a c x && okO lo c l && okO hi c h && okE st c s
    | _ => false
  | .tup es, c, x => match x with
    | .Tuple xs _ _ => okEs es c xs
    | _ => false
  | .frz l, c, x => okL l c x
  | .own l, c, x => okL l c x
  | .call f es, c, x => match x with
    | .Call (.Name n _) (y :: xs) [] _ => gloC c n && pairC c.fns f n && noStars (y :: xs) && okEs es c (y :: xs)
    | _ => false
  | .bi b es, c, x => match x with
    | .Call (.Name n _) (y :: xs) [] _ => decide (n = biName b) && gloC c n && noStars (y :: xs) && okEs es c (y :: xs)
    | _ => false
  | .app o e, c, x => match x with
    | .Call (.Attribute x m ap) [y] [] p => decide (m = ("append" : Str)) && (ap.endLine == p.line) && noCall x && noStar y && okE o c x && okE e c y
    | _ => false
  | .fld cn i e, c, x => match x with
    | .Attribute y f _ => noBase y && slC c.cls cn i f && okE e c y
    | _ => false
  | .isC cn e, c, x => match x with
    | .Call (.Name n _) [y, .Name m _] [] _ => decide (n = ("isinstance" : Str)) && gloC c n && noStar y && okE e c y && decide (m = (cn : Str)) && gloC c m && hasC c.cls cn
    | _ => false
  | .meth f cn o es, c, x => match x with
    | .Call (.Attribute y m ap) xs [] p => mtC c.mts f cn m && hasC c.cls cn && (ap.endLine == p.line) && noBase y && okE o c y && noStars xs && Nat.blt xs.length 30 && okEs es c xs
    | _ => false
  | .prop f cn o, c, x => match x with
    | .Attribute y m _ => mtC c.prs f cn m && hasC c.cls cn && noBase y && okE o c y
    | _ => false
  | .new f cn _ es, c, x => match x with
    | .Call (.Name m _) (y :: xs) [] _ => decide (m = (cn : Str)) && gloC c m && mtC c.nws f cn m && hasC c.cls cn && noStars (y :: xs) && okEs es c (y :: xs)
    | _ => false
  | .cmpO op f cn a b, c, x => match x with
    | .Compare y [o] [z] _ => decide (o = cop op) && ((decide (op = .eq) && mtC c.mts f cn "__eq__") || (decide (op = .ne) && mtC c.mts f cn "__ne__")) && hasC c.cls cn && noSet z && okE a c y && okE b c z
    | _ => false
  | .cmpOD op f cn a b, c, x => match x with
    | .Compare y [o] [z] _ => decide (o = cop op) && ((decide (op = .eq) && mtC c.mts f cn "__eq__") || (decide (op = .ne) && mtC c.mts f cn "__ne__")) && hasC c.cls cn && noSet z && okE a c y && okE b c z
    | _ => false
  | .lenO f cn o, c, x => match x with
    | .Call (.Name n _) [y] [] _ => decide (n = ("len" : Str)) && gloC c n && mtC c.mts f cn "__len__" && hasC c.cls cn && noStar y && okE o c y
    | _ => false
  | .strO f cn o, c, x => match x with
    | .Call (.Name n _) [y] [] _ => decide (n = ("str" : Str)) && gloC c n && mtC c.mts f cn "__str__" && hasC c.cls cn && noStar y && okE o c y
    | _ => false
  | .fst es, c, x => match x with
    | .JoinedStr (y :: z :: xs) _ => okFs es c (y :: z :: xs)
    | _ => false
  | .dct, c, x => match x with
    | .Dict [] [] _ => true
    | _ => false
def okFs : Exs → Ck → List Expr → Bool
  | .nil, _, xs => match xs with
    | [] => true
    | _ => false
  | .cons e r, c, xs => match xs with
    | .FormattedValue y k none _ :: xs => decide (k = -1) && okE e c y && okFs r c xs
    | .Constant (.str s) _ _ :: xs => isCS e s && okFs r c xs
    | _ => false
  | .star _ _, _, _ => false
def okEs : Exs → Ck → List Expr → Bool
  | .nil, _, xs => match xs with
    | [] => true
    | _ => false
  | .cons e r, c, xs => match xs with
    | x :: xs => noStar x && okE e c x && okEs r c xs
    | _ => false
  | .star e r, c, xs => match xs with
    | .Starred x _ :: xs => okE e c x && okEs r c xs
    | _ => false
def okO : Ox → Ck → Option Expr → Bool
  | .no, _, x => match x with
    | none => true
    | _ => false
  | .so e, c, x => match x with
    | some x => okE e c x
    | none => false
def okL : Lx → Ck → Expr → Bool
  | .disp es, c, x => match x with
    | .List xs _ => okEs es c xs
    | _ => false
  | .comp own tg it ts el, c, x => match x with
    | .ListComp elt [⟨tx, iter, ifs, a⟩] scope _ => decide (a = 0) && blkC c.N c.sc scope (ownP c own) && subV (tgV tg) own && noSet iter && okI it c tx iter && okG tg (c.inn scope) tx && okTs ts (c.inn scope) ifs && okE el (c.inn scope) elt
    | _ => false
  | .comp2 own own2 tg it ts tg2 it2 ts2 el, c, x => match x with
    | .ListComp elt [⟨tx, iter, ifs, a⟩, ⟨tx2, iter2, ifs2, a2⟩] scope _ => decide (a = 0) && decide (a2 = 0) && blkC c.N c.sc scope (ownP c own) && subV (tgV tg) own && subV own2 own && subV (tgV tg2) own2 && noSet iter && noSet iter2 &&
      okI it c tx iter && okG tg (c.inn scope) tx && okTs ts (c.inn scope) ifs && okI it2 (c.inn scope) tx2 iter2 && okG tg2 (c.inn scope) tx2 && okTs ts2 (c.inn scope) ifs2 && okE el (c.inn scope) elt
    | _ => false
  | .rep a n, c, x => match x with
    | .BinOp x .Mult y _ => okE a c x && okE n c y
    | _ => false
  | .cat a b, c, x => match x with
    | .BinOp x .Add y _ => okE a c x && okE b c y
    | _ => false
  | .ofSeq a, c, x => match x with
    | .Call (.Name n _) [y] [] _ => decide (n = ("list" : Str)) && gloC c n && noStar y && okE a c y
    | _ => false
  | .slc a lo hi, c, x => match x with
    | .Subscript x (.Slice l h none _) _ => okE a c x && okO lo c l && okO hi c h
    | _ => false
  | .sorted a, c, x => match x with
    | .Call (.Name n _) [y] [] _ => decide (n = ("sorted" : Str)) && gloC c n && noStar y && okE a c y
    | _ => false
  | .stpL a lo hi st, c, x => match x with
    | .Subscript x (.Slice l h (some s) _) _ => okE a c x && okO lo c l && okO hi c h && okE st c s
    | _ => false
  | .sortSet a, c, x => match x with
    | .Call (.Name n _) [.Call (.Name m _) [y] [] _] [] _ => decide (n = ("sorted" : Str)) && gloC c n && decide (m = ("set" : Str)) && gloC c m && noStar y && okE a c y
    | _ => false
  | .sortI a, c, x => match x with
    | .Call (.Name n _) [y] [] _ => decide (n = ("sorted" : Str)) && gloC c n && noStar y && okE a c y
    | _ => false
  | .sortK f a, c, x => match x with
    | .Call (.Name n _) [y] [⟨kn, .Name m _, _⟩] _ => decide (n = ("sorted" : Str)) && gloC c n && noStar y && okE a c y && decide (kn = some ("key" : Str)) && gloC c m && pairC c.fns f m
    | _ => false
def okI : It → Ck → Expr → Expr → Bool
  | .seq e, c, _, x => okE e c x
  | .rng1 a, c, _, x => match x with
    | .Call (.Name n _) [x] [] _ => decide (n = ("range" : Str)) && gloC c n && noStar x && okE a c x
    | _ => false
  | .rng2 a b, c, _, x => match x with
    | .Call (.Name n _) [x, y] [] _ => decide (n = ("range" : Str)) && gloC c n && noStar x && noStar y && okE a c x && okE b c y
    | _ => false
  | .rng3 a b d, c, _, x => match x with
    | .Call (.Name n _) [x, y, z] [] _ => decide (n = ("range" : Str)) && gloC c n && noStar x && noStar y && noStar z && okE a c x && okE b c y && okE d c z
    | _ => false
  | .enum e, c, t, x => match t with
    | .Tuple _ _ _ => (match x with
      | .Call (.Name n _) [x] [] _ => decide (n = ("enumerate" : Str)) && gloC c n && noStar x && okE e c x
      | _ => false)
    | _ => false
  | .zip a b, c, t, x => match t with
    | .Tuple _ _ _ => (match x with
      | .Call (.Name n _) [x, y] [] _ => decide (n = ("zip" : Str)) && gloC c n && noStar x && noStar y && okE a c x && okE b c y
      | _ => false)
    | _ => false
def okG : Tg → Ck → Expr → Bool
  | .nm i, c, x => match x with
    | .Name n _ => decide (c.N[i]? = some n) && locC c n
    | _ => false
  | .tp ts, c, x => match x with
    | .Tuple xs _ _ => okGs ts c xs
    | _ => false
  | .sub o i, c, x => match x with
    | .Subscript x y _ => noSlice y && okE o c x && okE i c y
    | _ => false
  | .fld o cn i, c, x => match x with
    | .Attribute y f _ => slC c.cls cn i f && okE o c y
    | _ => false
def okGs : Tgs → Ck → List Expr → Bool
  | .nil, _, xs => match xs with
    | [] => true
    | _ => false
  | .cons t r, c, xs => match xs with
    | x :: xs => noStar x && okG t c x && okGs r c xs
    | _ => false
def okTs : Exs → Ck → List Expr → Bool
  | .nil, _, xs => match xs with
    | [] => true
    | _ => false
  | .cons e r, c, xs => match r with
    | .nil => (match xs with
      | [x] => okE e c x
      | _ => false)
    | _ => false
  | .star _ _, _, _ => false
end

/-! ### what is asked of a context -/
/-- a def's promise, from data -/
def spOf (L : Lnk) (K : PySem.W.Frag) (F : FSp) : Sp := fun vs H Q' E => ∃ ds S O R, ∃ Q : QD, Sok K S O H ∧ Rps K O H vs ds ∧ F ds S R Q ∧
  (∀ k d S' O' H' c dd, Sok K S' O' H' → Ev S O H S' O' H' → L.xr O' H' k d c dd → R k d S' → E c dd H') ∧
  (∀ v H' d S' O', Rp K O' H' v d → Sok K S' O' H' → Ev S O H S' O' H' → Q d S' → Q' v H')
def FnSt (L : Lnk) (X : Cx) (k : Nat) (x : Str) : Prop :=
  ∃ (kk : Nat) (f : Addr) (fd : FuncData) (ps : List Str), FnOk X.prog X.w X.K X.mg X.base (L2.CX X.prog X.w) kk f fd ps (spOf L X.K (L.Γ.fn k)) ∧ Room (kk + 2) X.A ∧ X.mg x = some (.ref f) ∧ PySem.W.keepIn X.K (.ref f) = true ∧ Binds X.K fd ps []
def GlSt (L : Lnk) (X : Cx) (k : Nat) (x : Str) : Prop := ∃ (u : Value) (v : V), X.mg x = some u ∧ RelV v u ∧ ∀ O H, Rp X.K O H v (L.Γ.gl k)
def MtSt (L : Lnk) (X : Cx) (k : Nat) (c : String) (m : Str) : Prop :=
  ∃ (kk : Nat) (g : Addr) (fd : FuncData) (ps : List Str), FnOk X.prog X.w X.K X.mg X.base (L2.CX X.prog X.w) kk g fd ps (spOf L X.K (L.Γ.fn k)) ∧ Room (kk + 2) X.A ∧ Meth X.K (He.ga X.K c) m g ∧ Binds X.K fd ps []
def PrSt (L : Lnk) (X : Cx) (k : Nat) (c : String) (m : Str) : Prop :=
  ∃ (kk : Nat) (p g : Addr) (fd : FuncData) (ps : List Str), FnOk X.prog X.w X.K X.mg X.base (L2.CX X.prog X.w) kk g fd ps (spOf L X.K (L.Γ.fn k)) ∧ Room (kk + 2) X.A ∧ PropOf X.K (He.ga X.K c) m p g ∧ Binds X.K fd ps []
def NwSt (L : Lnk) (X : Cx) (k : Nat) (c : String) (m : Str) : Prop :=
  ∃ (kk : Nat) (g : Addr) (fd : FuncData) (ps : List Str), FnOk X.prog X.w X.K X.mg X.base (L2.CX X.prog X.w) kk g fd ps (spOf L X.K (L.Γ.fn k)) ∧ Room (kk + 2) X.A ∧ Mk X.K (He.ga X.K c) g ∧ Binds X.K fd ps []
def blts : List Str := ["len", "abs", "max", "min", "int", "sum", "all", "any", "tuple", "isinstance", "repr", "str", "range", "enumerate", "zip", "list", "bool", "sorted", "set"]
/-- what of the text an error's class over ValueError without own __init__ must have -/
structure XcG (K : PySem.W.Frag) (n : String) : Prop where
  q : PySem.W.excIn K (He.ga K n) [.type "ValueError", .type "Exception", .type "BaseException", .type "object"] "ValueError.__new__" = true
  kp : PySem.W.keepIn K (.ref (He.ga K n)) = true
  sb : PySem.W.subIn K (.ref (He.ga K n)) (.type "BaseException") = some true
  ty : PySem.W.typeIn K (.ref (He.ga K n)) = some (.type "type")
structure XcA (K : PySem.W.Frag) (xc : List String) : Prop where
  g : ∀ n ∈ xc, XcG K n
  pr : ∀ (i j : Nat) (n m : String), xc[i]? = some n → xc[j]? = some m → PySem.W.exmOne K (.ref (He.ga K n)) (.ref (He.ga K m)) = some (decide (i = j))
/-- how an exception lies -/
def xrOf (K : PySem.W.Frag) (xc : List String) : Ow → Hp → Nat → D → Value → Option Addr → Prop := fun _ _ k d c dd => ∃ n, xc[k]? = some n ∧ c = .ref (He.ga K n) ∧ d = .non ∧ dd = none
structure XC (c : Ck) (L : Lnk) (W : WX) (X : Cx) : Prop where
  N : X.N = c.N
  nd : c.N.Nodup
  sc : X.env.scope = c.sc
  calm : X.calm = true
  un : X.A.units + 70 < cLine
  py : PyX X
  tk : Takes X W
  st : ∀ x, locC c x = true → X.fn x = true ∨ X.env.scope.names.lookup x = some .local
  bl : ∀ x ∈ blts, X.mg x = none
  fn : ∀ p ∈ c.fns, FnSt L X p.1 p.2
  gl : ∀ p ∈ c.gls, GlSt L X p.1 p.2
  ca : ClsA X.K L.Γ.cls
  cs : ∀ p ∈ c.cls, p ∈ L.Γ.cls
  cm : ∀ p ∈ c.cls, X.mg p.1 = some (.ref (He.ga X.K p.1))
  mt : ∀ p ∈ c.mts, MtSt L X p.1 p.2.1 p.2.2
  pr : ∀ p ∈ c.prs, PrSt L X p.1 p.2.1 p.2.2
  nw : ∀ p ∈ c.nws, NwSt L X p.1 p.2.1 p.2.2
  xa : XcA X.K c.xc
  xm : ∀ n ∈ c.xc, X.mg n = some (.ref (He.ga X.K n))
  xr : L.xr = xrOf X.K c.xc
section
variable {c : Ck} {L : Lnk} {W : WX} {X : Cx}
theorem XC.blk (x : XC c L W X) (s : Shared) (H : Hp) (scope : Scope) (cl : List (Str × Addr)) (C : Addr) (fp : List Addr) : XC (c.inn scope) L (fun _ _ _ _ => False) (X.blk s H scope (compEnvC scope cl C X.env) fp) where
  N := x.N
  nd := x.nd
  sc := by show relS scope X.env.scope = relS scope c.sc; rw [x.sc]
  calm := x.calm
  un := x.un
  py := ⟨x.py.env, x.py.seer, x.py.tree, x.py.deep⟩
  tk := takes0
  st := fun y h => by
    show (scope.names.lookup y == some NameKind.cell) = true ∨ (relS scope X.env.scope).names.lookup y = some .local
    rw [x.sc]
    unfold locC Ck.inn at h
    simp only at h
    split at h
    · rename_i e; exact .inr e
    · left; simpa using h
    · cases h
  bl := x.bl
  fn := x.fn
  gl := x.gl
  ca := x.ca
  cs := x.cs
  cm := x.cm
  mt := x.mt
  pr := x.pr
  nw := x.nw
  xa := x.xa
  xm := x.xm
  xr := x.xr
theorem XC.tr (x : XC c L W X) {W' : WX} {pn : List (Addr × Obj)} {xe : Value → Shared → Prop} (tk : Takes (X.tr pn xe) W') : XC c L W' (X.tr pn xe) where
  N := x.N
  nd := x.nd
  sc := x.sc
  calm := x.calm
  un := x.un
  py := ⟨x.py.env, x.py.seer, x.py.tree, x.py.deep⟩
  tk := tk
  st := x.st
  bl := x.bl
  fn := x.fn
  gl := x.gl
  ca := x.ca
  cs := x.cs
  cm := x.cm
  mt := x.mt
  pr := x.pr
  nw := x.nw
  xa := x.xa
  xm := x.xm
  xr := x.xr
theorem xcC_ok {k : Nat} {y : Str} (h : xcC c k y = true) : ∃ n : String, c.xc[k]? = some n ∧ (n : Str) = y := by
  unfold xcC at h
  split at h
  · rename_i n e; exact ⟨n, e, of_decide_eq_true h⟩
  · cases h
theorem visC_ok {y : Str} (x : XC c L W X) (h : visC c y = true) : Vis X.env.scope y := by
  unfold visC at h
  unfold Vis
  rw [x.sc]
  split at h
  · rename_i e; exact .inl e
  · rename_i e; exact .inr (.inl e)
  · rename_i e; exact .inr (.inr e)
  · cases h
theorem locC_ok {y : Str} (x : XC c L W X) (h : locC c y = true) : L2.Loc X.env.scope y := by
  unfold locC at h
  unfold L2.Loc
  rw [x.sc]
  split at h
  · rename_i e; exact .inl e
  · rename_i e; exact .inr e
  · cases h
theorem gloC_ok {y : Str} (x : XC c L W X) (h : gloC c y = true) : Gl X y ∧ (y == ("__debug__" : Str)) = false := by
  unfold gloC dbg at h
  simp only [Bool.and_eq_true, decide_eq_true_eq, Bool.not_eq_true'] at h
  refine ⟨?_, h.2⟩
  show X.env.scope.names.lookup y = _
  rw [x.sc]
  exact h.1
theorem pairC_ok : ∀ {l : List (Nat × Str)} {k : Nat} {x : Str}, pairC l k x = true → (k, x) ∈ l
  | p :: r, k, x, h => by
    unfold pairC at h
    rw [Bool.or_eq_true, Bool.and_eq_true] at h
    rcases h with ⟨h1, h2⟩ | h
    · have e1 := Nat.eq_of_beq_eq_true h1
      have e2 := of_decide_eq_true h2
      rw [← e1, ← e2]
      exact List.mem_cons_self
    · exact List.mem_cons_of_mem _ (pairC_ok h)
theorem noStar_each {e : Expr} {es : List Expr} {env : PySem.Env} (h : noStar e = true) : starEach (e :: es) env = (false, eval e env) :: starEach es env := by
  cases e <;> first | rfl | cases h
theorem noStar_assign {e : Expr} {es : List Expr} {env : PySem.Env} (h : noStar e = true) : assignEach (e :: es) env = (false, assign e env) :: assignEach es env := by
  cases e <;> first | rfl | cases h
theorem noStars_each {env : PySem.Env} : ∀ {es : List Expr}, noStars es = true → ∀ pos, (backTo pos (starEach es env)).any (·.1) = false
  | [], _, _ => rfl
  | e :: es, h, pos => by
    unfold noStars at h
    rw [Bool.and_eq_true] at h
    rw [noStar_each h.1]
    show (false || (backTo pos (starEach es env)).any (·.1)) = false
    rw [noStars_each h.2, Bool.false_or]
theorem noSet_marks {e : Expr} (h : noSet e = true) (op : CmpOp) : behindInMarks op e = false := by
  cases e <;> first | rfl | cases h
theorem noSet_last {e f : Expr} (h : noSet f = true) (o1 o2 : CmpOp) : lastMarks [o1, o2] [e, f] = false := by
  show behindInMarks o2 f = false
  exact noSet_marks h o2
theorem noSet_fold {e : Expr} (h : noSet e = true) (env : PySem.Env) (x : Value) : foldedSetIterable e env x = pure x := by
  cases e <;> first | rfl | cases h
theorem noSlice_ix {e : Expr} (h : noSlice e = true) : PlainIx e := fun o i => by
  cases e <;> first | rfl | cases h
theorem noCall_base {e : Expr} (h : noCall e = true) (m : Str) (env : PySem.Env) (t : Sem Value) : attributeBase e m env t = t := by
  cases e <;> first | rfl | cases h
theorem noBase_ok {e : Expr} (h : noBase e = true) (m : Str) (env : PySem.Env) (t : Sem Value) : attributeBase e m env t = t := by
  cases e with
  | Call f args kws pos =>
    cases f with
    | Name n p =>
      cases args with
      | nil =>
        cases kws with
        | nil => cases h
        | cons _ _ => rfl
      | cons _ _ => rfl
    | _ => rfl
  | _ => rfl
theorem mtC_ok : ∀ {l : List (Nat × String × Str)} {k : Nat} {c : String} {x : Str}, mtC l k c x = true → (k, c, x) ∈ l
  | p :: r, k, c, x, h => by
    unfold mtC at h
    simp only [Bool.or_eq_true, Bool.and_eq_true, decide_eq_true_eq] at h
    rcases h with ⟨⟨h1, h2⟩, h3⟩ | h
    · have e1 := Nat.eq_of_beq_eq_true h1
      rw [← e1, ← h2, ← h3]
      exact List.mem_cons_self
    · exact List.mem_cons_of_mem _ (mtC_ok h)
theorem hasC_ok : ∀ {l : List (String × List Str)} {c : String}, hasC l c = true → ∃ p ∈ l, p.1 = c
  | p :: r, c, h => by
    unfold hasC at h
    simp only [Bool.or_eq_true, decide_eq_true_eq] at h
    rcases h with h | h
    · exact ⟨p, List.mem_cons_self, h⟩
    · obtain ⟨q, h1, h2⟩ := hasC_ok h
      exact ⟨q, List.mem_cons_of_mem _ h1, h2⟩
theorem slC_ok : ∀ {l : List (String × List Str)} {c : String} {i : Nat} {f : Str}, slC l c i f = true → ∃ p ∈ l, p.1 = c ∧ p.2[i]? = some f
  | p :: r, c, i, f, h => by
    unfold slC at h
    simp only [Bool.or_eq_true, Bool.and_eq_true, decide_eq_true_eq] at h
    rcases h with h | h
    · exact ⟨p, List.mem_cons_self, h⟩
    · obtain ⟨q, h1, h2⟩ := slC_ok h
      exact ⟨q, List.mem_cons_of_mem _ h1, h2⟩
theorem hasC_has {n : String} (x : XC c L W X) (h : hasC c.cls n = true) : L.Γ.has n = true := by
  obtain ⟨p, hp, e⟩ := hasC_ok h
  exact List.any_eq_true.mpr ⟨p, x.cs p hp, by rw [e]; exact beq_self_eq_true n⟩
theorem hasC_g {n : String} (x : XC c L W X) (h : hasC c.cls n = true) : ∃ sl, ClsG X.K n sl := by
  obtain ⟨p, hp, rfl⟩ := hasC_ok h
  exact ⟨_, x.ca.g p (x.cs p hp)⟩
theorem hasC_mg {n : String} (x : XC c L W X) (h : hasC c.cls n = true) : X.mg n = some (.ref (He.ga X.K n)) := by
  obtain ⟨p, hp, rfl⟩ := hasC_ok h
  exact x.cm p hp
theorem slC_g {n : String} {i : Nat} {f : Str} (x : XC c L W X) (h : slC c.cls n i f = true) : ∃ sl, ClsG X.K n sl ∧ sl[i]? = some f := by
  obtain ⟨p, hp, rfl, e⟩ := slC_ok h
  exact ⟨_, x.ca.g p (x.cs p hp), e⟩
theorem subV_ok {us vs : List Nat} (h : subV us vs = true) : ∀ v ∈ us, v ∈ vs := fun v hv => by
  have := List.all_eq_true.mp h v hv
  simpa using this
theorem bl_of (x : XC c L W X) {n : Str} (h : n ∈ blts) : X.mg n = none := x.bl n h
end
end DL

set_option maxHeartbeats 1000000
/-! DL25: readings of methods, properties, new instances, own == and len and str, f-texts, stores into slots. -/
namespace DL
open PySem PySem.Spec PyProof.Rows L2
section
variable {L : Lnk} {K : PySem.W.Frag} {W : WX} {X : Cx} {to ta tb : TE} {t : TA} {wo wa wb : WE'} {ws : Env → Sto → XD → (List D → Sto → Prop) → Prop} {c : String} {f : Nat}
theorem re_meth (h : RE L K W to wo) (hs : RA L K W t ws) : RE L K W (tMethS (He.ga K c) (spOf L K (L.Γ.fn f)) (WE W) to t) fun ρ S R Q => wo ρ S R fun x S1 => (∃ fs, x = .obj c fs) ∧ ws ρ S1 R fun ds S2 => L.Γ.fn f (x :: ds) S2 R Q := fun σ H ρ S O R Q Q' A hw k => by
  refine h.go A hw fun x H1 dx S1 O1 r1 A1 e1 ⟨⟨fs, he⟩, q1⟩ => ?_
  subst he
  have r0 := r1
  cases r1 with
  | obj hsl hd n n2 hv rs =>
    refine ⟨_, _, _, rfl, hsl, hs.go A1 q1 fun vs H2 ds S2 O2 r2 A2 e2 q2 => ?_⟩
    exact ⟨_ :: ds, S2, O2, R, Q, A2.sok, .cons (r0.mono (A1.mo e2)) r2, q2, fun k' d S' O' H' cc dd s' e' x r => A2.x k' d S' O' H' cc dd s' e' x r, fun v H' d S' O' r' s' e' q' => k v H' d S' O' r' s' ((e1.trans A1.sok e2).trans A2.sok e') q'⟩
/-- a promise used where nothing may be raised -/
theorem sp_use {F : FSp} {vs : List V} {ds : List D} {S S1 : Sto} {O O1 : Ow} {H H1 : Hp} {Q : QD} {Q' : VK} (s : Sok K S1 O1 H1) (r : Rps K O1 H1 vs ds) (h : F ds S1 xNo Q) (e : Ev S O H S1 O1 H1)
    (k : ∀ v H' d S' O', Rp K O' H' v d → Sok K S' O' H' → Ev S O H S' O' H' → Q d S' → Q' v H') : spOf L K F vs H1 Q' E0 :=
  ⟨ds, S1, O1, xNo, Q, s, r, h, fun _ _ _ _ _ _ _ _ _ _ z => z.elim, fun v H' d S' O' r' s' e' q' => k v H' d S' O' r' s' (e.trans s e') q'⟩
theorem passE0 {X : Cx} : Passes (L2.CX X.prog X.w) X E0 := fun _ _ _ _ _ _ _ ⟨_, _, _, _, _, _, _, _, _, _, _, _, z⟩ => z.elim
theorem re_prop (h : RE L K W to wo) : RE L K W (SlX.tPropSl (He.ga K c) (spOf L K (L.Γ.fn f)) E0 to) fun ρ S R Q => wo ρ S R fun x S1 => (∃ fs, x = .obj c fs) ∧ L.Γ.fn f [x] S1 xNo Q := fun σ H ρ S O R Q Q' A hw k => by
  refine h.go A hw fun x H1 dx S1 O1 r1 A1 e1 ⟨⟨fs, he⟩, q1⟩ => ?_
  subst he
  have r0 := r1
  cases r1 with
  | obj hsl hd n n2 hv rs => exact ⟨_, _, _, rfl, hsl, sp_use A1.sok (.cons r0 .nil) q1 e1 k⟩
theorem re_cmpO (ha : RE L K W ta wa) (hb : RE L K W tb wb) (nf : PySem.W.notFirst K (He.ga K c) (.ref (He.ga K c)) = true) : RE L K W (tOp (SlX.rOwn K (He.ga K c) (spOf L K (L.Γ.fn f)) E0) ta tb) fun ρ S R Q => wa ρ S R fun x S1 => wb ρ S1 R fun y S2 => (∃ fs, x = .obj c fs) ∧ (∃ fs, y = .obj c fs) ∧ L.Γ.fn f [x, y] S2 xNo Q := fun σ H ρ S O R Q Q' A hw k => by
  refine ha.go A hw fun x H1 dx S1 O1 r1 A1 e1 q1 => ?_
  refine hb.go A1 q1 fun y H2 dy S2 O2 r2 A2 e2 ⟨⟨fs, he⟩, ⟨gs, hg⟩, q2⟩ => ?_
  subst he hg
  have r1 := r1.mono (A1.mo e2)
  have a := r1
  have b := r2
  cases r1 with
  | obj hsl hd n n2 hv rs =>
    cases r2 with
    | obj hsl2 hd2 m m2 hv2 rs2 => exact ⟨_, _, _, _, _, _, _, rfl, rfl, hsl, hsl2, nf, sp_use A2.sok (.cons a (.cons b .nil)) q2 (e1.trans A1.sok e2) k⟩
/-- x op y, x an instance; y of a built-in class -/
def rOwnT (K : PySem.W.Frag) (C : Addr) (sp : Sp) (E : XK) : R2 := fun x y H Q => ∃ a dx vs t, x = .ref a ∧ SlX.Slt H a C dx vs ∧ TyX K H y t ∧ PySem.W.notFirst K C t = true ∧ sp [x, y] H Q E
theorem op_ownT {op : CmpOp} {CX : CXT} {C g : Addr} {n : Nat} {sp : Sp} {E : XK} (hop : ∀ a b, compareOp op a b = richCompare op a b) (hs : PySem.W.findIn X.K (.ref C) (cmpInfo op).2.1 = some (some (.ref g))) (hf : PySem.W.isFn X.K (.ref g) = true) (F : FnR X.prog X.w X.K X.mg X.base CX n g sp)
    (hr : Room n X.A) (hx : Passes CX X E) : OpR X (compareOp op) (rOwnT X.K C sp E) := fun pins s σ H x y v u Q I rx ry ⟨a, dx, vs, t, ex, ha, ty, hn, q⟩ => by
  subst ex
  cases (show v = Value.ref a from rx)
  obtain ⟨_, _, _, J, _⟩ := SlX.slt_inst I ha
  obtain ⟨P, Z, p, _⟩ := kit_of I ry ty
  obtain ⟨_, hF⟩ := I.fr
  rw [hop]
  exact PySem.W.cmp_K (op := op) (tb := t) hr.units0 hF I.ok.mod.kin J (Z.ty _ _ I.kIn p) hn hs hf (wpAny_mono (wpAny_call (run_fnR (us := [.ref a, u]) (vs := [.ref a, y]) F hr hx I (.cons rfl (.cons ry .nil)) q)) (fun w s' (hh : EP X pins σ Q w s') => by obtain ⟨z', H', I', rz, qz⟩ := hh; exact SlX.cmpback rz ⟨z', H', I', rz, qz⟩) fun _ _ x => x)
theorem not_first (G : ClsA K L.Γ.cls) (hc : L.Γ.has c = true) {t : String} (ht : t ∈ tys7) : PySem.W.notFirst K (He.ga K c) (.type t) = true := by
  obtain ⟨p, hp, rfl⟩ := has_mem hc
  have h := G.ty t ht p hp
  unfold PySem.W.kitOne at h
  rw [if_neg (by intro z; exact nomatch (eq_of_beq z))] at h
  unfold PySem.W.kitCls at h
  simp only at h
  split at h
  · unfold PySem.W.notFirst
    rw [h]; simp
  · cases h
theorem re_cmpOD {op : COp} {r : R2} (hr : Hr K r fun S dx dy P => cmpD op (res S dx) (res S dy) fun z => P (.bl z)) (G : ClsA K L.Γ.cls) (hc : L.Γ.has c = true) (ha : RE L K W ta wa) (hb : RE L K W tb wb) (nf : PySem.W.notFirst K (He.ga K c) (.ref (He.ga K c)) = true) :
    RE L K W (tOp (fun x y H Q => (SlX.rOwn K (He.ga K c) (spOf L K (L.Γ.fn f)) E0 x y H Q ∨ rOwnT K (He.ga K c) (spOf L K (L.Γ.fn f)) E0 x y H Q) ∨ r x y H Q) ta tb) fun ρ S R Q => wa ρ S R fun x S1 => wb ρ S1 R fun y S2 => ((∃ fs, x = .obj c fs) ∧ ((∃ fs, y = .obj c fs) ∨ ∃ t, typD (res S2 y) = some t) ∧ L.Γ.fn f [x, y] S2 xNo Q) ∨ cmpD op (res S2 x) (res S2 y) fun z => Q (.bl z) S2 := fun σ H ρ S O R Q Q' A hw k => by
  refine ha.go A hw fun x H1 dx S1 O1 r1 A1 e1 q1 => ?_
  refine hb.go A1 q1 fun y H2 dy S2 O2 r2 A2 e2 q => ?_
  have r1 := r1.mono (A1.mo e2)
  rcases q with ⟨⟨fs, he⟩, hy, q2⟩ | q
  · subst he
    have a := r1
    have b := r2
    have go := sp_use (L := L) (S := S) (O := O) (H := H) A2.sok (.cons a (.cons b .nil)) q2 (e1.trans A1.sok e2) k
    left
    cases r1 with
    | obj hsl hd n n2 hv rs =>
      rcases hy with ⟨gs, hg⟩ | ⟨t, ht⟩
      · subst hg
        cases r2 with
        | obj hsl2 hd2 m m2 hv2 rs2 => exact .inl ⟨_, _, _, _, _, _, _, rfl, rfl, hsl, hsl2, nf, go⟩
      · exact .inr ⟨_, _, _, _, rfl, hsl, tyx_of A2.sok r2 ht, not_first G hc (typD_mem ht), go⟩
  · right
    exact hr x y dx dy H2 S2 O2 (fun d => Q d S2) Q' A2.sok r1 r2 q fun v H' d rv s e qd => k v H' d S2 O2 rv s ((e1.trans A1.sok e2).trans A2.sok e) qd
/-! ### a new instance -/
def tMakeS (C : Addr) (sp : Sp) (E : L2.St → XK) (t : TA) : TE := fun σ H Q => t σ H fun vs H1 => ∀ x dx, H1 x = none → H1 dx = none → dx ≠ x → sp (.ref x :: vs) (upd (upd H1 dx (.own x)) x (.ins C dx [])) (fun v H2 => v = .non ∧ Q (.ref x) H2) (E σ)
theorem run_mk {CX : CXT} {k : Nat} {C g : Addr} {fd : FuncData} {ps : List Str} {sp : Sp} {E : L2.St → XK} {pins : List (Addr × Obj)} {σ : L2.St} {H : Hp} {s : Shared} {Q : VK} {us : List Value} {vs : List V} (M : Mk X.K C g)
    (F : FnOk X.prog X.w X.K X.mg X.base CX k g fd ps sp) (hr : Room (k + 1) X.A) (hb : Binds X.K fd ps []) (hx : ∀ σ, PassesAt CX X σ (E σ)) (I : Inv X pins σ H s) (r : Vals vs us)
    (h : ∀ x dx, H x = none → H dx = none → dx ≠ x → sp (.ref x :: vs) (upd (upd H dx (.own x)) x (.ins C dx [])) (fun v H2 => v = .non ∧ Q (.ref x) H2) (E σ)) : wpAny (model X.prog X.w) X.A (call (.ref C) us) (EP X pins σ Q) X.xe s := by
  have i1 := I.hok.fresh (Nat.le_succ s.heap.objs.size)
  have i2 := I.hok.fresh (Nat.le_refl s.heap.objs.size)
  have hq := h (s.heap.objs.size + 1) s.heap.objs.size i1 i2 (Nat.ne_of_lt (Nat.lt_succ_self _))
  have J := Inv.made (C := C) I
  have rr : Vals (V.ref (s.heap.objs.size + 1) :: vs) (Value.ref (s.heap.objs.size + 1) :: us) := .cons rfl r
  have hl : (Value.ref (s.heap.objs.size + 1) :: us).length = ps.length := by
    rw [← rr.length]
    exact F.len _ _ _ _ hq
  have bb := hb _ (Value.ref (s.heap.objs.size + 1) :: us) J.kIn (by rw [List.append_nil]; exact hl)
  rw [List.append_nil] at bb
  refine wpAny_call (make_map (f := g) I.kIn M.makes M.init (beq_iff_eq.mp M.fn) (codeAny_mono (F.run _ X.stack _ _ ⟨_ :: us, []⟩ _ _ _ (E σ) (hr.make C us []) (J.env0.make C us []) bb rr hq) fun r s' z => ?_))
  cases r with
  | error e => exact hx σ pins _ _ e s' J z
  | ok fl =>
    cases fl with
    | ret u =>
      obtain ⟨v, H', J2, rv, ev, q3⟩ := J.after z
      cases ev
      exact ⟨rv, .ref (s.heap.objs.size + 1), H', J2, rfl, q3⟩
    | _ => exact z.elim
theorem pe_new {CX : CXT} {k : Nat} {C g : Addr} {fd : FuncData} {ps : List Str} {sp : Sp} {E : L2.St → XK} {x : Str} {p pos : Pos} {e : Expr} {es : List Expr} (M : Mk X.K C g)
    (F : FnOk X.prog X.w X.K X.mg X.base CX k g fd ps sp) (hr : Room (k + 1) X.A) (hb : Binds X.K fd ps []) (hx : ∀ σ, PassesAt CX X σ (E σ)) (hg : Gl X x) (hm : X.mg x = some (.ref C)) (ha : PA X (e :: es) t) (hdb : (x == ("__debug__" : Str)) = false)
    (he : starEach (e :: es) X.env = (false, eval e X.env) :: starEach es X.env) (hpl : (backTo pos (starEach es X.env)).any (·.1) = false) : PE X (.Call (.Name x p) (e :: es) [] pos) (tMakeS C sp E t) := by
  refine ⟨fun pins s σ H Q I h => wpAny_Call_Name_kw (ld_glob I hg hm ?_ hdb)⟩
  exact PySem.W.callWith_K (h₀ := X.base) I.ok.mod.kin M.kp (thn (ha.run pos pins s σ H _ I h) fun us s1 ⟨vs, H1, I1, r, q⟩ => ⟨I1.kIn, run_mk M F hr hb hx I1 r q⟩) he hpl
theorem fs_of {O : Ow} {H : Hp} : ∀ {vs : List (Option V)} (fs : List D), (∀ (i : Nat) (d : D), (fs.map some)[i]? = some (some d) → ∃ v, vs[i]? = some (some v) ∧ Rp K O H v d) → ∃ us : List V, (∀ (i : Nat) (v : V), us[i]? = some v → vs[i]? = some (some v)) ∧ Rps K O H us fs
  | vs, [], _ => ⟨[], fun _ _ h => by simp at h, .nil⟩
  | vs, d :: fs, h => by
    obtain ⟨v, h1, h2⟩ := h 0 d rfl
    obtain ⟨us, h3, h4⟩ := fs_of (vs := vs.drop 1) fs fun i d e => by
      obtain ⟨v, h1, h2⟩ := h (i + 1) d e
      exact ⟨v, by rw [List.getElem?_drop, Nat.add_comm]; exact h1, h2⟩
    refine ⟨v :: us, fun i w e => ?_, .cons h2 h4⟩
    cases i with
    | zero => cases e; exact h1
    | succ i =>
      have := h3 i w e
      rwa [List.getElem?_drop, Nat.add_comm] at this
theorem no_imm_own {x : Addr} : ¬ Imm (.own x) := fun z => by rcases z with ⟨_, e⟩ | ⟨_, _, e⟩ <;> cases e
theorem no_imm_ins {C dx : Addr} {fs : List (Str × V)} : ¬ Imm (.ins C dx fs) := fun z => by rcases z with ⟨_, e⟩ | ⟨_, _, e⟩ <;> cases e
/-- the store behind the making of an instance -/
theorem new_sok {S : Sto} {O : Ow} {H : Hp} {x dx : Addr} (n : Nat) (s : Sok K S O H) (hx : H x = none) (hd : H dx = none) (ne : dx ≠ x) :
    Sok K (sup (sup S dx .dx) x (.obj c dx (List.replicate n none))) (oadd (oadd O dx) x) (upd (upd H dx (.own x)) x (.ins (He.ga K c) dx [])) ∧
    Ev S O H (sup (sup S dx .dx) x (.obj c dx (List.replicate n none))) (oadd (oadd O dx) x) (upd (upd H dx (.own x)) x (.ins (He.ga K c) dx [])) := by
  have hx1 : upd H dx (.own x) x = none := by rw [upd_ne (Ne.symm ne)]; exact hx
  have s1 := s.resvU (u := .own x) hd no_imm_own
  have s2 := s1.resvU (u := .ins (He.ga K c) dx []) hx1 no_imm_ins
  have e1 := ev_resU (u := .own x) hd s
  have e2 := e1.trans s1 (ev_resU (u := .ins (He.ga K c) dx []) hx1 s1)
  have nx := s.noneH hx
  have nd := s.noneH hd
  refine ⟨⟨fun a ds h => ?_, s2.ex, fun a c' q fs h => ?_, fun a h => ?_, fun a a' c' c'' q fs fs' h h' => ?_⟩, ⟨fun a u h n => e2.keep a u h ?_, e2.own, fun a h n => ⟨(e2.res a h n).1, ?_⟩, e2.there⟩⟩
  · by_cases z : a = x
    · rw [z, sup_same] at h; cases h
    · rw [sup_ne z] at h
      by_cases z2 : a = dx
      · rw [z2, sup_same] at h; cases h
      · rw [sup_ne z2] at h; exact s2.dom a ds h
  · by_cases z : a = x
    · rw [z, sup_same] at h; cases h
      subst z
      refine ⟨.inr rfl, ⟨.own a, by rw [upd_ne ne]; exact upd_same⟩, [], .inl ⟨upd_same, rfl⟩, fun i d e => ?_⟩
      rw [List.getElem?_replicate] at e
      split at e <;> cases e
    · rw [sup_ne z] at h
      by_cases z2 : a = dx
      · rw [z2, sup_same] at h; cases h
      · rw [sup_ne z2] at h; exact s2.obj a c' q fs h
  · by_cases z : a = x
    · rw [z, sup_same] at h; cases h
    · rw [sup_ne z] at h
      by_cases z2 : a = dx
      · subst z2; exact ⟨.inl (.inr rfl), .inl ⟨x, by rw [upd_ne z]; exact upd_same⟩⟩
      · rw [sup_ne z2] at h; exact s2.dx a h
  · have old : ∀ a c' q fs, sup (sup S dx .dx) x (.obj c dx (List.replicate n none)) a = some (.obj c' q fs) → (a = x ∧ q = dx) ∨ (S a = some (.obj c' q fs) ∧ q ≠ dx) := fun a c' q fs h => by
      by_cases z : a = x
      · rw [z, sup_same] at h; cases h; exact .inl ⟨z, rfl⟩
      · rw [sup_ne z] at h
        by_cases z2 : a = dx
        · rw [z2, sup_same] at h; cases h
        · rw [sup_ne z2] at h
          refine .inr ⟨h, fun e => ?_⟩
          obtain ⟨_, ⟨u, hu⟩, _⟩ := s.obj a c' q fs h
          rw [e, hd] at hu; cases hu
    rcases old a c' q fs h with ⟨h1, h2⟩ | ⟨h1, h2⟩ <;> rcases old a' c'' q fs' h' with ⟨g1, g2⟩ | ⟨g1, g2⟩
    · rw [h1, g1]
    · exact absurd h2 g2
    · exact absurd g2 h2
    · exact s.inj a a' c' c'' q fs fs' h1 g1
  · exact n
  · rw [sup_ne, sup_ne]
    · exact n
    · intro z; rw [z] at h; exact s.notO hd h
    · intro z; rw [z] at h; exact s.notO hx h
theorem re_new {n : Nat} (hs : RA L K W t ws) : RE L K W (tMakeS (He.ga K c) (spOf L K (L.Γ.fn f)) (WE W) t) fun ρ S R Q => ws ρ S R fun ds S1 => ∀ p q, S1 p = none → S1 q = none → q ≠ p → L.Γ.fn f (.ref p :: ds) (sup (sup S1 q .dx) p (.obj c q (List.replicate n none))) R fun v S2 => v = .non ∧ ∃ fs, S2 p = some (.obj c q (fs.map some)) ∧ S2 q = some .dx ∧ Q (.obj c fs) (sdel (sdel S2 p) q) := fun σ H ρ S O R Q Q' A hw k => by
  refine hs.go A hw fun vs H1 ds S1 O1 r1 A1 e1 q1 => ?_
  intro x dx hx hd ne
  obtain ⟨s2, e2⟩ := new_sok (c := c) n A1.sok hx hd ne
  have ee := e1.trans A1.sok e2
  refine ⟨.ref x :: ds, _, _, R, _, s2, .cons .ref (r1.mono (A1.mo e2)), q1 x dx (A1.sok.noneH hx) (A1.sok.noneH hd) ne, fun k' d S' O' H' cc dd s' e' xr r => A1.x k' d S' O' H' cc dd s' (e2.trans s2 e') xr r, fun v H' d S' O' rv s' e' ⟨hv, fs, hp, hq, q⟩ => ?_⟩
  subst hv
  cases rv
  refine ⟨rfl, ?_⟩
  have e3 := ee.trans s2 e'
  obtain ⟨ho, hdx, us, sl, fr⟩ := s'.obj _ _ _ _ hp
  have hodx := (s'.dx _ hq).1
  obtain ⟨zs, z1, z2⟩ := fs_of fs fr
  have s4 : Sok K (sdel (sdel S' x) dx) (orem (orem O' x) dx) H' := ((s'.sdel (p := x)).sdel (p := dx)).free (p := x) (by rw [sdel_ne (Ne.symm ne)]; exact sdel_same) |>.free (p := dx) sdel_same
  refine k (.ref x) H' (.obj c fs) _ _ ?_ s4 ⟨e3.keep, fun a h => e3.own a h.1.1, fun a h n => ?_, e3.there⟩ q
  · exact .obj sl hdx (fun h => h.1.2 rfl) (fun h => h.2 rfl) z1 ((z2.mono mo_free).mono mo_free)
  · have nx : a ≠ x := fun z => by rw [z] at h; exact A.sok.notO (e1.there x hx) h
    have nd : a ≠ dx := fun z => by rw [z] at h; exact A.sok.notO (e1.there dx hd) h
    exact ⟨⟨⟨(e3.res a h n).1, nx⟩, nd⟩, by rw [sdel_ne nd, sdel_ne nx]; exact (e3.res a h n).2⟩
/-! ### a slot stored -/
def gFld (K : PySem.W.Frag) (to : TE) (f : Str) : TG := fun v σ H Q => to σ H fun x H1 => ∃ a C dx p vs i, x = .ref a ∧ SlX.Slt H1 a C dx vs ∧ SlX.SCls K C ∧ SlX.Slot1 K C f p i ∧ Q σ (SlX.slH H1 a C dx (SlX.putS i v vs))
theorem pg_fld {o : Expr} {f : Str} {pos : Pos} (ho : PE X o to) : PG X (.Attribute o f pos) (gFld X.K to f) := by
  refine ⟨fun pins s σ H v u Q I r h => ?_⟩
  rw [arm_assign_Attribute]
  refine wpAny_bind (wpAny_holding (thn (ho.run pins s σ H _ I h) fun ov s1 ⟨x, H1, I1, rx, a, C, dx, p, vs, i, ex, hsl, cl, sl, q⟩ => ?_))
  subst ex
  obtain rfl : ov = Value.ref a := rx
  refine wpAny_bind (wpAny_standAt (wpAny_bind (wpAny_holding (SlX.setslot_ok I1 hsl cl sl r fun s2 I2 => ?_))))
  exact wpAny_release ⟨σ, _, I2, q⟩
theorem slH_none {H : Hp} {a C dx b : Addr} {vs : List (Option V)} (h : SlX.slH H a C dx vs b = none) : H b = none ∨ b = a ∨ b = dx := by
  by_cases h1 : b = a
  · exact .inr (.inl h1)
  · by_cases h2 : b = dx
    · exact .inr (.inr h2)
    · rw [SlX.slH_ne h1 h2] at h; exact .inl h
theorem rg_fld {f : Str} {i : Nat} {sl : List Str} (G : ClsG K c sl) (hi : sl[i]? = some f) (h : RE L K W to wo) : RG L K W [] (gFld K to f) fun d ρ S R Q => wo ρ S R fun x S1 => ∃ p q fs, x = .ref p ∧ S1 p = some (.obj c q fs) ∧ S1 q = some .dx ∧ i < fs.length ∧ Q ρ (sup S1 p (.obj c q (fs.set i (some d)))) := fun v d σ H ρ S O Q Q' A r hw k => by
  refine h.go A hw fun x H1 dx S1 O1 r1 A1 e1 ⟨p, q, fs, hx, hp, hq, hi', q1⟩ => ?_
  subst hx
  cases r1
  obtain ⟨ho, hu, vs, slt, fr⟩ := A1.sok.obj _ _ _ _ hp
  obtain ⟨hoq, hqd⟩ := A1.sok.dx _ hq
  obtain ⟨pd, sd⟩ := G.sl i f hi
  have ne : q ≠ p := fun z => by rw [z, hp] at hq; cases hq
  have ia : ∃ u, H1 p = some u ∧ ¬ Imm u := slt_some slt
  have iq : ∃ u, H1 q = some u ∧ ¬ Imm u := by
    rcases hqd with ⟨y, e⟩ | e
    · exact ⟨_, e, no_imm_own⟩
    · exact ⟨_, e, fun z => by rcases z with ⟨_, e⟩ | ⟨_, _, e⟩ <;> cases e⟩
  have rv := r.mono (A.mo e1)
  have ev : Ev S1 O1 H1 (sup S1 p (.obj c q (fs.set i (some d)))) O1 (SlX.slH H1 p (He.ga K c) q (SlX.putS i v vs)) := by
    refine ⟨fun a u h n => ?_, fun _ h => .inl h, fun a h n => ⟨h, ?_⟩, fun a h => ?_⟩
    · rw [SlX.slH_ne (fun z => by rw [z, hp] at n; cases n) (fun z => by rw [z, hq] at n; cases n)]; exact h
    · rw [sup_ne (fun z => by rw [z, hp] at n; cases n)]; exact n
    · rcases slH_none h with e | e | e
      · exact e
      · rw [e] at h; unfold SlX.slH at h; rw [upd_same] at h; cases h
      · rw [e] at h; unfold SlX.slH at h; rw [upd_ne ne, upd_same] at h; cases h
  have m : Mo O1 H1 O1 (SlX.slH H1 p (He.ga K c) q (SlX.putS i v vs)) := by
    obtain ⟨u, hu, nu⟩ := ia
    obtain ⟨w, hw, nw⟩ := iq
    refine ⟨fun a z h n => ?_, fun a z h n => ?_, fun _ _ _ z => z⟩
    · rw [SlX.slH_ne (fun e => n (by rw [e]; exact ho)) (fun e => n (by rw [e]; exact hoq))]; exact h
    · rw [SlX.slH_ne (fun e => by rw [e, hu] at h; cases h; exact nu n) (fun e => by rw [e, hw] at h; cases h; exact nw n)]; exact h
  have keepH : ∀ a, a ≠ p → a ≠ q → SlX.slH H1 p (He.ga K c) q (SlX.putS i v vs) a = H1 a := fun a h1 h2 => SlX.slH_ne h1 h2
  have sk : Sok K (sup S1 p (.obj c q (fs.set i (some d)))) O1 (SlX.slH H1 p (He.ga K c) q (SlX.putS i v vs)) := by
    refine ⟨fun a ds h => ?_, fun a h => ?_, fun a c' q' fs' h => ?_, fun a h => ?_, fun a a' c' c'' q' fs' fs'' h h' => ?_⟩
    · have n1 : a ≠ p := fun z => by rw [z, sup_same] at h; cases h
      rw [sup_ne n1] at h
      have n2 : a ≠ q := fun z => by rw [z, hq] at h; cases h
      obtain ⟨o, xs, e, z, rr⟩ := A1.sok.dom a ds h
      exact ⟨o, xs, by rw [keepH a n1 n2]; exact e, z, rr.mono m⟩
    · by_cases n1 : a = p
      · exact ⟨SlX.SlO p (He.ga K c) q (SlX.putS i v vs), by rw [n1]; exact upd_same, fun z => by rcases z with ⟨_, e⟩ | ⟨_, _, e⟩ <;> (unfold SlX.SlO at e; cases e)⟩
      · by_cases n2 : a = q
        · exact ⟨.xd [], by rw [n2]; unfold SlX.slH; rw [upd_ne ne, upd_same], fun z => by rcases z with ⟨_, e⟩ | ⟨_, _, e⟩ <;> cases e⟩
        · obtain ⟨u, e, n⟩ := A1.sok.ex a h
          exact ⟨u, by rw [keepH a n1 n2]; exact e, n⟩
    · by_cases n1 : a = p
      · rw [n1, sup_same] at h; cases h
        subst n1
        refine ⟨ho, ⟨.xd [], by unfold SlX.slH; rw [upd_ne ne, upd_same]⟩, _, SlX.slH_slt ne, fun j d' e => ?_⟩
        by_cases ej : j = i
        · subst ej
          rw [List.getElem?_set_self hi'] at e
          cases e
          exact ⟨v, SlX.putS_get _ _ _, rv.mono m⟩
        · rw [List.getElem?_set_ne (Ne.symm ej)] at e
          obtain ⟨v', h1, h2⟩ := fr j d' e
          exact ⟨v', (SlX.putS_ne ej).mpr h1, h2.mono m⟩
      · rw [sup_ne n1] at h
        have n2 : a ≠ q := fun z => by rw [z, hq] at h; cases h
        have n3 : q' ≠ q := fun z => n1 (A1.sok.inj _ _ _ _ _ _ _ (z ▸ h) hp)
        obtain ⟨o, hu', vs', sl', fr'⟩ := A1.sok.obj a c' q' fs' h
        by_cases n4 : q' = p
        · refine ⟨o, ⟨SlX.SlO p (He.ga K c) q (SlX.putS i v vs), by rw [n4]; exact upd_same⟩, [], ?_, fun j d' e => ?_⟩
          · rcases sl' with ⟨e, _⟩ | ⟨e, e2⟩
            · exact .inl ⟨by rw [keepH a n1 n2]; exact e, rfl⟩
            · obtain ⟨u, hu2, _⟩ := ia
              rw [n4] at e2
              rcases slt with ⟨z, _⟩ | ⟨z, _⟩
              · rw [z] at e2; cases e2
              · rw [z] at e2; exact absurd (Option.some.inj e2) SlX.slO_not
          · obtain ⟨v', h1, h2⟩ := fr' j d' e
            rcases sl' with ⟨_, e3⟩ | ⟨_, e2⟩
            · rw [e3] at h1; simp at h1
            · rw [n4] at e2
              rcases slt with ⟨z, _⟩ | ⟨z, _⟩
              · rw [z] at e2; cases e2
              · rw [z] at e2; exact absurd (Option.some.inj e2) SlX.slO_not
        · refine ⟨o, ?_, vs', ?_, fr'.mono m⟩
          · obtain ⟨u, hu'⟩ := hu'; exact ⟨u, by rw [keepH q' n4 n3]; exact hu'⟩
          · rcases sl' with ⟨e, z⟩ | ⟨e, z⟩
            · exact .inl ⟨by rw [keepH a n1 n2]; exact e, z⟩
            · exact .inr ⟨by rw [keepH a n1 n2]; exact e, by rw [keepH q' n4 n3]; exact z⟩
    · have n1 : a ≠ p := fun z => by rw [z, sup_same] at h; cases h
      rw [sup_ne n1] at h
      by_cases n2 : a = q
      · exact ⟨(A1.sok.dx a h).1, .inr (by rw [n2]; unfold SlX.slH; rw [upd_ne ne, upd_same])⟩
      · have := A1.sok.dx a h
        rw [keepH a n1 n2]; exact this
    · have old : ∀ a c' q' fs', sup S1 p (.obj c q (fs.set i (some d))) a = some (.obj c' q' fs') → ∃ g, S1 a = some (.obj c' q' g) := fun a c' q' fs' h => by
        by_cases z : a = p
        · rw [z, sup_same] at h; cases h; rw [z]; exact ⟨_, hp⟩
        · rw [sup_ne z] at h; exact ⟨_, h⟩
      obtain ⟨g1, h1⟩ := old _ _ _ _ h
      obtain ⟨g2, h2⟩ := old _ _ _ _ h'
      exact A1.sok.inj _ _ _ _ _ _ _ h1 h2
  exact ⟨p, _, q, pd, vs, i, rfl, slt, G.sc, sd, k σ _ ρ _ O1 sk (e1.trans A1.sok ev) (A1.env.mono (ev.mo A1.sok)) .refl q1⟩
end
end DL

set_option maxHeartbeats 1000000
/-! DL26: len and str of own instances, f-texts, the empty dict. -/
namespace DL
open PySem PySem.Spec PyProof.Rows L2
section
variable {L : Lnk} {K : PySem.W.Frag} {W : WX} {X : Cx} {to : TE} {wo : WE'} {c : String} {f : Nat}
theorem fnR_of {P : Program} {w : World} {mg : Str → Option Value} {base : Heap} {CX : CXT} {k : Nat} {g : Addr} {sp : Sp} {fd : FuncData} {ps : List Str} (F : FnOk P w K mg base CX k g fd ps sp) (hb : Binds K fd ps []) : FnR P w K mg base CX k g sp :=
  (F.raw hb .nil).imp fun vs H Q E h => by rw [List.append_nil]; exact h
def rLenO (C : Addr) (sp : Sp) : List V → Hp → VK → Prop := fun xs H Q => ∃ a dx vs, xs = [V.ref a] ∧ SlX.Slt H a C dx vs ∧ sp [.ref a] H (fun v H' => ∃ i, v = .int i ∧ 0 ≤ i ∧ i < 2 ^ 62 ∧ Q v H') E0
theorem call_lenO {CX : CXT} {k : Nat} {C g : Addr} {sp : Sp} (hm : Meth X.K C "__len__" g) (F : FnR X.prog X.w X.K X.mg X.base CX k g sp) (hr : Room (k + 1) X.A) (hx : Passes CX X E0) : CallR X (.builtin "len") (rLenO C sp) := by
  intro pins s σ H xs us Q I r h
  obtain ⟨a, dx, vs, rfl, hsl, q⟩ := h
  obtain ⟨u, rfl, ru⟩ := r.one
  cases (show u = Value.ref a from ru)
  obtain ⟨sl, od, _, J, _⟩ := SlX.slt_inst I hsl
  obtain ⟨m, Fm⟩ := I.fr
  refine PySem.W.len_K Fm I.ok.mod.kin J hm.at_ hm.fn (wpAny_mono (wpAny_call (SlX.run_at (us := [.ref a]) (ws := [.ref a]) F hr.in1 I.env0.in1 hx I (.cons rfl .nil) q)) (fun w s' z => ?_) fun _ _ x => x)
  obtain ⟨v, H', I', rv, i, e, h0, h1, q⟩ := z
  subst e
  obtain ⟨t, e⟩ := rv
  subst e
  exact ⟨⟨h0, by omega⟩, .int i, H', I'.tok _, ⟨_, rfl⟩, q⟩
theorem re_lenO (h : RE L K W to wo) : RE L K W (tCB (rLenO (He.ga K c) (spOf L K (L.Γ.fn f))) (tCons to tNil)) fun ρ S R Q => wo ρ S R fun x S1 => (∃ fs, x = .obj c fs) ∧ L.Γ.fn f [x] S1 xNo fun v S2 => ∃ i : Int, v = .int i ∧ 0 ≤ i ∧ i < 2 ^ 62 ∧ Q v S2 := fun σ H ρ S O R Q Q' A hw k => by
  refine h.go A hw fun x H1 dx S1 O1 r1 A1 e1 ⟨⟨fs, he⟩, q1⟩ => ?_
  subst he
  have r0 := r1
  cases r1 with
  | obj hsl hd n n2 hv rs =>
    refine ⟨_, _, _, rfl, hsl, sp_use A1.sok (.cons r0 .nil) q1 e1 fun v H' d S' O' rv s' e' ⟨i, hd, h0, h1, q⟩ => ?_⟩
    subst hd
    cases rv
    exact ⟨i, rfl, h0, h1, k _ _ _ _ _ (.int i) s' e' q⟩
def rStrO (C : Addr) (sp : Sp) : List V → Hp → VK → Prop := fun xs H Q => ∃ a dx vs, xs = [V.ref a] ∧ SlX.Slt H a C dx vs ∧ sp [.ref a] H (fun v H' => ∃ z, v = .str z ∧ Q v H') E0
theorem call_strO {CX : CXT} {k : Nat} {C g : Addr} {sp : Sp} (hu : X.A.units + 70 < cLine) (hm : Meth X.K C "__str__" g) (F : FnR X.prog X.w X.K X.mg X.base CX k g sp) (hr : Room (k + 2) X.A) (hx : Passes CX X E0) : CallR X (.type "str") (rStrO C sp) := by
  intro pins s σ H xs us Q I r h
  obtain ⟨a, dx, vs, rfl, hsl, q⟩ := h
  obtain ⟨u, rfl, ru⟩ := r.one
  cases (show u = Value.ref a from ru)
  obtain ⟨sl, od, _, J, _⟩ := SlX.slt_inst I hsl
  have hr1 : Room (k + 1) X.A.in1 := Room.in1 hr
  refine PySem.W.kso_call (by have := hr1.in1.units0; exact this) I.kIn J hm.at_ hm.fn (wpAny_mono (wpAny_call (SlX.run_at (us := [.ref a]) (ws := [.ref a]) F hr1.in1 I.env0.in1.in1 hx I (.cons rfl .nil) q)) (fun w s' z => ?_) fun _ _ x => x)
  obtain ⟨v, H', I', rv, y, e, q⟩ := z
  subst e
  obtain ⟨t, e⟩ := rv
  subst e
  exact ⟨.str y, H', I', ⟨_, rfl⟩, q⟩
theorem re_strO (h : RE L K W to wo) : RE L K W (tCB (rStrO (He.ga K c) (spOf L K (L.Γ.fn f))) (tCons to tNil)) fun ρ S R Q => wo ρ S R fun x S1 => (∃ fs, x = .obj c fs) ∧ L.Γ.fn f [x] S1 xNo fun v S2 => ∃ s, v = .str s ∧ Q v S2 := fun σ H ρ S O R Q Q' A hw k => by
  refine h.go A hw fun x H1 dx S1 O1 r1 A1 e1 ⟨⟨fs, he⟩, q1⟩ => ?_
  subst he
  have r0 := r1
  cases r1 with
  | obj hsl hd n n2 hv rs =>
    refine ⟨_, _, _, rfl, hsl, sp_use A1.sok (.cons r0 .nil) q1 e1 fun v H' d S' O' rv s' e' ⟨i, hd, q⟩ => ?_⟩
    subst hd
    cases rv
    exact ⟨i, rfl, k _ _ _ _ _ (.str i) s' e' q⟩
/-! ### f-texts -/
abbrev WF := Env → Sto → XD → Str → (Str → Sto → Prop) → Prop
def RJ (L : Lnk) (K : PySem.W.Frag) (W : WX) (ts : List TE) (w : WF) : Prop :=
  ∀ (acc : Str) (σ : L2.St) (H : Hp) (ρ : Env) (S : Sto) (O : Ow) (R : XD) (Q : Str → Sto → Prop) (Q' : Str → Hp → Prop), At L K W σ H ρ S O R → w ρ S R acc Q →
    (∀ z H' S' O', Sok K S' O' H' → Ev S O H S' O' H' → Q z S' → Q' z H') → tJs ts acc σ H Q'
theorem rj_nil : RJ L K W [] fun _ S _ acc Q => Q acc S := fun acc σ H ρ S O R Q Q' A hw k => k acc H S O A.sok .refl hw
theorem rj_str {ts : List TE} {wr : WF} (h : RE L K W to wo) (hr : RJ L K W ts wr) : RJ L K W (to :: ts) fun ρ S R acc Q => wo ρ S R fun x S1 => match x with
    | .str y => y.length ≤ sizeLine ∧ (acc ++ y).length ≤ sizeLine ∧ wr ρ S1 R (acc ++ y) Q
    | .int i => False
    | _ => False := fun acc σ H ρ S O R Q Q' A hw k => by
  refine h.go A hw fun x H1 dx S1 O1 r1 A1 e1 q1 => ?_
  cases dx with
  | str y =>
    cases r1
    exact ⟨y, rfl, q1.2.1, hr _ σ H1 ρ S1 O1 R Q Q' A1 q1.2.2 fun z H' S' O' s' e' q' => k z H' S' O' s' (e1.trans A1.sok e') q'⟩
  | _ => exact q1.elim
theorem rj_fmt {ts : List TE} {wr : WF} (h : RE L K W to wo) (hr : RJ L K W ts wr) : RJ L K W (tFmt to :: ts) fun ρ S R acc Q => wo ρ S R fun x S1 => match x with
    | .str y => y.length ≤ sizeLine ∧ (acc ++ y).length ≤ sizeLine ∧ wr ρ S1 R (acc ++ y) Q
    | .int i => i.natAbs.log2 < 1920 ∧ (acc ++ (toString i : Str)).length ≤ sizeLine ∧ wr ρ S1 R (acc ++ (toString i : Str)) Q
    | _ => False := fun acc σ H ρ S O R Q Q' A hw k => by
  refine h.go A hw fun x H1 dx S1 O1 r1 A1 e1 q1 => ?_
  have fin : ∀ z, wr ρ S1 R z Q → tJs ts z σ H1 Q' := fun z hz => hr _ σ H1 ρ S1 O1 R Q Q' A1 hz fun z H' S' O' s' e' q' => k z H' S' O' s' (e1.trans A1.sok e') q'
  cases dx with
  | str y =>
    cases r1
    exact .inl ⟨y, rfl, q1.1, y, rfl, q1.2.1, fin _ q1.2.2⟩
  | int i =>
    cases r1
    exact .inr ⟨i, rfl, q1.1, _, rfl, q1.2.1, fin _ q1.2.2⟩
  | _ => exact q1.elim
theorem re_fst {ts : List TE} {wf : WF} (h : RJ L K W ts wf) : RE L K W (fun σ H Q => tJs ts Str.empty σ H fun out H1 => Q (.str out) H1) fun ρ S R Q => wf ρ S R Str.empty fun s S1 => Q (.str s) S1 := fun σ H ρ S O R Q Q' A hw k =>
  h Str.empty σ H ρ S O R _ _ A hw fun z H' S' O' s' e' q' => k _ H' _ S' O' (.str z) s' e' q'
theorem re_dct : RE L K W L2.tDNewK fun _ S _ Q => Q .dct S := fun σ H ρ S O R Q Q' A hw k => by
  intro p hp
  exact k (.ref p) _ .dct S O (.dct upd_same (A.sok.notO hp)) (A.sok.new hp) (ev_new hp A.sok) hw
end
end DL

set_option maxHeartbeats 4000000
/-! DL19: sorted(xs, key=f) where f's calls may leave new objects: whatever J says of the state stays true. -/
namespace DL
open PySem PySem.W PySem.Calls PyProof.Rows
section
variable {prog : Program} {w : World} {A : Around} {E : Value → Shared → Prop} {J : Shared → Prop} {lst kst : Addr}
/-- J does not look at the two lists that the sort works at -/
def Still (J : Shared → Prop) (lst kst : Addr) : Prop := ∀ (t : Shared) (c : Addr) (g : Heap) (tk : Nat), c = kst ∨ c = lst → J t → Heap.SameBut c t.heap g → (∃ o, g.get? c = some o) → J { t with heap := g, toks := tk }
theorem sortG_tail {s : Shared} {st : SortSt} {out : List Value} {ks : Array Value} {e1 e2 : Nat} {rev : Bool} {Z : PySem.Fin → Shared → Prop} (hJ : Still J lst kst) (j : J s) (gk : s.heap.get? kst = some (seqObj "list" ks e2)) (gl : s.heap.get? lst = some (seqObj "list" #[] e1))
    (ne : kst ≠ lst) (zk : ks.size ≤ sizeLine) (zo : out.length ≤ sizeLine) (nf : failedOf st = none) (ho : (if rev = true then ((arrOf st).map (·.2)).reverse else (arrOf st).map (·.2)) = out.toArray)
    (done : ∀ s' c, J s' → s'.heap.get? lst = some (seqObj "list" out.toArray c) → Z (.done (.ret .none)) s') :
    wpAny (model prog w) A (ksk_tail lst rev e1 (.ref kst) st) Z E s := by
  have b1 := Heap.SameBut.update s.heap kst (Obj.mapSeq fun _ => (#[] : Array Value))
  have gl1 := (b1.2 lst ne.symm).trans gl
  have b2 := Heap.SameBut.update (s.heap.update kst (Obj.mapSeq fun _ => (#[] : Array Value))) lst (Obj.mapSeq fun _ => out.toArray)
  have g2 := get?_update_seq gl1 fun _ => out.toArray
  unfold ksk_tail; dsimp only; rw [ho]
  refine wpAny_bind (listUpdate_at gk rfl ?_ zk (Nat.zero_le _))
  refine wpAny_bind (wpAny_letGo ?_)
  refine wpAny_bind (seqEpoch_at gl1 rfl ?_)
  refine wpAny_bind (listUpdate_at gl1 rfl ?_ (Nat.zero_le _) (by
    rw [List.size_toArray]
    omega))
  rw [nf]; simp only [bne_self_eq_false, Bool.false_eq_true, if_false]
  have j1 := hJ s kst _ s.toks (.inl rfl) j b1 ⟨_, get?_update_seq gk fun _ => (#[] : Array Value)⟩
  have j2 := hJ { s with heap := s.heap.update kst (Obj.mapSeq fun _ => (#[] : Array Value)), toks := s.toks } lst _ s.toks (.inr rfl) j1 b2 ⟨_, g2⟩
  exact wpAny_pure (done _ _ j2 g2)
theorem sortG_end {s : Shared} {vs : List Value} {ks : Array Value} {e1 e2 : Nat} {rev : Bool} {Z : PySem.Fin → Shared → Prop} {κ : PyProof.Rows.KeyKind} (hJ : Still J lst kst) (j : J s) (gk : s.heap.get? kst = some (seqObj "list" ks e2)) (gl : s.heap.get? lst = some (seqObj "list" #[] e1)) (ne : kst ≠ lst)
    (so : SortsAt prog w A s κ ks.toList) (hs : ks.size = vs.length) (hv : vs.length ≤ sizeLine) (done : ∀ s' c, J s' → s'.heap.get? lst = some (seqObj "list" (sortVals κ rev ks.toList vs).toArray c) → Z (.done (.ret .none)) s') :
    wpAny (model prog w) A (ksk_end lst rev vs.toArray e1 (.ref kst) ks) Z E s := by
  obtain ⟨kd, q1, q2⟩ := so.kind
  have lk : ks.toList.length = vs.length := by rw [Array.length_toList, hs]
  have kz : PyProof.Rows.KeysOf κ (ks.zip vs.toArray) := keysOf_zip so.keys
  have lo : (sortVals κ rev ks.toList vs).length = vs.length := sortVals_length rev lk
  generalize hA : (if rev = true then (ks.zip vs.toArray).reverse else ks.zip vs.toArray) = arr0
  have pm : arr0.Perm (ks.zip vs.toArray) := by
    rw [← hA]
    cases rev with
    | false => exact Array.Perm.refl _
    | true =>
      refine Array.perm_iff_toList_perm.mpr ?_
      rw [if_pos rfl, Array.toList_reverse]
      exact List.reverse_perm _
  have sz : arr0.size = vs.length := by rw [pm.size_eq, Array.size_zip, hs, List.size_toArray, Nat.min_self]
  have res : ∀ t : SortSt, (arrOf t).Perm arr0 → SortedToK κ (arrOf t) arr0.size → Stable κ (arrOf t) arr0 → (if rev = true then ((arrOf t).map (·.2)).reverse else (arrOf t).map (·.2)) = (sortVals κ rev ks.toList vs).toArray := fun t p1 p2 p3 => by
    subst hA
    have := congrArg List.toArray (sort_out (rev := rev) (keys := ks) (items := vs.toArray) (xs := arrOf t) (κ := κ) kz p1 p2 p3)
    rwa [Array.toArray_toList] at this
  have ahead : ∀ m : Sem PySem.Fin, wpAny (model prog w) A m Z E s → wpAny (model prog w) A (if rev = true then (do let _ ← rule "list.sort.reverse"; m) else m) Z E s := fun m hm => by
    split
    · exact wpAny_bind (wpAny_rule hm)
    · exact hm
  unfold ksk_end; dsimp only
  refine ahead _ ?_
  rw [hA]
  by_cases two : vs.toArray.size < 2
  · rw [if_pos two, if_pos two]
    refine wpAny_bind (wpAny_pure ?_)
    rw [StateT.run_pure]
    refine wpAny_bind (wpAny_pure ?_)
    dsimp only
    refine sortG_tail (st := SortSt.mk' general' arr0 #[] 7 none) hJ j gk gl ne (by rw [hs]; exact hv) (by rw [lo]; exact hv) rfl (res _ (Array.Perm.refl _) (fun i k ik hk => ?_) (Stable.refl _)) done
    rw [sz] at hk
    rw [List.size_toArray] at two
    have : i = k := by omega
    subst this
    exact KeyOrd.kle_refl _
  · rw [if_neg two, if_neg two]
    rw [List.size_toArray] at two
    refine wpAny_bind (q2 (by omega) _ ?_)
    refine wpAny_bind (wpAny_mono (H.wpS_sortRunsSt (κ := κ) (kd := kd) (a₀ := arr0) (st := SortSt.mk' kd arr0 #[] 7 none) (Q := fun _ t => failedOf t = none ∧ (if rev = true then ((arrOf t).map (·.2)).reverse else (arrOf t).map (·.2)) = (sortVals κ rev ks.toList vs).toArray)
      q1 (kz.perm pm) ⟨Array.Perm.refl _, rfl, rfl⟩ rfl (Stable.refl _) (by rw [sz]; omega) fun t p1 p2 p3 p4 => ⟨p2, res t p1 p3 p4⟩) ?_ fun _ _ z => z)
    rintro ⟨⟨⟩, t⟩ s' ⟨rfl, nf, eo⟩
    dsimp only at eo ⊢
    exact sortG_tail hJ j gk gl ne (by rw [hs]; exact hv) (by rw [lo]; exact hv) nf eo done
/-- the items by their keys -/
def KeyInt (v : Value) (k : Int) : Prop := ∃ t, v = Value.int k t
theorem keyInt_reads {h : Heap} {v : Value} {k : Int} (x : KeyInt v k) : Reads h v (.int k) [] := by
  obtain ⟨t, rfl⟩ := x
  first | exact Reads.int | exact .int | constructor
theorem sortG_rest {s : Shared} {f : Value} {vs : List Value} {kz : List Int} {e1 : Nat} {rev : Bool} {Z : PySem.Fin → Shared → Prop} (hJ : Still J lst kst) (j : J s) (gk : s.heap.get? kst = some (seqObj "list" #[] 0)) (gl : s.heap.get? lst = some (seqObj "list" #[] e1)) (ne : kst ≠ lst)
    (hl : kz.length = vs.length) (hv : vs.length ≤ sizeLine) (hu : A.units + 3 < cLine)
    (turn : ∀ (i : Nat) (v : Value) (k : Int), vs[i]? = some v → kz[i]? = some k → ∀ t : Shared, J t → wpAny (model prog w) A (call f [v]) (fun u t' => J t' ∧ (∀ c o, c = kst ∨ c = lst → t.heap.get? c = some o → t'.heap.get? c = some o) ∧ KeyInt u k) (fun _ _ => False) t)
    (done : ∀ s' out c, J s' → s'.heap.get? lst = some (seqObj "list" (List.toArray out) c) → KeyedOut rev (kz.map PyData.int) vs out → Z (.done (.ret .none)) s') :
    wpAny (model prog w) A (ksk_rest lst f rev vs.toArray e1 (.ref kst)) Z E s := by
  unfold ksk_rest
  refine wpAny_bind (wpAny_rule ?_)
  first
    | rw [List.forIn_toArray]
    | (rw [← Array.forIn_toList]; simp only [List.toList_toArray])
    | rw [← Array.forIn_toList]
  refine wpAny_bind (ksk_fold (fun i t => J t ∧ ∃ kA e, t.heap.get? kst = some (seqObj "list" kA e) ∧ t.heap.get? lst = some (seqObj "list" #[] e1) ∧ EachIs KeyInt kA.toList (kz.take i)) vs 0 s ⟨j, #[], 0, gk, gl, by rw [List.take_zero]; exact EachIs.nil⟩ ?step ?fin)
  case step =>
    rintro i x t hx ⟨jt, kA, e, nk, na, hk⟩
    simp only [Nat.zero_add] at hk ⊢
    have hi : i < vs.length := (List.getElem?_eq_some_iff.mp hx).1
    obtain ⟨k, hki⟩ : ∃ k, kz[i]? = some k := ⟨_, List.getElem?_eq_getElem (by omega)⟩
    have hz : kA.size ≤ vs.length := by
      have := hk.length
      rw [Array.length_toList, List.length_take] at this
      omega
    refine wpAny_bind (wpAny_attempt (wpAny_mono (turn i x k hx hki t jt) (fun u t' he => ?_) fun _ _ z => z.elim))
    obtain ⟨jt', kp, ku⟩ := he
    dsimp only
    have nk2 := kp _ _ (.inl rfl) nk
    have na2 := kp _ _ (.inr rfl) na
    have b1 := Heap.SameBut.update t'.heap kst (Obj.mapSeq (·.push u))
    have nk3 := get?_update_seq nk2 (·.push u)
    refine wpAny_bind (listUpdate_at nk2 rfl ?_ (Nat.le_trans hz hv) (Nat.le_trans (Nat.le_of_eq (Array.size_push ..)) (Nat.succ_le_succ (Nat.le_trans hz hv))))
    refine wpAny_pure ⟨rfl, hJ _ _ _ _ (.inl rfl) jt' b1 ⟨_, nk3⟩, kA.push u, _, nk3, (b1.2 lst ne.symm).trans na2, ?_⟩
    have ek : kz.take (i + 1) = kz.take i ++ [k] := by rw [List.take_add_one, hki]; simp
    have ea : (kA.push u).toList = kA.toList ++ [u] := by simp
    rw [ea, ek]
    exact each_snoc ku hk
  case fin =>
    rintro t ⟨jt, kA, e, nk, na, hk⟩
    have e3 : kz.take (0 + vs.length) = kz := List.take_of_length_le (by omega)
    rw [e3] at hk
    have hk' : EachIs (fun v d => ∃ as, Reads t.heap v d as) kA.toList (kz.map PyData.int) := by
      have : ∀ {l : List Value} {m : List Int}, EachIs KeyInt l m → EachIs (fun v d => ∃ as, Reads t.heap v d as) l (m.map PyData.int) := fun {l m} x => by
        induction x with
        | nil => exact EachIs.nil
        | cons a _ ih => exact EachIs.cons ⟨[], keyInt_reads a⟩ ih
      exact this hk
    have hs : kA.size = vs.length := by
      have := hk.length
      rw [Array.length_toList] at this
      omega
    have al : AllAlike (kz.map PyData.int) := fun d hd d' hd' => by
      obtain ⟨a, _, rfl⟩ := List.mem_map.mp hd
      obtain ⟨b, _, rfl⟩ := List.mem_map.mp hd'
      rfl
    have sk : Sortable (kz.map PyData.int) := .inr fun d hd => by
      obtain ⟨a, _, rfl⟩ := List.mem_map.mp hd
      exact ⟨fun z => (nomatch z), fun _ z => (nomatch z)⟩
    have du : ∀ d, d ∈ kz.map PyData.int → A.units + d.depth < cLine := fun d hd => by
      obtain ⟨a, _, rfl⟩ := List.mem_map.mp hd
      show A.units + PyData.depth (.int a) < cLine
      have : PyData.depth (.int a) = 0 := by first | rfl | simp [PyData.depth]
      omega
    refine wpAny_bind (listItems_at nk rfl ?_)
    exact sortG_end (κ := dataKind t.heap (kz.map PyData.int)) hJ jt nk na ne (SortsAt.data (s := t) hk' al sk du) hs hv fun s' c j' g' => done s' _ c j' g' ⟨t.heap, kA.toList, al, rfl, hk'⟩
end
end DL

set_option maxHeartbeats 4000000
/-! DL20: sorted(xs, key=f), f a def: the rule. -/
namespace DL
open PySem PySem.Spec PyProof.Rows L2
/-- sorted(xs, key=f): I stays true of the abstract heap through the calls of f -/
def rSortK (K : PySem.W.Frag) (f : Addr) (sp : Sp) : List V → List V → Hp → VK → Prop := fun vs zs H Q => ∃ (a : Addr) (xs : List V) (kz : List Int) (I : Hp → Prop), vs = [.ref a] ∧ zs = [.ref f] ∧ SqL K H a xs ∧ kz.length = xs.length ∧ I H ∧
  (∀ (H' : Hp) (i : Nat) (x : V) (k : Int), I H' → xs[i]? = some x → kz[i]? = some k → sp [x] H' (fun v H2 => v = .int k ∧ I H2) E0) ∧ ∀ H' p, I H' → H' p = none → Q (.ref p) (upd H' p (.lst (byKeys xs kz)))
section
variable {X : Cx}
theorem room_two {k : Nat} {A : Around} (r : Room (k + 2) A) : Room k A.in1.in1 := ((r.mono (show k + 1 + 1 ≤ k + 2 by omega)).in1).in1
theorem vals_each : ∀ {xs : List V} {vs : List Value} {kz : List Int}, Vals xs vs → kz.length = xs.length → PySem.W.EachIs (fun (v : Value) (p : V × Int) => RelV p.1 v) vs (xs.zip kz)
  | _, _, kz, .nil, h => by
    have : kz = [] := List.eq_nil_of_length_eq_zero h
    rw [this]; exact .nil
  | _, _, [], .cons _ _, h => by simp at h
  | _, _, k :: kz, .cons r rs, h => .cons r (vals_each rs (by simpa using h))
theorem each_vals : ∀ {vs : List Value} {ps : List (V × Int)}, PySem.W.EachIs (fun (v : Value) (p : V × Int) => RelV p.1 v) vs ps → Vals (ps.map Prod.fst) vs
  | _, _, .nil => .nil
  | _, _, .cons r rs => .cons r (each_vals rs)
theorem vals_at {xs : List V} {vs : List Value} (r : Vals xs vs) : ∀ {i : Nat} {v : Value}, vs[i]? = some v → ∃ x, xs[i]? = some x ∧ RelV x v := by
  induction r with
  | nil => intro i v h; simp at h
  | cons a b ih =>
    intro i v h
    cases i with
    | zero => exact ⟨_, rfl, by simpa using (show _ = _ from Option.some.inj h) ▸ a⟩
    | succ i => exact ih (by simpa using h)
theorem cr_sortK {k : Nat} {f : Addr} {fd : FuncData} {ps : List Str} {sp : Sp} (F : FnOk X.prog X.w X.K X.mg X.base (L2.CX X.prog X.w) k f fd ps sp) (hr : Room (k + 2) X.A) (hu : X.A.units + 70 < cLine) (hb : Binds X.K fd ps []) :
    CallRK X (.builtin "sorted") [Str.ofString "key"] (rSortK X.K f sp) := by
  intro pins s σ H xs zs us ws Q I r rz h
  obtain ⟨a, xs, kz, J, rfl, rfl, hs, hl, j0, hc, hq⟩ := h
  obtain ⟨its, rv, pl, hz⟩ := I.list hs
  obtain ⟨u, rfl, ru⟩ := vals1 r
  obtain rfl : u = Value.ref a := ru
  obtain ⟨g, rfl, rg⟩ := vals1 rz
  obtain rfl : g = Value.ref f := rg
  have hlv : kz.length = its.length := by rw [hl, rv.length]
  have hzv : its.length ≤ sizeLine := by rw [← rv.length]; exact hz
  show wpAny _ _ (call (.builtin "sorted") [.ref a] [(Str.ofString "key", .ref f)]) _ _ _
  refine PySem.W.sorted_of_sort pl.isList hzv (ksk_s1 _ _) (fun x => ksk_l1 _ _) fun E' => ?_
  rw [ksk_t1]
  generalize hlst : s.heap.objs.size + 1 = lst
  have ho := PySem.W.copyHeap_at s.heap its
  rw [hlst] at ho
  have below : ∀ {b : Addr} {o : Obj}, s.heap.get? b = some o → b < lst := fun {b o} q => hlst ▸ Nat.lt_succ_of_lt (Heap.lt_size q)
  have hla : lst < (PySem.W.copyHeap s.heap its).objs.size := Heap.lt_size ho
  -- the sort's own objects
  have go1 := get?_update_seq ho fun _ => (#[] : Array Value)
  generalize hk0 : (((PySem.W.copyHeap s.heap its).update lst (Obj.mapSeq fun _ => (#[] : Array Value))).push (seqObj "tuple" its.toArray 0)).objs.size = kst
  have hks : kst = (PySem.W.copyHeap s.heap its).objs.size + 1 := by rw [← hk0, size_push', Heap.size_update]
  have llt : lst < kst := by rw [hks]; exact Nat.lt_succ_of_lt hla
  have ne : kst ≠ lst := Nat.ne_of_gt llt
  have old : ∀ b o, s.heap.get? b = some o → (PySem.W.sortingHeap (PySem.W.copyHeap s.heap its) lst its).get? b = some o := fun b o q =>
    PySem.W.sortingHeap_old (Nat.ne_of_lt (below q)) (PySem.W.copyHeap_old q)
  let JJ : Shared → Prop := fun t => t.os = s.os ∧ AllBare t.gens ∧ (∃ o, t.heap.get? kst = some o) ∧ (∃ o, t.heap.get? lst = some o) ∧ ∃ H', Un (frs X.stack) [] H H' s.heap t.heap ∧ HOk X.prog X.w H' t.heap ∧ J H' ∧ H' kst = none ∧ H' lst = none
  have fresh : ∀ c, c = kst ∨ c = lst → s.heap.get? c = none := fun c hc => Heap.get?_none_of_le (by
    have hs : s.heap.objs.size ≤ lst := hlst ▸ Nat.le_succ _
    rcases hc with e | e
    · rw [e]; exact Nat.le_trans hs (Nat.le_of_lt llt)
    · rw [e]; exact hs)
  have still : Still JJ lst kst := fun t c g tk hc ⟨os, bare, ⟨o1, g1⟩, ⟨o2, g2⟩, H', un, hok, j, n1, n2⟩ sb gc => by
    have nc : H' c = none := by rcases hc with e | e <;> rw [e] <;> assumption
    have old' : ∀ {b : Addr} {o : Obj}, s.heap.get? b = some o → b ≠ c := fun {b o} q e => by rw [e, fresh c hc] at q; cases q
    have get : ∀ b, b ≠ c → g.get? b = t.heap.get? b := fun b hb => sb.2 b hb
    have there : ∀ b o, t.heap.get? b = some o → ∃ o', g.get? b = some o' := fun b o q => by
      by_cases hb : b = c
      · rw [hb]; exact gc
      · exact ⟨o, by rw [get b hb]; exact q⟩
    refine ⟨os, bare, there _ _ g1, there _ _ g2, H', ⟨fun b o q h1 h2 h3 => ?_, fun b o q h1 h2 h3 => ?_, un.free, fun b o q h1 => ?_, un.tups, un.frzs, un.tbls⟩, fun b o q => ?_, j, n1, n2⟩
    · rw [get b (old' q)]; exact un.keep b o q h1 h2 h3
    · rw [get b (old' q)]; exact un.slot b o q h1 h2 h3
    · obtain ⟨o', q'⟩ := un.there b o q h1
      exact there b o' q'
    · refine (hok b o q).stay (fun d u hd qd => ?_) (fun _ z => z) fun _ _ z => z
      have : d ≠ c := fun e => by
        subst e
        rcases hd with e | e
        · rw [← e] at q; rw [q] at nc; cases nc
        · rw [e] at nc; cases nc
      rw [get d this]; exact qd
  have fr : ∀ c, c = kst ∨ c = lst → c ∉ frs X.stack := fun c hc z => by
    obtain ⟨_, o, q, _⟩ := I.stack.mem z
    rw [fresh c hc] at q; cases q
  have init : JJ { s with heap := PySem.W.sortingHeap (PySem.W.copyHeap s.heap its) lst its } :=
    ⟨rfl, I.bare, ⟨seqObj "list" #[] 0, by rw [← hk0]; exact Heap.get?_push_size _ rfl⟩, ⟨_, Heap.get?_push_of_some _ (Heap.get?_push_of_some _ go1)⟩, H, Un.kept old, I.hok.kept old, j0,
      I.hok.fresh (Nat.le_trans (hlst ▸ Nat.le_succ _) (Nat.le_of_lt llt)), I.hok.fresh (hlst ▸ Nat.le_succ _)⟩
  have inv : ∀ t H', t.os = s.os → AllBare t.gens → Un (frs X.stack) [] H H' s.heap t.heap → HOk X.prog X.w H' t.heap → Inv X pins σ H' t := fun t H' os bare un hok => I.call' (ch := []) os un hok bare fun b z => nomatch z
  unfold ksk_tree
  refine wpAny_bind (listItems_at ho rfl ?_)
  refine wpAny_bind (listUpdate_at ho rfl ?_ (by rw [List.size_toArray]; exact hzv) (Nat.zero_le _))
  refine wpAny_bind (seqEpoch_at go1 rfl ?_)
  refine wpAny_bind (wpAny_newTuple ?_ (by show its.length ≤ _; exact hzv))
  refine wpAny_bind (wpAny_newList ?_ (Nat.zero_le _))
  refine wpAny_holding ?_
  have hkk : (((PySem.W.copyHeap s.heap its).update lst (Obj.mapSeq fun _ => (#[] : Array Value))).push (seqObj "tuple" its.toArray 0)).get? lst = some (seqObj "list" #[] _) := Heap.get?_push_of_some _ go1
  have hu2 : X.A.in1.in1.units + 3 < cLine := by show X.A.units + 1 + 1 + 3 < _; omega
  subst hk0
  refine sortG_rest (prog := X.prog) (w := X.w) (A := X.A.in1.in1) (J := JJ) (f := .ref f) (rev := false) (kz := kz) (s := { s with heap := PySem.W.sortingHeap (PySem.W.copyHeap s.heap its) lst its }) still init (Heap.get?_push_size _ rfl) (Heap.get?_push_of_some _ hkk) ne hlv hzv
    hu2 (fun i v k hv hk t jt => ?_) fun s' out c jt hg ko => ?_
  · obtain ⟨os, bare, ⟨o1, g1⟩, ⟨o2, g2⟩, H', un, hok, j, n1, n2⟩ := jt
    obtain ⟨x, hx, rx⟩ := vals_at rv hv
    have It := inv t H' os bare un hok
    have b := hb t [v] It.kIn (F.len _ _ _ _ (hc H' i x k j hx hk))
    refine wpAny_call (codeAny_mono (F.run X.A.in1.in1 X.stack t H' ⟨[v], []⟩ [v] [x] _ E0 (room_two hr) It.env0.in1.in1 b (.cons rx .nil) (hc H' i x k j hx hk)) fun r t' hq => ?_)
    cases r with
    | error e =>
      have hq : L2.CX X.prog X.w X.stack H' t E0 e t' := hq
      obtain ⟨_, _, _, _, _, _, _, _, _, _, _, _, z⟩ := hq
      exact z.elim
    | ok fl =>
      cases fl with
      | next => exact False.elim hq
      | brk => exact False.elim hq
      | cont => exact False.elim hq
      | ret u =>
        have hq : CE X.stack X.prog X.w H' t _ u t' := hq
        obtain ⟨y, H2, os2, bare2, un2, hok2, ru, rfl, j2⟩ := hq
        have kp : ∀ (c : Addr) (o : Obj), H' c = none → c ∉ frs X.stack → t.heap.get? c = some o → t'.heap.get? c = some o := fun c o h1 h2 q => un2.keep c o q h1 h2 (by simp)
        refine ⟨⟨os2.trans os, bare2, ⟨_, kp _ _ n1 (fr _ (.inl rfl)) g1⟩, ⟨_, kp _ _ n2 (fr _ (.inr rfl)) g2⟩, H2, un.trans un2, hok2, j2, un2.free _ _ g1 n1 (by simp), un2.free _ _ g2 n2 (by simp)⟩, fun c o hc q => ?_, ?_⟩
        · rcases hc with e | e
          · rw [e] at q ⊢; exact kp _ _ n1 (fr _ (.inl rfl)) q
          · rw [e] at q ⊢; exact kp _ _ n2 (fr _ (.inr rfl)) q
        obtain ⟨tt, rfl⟩ := (show ∃ tt, u = Value.int k tt from ru)
        exact ⟨tt, rfl⟩
  · obtain ⟨os, bare, ⟨o1, g1⟩, ⟨o2, g2⟩, H', un, hok, j, n1, n2⟩ := jt
    have ek : kz.map PyData.int = (xs.zip kz).map fun p => PyData.int p.2 := by
      have : kz = (xs.zip kz).map Prod.snd := (List.map_snd_zip (Nat.le_of_eq hl)).symm
      conv => lhs; rw [this]
      rw [List.map_map]; rfl
    rw [ek] at ko
    have ev := PySem.W.keyedOut_each (R := fun (v : Value) (p : V × Int) => RelV p.1 v) (fun p => PyData.int p.2) ko (vals_each rv hl)
    rw [PySem.W.dataLe_int (fun p : V × Int => p.2)] at ev
    have rv2 : Vals (byKeys xs kz) out := each_vals ev
    have lo : (byKeys xs kz).length = xs.length := by
      unfold byKeys
      rw [List.length_map, List.length_mergeSort, List.length_zip, hl, Nat.min_self]
    refine ⟨rfl, .ref lst, upd H' lst (.lst (byKeys xs kz)), ?_, rfl, hq H' lst j n2⟩
    have new : ObjOk X.prog X.w (upd H' lst (.lst (byKeys xs kz))) s'.heap lst (.lst (byKeys xs kz)) := ⟨by rw [lo]; exact hz, out, c, rv2, hg⟩
    have nl : ∀ {b : Addr} {o : HO}, H' b = some o → b ≠ lst := fun {b o} q e => by rw [e, n2] at q; cases q
    have hok2 : HOk X.prog X.w (upd H' lst (.lst (byKeys xs kz))) s'.heap := fun b o q => by
      by_cases e : b = lst
      · subst e; rw [upd_same] at q; cases q; exact new
      · rw [upd_ne e] at q
        exact (hok b o q).stay (fun _ _ _ z => z) (fun d z => by rw [upd_ne (nl z)]; exact z) fun d ys z => by rw [upd_ne (nl z)]; exact z
    refine inv s' _ os bare ⟨un.keep, un.slot, fun b o q h1 h2 => ?_, un.there, fun b ys q => ?_, fun b o u q => ?_, fun b ps q => ?_⟩ hok2
    · have : b ≠ lst := fun e => by rw [e, fresh lst (.inr rfl)] at q; cases q
      rw [upd_ne this]; exact un.free b o q h1 h2
    · have z := un.tups b ys q
      rw [upd_ne (nl z)]; exact z
    · have z := un.frzs b o u q
      rw [upd_ne (nl z)]; exact z
    · obtain ⟨more, z⟩ := un.tbls b ps q
      exact ⟨more, by rw [upd_ne (nl z)]; exact z⟩
end
end DL

/-! DL21: sorted(xs, key=f) over data. -/
namespace DL
open PySem PySem.Spec PyProof.Rows L2
section
variable {L : Lnk} {K : PySem.W.Frag} {W : WX} {wa : WE'}
def tCon (vs : List V) : TA := fun _ H Q => Q vs H
theorem zip_rps {O : Ow} {H : Hp} : ∀ {xs : List V} {ds : List D} {kz : List Int}, Rps K O H xs ds → ∃ ps : List ((V × D) × Int), xs.zip kz = ps.map (fun p => (p.1.1, p.2)) ∧ ds.zip kz = ps.map (fun p => (p.1.2, p.2)) ∧ ∀ p ∈ ps, Rp K O H p.1.1 p.1.2
  | _, _, kz, .nil => ⟨[], by simp, by simp, fun _ h => nomatch h⟩
  | _, _, [], .cons _ _ => ⟨[], by simp, by simp, fun _ h => nomatch h⟩
  | _, _, k :: kz, .cons (v := v) (d := d) r rs => by
    obtain ⟨ps, e1, e2, h⟩ := zip_rps (kz := kz) rs
    refine ⟨((v, d), k) :: ps, by rw [List.zip_cons_cons, e1]; rfl, by rw [List.zip_cons_cons, e2]; rfl, fun p hp => ?_⟩
    rcases List.mem_cons.mp hp with e | e
    · rw [e]; exact r
    · exact h p e
theorem rps_of {O : Ow} {H : Hp} : ∀ {ps : List ((V × D) × Int)}, (∀ p ∈ ps, Rp K O H p.1.1 p.1.2) → Rps K O H (ps.map fun p => p.1.1) (ps.map fun p => p.1.2)
  | [], _ => .nil
  | p :: ps, h => .cons (h p List.mem_cons_self) (rps_of fun q hq => h q (List.mem_cons_of_mem _ hq))
theorem Rps.byKeys {O : Ow} {H : Hp} {xs : List V} {ds : List D} {kz : List Int} (r : Rps K O H xs ds) : Rps K O H (DL.byKeys xs kz) (DL.byKeys ds kz) := by
  obtain ⟨ps, e1, e2, h⟩ := zip_rps (kz := kz) r
  unfold DL.byKeys
  rw [e1, e2]
  have m : ∀ {α : Type} (f : (V × D) × Int → α × Int), (∀ p, (f p).2 = p.2) → (ps.map f).mergeSort (fun p q => decide (p.2 ≤ q.2)) = (ps.mergeSort fun p q => decide (p.2 ≤ q.2)).map f := fun {α} f hf => by
    rw [List.map_mergeSort]
    intro a _ b _
    rw [hf, hf]
  rw [m (fun p => (p.1.1, p.2)) fun _ => rfl, m (fun p => (p.1.2, p.2)) fun _ => rfl, List.map_map, List.map_map]
  exact rps_of (ps := ps.mergeSort fun p q => decide (p.2 ≤ q.2)) fun p hp => h p (List.mem_mergeSort.mp hp)
theorem byKeys_len {α : Type} {xs : List α} {kz : List Int} (h : kz.length = xs.length) : (byKeys xs kz).length = xs.length := by
  unfold byKeys
  rw [List.length_map, List.length_mergeSort, List.length_zip, h, Nat.min_self]
theorem rps_at {O : Ow} {H : Hp} {xs : List V} {ds : List D} (r : Rps K O H xs ds) : ∀ {i : Nat} {x : V}, xs[i]? = some x → ∃ d, ds[i]? = some d ∧ Rp K O H x d := by
  induction xs generalizing ds with
  | nil => intro i x h; simp at h
  | cons v vs ih =>
    cases r with
    | cons r rs =>
      intro i x h
      cases i with
      | zero => cases Option.some.inj h; exact ⟨_, rfl, r⟩
      | succ i => exact ih rs (by simpa using h)
theorem rl_sortK {ta : TE} {f : Addr} {F : FSp} (ha : RE L K W ta wa) : RL L K W (tCKw (rSortK K f (spOf L K F)) (tCons ta tNil) (tCon [.ref f])) fun ρ S R Q => wa ρ S R fun x S1 => match res S1 x with
    | .lst xs => ∃ kz : List Int, kz.length = xs.length ∧ (∀ (i : Nat) (d : D) (k : Int), xs[i]? = some d → kz[i]? = some k → F [d] S1 xNo fun v S2 => v = .int k ∧ ∀ a o, S1 a = some o → S2 a = some o) ∧ Q (byKeys xs kz) S1
    | _ => False := fun σ H ρ S O R Q Q' A hw k => by
  refine ha.go A hw fun x H1 dx S1 O1 r1 A1 e1 q1 => ?_
  obtain ⟨hl, _, _⟩ := seq_of r1 A1.sok
  cases e : res S1 dx <;> rw [e] at q1 <;> try exact q1.elim
  obtain ⟨a, xs, rfl, g1, g2, g3⟩ := hl _ e
  obtain ⟨kz, l1, hk, q1⟩ := q1
  refine ⟨a, xs, kz, fun H' => ∃ O', Sok K S1 O' H' ∧ Ev S1 O1 H1 S1 O' H', rfl, rfl, SqL.of g1, by rw [l1, g3.len], ⟨O1, A1.sok, .refl⟩, fun H' i x j ⟨O', sk, ev⟩ hx hj => ?_, fun H' p ⟨O', sk, ev⟩ hp => ?_⟩
  · obtain ⟨d, hd, rd⟩ := rps_at g3 hx
    refine ⟨[d], S1, O', xNo, _, sk, .cons (rd.mono (ev.mo A1.sok)) .nil, hk i d j hd hj, fun _ _ _ _ _ _ _ _ _ _ z => z.elim, fun v H2 dv S2 O2 rv s2 e2 ⟨qv, sb⟩ => ?_⟩
    subst qv
    cases rv
    refine ⟨rfl, O2, s2.less sb, ev.trans sk ⟨e2.keep, e2.own, fun a h n => ⟨(e2.res a h n).1, n⟩, e2.there⟩⟩
  · have A2 := A1.next sk ev
    have r2 : Rps K O' H' (byKeys xs kz) (byKeys _ kz) := (g3.mono (ev.mo A1.sok)).byKeys
    refine rl_new A2 (e1.trans A1.sok ev) (by rw [byKeys_len (by rw [l1, g3.len])]; exact g2) r2 trivial (fun p xs H' ds' S' O' a b c d e f g i j => k p xs H' ds' S' O' a b c d e f g i (by rw [j.1, j.2]; exact q1)) p hp
end
end DL

set_option maxHeartbeats 4000000
/-! DL22: set(xs) of a list of ints, as it stands in the heap; sorted(set(xs)). -/
namespace DL
open PySem PySem.Spec PyProof.Rows L2
def freshO (w : World) : Obj := { cls := .type "set", dict := none, data := .set #[] 0 (.fresh 0 0 (!w.params.followText "set-order")) }
section
variable {P : Program} {w : World} {A : Around} {E : Value → Shared → Prop} {s : Shared}
set_option maxHeartbeats 8000000 in
theorem set_of_list {a : Addr} {xs : Array Value} (ns : List Int) {Q : Value → Shared → Prop} (quiet : A.handled = none) (at_ : s.heap.IsList a xs) (iv : IntsAre xs.toList ns) (few : ns.length + 1 < scanBound)
    (done : ∀ (g : Heap) (tk c : Nat), SetR w g s.heap.objs.size (fun j => decide (j ∈ ns)) c → c ≤ ns.length → (∀ b o, s.heap.get? b = some o → g.get? b = some o) → Q (.ref s.heap.objs.size) { s with heap := g, toks := tk }) :
    wpAny (model P w) A (call (.type "set") [.ref a]) Q E s := by
  have xsz : xs.size = ns.length := (Array.length_toList (xs := xs)).symm.trans (IntsAre.length iv)
  have f1 := F.called_set.mro
  have f2 := F.called_set.made
  have f3 := F.called_set.sub
  have f4 := F.called_set.notType
  have f5 := F.called_set.canCreate
  have f6 := F.typeCall_set_1 (.ref a)
  obtain ⟨c0, tl0, f1⟩ := f1
  refine wpAny_call (codeAny_of_tree ?_)
  show wpAny _ _ (callAny (.type "set") _) _ _ _
  refine wpAny_pure ⟨Code.quiet_builtin _ (by decide +kernel), codeAny_builtin F.entry_type_call ?_⟩
  rw [Around.under_plain (weight_type_call_type "set" [.ref a] []) rfl]
  repeat (any_goals (first | assumption | wp_step))
  generalize hfo : freshO w = fo
  refine codeAny_mono (code_set_led1 (.ref a) (E := E) (Q₁ := fun u t => u = .ref s.heap.objs.size ∧ t = { s with heap := s.heap.push fo }) ⟨rfl, by rw [← hfo]; rfl⟩) fun r1 t1 q1 => ?_
  match r1, q1 with
  | .ok (.ret u), q1 => ?_
  | .error e, q1 => exact q1
  | .ok .next, q1 => exact q1.elim
  | .ok .brk, q1 => exact q1.elim
  | .ok .cont, q1 => exact q1.elim
  obtain ⟨rfl, rfl⟩ := q1
  have new : (s.heap.push fo).get? s.heap.objs.size = some fo := Heap.get?_push_size _ (by rw [← hfo]; rfl)
  have kind : Shared.TypeIs { s with heap := s.heap.push fo } (.ref s.heap.objs.size) "set" := ⟨_, new, by rw [← hfo]; rfl⟩
  have f7 := F.called_set.init.lookup
  have f8 := F.called_set.init.bind (.ref s.heap.objs.size)
  repeat (any_goals (first | assumption | wp_step))
  refine codeAny_mono (codeAny_call_builtin (R := wants (fun u t => u = .none ∧ ∃ g tk c, t = { s with heap := g, toks := tk } ∧ SetR w g s.heap.objs.size (fun j => decide (j ∈ ns)) c ∧ c ≤ ns.length ∧
      ∀ b o, s.heap.get? b = some o → g.get? b = some o) E) F.called_set.init.plain F.entry_set_init (check_set_init_1 kind ?_)) fun r2 t2 q2 => ?_
  · obtain ⟨⟨cl, di, da, sl⟩, at1, at2, k0, at3⟩ := at_
    simp only at at2 at3
    subst at2 at3
    have old : a < s.heap.objs.size := Heap.lt_size at1
    have at4 : (s.heap.push fo).get? a = some { cls := .type "list", dict := di, data := .seq xs k0, slots := sl } := Heap.get?_push_of_some _ at1
    have il : (s.heap.push fo).IsList a xs := ⟨_, at4, rfl, k0, rfl⟩
    have g1 := F.sub_list_set
    have g2 := F.sub_list_frozenset
    have g3 : (Value.type "list" == Value.type "dict") = false := by decide
    subst hfo
    unfold freshO at il new ⊢
    unfold Builtin.«set.__init__» noKeywords Builtin.Frozenset.updateFrom
    generalize hpi : pyIter = pI
    wp_walk
    subst hpi
    refine wpAny_pyIter_list il ?_
    refine wpAny_bind (wpAny_runValue ?_)
    have sz : (s.heap.push (freshO w)).objs.size = s.heap.objs.size + 1 := Heap.size_push ..
    unfold freshO at sz
    have far : s.heap.objs.size ∉ [s.heap.objs.size + 1, a] := by
      simp only [List.mem_cons, List.not_mem_nil, or_false, not_or]
      exact ⟨Nat.ne_of_lt (Nat.lt_succ_self _), Nat.ne_of_gt old⟩
    rw [← sz] at far
    have vals : ∀ (i : Nat) (v : Value), xs[i]? = some v → ∃ k t, ns[i]? = some k ∧ v = .int k t := fun i v hv => by
      have lt : i < ns.length := xsz ▸ (Array.getElem?_eq_some_iff.mp hv).1
      obtain ⟨t, e⟩ := IntsAre.int_at iv i v (by rw [Array.getElem?_toList]; exact hv)
      exact ⟨ns[i], t, List.getElem?_eq_getElem lt, by rw [e, List.getD_eq_getElem?_getD, List.getElem?_eq_getElem lt]; rfl⟩
    refine set_update_ints ((Walks.list (by simp [quiet]) _ a (by rw [sz]; exact Nat.ne_of_lt (Nat.lt_succ_of_lt old)) xs).toS) s.heap.objs.size far ns xsz few vals (xs.size - 0) 0 _ (by omega) (Nat.zero_le _)
      ⟨⟨_, Heap.get?_push_size _ rfl, rfl, rfl⟩, il.push _⟩ ⟨0, Nat.le_refl 0, setR_new_at (Heap.get?_push_of_some _ new)⟩ ?_
    rintro ⟨g, g', d', tk', os'⟩ c mv cn sr
    have e1 : g' = s.gens := mv.gens
    have e2 : d' = s.drawn := mv.drawn
    have e3 : os' = s.os := mv.os
    subst e1 e2 e3
    show wpAny _ _ _ _ _ _
    refine wpAny_pure ?_
    show wpAny _ _ (ret Value.none) _ _ _
    refine wpAny_pure ⟨rfl, g, tk', c, rfl, sr, xsz ▸ cn, fun b o e => ?_⟩
    have bl : b < s.heap.objs.size := Heap.lt_size e
    exact mv.heap b o (by rw [sz]; simp only [List.mem_cons, List.not_mem_nil, or_false, not_or]; exact ⟨Nat.ne_of_lt bl, Nat.ne_of_lt (Nat.lt_succ_of_lt bl)⟩) (Heap.get?_push_of_some _ (Heap.get?_push_of_some _ e))
  · subst hfo
    match r2, q2 with
    | .ok (.ret u), q2 => ?_
    | .error e, q2 => exact q2
    | .ok .next, q2 => exact q2.elim
    | .ok .brk, q2 => exact q2.elim
    | .ok .cont, q2 => exact q2.elim
    obtain ⟨rfl, g, tk, c, rfl, sr, cn, kp⟩ := q2
    repeat (any_goals (first | assumption | wp_step))
    exact done g tk c sr cn kp
end
end DL

set_option maxHeartbeats 4000000
/-! DL23: sorted(set(ints)); sorted of a list of tuples that begin with ints of which no two are the same. -/
namespace DL
open PySem PySem.Spec PyProof.Rows L2
section
variable {X : Cx}
def tSortSet (K : PySem.W.Frag) (ta : TE) : TE := fun σ H Q => ta σ H fun x H1 => ∃ (l : Addr) (ns : List Int), x = .ref l ∧ SqL K H1 l (ns.map V.int) ∧ ns.length < 64 ∧
  ∀ (ms : List Int), ms.Pairwise (· < ·) → (∀ k, k ∈ ms ↔ k ∈ ns) → ms.length ≤ ns.length → ∀ p, H1 p = none → Q (.ref p) (upd H1 p (.lst (ms.map V.int)))
theorem pe_sortSet {a : Expr} {ta : TE} {p p2 q pos : Pos} (hc : X.calm = true) (hg : Gl X "sorted") (hm : X.mg "sorted" = none) (hg2 : Gl X "set") (hm2 : X.mg "set" = none) (ha : PE X a ta)
    (na : starEach [a] X.env = (false, eval a X.env) :: starEach [] X.env) : PE X (.Call (.Name "sorted" p) [.Call (.Name "set" p2) [a] [] q] [] pos) (tSortSet X.K ta) := by
  refine ⟨fun pins s σ H Q I h => ?_⟩
  refine Call_ (ld_blt I hg hm boot_sorted ?_)
  refine callWith_builtin1 (args_cons ?_ rfl) rfl rfl
  refine Call_ (ld_blt I hg2 hm2 boot_set ?_)
  refine callWith_type1 (args_cons (thn (ha.run pins s σ H _ I h) fun v s1 ⟨x, H1, I1, r1, q1⟩ => args_nil ?_) na) na rfl
  obtain ⟨l, ns, rfl, hq, few, q1⟩ := q1
  cases r1
  obtain ⟨its, rv, pl, hz⟩ := I1.list hq
  refine set_of_list ns (I1.ok.hd hc) pl.isList (by simpa using rv.ints) (by unfold scanBound; omega) fun g tk c sr cn kp => ?_
  refine args_nil ?_
  have fresh : s1.heap.get? s1.heap.objs.size = none := Heap.get?_none_of_le (Nat.le_refl _)
  refine sorted_set (s := { s1 with heap := g, toks := tk }) sr (I1.ok.hd hc) (by omega) fun s' b out e ms k2 g2 o hb hg3 hi hs hm3 hl => ?_
  have kall : ∀ b u, s1.heap.get? b = some u → s'.heap.get? b = some u := fun b u z => k2 b u (kp b u z)
  have hb1 : s1.heap.objs.size ≤ b := Nat.le_trans (Nat.le_of_lt sr.lt) hb
  have hlen : (ms.map V.int).length ≤ sizeLine := by rw [List.length_map, hl, sizeLine_eq]; omega
  have hn : H1 b = none := I1.hok.fresh hb1
  have J : Inv X pins σ (upd H1 b (.lst (ms.map V.int))) { s1 with heap := s'.heap, gens := s'.gens, drawn := s'.drawn, toks := s'.toks } :=
    I1.call (ch := []) (Un.laid kall hb1 hn) (I1.hok.laid kall hb1 ⟨hlen, out.toList, e, vals_of_ints hi, hg3⟩) (by rw [g2]; exact I1.bare) (fun _ z => nomatch z)
  have es : s' = { s1 with heap := s'.heap, gens := s'.gens, drawn := s'.drawn, toks := s'.toks } := by
    have o' : s'.os = s1.os := o
    cases s'; cases s1; cases o'; rfl
  rw [es]
  exact ⟨.ref b, _, J, rfl, q1 ms hs (fun k => (hm3 k).trans decide_eq_true_iff) (by omega) b hn⟩
/-- sorted(xs): the items are tuples that begin with ints, no two alike -/
def rSortI (K : PySem.W.Frag) : List V → Hp → VK → Prop := fun vs H Q => ∃ (a : Addr) (xs : List V) (kz : List Int) (ps : List PyData), vs = [.ref a] ∧ SqL K H a xs ∧ kz.length = xs.length ∧ kz.Nodup ∧ DpAll K H xs ps ∧ PySem.W.AllAlike ps ∧
  (∀ p ∈ ps, p.depth ≤ 8) ∧ (∀ (i : Nat) (d : PyData) (k : Int), ps[i]? = some d → kz[i]? = some k → ∃ r, d = .tuple (.int k :: r)) ∧ ∀ p, H p = none → Q (.ref p) (upd H p (.lst (byKeys xs kz)))
theorem dpAll_len {K : PySem.W.Frag} {H : Hp} : ∀ {xs : List V} {ps : List PyData}, DpAll K H xs ps → ps.length = xs.length
  | _, _, .nil => rfl
  | _, _, .cons _ t => by rw [List.length_cons, List.length_cons, dpAll_len t]
/-- one by one, with keys and data -/
theorem each_three : ∀ {xs : List V} {vs : List Value} {kz : List Int} {ps : List PyData}, Vals xs vs → kz.length = xs.length → ps.length = xs.length → PySem.W.EachIs (fun (v : Value) (b : (V × Int) × PyData) => RelV b.1.1 v) vs ((xs.zip kz).zip ps)
  | [], _, [], [], .nil, _, _ => .nil
  | x :: xs, _, k :: kz, p :: ps, .cons r t, h, h2 => .cons r (each_three t (by simpa using h) (by simpa using h2))
theorem each_reads {h : Heap} : ∀ {xs : List V} {vs : List Value} {kz : List Int} {ps : List PyData} {as : List Addr}, ReadsAll h vs ps as → kz.length = xs.length → ps.length = xs.length → PySem.W.EachIs (fun (v : Value) (b : (V × Int) × PyData) => ∃ as, Reads h v b.2 as) vs ((xs.zip kz).zip ps)
  | [], _, [], [], _, .nil, _, _ => .nil
  | x :: xs, _, k :: kz, p :: ps, _, .cons r t, h, h2 => .cons ⟨_, r⟩ (each_reads t (by simpa using h) (by simpa using h2))
theorem zip3_map : ∀ {xs : List V} {kz : List Int} {ps : List PyData}, kz.length = xs.length → ps.length = xs.length → ((xs.zip kz).zip ps).map Prod.fst = xs.zip kz ∧ ((xs.zip kz).zip ps).map Prod.snd = ps := fun {xs kz ps} h h2 => by
  have l : (xs.zip kz).length = ps.length := by rw [List.length_zip, h, h2, Nat.min_self]
  exact ⟨List.map_fst_zip (Nat.le_of_eq l), List.map_snd_zip (Nat.le_of_eq l.symm)⟩
theorem vals_three : ∀ {vs : List Value} {bs : List ((V × Int) × PyData)}, PySem.W.EachIs (fun (v : Value) (b : (V × Int) × PyData) => RelV b.1.1 v) vs bs → Vals (bs.map fun b => b.1.1) vs
  | _, _, .nil => .nil
  | _, _, .cons r rs => .cons r (vals_three rs)
theorem sort_agree {xs : List V} {kz : List Int} {ps : List PyData} (l1 : kz.length = xs.length) (l2 : ps.length = xs.length) (nd : kz.Nodup) (hd : ∀ (i : Nat) (d : PyData) (k : Int), ps[i]? = some d → kz[i]? = some k → ∃ r, d = .tuple (.int k :: r)) :
    ((xs.zip kz).zip ps).mergeSort (PySem.W.dataLe false fun b => b.2) = ((xs.zip kz).zip ps).mergeSort fun b c => decide (b.1.2 ≤ c.1.2) := by
  have at_ : ∀ b ∈ (xs.zip kz).zip ps, ∃ i : Nat, kz[i]? = some b.1.2 ∧ ps[i]? = some b.2 ∧ xs[i]? = some b.1.1 := fun b hb => by
    obtain ⟨i, hi⟩ := List.mem_iff_getElem?.mp hb
    obtain ⟨z1, z2⟩ := List.getElem?_zip_eq_some.mp hi
    obtain ⟨z3, z4⟩ := List.getElem?_zip_eq_some.mp z1
    exact ⟨i, z4, z2, z3⟩
  have m := List.map_mergeSort (f := id) (r := PySem.W.dataLe false fun b : (V × Int) × PyData => b.2) (s := fun b c => decide (b.1.2 ≤ c.1.2)) (l := (xs.zip kz).zip ps) ?_
  · rw [List.map_id, List.map_id] at m; exact m
  intro b hb c hc
  obtain ⟨i, b1, b2, b3⟩ := at_ b hb
  obtain ⟨j, c1, c2, c3⟩ := at_ c hc
  obtain ⟨r, e⟩ := hd i _ _ b2 b1
  obtain ⟨u, f⟩ := hd j _ _ c2 c1
  show (!PySem.W.dataLt c.2 b.2) = decide (b.1.2 ≤ c.1.2)
  by_cases ek : b.1.2 = c.1.2
  · have ij : i = j := by
      obtain ⟨hi, _⟩ := List.getElem?_eq_some_iff.mp b1
      rw [← ek] at c1
      exact (List.getElem?_inj hi nd).mp (b1.trans c1.symm)
    subst ij
    have : b.2 = c.2 := Option.some.inj (b2.symm.trans c2)
    have ir : PySem.W.dataLt c.2 c.2 = false := PyProof.Rows.lex_irrefl _
    rw [this, ir, ek]; simp
  · rw [e, f, PySem.W.dataLt_tuple, PySem.W.dataLt_cons (by simp [PySem.W.alike]), PySem.W.dataLt_int]
    have : PyData.eqv (.int c.1.2) (.int b.1.2) = false := by simp [PyData.eqv]; exact fun z => ek z.symm
    rw [this, if_neg Bool.false_ne_true]
    by_cases z : c.1.2 < b.1.2
    · have : ¬ b.1.2 ≤ c.1.2 := by omega
      simp [z, this]
    · have : b.1.2 ≤ c.1.2 := by omega
      simp [z, this]
theorem cr_sortI (hu : X.A.units + 70 < cLine) : CallR X (.builtin "sorted") (rSortI X.K) := by
  intro pins s σ H vs us Q I r h
  obtain ⟨a, xs, kz, ps, rfl, hs, l1, nd, dp, al, dep, hd, hq⟩ := h
  have l2 := dpAll_len dp
  obtain ⟨its, rv, pl, hz⟩ := I.list hs
  obtain ⟨u, rfl, ru⟩ := vals1 r
  obtain rfl : u = Value.ref a := ru
  obtain ⟨as, ra⟩ := Dp.readsAll I ps _ its dp rv
  obtain ⟨e1, e2⟩ := zip3_map l1 l2
  have lb : ((xs.zip kz).zip ps).length = xs.length := by rw [List.length_zip, List.length_zip, l1, l2, Nat.min_self, Nat.min_self]
  have tup : ∀ d ∈ ps, ∃ x r, d = PyData.tuple (x :: r) := fun d m => by
    obtain ⟨i, hi⟩ := List.mem_iff_getElem?.mp m
    obtain ⟨li, _⟩ := List.getElem?_eq_some_iff.mp hi
    obtain ⟨r, e⟩ := hd i d kz[i] hi (List.getElem?_eq_getElem (by omega))
    exact ⟨_, _, e⟩
  refine PySem.W.sorted_data (R := fun (v : Value) (b : (V × Int) × PyData) => RelV b.1.1 v) (bs := (xs.zip kz).zip ps) (enc := fun b => b.2) (vs := its) pl.isList (each_three rv l1 l2) (each_reads ra l1 l2)
    (by rw [e2]; exact al) (by rw [e2]; exact .inl tup) (by rw [lb]; exact hz) (fun b hb => ?_) fun out lo eo => ?_
  · have : b.2 ∈ ps := e2 ▸ List.mem_map.mpr ⟨b, hb, rfl⟩
    have := dep _ this
    omega
  · obtain ⟨c, hc⟩ := sortedAll_at s.heap its out.toArray
    have kp : ∀ b u, s.heap.get? b = some u → (sortedAll s.heap its out.toArray).get? b = some u := fun b u z => sortedAll_old z
    rw [sort_agree l1 l2 nd hd] at eo
    have eb : (((xs.zip kz).zip ps).mergeSort fun b c => decide (b.1.2 ≤ c.1.2)).map (fun b => b.1.1) = byKeys xs kz := by
      have m := List.map_mergeSort (f := Prod.fst) (r := fun b c : (V × Int) × PyData => decide (b.1.2 ≤ c.1.2)) (s := fun p q : V × Int => decide (p.2 ≤ q.2)) (l := (xs.zip kz).zip ps) fun _ _ _ _ => rfl
      rw [e1] at m
      unfold byKeys
      rw [← m, List.map_map]; rfl
    have rv2 : Vals (byKeys xs kz) out := eb ▸ vals_three eo
    exact ⟨.ref (s.heap.objs.size + 1), upd H (s.heap.objs.size + 1) (.lst (byKeys xs kz)), I.laid (t' := s.toks) kp (Nat.le_succ _) ⟨by rw [byKeys_len l1]; exact hz, out, c, rv2, hc⟩, rfl, hq _ (I.hok.fresh (Nat.le_succ _))⟩
end
/-- xs[::-1] of a list: a new list -/
def tStpL (K : PySem.W.Frag) (te : TE) (tl th ts : TO) : TE := fun σ H Q => te σ H fun x H1 => tl σ H1 fun l H2 => th σ H2 fun u H3 => ts σ H3 fun o H4 => ∃ a xs, x = .ref a ∧ l = none ∧ u = none ∧ o = some (-1) ∧ SqL K H4 a xs ∧ ∀ p, H4 p = none → Q (.ref p) (upd H4 p (.lst xs.reverse))
theorem vals_rev {xs : List V} {us : List Value} (r : Vals xs us) : Vals xs.reverse us.reverse := by
  induction r with
  | nil => exact .nil
  | cons a t ih => rw [List.reverse_cons, List.reverse_cons]; exact ih.append (.cons a .nil)
theorem pe_stpL {X : Cx} {e st : Expr} {lo hi : Option Expr} {te : TE} {tl th ts : TO} {p3 pos : Pos} (he : PE X e te) (hl : PO X lo tl) (hh : PO X hi th) (hst : PO X (some st) ts) : PE X (.Subscript e (.Slice lo hi (some st) p3) pos) (tStpL X.K te tl th ts) := by
  refine ⟨fun pins s σ H Q I h => ?_⟩
  refine Subscript_ (thn (he.run pins s σ H _ I h) fun v s1 ⟨x, H1, I1, r1, q1⟩ => ?_)
  refine wpAny_Slice (thn (hl.run pins s1 σ H1 _ I1 q1) fun vl s2 ⟨l, H2, I2, pl, q2⟩ => ?_)
  refine thn (hh.run pins s2 σ H2 _ I2 q2) fun vu s3 ⟨u, H3, I3, pu, q3⟩ => ?_
  refine thn (hst.run pins s3 σ H3 _ I3 q3) fun vs s4 ⟨o, H4, I4, ps, a, xs, ex, e1, e2, e3, hx, q⟩ => ?_
  subst ex e1 e2 e3
  cases r1
  have I5 : Inv X pins σ H4 { s4 with heap := s4.heap.push { cls := .type "slice", data := .fields #[vl, vu, vs] } } := I4.kept (t' := s4.toks) fun b ob q => Heap.get?_push_of_some _ q
  obtain ⟨its, r, ht, hz⟩ := I5.list hx
  show wpAny (model X.prog X.w) X.A (subscriptTail e (.Slice lo hi (some st) p3) (.ref a) (.ref s4.heap.objs.size)) (EP X pins σ Q) X.xe { s4 with heap := s4.heap.push { cls := .type "slice", data := .fields #[vl, vu, vs] } }
  refine tail_any (ops := [.ref a, .ref s4.heap.objs.size]) ht.isList.typeIs (slot_list_getitem.lookup) ?_ (by with_unfolding_all rfl)
  refine wpAny_getItem_list_slice ht.isList (Heap.IsSliceOf.new _ vl vu vs) pl pu ps (by decide) ?_ (by rw [List.size_toArray, ← r.length]; exact hz)
  rw [PySem.W.krv_pick]
  exact ⟨.ref _, _, I5.laid (t' := s4.toks) (o := .lst xs.reverse) (fun b ob q => Heap.get?_push_of_some _ q) (Nat.le_refl _) ⟨by rw [List.length_reverse]; exact hz, _, 0, vals_rev r, Heap.get?_push_size _ rfl⟩, rfl, q _ (I5.hok.fresh (Nat.le_refl _))⟩
theorem Rps.rev {K : PySem.W.Frag} {O : Ow} {H : Hp} {xs : List V} {ds : List D} (r : Rps K O H xs ds) : Rps K O H xs.reverse ds.reverse := by
  induction xs generalizing ds with
  | nil => cases r; exact .nil
  | cons x xs ih => cases r with | cons a t => rw [List.reverse_cons, List.reverse_cons]; exact (ih t).append (.cons a .nil)
section
variable {L : Lnk} {K : PySem.W.Frag} {W : WX} {wa ws : WE'}
theorem rl_stpL {te : TE} {tl th : TO} {ts : TE} {wl wh : Env → Sto → XD → (Option Int → Sto → Prop) → Prop} (ha : RE L K W te wa) (hl : RO L K W tl wl) (hh : RO L K W th wh) (hs : RE L K W ts ws) : RL L K W (tStpL K te tl th (tPart ts)) fun ρ S R Q => wa ρ S R fun x S1 => wl ρ S1 R fun l S2 => wh ρ S2 R fun h S3 => ws ρ S3 R fun y S4 => match res S4 x, y with
    | .lst xs, .int k => l = none ∧ h = none ∧ k = -1 ∧ Q xs.reverse S4
    | _, _ => False := fun σ H ρ S O R Q Q' A hw k => by
  refine ha.go A hw fun x H1 dx S1 O1 r1 A1 e1 q1 => ?_
  refine hl.go A1 q1 fun l H2 S2 O2 A2 e2 q2 => ?_
  refine hh.go A2 q2 fun h H3 S3 O3 A3 e3 q3 => ?_
  refine hs.go A3 q3 fun y H4 dy S4 O4 r4 A4 e4 q4 => ?_
  have r1 := ((r1.mono (A1.mo e2)).mono (A2.mo e3)).mono (A3.mo e4)
  have ev := ((e1.trans A1.sok e2).trans A2.sok e3).trans A3.sok e4
  obtain ⟨hl, _, _⟩ := seq_of r1 A4.sok
  cases e : res S4 dx <;> rw [e] at q4 <;> cases dy <;> try exact q4.elim
  cases r4
  obtain ⟨a, xs, rfl, g1, g2, g3⟩ := hl _ e
  obtain ⟨rfl, rfl, rfl, q⟩ := q4
  refine ⟨_, rfl, a, xs, rfl, rfl, rfl, rfl, SqL.of g1, fun p hp => ?_⟩
  exact rl_new A4 ev (by rw [List.length_reverse]; exact g2) g3.rev trivial (fun p xs H' ds' S' O' a b c d e f g i j => k p xs H' ds' S' O' a b c d e f g i (by rw [j.1, j.2]; exact q)) p hp
end
section
variable {L : Lnk} {K : PySem.W.Frag} {W : WX} {wa : WE'}
theorem rl_sortSet {ta : TE} (ha : RE L K W ta wa) : RL L K W (tSortSet K ta) fun ρ S R Q => wa ρ S R fun x S1 => match res S1 x with
    | .lst xs => ∃ ns : List Int, xs = ns.map .int ∧ ns.length < 64 ∧ ∀ ms : List Int, ms.Pairwise (· < ·) → (∀ k, k ∈ ms ↔ k ∈ ns) → Q (ms.map .int) S1
    | _ => False := fun σ H ρ S O R Q Q' A hw k => by
  refine ha.go A hw fun x H1 dx S1 O1 r1 A1 e1 q1 => ?_
  obtain ⟨hl, _, _⟩ := seq_of r1 A1.sok
  cases e : res S1 dx <;> rw [e] at q1 <;> try exact q1.elim
  obtain ⟨a, xs, rfl, g1, g2, g3⟩ := hl _ e
  obtain ⟨ns, rfl, few, q1⟩ := q1
  obtain rfl := g3.ints
  refine ⟨a, ns, rfl, SqL.of g1, few, fun ms h1 h2 h3 => ?_⟩
  exact rl_new A1 e1 (by rw [List.length_map, sizeLine_eq]; omega) (Rps.ofInts ms) trivial (fun p xs H' ds' S' O' a b c d e f g i j => k p xs H' ds' S' O' a b c d e f g i (by rw [j.1, j.2]; exact q1 ms h1 h2))
theorem rl_sortInts {ta : TE} (ha : RE L K W ta wa) : RL L K W (tCB (rSortedI K) (tCons ta tNil)) fun ρ S R Q => wa ρ S R fun x S1 => match res S1 x with
    | .lst xs => ∃ ns : List Int, xs = ns.map .int ∧ ∀ ms : List Int, ms.Perm ns → ms.Pairwise (· ≤ ·) → Q (ms.map .int) S1
    | _ => False := fun σ H ρ S O R Q Q' A hw k => by
  refine ha.go A hw fun x H1 dx S1 O1 r1 A1 e1 q1 => ?_
  obtain ⟨hl, _, _⟩ := seq_of r1 A1.sok
  cases e : res S1 dx <;> rw [e] at q1 <;> try exact q1.elim
  obtain ⟨a, xs, rfl, g1, g2, g3⟩ := hl _ e
  obtain ⟨ns, rfl, q1⟩ := q1
  obtain rfl := g3.ints
  refine ⟨a, ns, rfl, SqL.of g1, fun ms p h1 h2 h3 => ?_⟩
  have lm : (ms.map V.int).length ≤ sizeLine := by
    rw [List.length_map] at g2 ⊢
    rw [h1.length_eq]; exact g2
  exact rl_new A1 e1 lm (Rps.ofInts ms) trivial (fun p xs H' ds' S' O' a b c d e f g i j => k p xs H' ds' S' O' a b c d e f g i (by rw [j.1, j.2]; exact q1 ms h1 h2)) p h3
theorem rl_sortI {ta : TE} (ha : RE L K W ta wa) : RL L K W (tCB (rSortI K) (tCons ta tNil)) fun ρ S R Q => wa ρ S R fun x S1 => match res S1 x with
    | .lst xs => ∃ (kz : List Int) (ps : List PyData), kz.length = xs.length ∧ kz.Nodup ∧ D.py.pys xs = some ps ∧ PySem.W.AllAlike ps ∧ (∀ p ∈ ps, p.depth ≤ 8) ∧
      (∀ (i : Nat) (d : PyData) (k : Int), ps[i]? = some d → kz[i]? = some k → ∃ r, d = .tuple (.int k :: r)) ∧ Q (byKeys xs kz) S1
    | _ => False := fun σ H ρ S O R Q Q' A hw k => by
  refine ha.go A hw fun x H1 dx S1 O1 r1 A1 e1 q1 => ?_
  obtain ⟨hl, _, _⟩ := seq_of r1 A1.sok
  cases e : res S1 dx <;> rw [e] at q1 <;> try exact q1.elim
  obtain ⟨a, xs, rfl, g1, g2, g3⟩ := hl _ e
  obtain ⟨kz, ps, l1, nd, hp, al, dep, hd, q1⟩ := q1
  refine ⟨a, xs, kz, ps, rfl, SqL.of g1, by rw [l1, g3.len], nd, dps_of g3 hp, al, dep, hd, ?_⟩
  exact rl_new A1 e1 (by rw [byKeys_len (by rw [l1, g3.len])]; exact g2) g3.byKeys trivial (fun p xs H' ds' S' O' a b c d e f g i j => k p xs H' ds' S' O' a b c d e f g i (by rw [j.1, j.2]; exact q1))
end
end DL

/-! DL12: the check is enough: expressions. -/
namespace DL
open PySem PySem.Spec PyProof.Rows L2
/-- the three readings of an expression -/
def Th (L : Lnk) (W : WX) (X : Cx) (x : Expr) (w : WE') : Prop := PE X x (tO L X.K W w) ∧ PT X x (tOT L X.K W w) ∧ (isBO x = true → PW X x (tOT L X.K W w))
section
variable {c : Ck} {L : Lnk} {W : WX} {X : Cx}
theorem th_val {x : Expr} {w : WE'} (pe : PE X x (tO L X.K W w)) (he : ∀ whole, isTrue x X.env whole = (do let v ← whole; standAt x.pos; holding [v] (truthy v))) (nb : isBO x = false) : Th L W X x w :=
  ⟨pe, (pt_val pe he).can (re_tO).tB, fun h => by rw [nb] at h; cases h⟩
theorem pe_callS0 {X : Cx} {CX : CXT} {k : Nat} {f : Addr} {fd : FuncData} {ps : List Str} {sp : Sp} {E : L2.St → XK} {x : Str} {p pos : Pos} (F : FnOk X.prog X.w X.K X.mg X.base CX k f fd ps sp) (hr : Room k X.A) (hg : Gl X x) (hm : X.mg x = some (.ref f)) (hk : PySem.W.keepIn X.K (.ref f) = true) (hb : Binds X.K fd ps []) (hx : ∀ σ, PassesAt CX X σ (E σ))
    (hdb : (x == ("__debug__" : Str)) = false) : PE X (.Call (.Name x p) [] [] pos) (tCallS sp E tNil) := by
  refine ⟨fun pins s σ H Q I h => ?_⟩
  refine wpAny_Call_Name_kw (ld_glob I hg hm ?_ hdb)
  exact PySem.W.callWith_K0 I.kIn hk (run_fnS (us := []) F hr hb (hx σ) I .nil h)
theorem re_callS {f : Nat} {t : TA} {ws : Env → Sto → XD → (List D → Sto → Prop) → Prop} {K : PySem.W.Frag} (h : RA L K W t ws) : RE L K W (tCallS (spOf L K (L.Γ.fn f)) (WE W) t) fun ρ S R Q => ws ρ S R fun ds S1 => L.Γ.fn f ds S1 R Q := fun σ H ρ S O R Q Q' A hw k => by
  refine h.go A hw fun vs H1 ds S1 O1 r1 A1 e1 q1 => ?_
  refine ⟨ds, S1, O1, R, Q, A1.sok, r1, q1, fun k' d S' O' H' c dd s' e' x r => A1.x k' d S' O' H' c dd s' e' x r, fun v H' d S' O' r' s' e' q' => k v H' d S' O' r' s' (e1.trans A1.sok e') q'⟩
theorem cst_ok {d : D} {x : Expr} (hx : XC c L W X) (h : cstC c d x = true) : PE X x (tO L X.K W fun _ S _ Q => Q d S) ∧ (∀ whole, isTrue x X.env whole = (do let v ← whole; standAt x.pos; holding [v] (truthy v))) ∧ isBO x = false := by
  unfold cstC at h
  split at h
  · have e := of_decide_eq_true h; subst e
    exact ⟨pe_int.can (re_c fun _ _ => .int _), fun _ => rfl, rfl⟩
  · have e := of_decide_eq_true h; subst e
    exact ⟨pe_bl.can (re_c fun _ _ => .bl _), fun _ => rfl, rfl⟩
  · have e := of_decide_eq_true h; subst e
    exact ⟨pe_str.can (re_c fun _ _ => .str _), fun _ => rfl, rfl⟩
  · exact ⟨pe_non.can (re_c fun _ _ => .non), fun _ => rfl, rfl⟩
  · rw [Bool.and_eq_true] at h
    obtain ⟨hg, hd⟩ := gloC_ok hx h.1
    have h2 := h.2
    simp only [Bool.or_eq_true, Bool.and_eq_true, decide_eq_true_eq] at h2
    rcases h2 with (((⟨e1, e2⟩ | ⟨e1, e2⟩) | ⟨e1, e2⟩) | ⟨e1, e2⟩) | ⟨e1, e2⟩ <;> subst e1 <;> subst e2
    · exact ⟨L2.PE.can (pe_bltn hg (bl_of hx (by decide +kernel)) (u := .type "int") (v := .ty "int") (by decide +kernel) rfl) (re_c fun _ _ => .ty _), fun _ => rfl, rfl⟩
    · exact ⟨L2.PE.can (pe_bltn hg (bl_of hx (by decide +kernel)) (u := .type "bool") (v := .ty "bool") (by decide +kernel) rfl) (re_c fun _ _ => .ty _), fun _ => rfl, rfl⟩
    · exact ⟨L2.PE.can (pe_bltn hg (bl_of hx (by decide +kernel)) (u := .type "tuple") (v := .ty "tuple") (by decide +kernel) rfl) (re_c fun _ _ => .ty _), fun _ => rfl, rfl⟩
    · exact ⟨L2.PE.can (pe_bltn hg (bl_of hx (by decide +kernel)) (u := .type "str") (v := .ty "str") (by decide +kernel) rfl) (re_c fun _ _ => .ty _), fun _ => rfl, rfl⟩
    · exact ⟨L2.PE.can (pe_bltn hg (bl_of hx (by decide +kernel)) (u := .type "list") (v := .ty "list") (by decide +kernel) rfl) (re_c fun _ _ => .ty _), fun _ => rfl, rfl⟩
  · cases h
theorem starEach_len (env : PySem.Env) : ∀ xs : List Expr, (starEach xs env).length = xs.length
  | [] => rfl
  | x :: xs => by cases x <;> exact congrArg (· + 1) (starEach_len env xs)
theorem okGs_len (env : PySem.Env) : ∀ {ts : Tgs} {xs : List Expr}, okGs ts c xs = true → (assignEach xs env).length = tgsLen ts ∧ ∀ p ∈ assignEach xs env, p.1 = false
  | .nil, [], _ => ⟨rfl, fun _ h => nomatch h⟩
  | .nil, _ :: _, h => by cases h
  | .cons t r, [], h => by cases h
  | .cons t r, x :: xs, h => by
    unfold okGs at h
    simp only [Bool.and_eq_true] at h
    obtain ⟨h1, h2⟩ := okGs_len env (ts := r) (xs := xs) h.2
    rw [noStar_assign h.1.1]
    refine ⟨by rw [List.length_cons, h1]; rfl, fun p hp => ?_⟩
    rcases List.mem_cons.mp hp with e | e
    · rw [e]
    · exact h2 p e
/-- targets, tests: canonical readings -/
def tOGt (L : Lnk) (K : PySem.W.Frag) (W : WX) (vs : List Nat) (w : WG) : TG := fun v σ H Q' => ∃ d ρ S O, ∃ Q : Env → Sto → Prop, At L K W σ H ρ S O xNo ∧ Rp K O H v d ∧ w d ρ S xNo Q ∧ ∀ σ' H' ρ' S' O', Sok K S' O' H' → Ev S O H S' O' H' → REnv K O' H' ρ' σ' → SetIn vs σ σ' → Q ρ' S' → Q' σ' H'
def tOTs (L : Lnk) (K : PySem.W.Frag) (W : WX) (w : WTs) : TT := fun σ H Q' => ∃ ρ S O, ∃ Q : Bool → Sto → Prop, At L K W σ H ρ S O xNo ∧ w ρ S Q ∧ ∀ b H' S' O', Sok K S' O' H' → Ev S O H S' O' H' → Q b S' → Q' b H'
theorem rg_tO {K : PySem.W.Frag} {vs : List Nat} {w : WG} : RG L K W vs (tOGt L K W vs w) w := fun v d σ H ρ S O Q Q' A r hw k => ⟨d, ρ, S, O, Q, A, r, hw, k⟩
theorem rts_tO {K : PySem.W.Frag} {w : WTs} : RTs L K W (tOTs L K W w) w := fun σ H ρ S O Q Q' A hw k => ⟨ρ, S, O, Q, A, hw, k⟩
theorem _root_.L2.PG.can {K : PySem.W.Frag} {vs : List Nat} {w : WG} {x : Expr} {g : TG} (h : PG X x g) (r : RG L K W vs g w) : PG X x (tOGt L K W vs w) := ⟨fun pins s σ H v u Q' I rv ⟨d, ρ, S, O, Q, A, rd, hw, k⟩ => h.run pins s σ H v u Q' I rv (r v d σ H ρ S O Q Q' A rd hw k)⟩
theorem _root_.L2.PTs.can {K : PySem.W.Frag} {w : WTs} {xs : List Expr} {t : TT} (h : PTs X xs t) (r : RTs L K W t w) : PTs X xs (tOTs L K W w) := ⟨fun pins s σ H Q' I ⟨ρ, S, O, Q, A, hw, k⟩ => h.run pins s σ H Q' I (r σ H ρ S O Q Q' A hw k)⟩
set_option maxHeartbeats 1000000
mutual
theorem sE : ∀ (e : Ex) {c : Ck} {W : WX} {X : Cx} {x : Expr}, XC c L W X → okE e c x = true → Th L W X x (wpE L.Γ e)
  | .var i, c, W, X, x, hx, h => by
    unfold okE at h
    split at h
    · rename_i n p
      unfold varC dbg at h
      simp only [Bool.and_eq_true, decide_eq_true_eq, Bool.not_eq_true'] at h
      exact th_val ((pe_var (by rw [hx.N]; exact h.1.1.1) (visC_ok hx h.1.1.2) h.1.2 h.2).can re_var) (fun _ => rfl) rfl
    · cases h
  | .cst d, c, W, X, x, hx, h => by
    obtain ⟨h1, h2, h3⟩ := cst_ok hx h
    exact th_val h1 h2 h3
  | .glb k, c, W, X, x, hx, h => by
    unfold okE at h
    split at h
    · rename_i n p
      rw [Bool.and_eq_true] at h
      obtain ⟨hg, hd⟩ := gloC_ok hx h.1
      obtain ⟨u, v, hm, r, rp⟩ := hx.gl _ (pairC_ok h.2)
      exact th_val ((pe_glob hg hm r hd).can (re_c rp)) (fun _ => rfl) rfl
    · cases h
  | .bin op a b, c, W, X, x, hx, h => by
    unfold okE at h
    split at h
    · simp only [Bool.and_eq_true, decide_eq_true_eq] at h
      obtain ⟨⟨e, ha⟩, hb⟩ := h
      subst e
      obtain ⟨r, ho, hr⟩ := bin_ok (X := X) hx.py op
      exact th_val ((pe_op ho (sE a hx ha).1 (sE b hx hb).1).can (re_op (f := fun _ dx dy P => binD op dx dy P) re_tO re_tO hr)) (fun _ => rfl) rfl
    · cases h
  | .neg a, c, W, X, x, hx, h => by
    unfold okE at h
    split at h
    · exact th_val ((pe_un un_neg (sE a hx h).1).can (re_neg re_tO)) (fun _ => rfl) rfl
    · cases h
  | .not a, c, W, X, x, hx, h => by
    unfold okE at h
    split at h
    · have t := sE a hx h
      exact ⟨(pe_not t.1).can (re_not re_tO), (pt_not t.2.1).can (rt_not rt_tO), fun h => by cases h⟩
    · cases h
  | .cmp op a b, c, W, X, x, hx, h => by
    unfold okE at h
    split at h
    · simp only [Bool.and_eq_true, decide_eq_true_eq] at h
      obtain ⟨⟨⟨e, hn⟩, ha⟩, hb⟩ := h
      subst e
      obtain ⟨r, ho, hr⟩ := cmp_ok (X := X) op (by have := hx.un; omega)
      have re := re_op (f := fun S dx dy P => cmpD op (res S dx) (res S dy) fun z => P (.bl z)) (re_tO (L := L) (K := X.K) (W := W) (w := wpE L.Γ a)) (re_tO (w := wpE L.Γ b)) hr
      exact ⟨(pe_cmpR ho (sE a hx ha).1 (sE b hx hb).1 (noSet_marks hn _)).can re, (pt_cmpR ho (sE a hx ha).1 (sE b hx hb).1 (noSet_marks hn _)).can re.tB, fun h => by cases h⟩
    · cases h
  | .chn o1 o2 a b d, c, W, X, x, hx, h => by
    unfold okE at h
    split at h
    · simp only [Bool.and_eq_true, decide_eq_true_eq] at h
      obtain ⟨⟨⟨⟨⟨e1, e2⟩, hn⟩, ha⟩, hb⟩, hd⟩ := h
      subst e1 e2
      obtain ⟨r, ho, hr⟩ := cmp_ok (X := X) o1 (by have := hx.un; omega)
      obtain ⟨r2, ho2, hr2⟩ := cmp_ok (X := X) o2 (by have := hx.un; omega)
      have re := re_chn (re_tO (L := L) (K := X.K) (W := W) (w := wpE L.Γ a)) (re_tO (w := wpE L.Γ b)) (re_tO (w := wpE L.Γ d)) hr hr2
      exact ⟨(pe_chain ho ho2 (sE a hx ha).1 (sE b hx hb).1 (sE d hx hd).1 (noSet_last hn _ _)).can re, (pt_chain ho ho2 (sE a hx ha).1 (sE b hx hb).1 (sE d hx hd).1 (noSet_last hn _ _)).can re.tB, fun h => by cases h⟩
    · cases h
  | .and a b, c, W, X, x, hx, h => by
    unfold okE at h
    split at h
    · rw [Bool.and_eq_true] at h
      obtain ⟨ha, hb⟩ := h
      have ta := sE a hx ha
      split at hb
      · have tb := sE b hx hb
        exact ⟨(pe_and ta.1 (pe_one tb.1)).can (re_and re_tO re_tO), ((pw_and ta.2.1 (pw_and1 tb.2.1)).can (rt_and rt_tO rt_tO)).pt, fun _ => (pw_and ta.2.1 (pw_and1 tb.2.1)).can (rt_and rt_tO rt_tO)⟩
      · have tb := sE b hx hb
        exact ⟨(pe_and ta.1 tb.1).can (re_and re_tO re_tO), ((pw_and ta.2.1 (tb.2.2 rfl)).can (rt_and rt_tO rt_tO)).pt, fun _ => (pw_and ta.2.1 (tb.2.2 rfl)).can (rt_and rt_tO rt_tO)⟩
    · cases h
  | .or a b, c, W, X, x, hx, h => by
    unfold okE at h
    split at h
    · rw [Bool.and_eq_true] at h
      obtain ⟨ha, hb⟩ := h
      have ta := sE a hx ha
      split at hb
      · have tb := sE b hx hb
        exact ⟨(pe_or ta.1 (pe_one tb.1)).can (re_or re_tO re_tO), ((pw_or ta.2.1 (pw_or1 tb.2.1)).can (rt_or rt_tO rt_tO)).pt, fun _ => (pw_or ta.2.1 (pw_or1 tb.2.1)).can (rt_or rt_tO rt_tO)⟩
      · have tb := sE b hx hb
        exact ⟨(pe_or ta.1 tb.1).can (re_or re_tO re_tO), ((pw_or ta.2.1 (tb.2.2 rfl)).can (rt_or rt_tO rt_tO)).pt, fun _ => (pw_or ta.2.1 (tb.2.2 rfl)).can (rt_or rt_tO rt_tO)⟩
    · cases h
  | .ite a b d, c, W, X, x, hx, h => by
    unfold okE at h
    split at h
    · simp only [Bool.and_eq_true] at h
      obtain ⟨⟨ha, hb⟩, hd⟩ := h
      have ta := sE a hx ha
      have tb := sE b hx hb
      have td := sE d hx hd
      exact ⟨(pe_ifExp ta.2.1 tb.1 td.1).can (re_ite rt_tO re_tO re_tO), (pt_ite ta.2.1 tb.2.1 td.2.1).can (rt_ite rt_tO rt_tO rt_tO), fun h => by cases h⟩
    · cases h
  | .idx a i, c, W, X, x, hx, h => by
    unfold okE at h
    split at h
    · simp only [Bool.and_eq_true] at h
      obtain ⟨⟨hn, ha⟩, hi⟩ := h
      exact th_val ((pe_ix ix_seq (sE a hx ha).1 (sE i hx hi).1 (noSlice_ix hn)).can (re_op (f := fun S dx dy P => ixD S dx dy P) re_tO re_tO hr_ix)) (fun _ => rfl) rfl
    · cases h
  | .slc a lo hi, c, W, X, x, hx, h => by
    unfold okE at h
    split at h
    · simp only [Bool.and_eq_true] at h
      obtain ⟨⟨ha, hl⟩, hh⟩ := h
      exact th_val ((pe_slice (sl_tupA.or sl_list) (sE a hx ha).1 (sO lo hx hl) (sO hi hx hh)).can (re_slcG re_tO ro_tO ro_tO)) (fun _ => rfl) rfl
    · cases h
  | .stp a lo hi st, c, W, X, x, hx, h => by
    unfold okE at h
    split at h
    · simp only [Bool.and_eq_true] at h
      obtain ⟨⟨⟨ha, hl⟩, hh⟩, hs⟩ := h
      exact th_val ((pe_stp (sE a hx ha).1 (sO lo hx hl) (sO hi hx hh) (po_some (sE st hx hs).1)).can (re_stp re_tO ro_tO ro_tO re_tO)) (fun _ => rfl) rfl
    · cases h
  | .tup es, c, W, X, x, hx, h => by
    unfold okE at h
    split at h
    · exact th_val ((pe_tup (sEs es hx h)).can (re_tup ra_tO)) (fun _ => rfl) rfl
    · cases h
  | .frz l, c, W, X, x, hx, h => by
    unfold okE at h
    obtain ⟨h1, h2, h3⟩ := sL l hx h
    exact th_val (h1.can (re_frz rl_tO)) h2 h3
  | .own l, c, W, X, x, hx, h => by
    unfold okE at h
    obtain ⟨h1, h2, h3⟩ := sL l hx h
    exact th_val (h1.can (re_own rl_tO)) h2 h3
  | .call f es, c, W, X, x, hx, h => by
    unfold okE at h
    split at h
    · rename_i n p y xs pos
      simp only [Bool.and_eq_true] at h
      obtain ⟨⟨⟨hg, hp⟩, hs⟩, he⟩ := h
      obtain ⟨hg, hd⟩ := gloC_ok hx hg
      obtain ⟨kk, g, fd, ps, F, hr2, hm, hk, hb⟩ := hx.fn _ (pairC_ok hp)
      have hr := hr2.mono (show kk ≤ kk + 2 by omega)
      have hs' := hs
      unfold noStars at hs'
      rw [Bool.and_eq_true] at hs'
      exact th_val ((pe_callS F hr hg hm hk hb (passAt hx.tk) (sEs es hx he) hd (noStar_each hs'.1) (noStars_each hs'.2 _)).can (re_callS ra_tO)) (fun _ => rfl) rfl
    · cases h
  | .bi b es, c, W, X, x, hx, h => by
    unfold okE at h
    split at h
    · rename_i n p y xs pos
      simp only [Bool.and_eq_true, decide_eq_true_eq] at h
      obtain ⟨⟨⟨hn, hg⟩, hs⟩, he⟩ := h
      obtain ⟨hg, hd⟩ := gloC_ok hx hg
      have hs' := hs
      unfold noStars at hs'
      rw [Bool.and_eq_true] at hs'
      have hm : X.mg n = none := bl_of hx (by rw [hn]; cases b <;> decide +kernel)
      have hnn : n ≠ ("__name__" : Str) := by rw [hn]; cases b <;> decide +kernel
      obtain ⟨r, hc, hb⟩ := bi_ok (X := X) b hx.calm
      have hv : bootBuiltins n = some (biVal b) := by rw [hn]; exact bi_boot b
      have pa := sEs es hx he
      have pe : PE X (.Call (.Name n p) (y :: xs) [] pos) (tCB r (tOA L X.K W (wpEs L.Γ es))) := by
        cases hb2 : biVal b with
        | builtin id =>
          rw [hb2] at hc hv
          exact pe_callB hc hg hm hv pa hnn hd (noStar_each hs'.1) (noStars_each hs'.2 _)
        | type T =>
          rw [hb2] at hc hv
          exact pe_callTy hc hg hm hv pa hnn hd (noStar_each hs'.1) (noStars_each hs'.2 _)
        | _ => cases b <;> cases hb2
      exact th_val (pe.can (re_bi ra_tO hb)) (fun _ => rfl) rfl
    · cases h
  | .app o e, c, W, X, x, hx, h => by
    unfold okE at h
    split at h
    · rename_i x m ap y p
      simp only [Bool.and_eq_true, decide_eq_true_eq] at h
      obtain ⟨⟨⟨⟨⟨hm, hl⟩, hc⟩, hn⟩, ho⟩, he⟩ := h
      subst hm
      have pa : PA X [y] (tCons (tO L X.K W (wpE L.Γ e)) tNil) := pa_cons (sE e hx he).1 pa_nil (noStar_each hn)
      refine th_val ((pe_bm PySem.F.plainAttrs_list PySem.F.slot_list_append PySem.F.type_list_append mt_append (sE o hx ho).1 pa (noCall_base hc _ _ _) ?_ hl (noStar_each hn) rfl).can (re_app re_tO re_tO)) (fun _ => rfl) rfl
      rw [noStar_each hn]
      rfl
    · cases h
  | .fld cn i e, c, W, X, x, hx, h => by
    unfold okE at h
    split at h
    · simp only [Bool.and_eq_true] at h
      obtain ⟨⟨hb, hs⟩, he⟩ := h
      obtain ⟨sl, G, hi⟩ := slC_g hx hs
      exact th_val ((SlX.pe_sl (sE e hx he).1 (noBase_ok hb _ _ _)).can (re_fld G hi re_tO)) (fun _ => rfl) rfl
    · cases h
  | .isC cn e, c, W, X, x, hx, h => by
    unfold okE at h
    split at h
    · rename_i n p1 y m pm p2
      simp only [Bool.and_eq_true, decide_eq_true_eq] at h
      obtain ⟨⟨⟨⟨⟨⟨hn, hg⟩, hs⟩, he⟩, hm⟩, hgm⟩, hc⟩ := h
      subst hn hm
      obtain ⟨hg, hd⟩ := gloC_ok hx hg
      obtain ⟨hgm, hdm⟩ := gloC_ok hx hgm
      have pa := pa_cons (sE e hx he).1 (pa_cons (pe_glob (pos := pm) (u := .ref (He.ga X.K cn)) (v := .ref (He.ga X.K cn)) hgm (hasC_mg hx hc) rfl hdm) pa_nil) (noStar_each hs)
      exact th_val ((pe_callB call_isC hg (bl_of hx (by decide +kernel)) boot_isinstance pa (by decide) hd (noStar_each hs) rfl).can (re_isC hx.ca (hasC_has hx hc) re_tO)) (fun _ => rfl) rfl
    · cases h
  | .meth f cn o es, c, W, X, x, hx, h => by
    unfold okE at h
    split at h
    · rename_i y m ap xs p
      simp only [Bool.and_eq_true] at h
      obtain ⟨⟨⟨⟨⟨⟨⟨hm, hc⟩, hl⟩, hb⟩, ho⟩, hs⟩, h30⟩, he⟩ := h
      obtain ⟨kk, g, fd, ps, F, hr, M, hB⟩ := hx.mt _ (mtC_ok hm)
      obtain ⟨sl, G⟩ := hasC_g hx hc
      have hr1 := hr.mono (show kk ≤ kk + 2 by omega)
      cases xs with
      | nil =>
        have en : es = .nil := by cases es <;> first | rfl | (unfold okEs at he; cases he)
        subst en
        exact th_val ((pe_methC0 (sE o hx ho).1 G.sc M F hr1 hB (passAt hx.tk) (noBase_ok hb _ _ _) hl).can (re_meth re_tO ra_nil)) (fun _ => rfl) rfl
      | cons z zs =>
        have hs' := hs
        unfold noStars at hs'
        rw [Bool.and_eq_true] at hs'
        exact th_val ((pe_methC (sE o hx ho).1 G.sc M F hr1 hB (passAt hx.tk) (sEs es hx he) (noBase_ok hb _ _ _) hl (Nat.le_of_ble_eq_true h30) (noStar_each hs'.1) (noStars_each hs'.2 _)).can (re_meth re_tO ra_tO)) (fun _ => rfl) rfl
    · cases h
  | .prop f cn o, c, W, X, x, hx, h => by
    unfold okE at h
    split at h
    · rename_i y m p
      simp only [Bool.and_eq_true] at h
      obtain ⟨⟨⟨hm, hc⟩, hb⟩, ho⟩ := h
      obtain ⟨kk, pp, g, fd, ps, F, hr, M, hB⟩ := hx.pr _ (mtC_ok hm)
      obtain ⟨sl, G⟩ := hasC_g hx hc
      have hr1 := hr.mono (show kk + 1 ≤ kk + 2 by omega)
      exact th_val ((SlX.pe_propSl (sE o hx ho).1 G.sc M.at_ M.get M.tak M.rec_ (fnR_of F hB) hr1 (fun _ _ _ _ ⟨_, _, _, _, _, _, _, _, _, _, _, _, z⟩ => z.elim) (noBase_ok hb _ _ _)).can (re_prop re_tO)) (fun _ => rfl) rfl
    · cases h
  | .new f cn n es, c, W, X, x, hx, h => by
    unfold okE at h
    split at h
    · rename_i m p y xs pos
      simp only [Bool.and_eq_true, decide_eq_true_eq] at h
      obtain ⟨⟨⟨⟨⟨hm, hg⟩, hw⟩, hc⟩, hs⟩, he⟩ := h
      subst hm
      obtain ⟨hg, hd⟩ := gloC_ok hx hg
      obtain ⟨kk, g, fd, ps, F, hr, M, hB⟩ := hx.nw _ (mtC_ok hw)
      have hr1 := hr.mono (show kk + 1 ≤ kk + 2 by omega)
      have hs' := hs
      unfold noStars at hs'
      rw [Bool.and_eq_true] at hs'
      exact th_val ((pe_new M F hr1 hB (passAt hx.tk) hg (hasC_mg hx hc) (sEs es hx he) hd (noStar_each hs'.1) (noStars_each hs'.2 _)).can (re_new ra_tO)) (fun _ => rfl) rfl
    · cases h
  | .cmpO op f cn a b, c, W, X, x, hx, h => by
    unfold okE at h
    split at h
    · simp only [Bool.and_eq_true, decide_eq_true_eq, Bool.or_eq_true] at h
      obtain ⟨⟨⟨⟨⟨e, hm⟩, hc⟩, hn⟩, ha⟩, hb⟩ := h
      subst e
      obtain ⟨sl, G⟩ := hasC_g hx hc
      have key : ∀ (m : Str) (kk : Nat) (g : Addr) (fd : FuncData) (ps : List Str), FnOk X.prog X.w X.K X.mg X.base (L2.CX X.prog X.w) kk g fd ps (spOf L X.K (L.Γ.fn f)) → Room (kk + 2) X.A → Meth X.K (He.ga X.K cn) m g → Binds X.K fd ps [] →
          (∀ a b, compareOp (cop op) a b = richCompare (cop op) a b) → (cmpInfo (cop op)).2.1 = m → OpR X (compareOp (cop op)) (SlX.rOwn X.K (He.ga X.K cn) (spOf L X.K (L.Γ.fn f)) E0) := fun m kk g fd ps F hr M hB hop e =>
        SlX.op_own hop (by rw [e]; exact M.at_) M.fn (fnR_of F hB) (hr.mono (by omega)) passE0
      have ho : OpR X (compareOp (cop op)) (SlX.rOwn X.K (He.ga X.K cn) (spOf L X.K (L.Γ.fn f)) E0) := by
        rcases hm with ⟨e, hm⟩ | ⟨e, hm⟩
        · subst e
          obtain ⟨kk, g, fd, ps, F, hr, M, hB⟩ := hx.mt _ (mtC_ok hm)
          exact key _ kk g fd ps F hr M hB (fun _ _ => rfl) rfl
        · subst e
          obtain ⟨kk, g, fd, ps, F, hr, M, hB⟩ := hx.mt _ (mtC_ok hm)
          exact key _ kk g fd ps F hr M hB (fun _ _ => rfl) rfl
      have re := re_cmpO (L := L) (W := W) (c := cn) (f := f) (re_tO (w := wpE L.Γ a)) (re_tO (w := wpE L.Γ b)) G.nf
      exact ⟨(pe_cmpR ho (sE a hx ha).1 (sE b hx hb).1 (noSet_marks hn _)).can re, (pt_cmpR ho (sE a hx ha).1 (sE b hx hb).1 (noSet_marks hn _)).can re.tB, fun h => by cases h⟩
    · cases h
  | .cmpOD op f cn a b, c, W, X, x, hx, h => by
    unfold okE at h
    split at h
    · simp only [Bool.and_eq_true, decide_eq_true_eq, Bool.or_eq_true] at h
      obtain ⟨⟨⟨⟨⟨e, hm⟩, hc⟩, hn⟩, ha⟩, hb⟩ := h
      subst e
      obtain ⟨sl, G⟩ := hasC_g hx hc
      have key : ∀ (m : Str) (kk : Nat) (g : Addr) (fd : FuncData) (ps : List Str), FnOk X.prog X.w X.K X.mg X.base (L2.CX X.prog X.w) kk g fd ps (spOf L X.K (L.Γ.fn f)) → Room (kk + 2) X.A → Meth X.K (He.ga X.K cn) m g → Binds X.K fd ps [] →
          (∀ a b, compareOp (cop op) a b = richCompare (cop op) a b) → (cmpInfo (cop op)).2.1 = m → OpR X (compareOp (cop op)) (fun x y H Q => SlX.rOwn X.K (He.ga X.K cn) (spOf L X.K (L.Γ.fn f)) E0 x y H Q ∨ rOwnT X.K (He.ga X.K cn) (spOf L X.K (L.Γ.fn f)) E0 x y H Q) := fun m kk g fd ps F hr M hB hop e =>
        (SlX.op_own hop (by rw [e]; exact M.at_) M.fn (fnR_of F hB) (hr.mono (by omega)) passE0).or (op_ownT hop (by rw [e]; exact M.at_) M.fn (fnR_of F hB) (hr.mono (by omega)) passE0)
      have ho : OpR X (compareOp (cop op)) (fun x y H Q => SlX.rOwn X.K (He.ga X.K cn) (spOf L X.K (L.Γ.fn f)) E0 x y H Q ∨ rOwnT X.K (He.ga X.K cn) (spOf L X.K (L.Γ.fn f)) E0 x y H Q) := by
        rcases hm with ⟨e, hm⟩ | ⟨e, hm⟩
        · subst e
          obtain ⟨kk, g, fd, ps, F, hr, M, hB⟩ := hx.mt _ (mtC_ok hm)
          exact key _ kk g fd ps F hr M hB (fun _ _ => rfl) rfl
        · subst e
          obtain ⟨kk, g, fd, ps, F, hr, M, hB⟩ := hx.mt _ (mtC_ok hm)
          exact key _ kk g fd ps F hr M hB (fun _ _ => rfl) rfl
      obtain ⟨r3, ho3, hr3⟩ := cmp_ok (X := X) op (by have := hx.un; omega)
      have ho := ho.or ho3
      have re := re_cmpOD (L := L) (W := W) (c := cn) (f := f) hr3 hx.ca (hasC_has hx hc) (re_tO (w := wpE L.Γ a)) (re_tO (w := wpE L.Γ b)) G.nf
      exact ⟨(pe_cmpR ho (sE a hx ha).1 (sE b hx hb).1 (noSet_marks hn _)).can re, (pt_cmpR ho (sE a hx ha).1 (sE b hx hb).1 (noSet_marks hn _)).can re.tB, fun h => by cases h⟩
    · cases h
  | .lenO f cn o, c, W, X, x, hx, h => by
    unfold okE at h
    split at h
    · simp only [Bool.and_eq_true, decide_eq_true_eq] at h
      obtain ⟨⟨⟨⟨⟨hn, hg⟩, hm⟩, hc⟩, hs⟩, ho⟩ := h
      subst hn
      obtain ⟨hg, hd⟩ := gloC_ok hx hg
      obtain ⟨kk, g, fd, ps, F, hr, M, hB⟩ := hx.mt _ (mtC_ok hm)
      exact th_val ((pe_callB (call_lenO M (fnR_of F hB) (hr.mono (by omega)) passE0) hg (bl_of hx (by decide +kernel)) (bi_boot .len) (pa_cons (sE o hx ho).1 pa_nil (noStar_each hs)) (by decide) hd (noStar_each hs) rfl).can (re_lenO re_tO)) (fun _ => rfl) rfl
    · cases h
  | .strO f cn o, c, W, X, x, hx, h => by
    unfold okE at h
    split at h
    · simp only [Bool.and_eq_true, decide_eq_true_eq] at h
      obtain ⟨⟨⟨⟨⟨hn, hg⟩, hm⟩, hc⟩, hs⟩, ho⟩ := h
      subst hn
      obtain ⟨hg, hd⟩ := gloC_ok hx hg
      obtain ⟨kk, g, fd, ps, F, hr, M, hB⟩ := hx.mt _ (mtC_ok hm)
      exact th_val ((pe_callTy (call_strO hx.un M (fnR_of F hB) hr passE0) hg (bl_of hx (by decide +kernel)) (bi_boot .str) (pa_cons (sE o hx ho).1 pa_nil (noStar_each hs)) (by decide) hd (noStar_each hs) rfl).can (re_strO re_tO)) (fun _ => rfl) rfl
    · cases h
  | .fst es, c, W, X, x, hx, h => by
    unfold okE at h
    split at h
    · obtain ⟨ts, h1, h2⟩ := sFs es hx h
      exact th_val ((pe_joined h1).can (re_fst h2)) (fun _ => rfl) rfl
    · cases h
  | .dct, c, W, X, x, hx, h => by
    unfold okE at h
    split at h
    · exact th_val (pe_dnewK.can re_dct) (fun _ => rfl) rfl
    · cases h
theorem sFs : ∀ (es : Exs) {c : Ck} {W : WX} {X : Cx} {xs : List Expr}, XC c L W X → okFs es c xs = true → ∃ ts, PJ X xs ts ∧ RJ L X.K W ts (wpFs L.Γ es)
  | .nil, c, W, X, xs, hx, h => by
    unfold okFs at h
    split at h
    · exact ⟨[], .nil, rj_nil⟩
    · cases h
  | .cons e r, c, W, X, xs, hx, h => by
    unfold okFs at h
    split at h
    · simp only [Bool.and_eq_true, decide_eq_true_eq] at h
      obtain ⟨⟨hk, he⟩, hr⟩ := h
      subst hk
      obtain ⟨ts, h1, h2⟩ := sFs r hx hr
      exact ⟨_, .cons (pe_fmt (sE e hx he).1) h1, rj_fmt re_tO h2⟩
    · simp only [Bool.and_eq_true] at h
      obtain ⟨hc, hr⟩ := h
      have := isCS_ok hc
      subst this
      obtain ⟨ts, h1, h2⟩ := sFs r hx hr
      exact ⟨_, .cons pe_str h1, rj_str (wo := fun _ S _ Q => Q (.str _) S) (re_c fun _ _ => .str _) h2⟩
    · cases h
  | .star _ _, c, W, X, xs, hx, h => by cases h
theorem sEs : ∀ (es : Exs) {c : Ck} {W : WX} {X : Cx} {xs : List Expr}, XC c L W X → okEs es c xs = true → PA X xs (tOA L X.K W (wpEs L.Γ es))
  | .nil, c, W, X, xs, hx, h => by
    unfold okEs at h
    split at h
    · exact pa_nil.can ra_nil
    · cases h
  | .cons e r, c, W, X, xs, hx, h => by
    unfold okEs at h
    split at h
    · simp only [Bool.and_eq_true] at h
      obtain ⟨⟨hn, he⟩, hr⟩ := h
      exact (pa_cons (sE e hx he).1 (sEs r hx hr) (noStar_each hn)).can (ra_cons re_tO ra_tO)
    · cases h
  | .star e r, c, W, X, xs, hx, h => by
    unfold okEs at h
    split at h
    · simp only [Bool.and_eq_true] at h
      exact (StX.pa_star (sE e hx h.1).1 (sEs r hx h.2)).can (ra_star re_tO ra_tO)
    · cases h
theorem sO : ∀ (o : Ox) {c : Ck} {W : WX} {X : Cx} {x : Option Expr}, XC c L W X → okO o c x = true → PO X x (tOO L X.K W (wpO L.Γ o))
  | .no, c, W, X, x, hx, h => by
    unfold okO at h
    split at h
    · exact po_none.can ro_no
    · cases h
  | .so e, c, W, X, x, hx, h => by
    unfold okO at h
    split at h
    · exact (po_some (sE e hx h).1).can (ro_so re_tO)
    · cases h
theorem sL : ∀ (l : Lx) {c : Ck} {W : WX} {X : Cx} {x : Expr}, XC c L W X → okL l c x = true → PE X x (tOL L X.K W (wpL L.Γ l)) ∧ (∀ whole, isTrue x X.env whole = (do let v ← whole; standAt x.pos; holding [v] (truthy v))) ∧ isBO x = false
  | .disp es, c, W, X, x, hx, h => by
    unfold okL at h
    split at h
    · exact ⟨(pe_lst (sEs es hx h)).canL (rl_disp ra_tO), fun _ => rfl, rfl⟩
    · cases h
  | .comp own tg it ts el, c, W, X, x, hx, h => by
    unfold okL at h
    split at h
    · rename_i elt tx iter ifs a scope pos
      simp only [Bool.and_eq_true, decide_eq_true_eq] at h
      obtain ⟨⟨⟨⟨⟨⟨⟨ha, hb⟩, hv⟩, hn⟩, hi⟩, hg⟩, ht⟩, he⟩ := h
      subst ha
      have hB : BlkOk X.N X.env.scope scope (ownP c own) := by rw [hx.N, hx.sc]; exact blkOk_by hb
      have p := pe_lc (pos := pos) (elt := elt) (g := tOGt L X.K (fun _ _ _ _ => False) (tgV tg) (wpG L.Γ tg)) (tt := tOTs L X.K (fun _ _ _ _ => False) (wpTs L.Γ ts)) (te := tO L X.K (fun _ _ _ _ => False) (wpE L.Γ el)) hx.calm (by rw [hx.N]; exact hx.nd) (sI it hx hi) hB (fun s H C cl fp => sG tg (hx.blk s H scope cl C fp) hg) (fun s H C cl fp => sTs ts (hx.blk s H scope cl C fp) ht) (fun s H C cl fp => (sE el (hx.blk s H scope cl C fp) he).1) (noSet_fold hn _)
      rw [ownP_snd] at p
      exact ⟨p.canL (rl_comp ri_tO rg_tO rts_tO re_tO (subV_ok hv)), fun _ => rfl, rfl⟩
    · cases h
  | .comp2 own own2 tg it ts tg2 it2 ts2 el, c, W, X, x, hx, h => by
    unfold okL at h
    split at h
    · rename_i elt tx iter ifs a tx2 iter2 ifs2 a2 scope pos
      simp only [Bool.and_eq_true, decide_eq_true_eq] at h
      obtain ⟨⟨⟨⟨⟨⟨⟨⟨⟨⟨⟨⟨⟨⟨ha, ha2⟩, hb⟩, hv⟩, hv1⟩, hv2⟩, hn⟩, hn2⟩, hi⟩, hg⟩, ht⟩, hi2⟩, hg2⟩, ht2⟩, he⟩ := h
      subst ha ha2
      have hB : BlkOk X.N X.env.scope scope (ownP c own) := by rw [hx.N, hx.sc]; exact blkOk_by hb
      have p := pe_lc2 (pos := pos) (elt := elt) (vs1 := own2) (g := tOGt L X.K (fun _ _ _ _ => False) (tgV tg) (wpG L.Γ tg)) (tt := tOTs L X.K (fun _ _ _ _ => False) (wpTs L.Γ ts)) (te := tO L X.K (fun _ _ _ _ => False) (wpE L.Γ el))
        (wi1 := tOI L X.K (fun _ _ _ _ => False) (wpI L.Γ it2)) (g1 := tOGt L X.K (fun _ _ _ _ => False) (tgV tg2) (wpG L.Γ tg2)) (tt1 := tOTs L X.K (fun _ _ _ _ => False) (wpTs L.Γ ts2)) hx.calm (by rw [hx.N]; exact hx.nd) (sI it hx hi) hB (by rw [ownP_snd]; exact subV_ok hv1)
        (fun s H C cl fp => sG tg (hx.blk s H scope cl C fp) hg) (fun s H C cl fp => sTs ts (hx.blk s H scope cl C fp) ht)
        (fun s H C cl fp => sI it2 (hx.blk s H scope cl C fp) hi2) (fun s H C cl fp => sG tg2 (hx.blk s H scope cl C fp) hg2) (fun s H C cl fp => sTs ts2 (hx.blk s H scope cl C fp) ht2)
        (fun s H C cl fp => (sE el (hx.blk s H scope cl C fp) he).1) (noSet_fold hn _) (fun env => noSet_fold hn2 env)
      rw [ownP_snd] at p
      exact ⟨p.canL (rl_comp2 ri_tO rg_tO rts_tO ri_tO rg_tO rts_tO re_tO (subV_ok hv) (subV_ok hv2)), fun _ => rfl, rfl⟩
    · cases h
  | .rep a n, c, W, X, x, hx, h => by
    unfold okL at h
    split at h
    · simp only [Bool.and_eq_true] at h
      exact ⟨(pe_op op_rep (sE a hx h.1).1 (sE n hx h.2).1).canL (rl_rep re_tO re_tO), fun _ => rfl, rfl⟩
    · cases h
  | .cat a b, c, W, X, x, hx, h => by
    unfold okL at h
    split at h
    · simp only [Bool.and_eq_true] at h
      exact ⟨(pe_op op_cat (sE a hx h.1).1 (sE b hx h.2).1).canL (rl_cat re_tO re_tO), fun _ => rfl, rfl⟩
    · cases h
  | .ofSeq a, c, W, X, x, hx, h => by
    unfold okL at h
    split at h
    · simp only [Bool.and_eq_true, decide_eq_true_eq] at h
      obtain ⟨⟨⟨hn, hg⟩, hs⟩, ha⟩ := h
      subst hn
      obtain ⟨hg, hd⟩ := gloC_ok hx hg
      exact ⟨(pe_callTy call_list_of hg (bl_of hx (by decide +kernel)) boot_list (pa_cons (sE a hx ha).1 pa_nil (noStar_each hs)) (by decide) hd (noStar_each hs) rfl).canL (rl_ofSeq re_tO), fun _ => rfl, rfl⟩
    · cases h
  | .slc a lo hi, c, W, X, x, hx, h => by
    unfold okL at h
    split at h
    · simp only [Bool.and_eq_true] at h
      obtain ⟨⟨ha, hl⟩, hh⟩ := h
      exact ⟨(pe_slice sl_list (sE a hx ha).1 (sO lo hx hl) (sO hi hx hh)).canL (rl_slc re_tO ro_tO ro_tO), fun _ => rfl, rfl⟩
    · cases h
  | .sorted a, c, W, X, x, hx, h => by
    unfold okL at h
    split at h
    · simp only [Bool.and_eq_true, decide_eq_true_eq] at h
      obtain ⟨⟨⟨hn, hg⟩, hs⟩, ha⟩ := h
      subst hn
      obtain ⟨hg, hd⟩ := gloC_ok hx hg
      exact ⟨(pe_callB (cr_sortI hx.un) hg (bl_of hx (by decide +kernel)) PyProof.Rows.boot_sorted (pa_cons (sE a hx ha).1 pa_nil (noStar_each hs)) (by decide) hd (noStar_each hs) rfl).canL (rl_sortI re_tO), fun _ => rfl, rfl⟩
    · cases h
  | .sortI a, c, W, X, x, hx, h => by
    unfold okL at h
    split at h
    · simp only [Bool.and_eq_true, decide_eq_true_eq] at h
      obtain ⟨⟨⟨hn, hg⟩, hs⟩, ha⟩ := h
      subst hn
      obtain ⟨hg, hd⟩ := gloC_ok hx hg
      exact ⟨(pe_callB cr_sortedI hg (bl_of hx (by decide +kernel)) PyProof.Rows.boot_sorted (pa_cons (sE a hx ha).1 pa_nil (noStar_each hs)) (by decide) hd (noStar_each hs) rfl).canL (rl_sortInts re_tO), fun _ => rfl, rfl⟩
    · cases h
  | .stpL a lo hi st, c, W, X, x, hx, h => by
    unfold okL at h
    split at h
    · simp only [Bool.and_eq_true] at h
      obtain ⟨⟨⟨ha, hl⟩, hh⟩, hs⟩ := h
      exact ⟨(pe_stpL (sE a hx ha).1 (sO lo hx hl) (sO hi hx hh) (po_some (sE st hx hs).1)).canL (rl_stpL re_tO ro_tO ro_tO re_tO), fun _ => rfl, rfl⟩
    · cases h
  | .sortSet a, c, W, X, x, hx, h => by
    unfold okL at h
    split at h
    · simp only [Bool.and_eq_true, decide_eq_true_eq] at h
      obtain ⟨⟨⟨⟨⟨hn, hg⟩, hm⟩, hgm⟩, hs⟩, ha⟩ := h
      subst hn hm
      obtain ⟨hg, hd⟩ := gloC_ok hx hg
      obtain ⟨hgm, hdm⟩ := gloC_ok hx hgm
      exact ⟨(pe_sortSet hx.calm hg (bl_of hx (by decide +kernel)) hgm (bl_of hx (by decide +kernel)) (sE a hx ha).1 (noStar_each hs)).canL (rl_sortSet re_tO), fun _ => rfl, rfl⟩
    · cases h
  | .sortK f a, c, W, X, x, hx, h => by
    unfold okL at h
    split at h
    · rename_i n p1 y kn m p2 p3 p4
      simp only [Bool.and_eq_true, decide_eq_true_eq] at h
      obtain ⟨⟨⟨⟨⟨⟨hn, hg⟩, hs⟩, ha⟩, hk⟩, hgm⟩, hp⟩ := h
      subst hn hk
      obtain ⟨hg, hd⟩ := gloC_ok hx hg
      obtain ⟨hgm, hdm⟩ := gloC_ok hx hgm
      obtain ⟨kk, g, fd, ps, F, hr, hm, _, hb⟩ := hx.fn _ (pairC_ok hp)
      have pk : PK X [⟨some ("key" : Str), .Name m p2, p3⟩] (tCons (fun _ H Q => Q (.ref g) H) tNil) := pk_cons (pe_glob (u := .ref g) (v := .ref g) hgm hm rfl hdm) pk_nil
      exact ⟨(pe_callBK (cr_sortK F hr hx.un hb) hg (bl_of hx (by decide +kernel)) (by decide +kernel) (pa_cons (sE a hx ha).1 pa_nil (noStar_each hs)) pk (by decide) hd (by rw [noStar_each hs]; rfl) (noStars_each (show noStars [y] = true by unfold noStars; rw [hs]; rfl) _)).canL (rl_sortK re_tO), fun _ => rfl, rfl⟩
    · cases h
theorem sI : ∀ (it : It) {c : Ck} {W : WX} {X : Cx} {t x : Expr}, XC c L W X → okI it c t x = true → PI X t x (tOI L X.K W (wpI L.Γ it))
  | .seq e, c, W, X, t, x, hx, h => by
    unfold okI at h
    exact (pi_seqG (sE e hx h).1).can (ri_seq re_tO)
  | .rng1 a, c, W, X, t, x, hx, h => by
    unfold okI at h
    split at h
    · simp only [Bool.and_eq_true, decide_eq_true_eq] at h
      obtain ⟨⟨⟨hn, hg⟩, hs⟩, ha⟩ := h
      subst hn
      obtain ⟨hg, hd⟩ := gloC_ok hx hg
      exact (pi_range1 hg (bl_of hx (by decide +kernel)) (pa_cons (sE a hx ha).1 pa_nil (noStar_each hs)) (noStar_each hs)).can (ri_rng1 re_tO)
    · cases h
  | .rng2 a b, c, W, X, t, x, hx, h => by
    unfold okI at h
    split at h
    · simp only [Bool.and_eq_true, decide_eq_true_eq] at h
      obtain ⟨⟨⟨⟨⟨hn, hg⟩, hs⟩, hs2⟩, ha⟩, hb⟩ := h
      subst hn
      obtain ⟨hg, hd⟩ := gloC_ok hx hg
      exact (pi_range2 hg (bl_of hx (by decide +kernel)) (pa_cons (sE a hx ha).1 (pa_cons (sE b hx hb).1 pa_nil (noStar_each hs2)) (noStar_each hs)) (by rw [noStar_each hs, noStar_each hs2]; rfl) (noStar_each hs2)).can (ri_rng2 re_tO re_tO)
    · cases h
  | .rng3 a b d, c, W, X, t, x, hx, h => by
    unfold okI at h
    split at h
    · simp only [Bool.and_eq_true, decide_eq_true_eq] at h
      obtain ⟨⟨⟨⟨⟨⟨⟨hn, hg⟩, hs⟩, hs2⟩, hs3⟩, ha⟩, hb⟩, hd'⟩ := h
      subst hn
      obtain ⟨hg, hd⟩ := gloC_ok hx hg
      exact (pi_range3 hg (bl_of hx (by decide +kernel)) (pa_cons (sE a hx ha).1 (pa_cons (sE b hx hb).1 (pa_cons (sE d hx hd').1 pa_nil (noStar_each hs3)) (noStar_each hs2)) (noStar_each hs)) (noStar_each hs) (by rw [noStar_each hs2, noStar_each hs3]; rfl)).can (ri_rng3 re_tO re_tO re_tO)
    · cases h
  | .enum e, c, W, X, t, x, hx, h => by
    unfold okI at h
    split at h
    · split at h
      · simp only [Bool.and_eq_true, decide_eq_true_eq] at h
        obtain ⟨⟨⟨hn, hg⟩, hs⟩, ha⟩ := h
        subst hn
        obtain ⟨hg, hd⟩ := gloC_ok hx hg
        exact (pi_enumG hg (bl_of hx (by decide +kernel)) (pa_cons (sE e hx ha).1 pa_nil (noStar_each hs)) (noStar_each hs)).can (ri_enum re_tO)
      · cases h
    · cases h
  | .zip a b, c, W, X, t, x, hx, h => by
    unfold okI at h
    split at h
    · split at h
      · simp only [Bool.and_eq_true, decide_eq_true_eq] at h
        obtain ⟨⟨⟨⟨⟨hn, hg⟩, hs⟩, hs2⟩, ha⟩, hb⟩ := h
        subst hn
        obtain ⟨hg, hd⟩ := gloC_ok hx hg
        exact (pi_zipG hg (bl_of hx (by decide +kernel)) (pa_cons (sE a hx ha).1 (pa_cons (sE b hx hb).1 pa_nil (noStar_each hs2)) (noStar_each hs)) (noStar_each hs) (by rw [noStar_each hs2]; rfl)).can (ri_zip re_tO re_tO)
      · cases h
    · cases h
theorem sG : ∀ (t : Tg) {c : Ck} {W : WX} {X : Cx} {x : Expr}, XC c L W X → okG t c x = true → PG X x (tOGt L X.K W (tgV t) (wpG L.Γ t))
  | .nm i, c, W, X, x, hx, h => by
    unfold okG at h
    split at h
    · simp only [Bool.and_eq_true, decide_eq_true_eq] at h
      exact (pg_name (by rw [hx.N]; exact hx.nd) (by rw [hx.N]; exact h.1) (locC_ok hx h.2) (hx.st _ h.2)).can rg_nm
    · cases h
  | .tp ts, c, W, X, x, hx, h => by
    unfold okG at h
    split at h
    · rename_i xs k pos
      obtain ⟨g, h1, h2⟩ := sGs ts hx h
      obtain ⟨l1, l2⟩ := okGs_len X.env h
      exact (pg_seq hx.calm h1 l1 (List.findIdx?_eq_none_iff.mpr fun p hp => l2 p hp)).can (rg_seq h2)
    · cases h
  | .sub o i, c, W, X, x, hx, h => by
    unfold okG at h
    split at h
    · simp only [Bool.and_eq_true] at h
      obtain ⟨⟨hn, ho⟩, hi⟩ := h
      refine (pg_sub (sE o hx ho).1 (sE i hx hi).1 set_list fun v => ?_).can (rg_sub re_tO re_tO)
      rename_i y _
      cases y <;> first | rfl | cases hn
    · cases h
  | .fld o cn i, c, W, X, x, hx, h => by
    unfold okG at h
    split at h
    · simp only [Bool.and_eq_true] at h
      obtain ⟨hs, ho⟩ := h
      obtain ⟨sl, G, hi⟩ := slC_g hx hs
      exact (pg_fld (sE o hx ho).1).can (rg_fld G hi re_tO)
    · cases h
theorem sGs : ∀ (ts : Tgs) {c : Ck} {W : WX} {X : Cx} {xs : List Expr}, XC c L W X → okGs ts c xs = true → ∃ g, PGs X xs g ∧ RGs L X.K W (tgsV ts) g (wpGs L.Γ ts)
  | .nil, c, W, X, xs, hx, h => by
    unfold okGs at h
    split at h
    · exact ⟨_, pgs_nil, rgs_nil⟩
    · cases h
  | .cons t r, c, W, X, xs, hx, h => by
    unfold okGs at h
    split at h
    · simp only [Bool.and_eq_true] at h
      obtain ⟨⟨hn, ht⟩, hr⟩ := h
      obtain ⟨g', h3, h4⟩ := sGs r hx hr
      exact ⟨_, pgs_cons (sG t hx ht) h3 (by rw [noStar_assign hn]; rfl), rgs_cons rg_tO h4⟩
    · cases h
theorem sTs : ∀ (es : Exs) {c : Ck} {W : WX} {X : Cx} {xs : List Expr}, XC c L W X → okTs es c xs = true → PTs X xs (tOTs L X.K W (wpTs L.Γ es))
  | .nil, c, W, X, xs, hx, h => by
    unfold okTs at h
    split at h
    · exact pts_nil.can rts_nil
    · cases h
  | .cons e r, c, W, X, xs, hx, h => by
    unfold okTs at h
    split at h
    · split at h
      · exact (pts_one (sE e hx h).2.1).can (rts_one rt_tO)
      · cases h
    · cases h
  | .star e r, c, W, X, xs, hx, h => by cases h
end
end
end DL

/-! DL13: the check of statements, and why it is enough. -/
namespace DL
open PySem PySem.Spec PyProof.Rows L2
def env0 (sc : Scope) : PySem.Env := { scope := sc, locals := 0, globals := 0, cells := [] }
def isPure {α : Type} [DecidableEq α] (s : Sem α) (a : α) : Bool := match s with
  | .pure b => decide (b = a)
  | _ => false
theorem isPure_ok {α : Type} [DecidableEq α] {s : Sem α} {a : α} (h : isPure s a = true) : s = pure a := by
  unfold isPure at h
  split at h
  · have := of_decide_eq_true h; subst this; rfl
  · cases h
theorem swaps0 (v : Expr) (t : Option Expr) (l : Nat) (env : PySem.Env) : swapsWith v t l env = swapsWith v t l (env0 env.scope) := rfl
theorem stores0 (ts : List Expr) (v : Expr) (env : PySem.Env) : swappedStores ts v env = swappedStores ts v (env0 env.scope) := rfl
def isNm : Expr → Bool
  | .Name _ _ => true
  | _ => false
/-- written values that a clause may return -/
def cst0 : D → Expr → Bool
  | .int i, .Constant (.int j) _ _ => decide (i = j)
  | .bl i, .Constant (.bool j) _ _ => decide (i = j)
  | .str i, .Constant (.str j) _ _ => decide (i = j)
  | .non, .Constant .none _ _ => true
  | _, _ => false
theorem cst0_ok {d : D} {x : Expr} (h : cst0 d x = true) : ∃ v : V, (∀ X : Cx, PE X x (tC v)) ∧ ∀ (K : PySem.W.Frag) (O : Ow) (H : Hp), Rp K O H v d := by
  unfold cst0 at h
  split at h
  · have e := of_decide_eq_true h; subst e; exact ⟨_, fun X => pe_int, fun _ _ _ => .int _⟩
  · have e := of_decide_eq_true h; subst e; exact ⟨_, fun X => pe_bl, fun _ _ _ => .bl _⟩
  · have e := of_decide_eq_true h; subst e; exact ⟨_, fun X => pe_str, fun _ _ _ => .str _⟩
  · exact ⟨_, fun X => pe_non, fun _ _ _ => .non⟩
  · cases h
def okHs : List (Nat × D) → Ck → List ExceptHandler → Bool
  | [], _, hds => (match hds with
    | [] => true
    | _ => false)
  | p :: r, c, hds => (match hds with
    | .ExceptHandler (some (.Name x _)) none [.Return (some ex) _] _ :: hds => gloC c x && xcC c p.1 x && cst0 p.2 ex && okHs r c hds
    | _ => false)
def lclC (c : Ck) (x : Str) : Bool := decide (c.sc.names.lookup x = some .local)
mutual
def okS : Sm → Ck → Stmt → Bool
  | .asg t e, c, st => match st with
    | .Assign [tx] ex pos =>
      (isPure (swapsWith ex (some tx) pos.line (env0 c.sc)) false && isPure (swappedStores [tx] ex (env0 c.sc)) none && noStar tx && okG t c tx && okE e c ex) ||
      (match t, tx, e with
      | .nm i, .Name n p, .frz l => isPure (swapsWith ex (some (.Name n p)) pos.line (env0 c.sc)) true && decide (c.N[i]? = some n) && lclC c n && okL l c ex
      | .nm i, .Name n p, .own l => isPure (swapsWith ex (some (.Name n p)) pos.line (env0 c.sc)) true && decide (c.N[i]? = some n) && lclC c n && okL l c ex
      | _, _, _ => false)
    | _ => false
  | .par is es, c, st => match st with
    | .Assign [.Tuple [.Name x px, .Name y py] kt pt] (.Tuple [a, b] k2 pt2) pos => (match is with
      | [i, j] => decide (c.N[i]? = some x) && decide (c.N[j]? = some y) && !(Nat.beq i j) && lclC c x && lclC c y && okEs es c [a, b] && isPure (swappedStores [.Tuple [.Name x px, .Name y py] kt pt] (.Tuple [a, b] k2 pt2) (env0 c.sc)) (some [x, y])
      | _ => false)
    | .Assign [.Tuple [.Name x px, .Name y py, .Name z pz] kt pt] (.Tuple [a, b, d] k2 pt2) pos => (match is with
      | [i, j, l] => decide (c.N[i]? = some x) && decide (c.N[j]? = some y) && decide (c.N[l]? = some z) && !(Nat.beq i j) && !(Nat.beq i l) && !(Nat.beq j l) && lclC c x && lclC c y && lclC c z && okEs es c [a, b, d] && isPure (swappedStores [.Tuple [.Name x px, .Name y py, .Name z pz] kt pt] (.Tuple [a, b, d] k2 pt2) (env0 c.sc)) (some [x, y, z])
      | _ => false)
    | _ => false
  | .aug i op e, c, st => match st with
    | .AugAssign (.Name n _) o ex _ => decide (c.N[i]? = some n) && locC c n && decide (o = bop op) && (decide (op = .add) || decide (op = .sub) || decide (op = .mul)) && okE e c ex
    | _ => false
  | .ex e, c, st => match st with
    | .Expr ex pos => isPure (swapsWith ex none pos.line (env0 c.sc)) false && okE e c ex
    | _ => false
  | .ret e, c, st => match st with
    | .Return (some ex) _ => okE e c ex
    | _ => false
  | .retF e, c, st => match st with
    | .Return (some ex) _ => okE e c ex
    | _ => false
  | .retN, c, st => match st with
    | .Return none _ => true
    | _ => false
  | .ife e a b, c, st => match st with
    | .If x xs ys _ => okE e c x && okB a c xs && okB b c ys
    | _ => false
  | .whl e b, c, st => match st with
    | .While x xs [] _ => okE e c x && okB b c xs
    | _ => false
  | .for tg it b, c, st => match st with
    | .For tx ix xs [] _ => noSet ix && okI it c tx ix && okG tg c tx && okB b c xs
    | _ => false
  | .raise _ _, c, st => true
  | .rse k, c, st => match st with
    | .Raise (some (.Call (.Name x _) [.Constant (.str _) _ _] [] _)) none _ => gloC c x && xcC c k x
    | _ => false
  | .tryC b hs, c, st => match st with
    | .Try body (h :: hds) [] [] _ => okB b c body && okHs hs c (h :: hds)
    | _ => false
  | .pass, c, st => match st with
    | .Pass _ => true
    | _ => false
  | .brk, c, st => match st with
    | .Break _ => true
    | _ => false
  | .cont, c, st => match st with
    | .Continue _ => true
    | _ => false
def okB : Bl → Ck → List Stmt → Bool
  | .nil, c, xs => match xs with
    | [] => true
    | _ => false
  | .cons s r, c, xs => match xs with
    | x :: xs => okS s c x && okB r c xs
    | _ => false
end
section
variable {L : Lnk} {K : PySem.W.Frag} {W : WX}
theorem len2 {α : Type} {l : List α} (h : l.length = 2) : ∃ a b, l = [a, b] := by
  match l, h with
  | [a, b], _ => exact ⟨a, b, rfl⟩
theorem len3 {α : Type} {l : List α} (h : l.length = 3) : ∃ a b c, l = [a, b, c] := by
  match l, h with
  | [a, b, c], _ => exact ⟨a, b, c, rfl⟩
theorem rs_par2 {i j : Nat} {t : TA} {ws : Env → Sto → XD → (List D → Sto → Prop) → Prop} (h : RA L K W t ws) : RS L K W (tPar i j t) fun E X ρ S => ws ρ S (fun k d S => X k d ρ S) fun ds S1 => ds.length = [i, j].length ∧ E.nx (parV [i, j] ds ρ) S1 := fun σ H ρ S O X E D A hw k => by
  refine h.go A.ex hw fun vs H1 ds S1 O1 r1 A1 e1 ⟨hl, q⟩ => ?_
  obtain ⟨a, b, rfl⟩ := len2 hl
  obtain ⟨v, u, rfl, r, r2⟩ := rps2 r1
  exact ⟨v, u, rfl, k.nx _ H1 _ S1 O1 A1.sok e1 ((A1.env.set i r).set j r2) q⟩
theorem rs_par3 {i j l : Nat} {t : TA} {ws : Env → Sto → XD → (List D → Sto → Prop) → Prop} (h : RA L K W t ws) : RS L K W (tPar3 i j l t) fun E X ρ S => ws ρ S (fun k d S => X k d ρ S) fun ds S1 => ds.length = [i, j, l].length ∧ E.nx (parV [i, j, l] ds ρ) S1 := fun σ H ρ S O X E D A hw k => by
  refine h.go A.ex hw fun vs H1 ds S1 O1 r1 A1 e1 ⟨hl, q⟩ => ?_
  obtain ⟨a, b, d, rfl⟩ := len3 hl
  cases r1 with
  | cons r r1 =>
    cases r1 with
    | cons r2 r1 =>
      cases r1 with
      | cons r3 r1 =>
        cases r1
        exact ⟨_, _, _, rfl, k.nx _ H1 _ S1 O1 A1.sok e1 (((A1.env.set i r).set j r2).set l r3) q⟩
/-- what the clauses wish -/
theorem hds_ok {c : Ck} {X : Cx} : ∀ (hs : List (Nat × D)) {hds : List ExceptHandler}, XC c L W X → okHs hs c hds = true → ∃ l, HdsOk X hds l ∧
    ∀ (Wout : WX) (D : Ends) (k : Nat) (n : String) (dd : Option Addr) (σ : L2.St) (H : Hp), c.xc[k]? = some n → (∀ cd, hs.lookup k = some cd → ∀ v, (∀ K O H, Rp K O H v cd) → D.rt v H) → (hs.lookup k = none → Wout (.ref (He.ga X.K n)) dd σ H) → wMany X.K Wout D l (.ref (He.ga X.K n)) dd σ H
  | [], hds, hx, h => by
    unfold okHs at h
    split at h
    · exact ⟨[], .nil, fun Wout D k n dd σ H hk h1 h2 => h2 rfl⟩
    · cases h
  | (j, cd) :: r, hds, hx, h => by
    unfold okHs at h
    split at h
    · rename_i x _ ex _ _ hds
      simp only [Bool.and_eq_true] at h
      obtain ⟨⟨⟨hg, hc⟩, hd⟩, hr⟩ := h
      obtain ⟨hg, hdb⟩ := gloC_ok hx hg
      obtain ⟨m, hm, em⟩ := xcC_ok hc
      obtain ⟨v, pv', rv⟩ := cst0_ok hd
      obtain ⟨l, hl, hw⟩ := hds_ok r hx hr
      have hmg := hx.xm m (List.mem_of_getElem? hm)
      subst em
      refine ⟨(.ref (He.ga X.K m), fun _ _ _ => tRet (tC v)) :: l, .cons ⟨hg, hdb, .inl hmg⟩ (fun a oe cls d pn _ _ => pss_one (ps_ret (pv' _))) hl, fun Wout D k n dd σ H hk h1 h2 => ?_⟩
      refine ⟨decide (k = j), hx.xa.pr k j n m hk hm, fun e a _ => ?_, fun e => ?_⟩
      · have e := of_decide_eq_true e
        subst e
        exact h1 cd (by simp [List.lookup]) v rv
      · have ne : (k == j) = false := by simpa using of_decide_eq_false e
        exact hw Wout D k n dd σ H hk (fun cd' h' => h1 cd' (by simpa [List.lookup, ne] using h')) fun h' => h2 (by simpa [List.lookup, ne] using h')
    · cases h
/-- where statements stand -/
structure PoX (X : Cx) : Prop where
  po : PassesOwn (model X.prog X.w) X.A X.env X.xe
  stk : X.stack = X.env :: X.outer
  frm : X.env.frame = some X.env.locals
theorem rs_never : RS L K W tNever fun _ _ _ _ => False := fun σ H ρ S O X E D A hw k => hw
end
set_option maxHeartbeats 1000000
/-- name = [..] with the stores exchanged -/
theorem sAsgL (l : Lx) {L : Lnk} {c : Ck} {W : WX} {X : Cx} {x : Expr} {n : Str} {i : Nat} {p spos : Pos} (hx : XC c L W X) (h : okL l c x = true) (hs : swapsWith x (some (.Name n p)) spos.line X.env = pure true) (hi' : X.N[i]? = some n) (hl : X.env.scope.names.lookup n = some .local) :
    PS X (.Assign [.Name n p] x spos) (tAsg (tOL L X.K W (wpL L.Γ l)) (gName i)) := by
  have np : ∀ {x : Expr}, (match x with | .ListComp _ _ _ _ => false | .SetComp _ _ _ _ => false | .DictComp _ _ _ _ _ => false | _ => true) = true → swapsWith x (some (.Name n p)) spos.line X.env = pure true → False := fun {x} hm hs => by
    cases x <;> first | exact absurd (Sem.pure.inj (show (Sem.pure false : Sem Bool) = Sem.pure true from hs)) Bool.false_ne_true | cases hm
  have lift : ∀ {t : TE}, PS X (.Assign [.Name n p] x spos) (tAsg t (gName i)) → RL L X.K W t (wpL L.Γ l) → PS X (.Assign [.Name n p] x spos) (tAsg (tOL L X.K W (wpL L.Γ l)) (gName i)) := fun {t} h r => ⟨fun pins s σ H D I ⟨ρ, S, O, R, Q, A, hw, k⟩ => h.run pins s σ H D I (r σ H ρ S O R Q _ A hw k)⟩
  cases l with
  | comp own tg it ts el =>
    unfold okL at h
    split at h
    · rename_i elt tx iter ifs a scope pos
      simp only [Bool.and_eq_true, decide_eq_true_eq] at h
      obtain ⟨⟨⟨⟨⟨⟨⟨ha, hb⟩, hv⟩, hn⟩, hi⟩, hg⟩, ht⟩, he⟩ := h
      subst ha
      have hB : BlkOk X.N X.env.scope scope (ownP c own) := by rw [hx.N, hx.sc]; exact blkOk_by hb
      have p := ps_setLc (pos := pos) (elt := elt) (g := tOGt L X.K (fun _ _ _ _ => False) (tgV tg) (wpG L.Γ tg)) (tt := tOTs L X.K (fun _ _ _ _ => False) (wpTs L.Γ ts)) (te := tO L X.K (fun _ _ _ _ => False) (wpE L.Γ el)) hx.calm (by rw [hx.N]; exact hx.nd) hi' hl hs (sI it hx hi) hB (fun s H C cl fp => sG tg (hx.blk s H scope cl C fp) hg) (fun s H C cl fp => sTs ts (hx.blk s H scope cl C fp) ht) (fun s H C cl fp => (sE el (hx.blk s H scope cl C fp) he).1) (noSet_fold hn _)
      rw [ownP_snd] at p
      exact lift p (rl_comp ri_tO rg_tO rts_tO re_tO (subV_ok hv))
    · cases h
  | comp2 own own2 tg it ts tg2 it2 ts2 el =>
    unfold okL at h
    split at h
    · rename_i elt tx iter ifs a tx2 iter2 ifs2 a2 scope pos
      simp only [Bool.and_eq_true, decide_eq_true_eq] at h
      obtain ⟨⟨⟨⟨⟨⟨⟨⟨⟨⟨⟨⟨⟨⟨ha, ha2⟩, hb⟩, hv⟩, hv1⟩, hv2⟩, hn⟩, hn2⟩, hi⟩, hg⟩, ht⟩, hi2⟩, hg2⟩, ht2⟩, he⟩ := h
      subst ha ha2
      have hB : BlkOk X.N X.env.scope scope (ownP c own) := by rw [hx.N, hx.sc]; exact blkOk_by hb
      have p := ps_setLc2 (pos := pos) (elt := elt) (vs1 := own2) (g := tOGt L X.K (fun _ _ _ _ => False) (tgV tg) (wpG L.Γ tg)) (tt := tOTs L X.K (fun _ _ _ _ => False) (wpTs L.Γ ts)) (te := tO L X.K (fun _ _ _ _ => False) (wpE L.Γ el))
        (wi1 := tOI L X.K (fun _ _ _ _ => False) (wpI L.Γ it2)) (g1 := tOGt L X.K (fun _ _ _ _ => False) (tgV tg2) (wpG L.Γ tg2)) (tt1 := tOTs L X.K (fun _ _ _ _ => False) (wpTs L.Γ ts2)) hx.calm (by rw [hx.N]; exact hx.nd) hi' hl hs (sI it hx hi) hB (by rw [ownP_snd]; exact subV_ok hv1)
        (fun s H C cl fp => sG tg (hx.blk s H scope cl C fp) hg) (fun s H C cl fp => sTs ts (hx.blk s H scope cl C fp) ht)
        (fun s H C cl fp => sI it2 (hx.blk s H scope cl C fp) hi2) (fun s H C cl fp => sG tg2 (hx.blk s H scope cl C fp) hg2) (fun s H C cl fp => sTs ts2 (hx.blk s H scope cl C fp) ht2)
        (fun s H C cl fp => (sE el (hx.blk s H scope cl C fp) he).1) (noSet_fold hn _) (fun env => noSet_fold hn2 env)
      rw [ownP_snd] at p
      exact lift p (rl_comp2 ri_tO rg_tO rts_tO ri_tO rg_tO rts_tO re_tO (subV_ok hv) (subV_ok hv2))
    · cases h
  | disp es => unfold okL at h; split at h <;> first | cases h | exact (np rfl hs).elim
  | rep a b => unfold okL at h; split at h <;> first | cases h | exact (np rfl hs).elim
  | cat a b => unfold okL at h; split at h <;> first | cases h | exact (np rfl hs).elim
  | ofSeq a => unfold okL at h; split at h <;> first | cases h | exact (np rfl hs).elim
  | slc a b => unfold okL at h; split at h <;> first | cases h | exact (np rfl hs).elim
  | sorted a => unfold okL at h; split at h <;> first | cases h | exact (np rfl hs).elim
  | stpL a b d e => unfold okL at h; split at h <;> first | cases h | exact (np rfl hs).elim
  | sortSet a => unfold okL at h; split at h <;> first | cases h | exact (np rfl hs).elim
  | sortI a => unfold okL at h; split at h <;> first | cases h | exact (np rfl hs).elim
  | sortK a b => unfold okL at h; split at h <;> first | cases h | exact (np rfl hs).elim
section
variable {L : Lnk}
mutual
theorem sS : ∀ (s : Sm) {c : Ck} {W : WX} {X : Cx} {st : Stmt}, XC c L W X → PoX X → okS s c st = true → PS X st (tOS L X.K W (wpS L.Γ s))
  | .asg t e, c, W, X, st, hx, po, h => by
    unfold okS at h
    split at h
    · rename_i tx ex pos
      rw [Bool.or_eq_true] at h
      rcases h with h | h
      · simp only [Bool.and_eq_true] at h
        obtain ⟨⟨⟨⟨h1, h2⟩, h3⟩, h4⟩, h5⟩ := h
        refine (ps_asg (sE e hx h5).1 (sG t hx h4) ?_ ?_ (by rw [noStar_assign h3]; rfl)).can (rs_asg re_tO rg_tO)
        · show swapsWith ex (some tx) pos.line X.env = pure false
          rw [swaps0, hx.sc]; exact isPure_ok h1
        · rw [stores0, hx.sc]; exact isPure_ok h2
      · split at h
        · rename_i i n p l
          simp only [Bool.and_eq_true, decide_eq_true_eq, lclC] at h
          obtain ⟨⟨⟨h1, h2⟩, h3⟩, h4⟩ := h
          exact (sAsgL l hx h4 (by rw [swaps0, hx.sc]; exact isPure_ok h1) (by rw [hx.N]; exact h2) (by rw [hx.sc]; exact h3)).can (rs_asg (re_frz rl_tO) rg_nm)
        · rename_i i n p l
          simp only [Bool.and_eq_true, decide_eq_true_eq, lclC] at h
          obtain ⟨⟨⟨h1, h2⟩, h3⟩, h4⟩ := h
          exact (sAsgL l hx h4 (by rw [swaps0, hx.sc]; exact isPure_ok h1) (by rw [hx.N]; exact h2) (by rw [hx.sc]; exact h3)).can (rs_asg (re_own rl_tO) rg_nm)
        · cases h
    · cases h
  | .par is es, c, W, X, st, hx, po, h => by
    unfold okS at h
    split at h
    · split at h
      · simp only [Bool.and_eq_true, decide_eq_true_eq, lclC, Bool.not_eq_true'] at h
        obtain ⟨⟨⟨⟨⟨⟨h1, h2⟩, h3⟩, h4⟩, h5⟩, h6⟩, h7⟩ := h
        exact (ps_par hx.calm (by rw [hx.N]; exact hx.nd) (by rw [hx.N]; exact h1) (by rw [hx.N]; exact h2) (Nat.ne_of_beq_eq_false h3) (by rw [hx.sc]; exact h4) (by rw [hx.sc]; exact h5) (sEs es hx h6) (by rw [stores0, hx.sc]; exact isPure_ok h7)).can (rs_par2 ra_tO)
      · cases h
    · split at h
      · simp only [Bool.and_eq_true, decide_eq_true_eq, lclC, Bool.not_eq_true'] at h
        obtain ⟨⟨⟨⟨⟨⟨⟨⟨⟨⟨h1, h2⟩, h3⟩, h4⟩, h5⟩, h6⟩, h7⟩, h8⟩, h9⟩, h10⟩, h11⟩ := h
        exact (ps_par3 hx.calm (by rw [hx.N]; exact hx.nd) (by rw [hx.N]; exact h1) (by rw [hx.N]; exact h2) (by rw [hx.N]; exact h3) (Nat.ne_of_beq_eq_false h4) (Nat.ne_of_beq_eq_false h5) (Nat.ne_of_beq_eq_false h6) (by rw [hx.sc]; exact h7) (by rw [hx.sc]; exact h8) (by rw [hx.sc]; exact h9) (sEs es hx h10) (by rw [stores0, hx.sc]; exact isPure_ok h11)).can (rs_par3 ra_tO)
      · cases h
    · cases h
  | .aug i op e, c, W, X, st, hx, po, h => by
    unfold okS at h
    split at h
    · simp only [Bool.and_eq_true, decide_eq_true_eq, Bool.or_eq_true] at h
      obtain ⟨⟨⟨⟨h1, h2⟩, h3⟩, h4⟩, h5⟩ := h
      subst h3
      obtain ⟨r, ho, hr⟩ := iop_ok (X := X) op (by rcases h4 with (h4 | h4) | h4; exact .inl h4; exact .inr (.inl h4); exact .inr (.inr h4))
      exact (ps_aug (by rw [hx.N]; exact hx.nd) (by rw [hx.N]; exact h1) (locC_ok hx h2) (sE e hx h5).1 ho (hx.st _ h2)).can (rs_aug re_tO hr)
    · cases h
  | .ex e, c, W, X, st, hx, po, h => by
    unfold okS at h
    split at h
    · simp only [Bool.and_eq_true] at h
      exact (ps_expr (sE e hx h.2).1 (by rw [swaps0, hx.sc]; exact isPure_ok h.1)).can (rs_ex re_tO)
    · cases h
  | .ret e, c, W, X, st, hx, po, h => by
    unfold okS at h
    split at h
    · exact (ps_ret (sE e hx h).1).can (rs_ret re_tO)
    · cases h
  | .retF e, c, W, X, st, hx, po, h => by
    unfold okS at h
    split at h
    · exact (ps_ret (sE e hx h).1).can (rs_retF re_tO)
    · cases h
  | .retN, c, W, X, st, hx, po, h => by
    unfold okS at h
    split at h
    · exact ps_retN.can rs_retN
    · cases h
  | .ife e a b, c, W, X, st, hx, po, h => by
    unfold okS at h
    split at h
    · simp only [Bool.and_eq_true] at h
      exact (ps_if (sE e hx h.1.1).2.1 (sB a hx po h.1.2) (sB b hx po h.2)).can (rs_if rt_tO rs_tO rs_tO)
    · cases h
  | .whl e b, c, W, X, st, hx, po, h => by
    unfold okS at h
    split at h
    · simp only [Bool.and_eq_true] at h
      exact (ps_while po.po (sE e hx h.1).2.1 (sB b hx po h.2)).can (rs_whl rt_tO rs_tO)
    · cases h
  | .for tg it b, c, W, X, st, hx, po, h => by
    unfold okS at h
    split at h
    · simp only [Bool.and_eq_true] at h
      obtain ⟨⟨⟨h1, h2⟩, h3⟩, h4⟩ := h
      exact (ps_for po.po hx.calm (sI it hx h2) (sG tg hx h3) (sB b hx po h4) (noSet_fold h1 _)).can (rs_for ri_tO rg_tO rs_tO)
    · cases h
  | .raise k e, c, W, X, st, hx, po, h => ps_never.can rs_never
  | .rse k, c, W, X, st, hx, po, h => by
    unfold okS at h
    split at h
    · simp only [Bool.and_eq_true] at h
      obtain ⟨hg, hd⟩ := gloC_ok hx h.1
      obtain ⟨n, hn, en⟩ := xcC_ok h.2
      have G := hx.xa.g n (List.mem_of_getElem? hn)
      have hmg := hx.xm n (List.mem_of_getElem? hn)
      subst en
      refine (ps_raise hx.calm hx.tk (pmk_own PySem.F.excBase_ValueError G.q hmg G.kp (raises_own G.sb G.ty) hg hd)).can fun σ H ρ S O XX E D A hw kk => ?_
      exact A.x k .non σ ρ S O H _ none A.sok .refl A.env (by rw [hx.xr]; exact ⟨n, hn, rfl, rfl, rfl⟩) hw
    · cases h
  | .tryC b hs, c, W, X, st, hx, po, h => by
    unfold okS at h
    split at h
    · simp only [Bool.and_eq_true] at h
      obtain ⟨l, hl, hw⟩ := hds_ok hs hx h.2
      refine (ps_try_many (tb := fun W' => tOS L X.K W' (wpB L.Γ b)) (Wout := W) po.stk po.frm hx.tk (fun W' pn xe tk po' => sB b (hx.tr tk) ⟨po', po.stk, po.frm⟩ h.1) hl).can fun σ H ρ S O XX E D A hq kk => ?_
      refine ⟨ρ, S, O, _, E, ⟨A.sok, A.env, fun k d σ' ρ' S' O' H' cv dd s' e' n' xr hx' => ?_⟩, hq, kk⟩
      rw [hx.xr] at xr
      obtain ⟨n, hn, rfl, rfl, rfl⟩ := xr
      refine hw W D k n none σ' H' hn (fun cd hl' v rv => ?_) fun hl' => ?_
      · rw [hl'] at hx'
        exact kk.rt v H' cd S' O' (rv _ _ _) s' e' hx'
      · rw [hl'] at hx'
        exact A.x k .non σ' ρ' S' O' H' _ none s' e' n' (by rw [hx.xr]; exact ⟨n, hn, rfl, rfl, rfl⟩) hx'
    · cases h
  | .pass, c, W, X, st, hx, po, h => by
    unfold okS at h
    split at h
    · exact ps_pass.can rs_nx
    · cases h
  | .brk, c, W, X, st, hx, po, h => by
    unfold okS at h
    split at h
    · exact ps_break.can rs_bk
    · cases h
  | .cont, c, W, X, st, hx, po, h => by
    unfold okS at h
    split at h
    · exact ps_continue.can rs_ct
    · cases h
theorem sB : ∀ (b : Bl) {c : Ck} {W : WX} {X : Cx} {st : List Stmt}, XC c L W X → PoX X → okB b c st = true → PSs X st (tOS L X.K W (wpB L.Γ b))
  | .nil, c, W, X, st, hx, po, h => by
    unfold okB at h
    split at h
    · exact pss_nil.can rs_nx
    · cases h
  | .cons s r, c, W, X, st, hx, po, h => by
    unfold okB at h
    split at h
    · simp only [Bool.and_eq_true] at h
      exact (pss_cons (sS s hx po h.1) (sB r hx po h.2)).can (rs_seq (w1 := wpS L.Γ s) (w2 := wpB L.Γ r) rs_tO rs_tO)
    · cases h
end
end
end DL

/-! DL14: defs, their linking, the head's facts. -/
namespace DL
open PySem PySem.Spec PyProof.Rows L2
/-- a def: number, name, parameters, slots, level, the defs and constants that it names, body -/
inductive Pl where
  | fn (x : Str) | me (c : String) | pr (c : String) | ini (c : String)
  deriving DecidableEq
structure Df where
  id : Nat
  name : Str
  ps : List Str
  N : List Str
  lvl : Nat
  fns : List (Nat × Str)
  gls : List (Nat × Str)
  body : Bl
  pl : Pl
  cls : List (String × List Str)
  mts : List (Nat × String × Str)
  prs : List (Nat × String × Str)
  nws : List (Nat × String × Str)
  xc : List String
def Df.qual (d : Df) : Str := match d.pl with
  | .fn _ => d.name
  | .me c => (c : Str) ++ ("." : Str) ++ d.name
  | .pr c => (c : Str) ++ ("." : Str) ++ d.name
  | .ini c => (c : Str) ++ ("." : Str) ++ d.name
def fnScopeC (N ps : List Str) (sc : Scope) : Bool :=
  (match sc.kind with | .function => true | _ => false) && !sc.isCoroutine && !sc.isGenerator && decide N.Nodup && decide (N.take ps.length = ps) && (ps.all fun x => decide (sc.names.lookup x = some .local) || decide (sc.names.lookup x = some .cell)) && (sc.names.all fun y => match y.2 with | .free => false | _ => true)
theorem fnScopeC_ok {N ps : List Str} {sc : Scope} (h : fnScopeC N ps sc = true) : FnScope N ps sc := by
  unfold fnScopeC at h
  simp only [Bool.and_eq_true, decide_eq_true_eq, List.all_eq_true, Bool.or_eq_true, Bool.not_eq_true'] at h
  obtain ⟨⟨⟨⟨⟨⟨h1, h2⟩, h3⟩, h4⟩, h5⟩, h6⟩, h7⟩ := h
  refine ⟨?_, h2, h3, h4, h5, h6, fun y hy e => ?_⟩
  · split at h1
    · assumption
    · cases h1
  · have q := h7 y hy
    rw [e] at q
    cases q
def okD (d : Df) (sc : Scope) (st : List Stmt) : Bool := okB d.body ⟨d.N, sc, none, d.fns, d.gls, d.cls, d.mts, d.prs, d.nws, d.xc⟩ st && fnScopeC d.N d.ps sc
/-- the slots at the start -/
def env1 (d : Df) (ds : List D) : Env := ds.map some ++ List.replicate (d.N.length - d.ps.length) none
/-- less is known of the store -/
def Sub (S2 S1 : Sto) : Prop := ∀ a o, S2 a = some o → S1 a = some o
theorem Sub.refl {S : Sto} : Sub S S := fun _ _ h => h
theorem Sub.trans {S T U : Sto} (a : Sub S T) (b : Sub T U) : Sub S U := fun x o h => b x o (a x o h)
theorem sub_sup {S : Sto} {p : Addr} {o : DO} (h : S p = none) : Sub S (sup S p o) := fun a u e => by
  by_cases q : a = p
  · rw [q, h] at e; cases e
  · rw [sup_ne q]; exact e
def RtQ (Q : QD) : QD := fun d S1 => ∃ S2, Sub S2 S1 ∧ Q d S2
theorem rtq {Q : QD} {d : D} {S : Sto} (h : Q d S) : RtQ Q d S := ⟨S, .refl, h⟩
theorem rtq_sup {Q : QD} {d : D} {S : Sto} {p : Addr} {o : DO} (e : S p = none) (h : Q d S) : RtQ Q d (sup S p o) := ⟨S, sub_sup e, h⟩
theorem rtq_sdel {Q : QD} {d : D} {S : Sto} {p : Addr} (e : S p = none) (h : Q d S) : RtQ Q d (sdel S p) := ⟨S, fun a o q => by
  by_cases z : a = p
  · rw [z, e] at q; cases q
  · rw [sdel_ne z]; exact q, h⟩
/-- a body keeps its promise -/
def SpecOk (Γ : Gam) (d : Df) : Prop := ∀ ds S R Q, Γ.fn d.id ds S R Q → ds.length = d.ps.length ∧ wpB Γ d.body { nx := fun _ S => RtQ Q .non S, rt := RtQ Q } (fun k x _ S => RtQ (R k) x S) (env1 d ds) S
def BindOk (params : Arguments) (ps : List Str) : Prop := ∀ (x qual : Str) (body : List Stmt) (scope : Scope) (kV doc pm : Value) (an : Option Addr) (cdv ct : Value) (us : List Value), us.length = ps.length → bindArgs (PySem.W.fnOf x qual params body scope .none kV doc pm an cdv ct) ⟨us, []⟩ = pure (ps.zip us)
section
variable {L : Lnk} {P : Program} {w : World} {K : PySem.W.Frag} {mg : Str → Option Value} {base : Heap}
/-- where the text has a def -/
def Where (K : PySem.W.Frag) (mg : Str → Option Value) (d : Df) (f : Addr) : Prop := match d.pl with
  | .fn x => mg x = some (.ref f) ∧ PySem.W.keepIn K (.ref f) = true
  | .me c => Meth K (He.ga K c) d.name f
  | .pr c => ∃ p, PropOf K (He.ga K c) d.name p f
  | .ini c => Mk K (He.ga K c) f
def Good (L : Lnk) (P : Program) (w : World) (K : PySem.W.Frag) (mg : Str → Option Value) (base : Heap) (d : Df) : Prop :=
  ∃ (f : Addr) (fd : FuncData), FnOk P w K mg base (L2.CX P w) d.lvl f fd d.ps (spOf L K (L.Γ.fn d.id)) ∧ Where K mg d f ∧ Binds K fd d.ps [] ∧ ∃ oc od osl, K.lookup f = some ⟨oc, od, .func fd, osl⟩
def GlG (L : Lnk) (K : PySem.W.Frag) (mg : Str → Option Value) (k : Nat) (x : Str) : Prop := ∃ (u : Value) (v : V), mg x = some u ∧ RelV v u ∧ ∀ O H, Rp K O H v (L.Γ.gl k)
structure CallsOk (L : Lnk) (P : Program) (w : World) (K : PySem.W.Frag) (mg : Str → Option Value) (base : Heap) (d : Df) (k : Nat) : Prop where
  fns : ∀ p ∈ d.fns, ∃ e : Df, e.id = p.1 ∧ e.pl = .fn p.2 ∧ e.lvl + 2 ≤ k ∧ Good L P w K mg base e
  mts : ∀ p ∈ d.mts, ∃ e : Df, e.id = p.1 ∧ e.name = p.2.2 ∧ e.pl = .me p.2.1 ∧ e.lvl + 2 ≤ k ∧ Good L P w K mg base e
  prs : ∀ p ∈ d.prs, ∃ e : Df, e.id = p.1 ∧ e.name = p.2.2 ∧ e.pl = .pr p.2.1 ∧ e.lvl + 2 ≤ k ∧ Good L P w K mg base e
  nws : ∀ p ∈ d.nws, ∃ e : Df, e.id = p.1 ∧ e.pl = .ini p.2.1 ∧ e.lvl + 2 ≤ k ∧ Good L P w K mg base e
/-- what is known of the classes -/
structure ClsT (L : Lnk) (K : PySem.W.Frag) (mg : Str → Option Value) : Prop where
  ca : ClsA K L.Γ.cls
  cm : ∀ p ∈ L.Γ.cls, mg p.1 = some (.ref (He.ga K p.1))
  xa : XcA K L.Γ.xc
  xm : ∀ n ∈ L.Γ.xc, mg n = some (.ref (He.ga K n))
  xr : L.xr = xrOf K L.Γ.xc
theorem df_ok (hN : base.NoSeer) (hT : P.given.tree = none) {d : Df} {params : Arguments} {st : List Stmt} {sc : Scope} {f : Addr} {fd : FuncData} {k : Nat} (h32 : 32 ≤ k) (hk : d.lvl = k + 1) (F : FunD K d.name d.qual params st sc [] [] f fd) (hC : okD d sc st = true)
    (hc : CallsOk L P w K mg base d k) (hgl : ∀ p ∈ d.gls, GlG L K mg p.1 p.2) (ct : ClsT L K mg) (hcs : ∀ p ∈ d.cls, p ∈ L.Γ.cls) (hxc : d.xc = L.Γ.xc) (hbl : ∀ x ∈ blts, mg x = none) (hS : SpecOk L.Γ d) :
    FnOk P w K mg base (L2.CX P w) d.lvl f fd d.ps (spOf L K (L.Γ.fn d.id)) := by
  unfold okD at hC
  rw [Bool.and_eq_true] at hC
  have S := fnScopeC_ok hC.2
  rw [hk]
  have len : ∀ vs H Q E, spOf L K (L.Γ.fn d.id) vs H Q E → vs.length = d.ps.length := fun vs H Q E ⟨ds, S, O, R, Q', s, r, h, _⟩ => by rw [r.len]; exact (hS ds S R Q' h).1
  refine F.ok S len fun cdv A outer s H vs Q E hr h => ?_
  obtain ⟨ds, St, O, R, Q', sk, r, h, hx, hq⟩ := h
  obtain ⟨hl, hw⟩ := hS ds St R Q' h
  have xc : XC ⟨d.N, sc, none, d.fns, d.gls, d.cls, d.mts, d.prs, d.nws, d.xc⟩ L (fun cls dd _ H => E cls dd H) (cxOf (L2.CX P w) P w K mg base d.N d.qual sc f cdv A outer s H E) :=
    { N := rfl, nd := S.nd, sc := rfl, calm := rfl,
      un := by have := hr.un; show (A.deeper _).units + 70 < cLine; omega
      py := ⟨⟨_, _, rfl, S.gen, S.co, rfl, rfl⟩, hN, hT, by have := hr.dp; show (A.deeper _).depth + 100 < recursionLimit; omega⟩
      tk := takes_of rfl rfl rfl rfl
      st := fun _ _ => .inl rfl
      bl := hbl
      fn := fun p hp => by
        obtain ⟨e, e1, e4, e3, g, gd, F', wh, b, _⟩ := hc.fns p hp
        unfold Where at wh
        rw [e4] at wh
        rw [← e1]
        exact ⟨e.lvl, g, gd, e.ps, F', hr.mono e3, wh.1, wh.2, b⟩
      gl := fun p hp => hgl p hp
      ca := ct.ca
      cs := hcs
      cm := fun p hp => ct.cm p (hcs p hp)
      mt := fun p hp => by
        obtain ⟨e, e1, e2, e4, e3, g, gd, F', wh, b, _⟩ := hc.mts p hp
        unfold Where at wh
        rw [e4] at wh
        rw [← e1, ← e2]
        exact ⟨e.lvl, g, gd, e.ps, F', hr.mono e3, wh, b⟩
      pr := fun p hp => by
        obtain ⟨e, e1, e2, e4, e3, g, gd, F', wh, b, _⟩ := hc.prs p hp
        unfold Where at wh
        rw [e4] at wh
        obtain ⟨pp, wh⟩ := wh
        rw [← e1, ← e2]
        exact ⟨e.lvl, pp, g, gd, e.ps, F', hr.mono e3, wh, b⟩
      nw := fun p hp => by
        obtain ⟨e, e1, e4, e3, g, gd, F', wh, b, _⟩ := hc.nws p hp
        unfold Where at wh
        rw [e4] at wh
        rw [← e1]
        exact ⟨e.lvl, g, gd, e.ps, F', hr.mono e3, wh, b⟩
      xa := by show XcA K d.xc; rw [hxc]; exact ct.xa
      xm := fun n hn => by
        have hn : n ∈ d.xc := hn
        rw [hxc] at hn
        exact ct.xm n hn
      xr := by show L.xr = xrOf K d.xc; rw [hxc]; exact ct.xr }
  refine ⟨_, sB d.body xc ⟨passes_of rfl, rfl, rfl⟩ hC.1, ?_⟩
  have hv : vs.length = d.ps.length := by rw [r.len]; exact hl
  have less : ∀ {S1 S2 : Sto} {O' : Ow} {H' : Hp}, Sub S2 S1 → Sok K S1 O' H' → Ev St O H S1 O' H' → Sok K S2 O' H' ∧ Ev St O H S2 O' H' := fun {S1 S2 O' H'} sb s' e' => ⟨s'.less sb, ⟨e'.keep, e'.own, fun a h n => ⟨(e'.res a h n).1, by
    cases q : S2 a with
    | none => rfl
    | some o => have := sb a o q; rw [(e'.res a h n).2] at this; cases this⟩, e'.there⟩⟩
  refine ⟨env1 d ds, St, O, fun k x _ S => RtQ (R k) x S, _, ⟨sk, ?_, fun k' x σ' ρ' S' O' H' c dd s' e' _ xr ⟨S2, sb, q⟩ => hx k' x S2 O' H' c dd (less sb s' e').1 (less sb s' e').2 xr q⟩, hw, ⟨fun σ' H' ρ' S' O' s' e' _ ⟨S2, sb, q⟩ => hq _ H' _ S2 O' .non (less sb s' e').1 (less sb s' e').2 q, fun v H' dv S' O' rv s' e' ⟨S2, sb, q⟩ => hq v H' dv S2 O' rv (less sb s' e').1 (less sb s' e').2 q, fun _ _ _ _ _ _ _ _ q => q.elim, fun _ _ _ _ _ _ _ _ q => q.elim⟩⟩
  show REnv K O H (env1 d ds) (L2.start d.N vs)
  unfold L2.start env1
  rw [hv]
  exact REnv.start _ r
/-- what is told of a def of the text -/
def Told (K : PySem.W.Frag) (mg : Str → Option Value) (d : Df) (st : Stmt) : Prop := ∃ (f : Addr) (fd : FuncData), FunD K d.name d.qual (defArgs st) (defBody st) (defScope st) [] [] f fd ∧ Where K mg d f
def callC (done : List Df) (d : Df) (k : Nat) (x : Option Str) (pl : Pl) : Bool := done.any fun e => Nat.beq e.id k && (match x with | some x => decide (e.name = x) | none => true) && decide (e.pl = pl) && Nat.blt (e.lvl + 2) d.lvl
def calls (done : List Df) (d : Df) : Bool := Nat.ble 33 d.lvl && (d.fns.all fun p => callC done d p.1 none (.fn p.2)) && (d.mts.all fun p => callC done d p.1 (some p.2.2) (.me p.2.1)) && (d.prs.all fun p => callC done d p.1 (some p.2.2) (.pr p.2.1)) && d.nws.all fun p => callC done d p.1 none (.ini p.2.1)
def callsAll : List Df → List Df → Bool
  | _, [] => true
  | done, d :: r => calls done d && callsAll (d :: done) r
theorem callC_ok {done : List Df} {d : Df} {k : Nat} {x : Option Str} {pl : Pl} (hd : ∀ e ∈ done, Good L P w K mg base e) (h : callC done d k x pl = true) : ∃ e : Df, e.id = k ∧ (∀ y, x = some y → e.name = y) ∧ e.pl = pl ∧ e.lvl + 2 ≤ d.lvl - 1 ∧ Good L P w K mg base e := by
  obtain ⟨e, he, q⟩ := List.any_eq_true.mp h
  simp only [Bool.and_eq_true, decide_eq_true_eq] at q
  have q3 : e.lvl + 2 < d.lvl := Nat.le_of_ble_eq_true q.2
  exact ⟨e, Nat.eq_of_beq_eq_true q.1.1.1, fun y hy => by have h := q.1.1.2; rw [hy] at h; exact of_decide_eq_true h, q.1.2, by omega, hd e he⟩
theorem link_all (hN : base.NoSeer) (hT0 : P.given.tree = none) (hbl : ∀ x ∈ blts, mg x = none) (ct : ClsT L K mg) : ∀ (tab : List (Df × Stmt)) (done : List Df), (∀ e ∈ done, Good L P w K mg base e) → callsAll done (tab.map (·.1)) = true → (∀ p ∈ tab, Told K mg p.1 p.2) → (∀ p ∈ tab, okD p.1 (defScope p.2) (defBody p.2) = true) → (∀ p ∈ tab, BindOk (defArgs p.2) p.1.ps) →
    (∀ p ∈ tab, SpecOk L.Γ p.1) → (∀ p ∈ tab, ∀ g ∈ p.1.gls, GlG L K mg g.1 g.2) → (∀ p ∈ tab, ∀ q ∈ p.1.cls, q ∈ L.Γ.cls) → (∀ p ∈ tab, p.1.xc = L.Γ.xc) → ∀ p ∈ tab, Good L P w K mg base p.1
  | [], _, _, _, _, _, _, _, _, _, _ => fun _ h => nomatch h
  | (d, st) :: r, done, hd, hc, hT, hO, hB, hS, hG, hCs, hX => by
    have hc' : (calls done d && callsAll (d :: done) (r.map (·.1))) = true := hc
    rw [Bool.and_eq_true] at hc'
    have hcd := hc'.1
    unfold calls at hcd
    simp only [Bool.and_eq_true] at hcd
    obtain ⟨⟨⟨⟨c1, c2⟩, c3⟩, c4⟩, c5⟩ := hcd
    have l1 : 33 ≤ d.lvl := Nat.le_of_ble_eq_true c1
    have good : Good L P w K mg base d := by
      obtain ⟨f, fd, F, m⟩ := hT (d, st) List.mem_cons_self
      have bd : Binds K fd d.ps [] := F.bindsN fun kV doc pm an cdv ct us hl => hB (d, st) List.mem_cons_self _ _ _ _ kV doc pm an cdv ct us hl
      refine ⟨f, fd, df_ok hN hT0 (k := d.lvl - 1) (by omega) (by omega) F (hO (d, st) List.mem_cons_self) ⟨fun p hp => by
          obtain ⟨e, h1, _, h2, h3, h4⟩ := callC_ok hd (List.all_eq_true.mp c2 p hp)
          exact ⟨e, h1, h2, h3, h4⟩, fun p hp => by
          obtain ⟨e, h1, h0, h2, h3, h4⟩ := callC_ok hd (List.all_eq_true.mp c3 p hp)
          exact ⟨e, h1, h0 _ rfl, h2, h3, h4⟩, fun p hp => by
          obtain ⟨e, h1, h0, h2, h3, h4⟩ := callC_ok hd (List.all_eq_true.mp c4 p hp)
          exact ⟨e, h1, h0 _ rfl, h2, h3, h4⟩, fun p hp => ?_⟩ (hG (d, st) List.mem_cons_self) ct (hCs (d, st) List.mem_cons_self) (hX (d, st) List.mem_cons_self) hbl (hS (d, st) List.mem_cons_self), m, bd, by obtain ⟨oc, od, dV, kV, doc, pm, an, cdv, ct, osl, _, lk, _⟩ := F.ex; exact ⟨oc, od, osl, lk⟩⟩
      obtain ⟨e, h1, _, h2, h3, h4⟩ := callC_ok hd (List.all_eq_true.mp c5 p hp)
      exact ⟨e, h1, h2, h3, h4⟩
    have ih := link_all hN hT0 hbl ct r (d :: done) (fun e he => by
      rcases List.mem_cons.mp he with z | z
      · rw [z]; exact good
      · exact hd e z) hc'.2 (fun p hp => hT p (List.mem_cons_of_mem _ hp)) (fun p hp => hO p (List.mem_cons_of_mem _ hp)) (fun p hp => hB p (List.mem_cons_of_mem _ hp)) (fun p hp => hS p (List.mem_cons_of_mem _ hp)) (fun p hp => hG p (List.mem_cons_of_mem _ hp)) (fun p hp => hCs p (List.mem_cons_of_mem _ hp)) (fun p hp => hX p (List.mem_cons_of_mem _ hp))
    intro p hp
    rcases List.mem_cons.mp hp with z | z
    · rw [z]; exact good
    · exact ih p z
end

/-! ### module constants -/
mutual
def datB (K : PySem.W.Frag) : D → Value → Bool
  | .non, u => (match u with | .none => true | _ => false)
  | .bl b, u => (match u with | .bool c => decide (b = c) | _ => false)
  | .int i, u => (match u with | .int j _ => decide (i = j) | _ => false)
  | .str x, u => (match u with | .str y _ => decide (x = y) | _ => false)
  | .tup ds, u => (match u with
    | .ref a => (match K.lookup a with
      | some ⟨.type c, _, .seq its _, _⟩ => decide (c = "tuple") && decide (its.size ≤ sizeLine) && datBs K ds its.toList
      | _ => false)
    | _ => false)
  | _, _ => false
def datBs (K : PySem.W.Frag) : List D → List Value → Bool
  | [], us => (match us with | [] => true | _ => false)
  | d :: ds, us => (match us with | u :: us => datB K d u && datBs K ds us | _ => false)
end
mutual
theorem datB_ok {K : PySem.W.Frag} : ∀ (d : D) {u : Value}, datB K d u = true → ∃ v, RelV v u ∧ ∀ O H, Rp K O H v d
  | .non, u, h => by
    unfold datB at h
    split at h
    · exact ⟨.non, rfl, fun _ _ => .non⟩
    · cases h
  | .bl b, u, h => by
    unfold datB at h
    split at h
    · have e := of_decide_eq_true h; subst e; exact ⟨.bl b, rfl, fun _ _ => .bl b⟩
    · cases h
  | .int b, u, h => by
    unfold datB at h
    split at h
    · have e := of_decide_eq_true h; subst e; exact ⟨.int b, ⟨_, rfl⟩, fun _ _ => .int b⟩
    · cases h
  | .str b, u, h => by
    unfold datB at h
    split at h
    · have e := of_decide_eq_true h; subst e; exact ⟨.str b, ⟨_, rfl⟩, fun _ _ => .str b⟩
    · cases h
  | .tup ds, u, h => by
    unfold datB at h
    split at h
    · rename_i a
      split at h
      · rename_i c dd its n sl q
        simp only [Bool.and_eq_true, decide_eq_true_eq] at h
        obtain ⟨⟨h1, h2⟩, h3⟩ := h
        subst h1
        obtain ⟨vs, r, rp⟩ := datBs_ok ds h3
        refine ⟨.ref a, rfl, fun O H => .tup (.inr ⟨_, its, n, q, rfl, rfl, h2, r⟩) ?_ (rp O H)⟩
        have := r.length
        rw [this]; simpa using h2
      · cases h
    · cases h
  | .lst _, _, h => by simp [datB] at h
  | .ref _, _, h => by simp [datB] at h
  | .ty _, _, h => by simp [datB] at h
  | .scr _, _, h => by simp [datB] at h
theorem datBs_ok {K : PySem.W.Frag} : ∀ (ds : List D) {us : List Value}, datBs K ds us = true → ∃ vs, Vals vs us ∧ ∀ O H, Rps K O H vs ds
  | [], us, h => by
    unfold datBs at h
    split at h
    · exact ⟨[], .nil, fun _ _ => .nil⟩
    · cases h
  | d :: ds, us, h => by
    unfold datBs at h
    split at h
    · rw [Bool.and_eq_true] at h
      obtain ⟨v, r, rp⟩ := datB_ok d h.1
      obtain ⟨vs, rs, rps⟩ := datBs_ok ds h.2
      exact ⟨v :: vs, .cons r rs, fun O H => .cons (rp O H) (rps O H)⟩
    · cases h
end
/-! ### the head's facts -/
def glB (K : PySem.W.Frag) (g : Str × D) : Bool := match PySem.W.nsIn K mainGlobals g.1 with
  | some (some u) => datB K g.2 u
  | _ => false
/-- a property's getter -/
def gtA (K : PySem.W.Frag) (p : Addr) : Addr := match PySem.W.recIn K p "property" with
  | some (.ref g :: _) => g
  | _ => 0
def adOf (K : PySem.W.Frag) (d : Df) : Addr := match d.pl with
  | .fn x => He.ga K x
  | .me c => He.ma K (He.ga K c) d.name
  | .ini c => He.ma K (He.ga K c) d.name
  | .pr c => gtA K (He.ma K (He.ga K c) d.name)
def seeD (K : PySem.W.Frag) (d : Df) : He.FnW := match K.lookup (adOf K d) with
  | some ⟨_, _, .func fd, _⟩ => some (fd.name, fd.qualname, fd.params, fd.body, fd.scope, fd.globals, fd.closure, fd.builtins)
  | _ => none
def valOf (p : Df × Stmt) : He.FnW := some (p.1.name, p.1.qual, defArgs p.2, .stmts (defBody p.2), defScope p.2, mainGlobals, [], builtinsNs)
def isD (K : PySem.W.Frag) (d : Df) : Bool := PySem.W.keepIn K (.ref (adOf K d)) && (match K.lookup (adOf K d) with
  | some ⟨_, _, .func fd, _⟩ => PySem.W.codeIn K fd.code d.qual && (He.dflB K fd.defaults [] && He.kwdB K fd.kwdefaults [])
  | _ => false)
def plB (K : PySem.W.Frag) (d : Df) : Bool := match d.pl with
  | .fn x => (He.Fa.glo x).ok K
  | .me c => (He.Fa.meth c d.name).ok K
  | .ini c => (He.Fa.mkr c).ok K && decide (d.name = ("__init__" : Str))
  | .pr c => He.eqO (PySem.W.findIn K (.ref (He.ga K c)) d.name) (some (some (.ref (He.ma K (He.ga K c) d.name)))) && (He.eqO (PySem.W.specialIn K (.ref (He.ma K (He.ga K c) d.name)) "__get__") (some (some (.builtin "property.__get__"))) &&
    (decide (PySem.W.takesIn K (.ref (He.ma K (He.ga K c) d.name)) = some true) && (match PySem.W.recIn K (He.ma K (He.ga K c) d.name) "property" with
      | some (.ref g :: _) => decide (g = adOf K d)
      | _ => false)))
theorem see_ok {K : PySem.W.Frag} {p : Df × Stmt} (e : seeD K p.1 = valOf p) (c : isD K p.1 = true) : ∃ fd, FunD K p.1.name p.1.qual (defArgs p.2) (defBody p.2) (defScope p.2) [] [] (adOf K p.1) fd := by
  obtain ⟨kp, c2⟩ := He.ba c
  unfold seeD at e
  cases q : K.lookup (adOf K p.1) with
  | none => rw [q] at c2; cases c2
  | some o =>
    obtain ⟨oc, od, dt, osl⟩ := o
    rw [q] at c2 e
    cases dt with
    | func fd =>
      obtain ⟨n1, n2, n3, n4, n5, n6, n7, n8, n9, n10, n11, n12, n13, n14, n15⟩ := fd
      have e2 : (some (n1, n2, n3, n4, n5, n6, n7, n15) : He.FnW) = valOf p := e
      unfold valOf at e2
      simp only [Option.some.injEq, Prod.mk.injEq] at e2
      obtain ⟨h1, h2, h3, h4, h5, h6, h7, h8⟩ := e2
      subst h1 h2 h3 h4 h5 h6 h7 h8
      obtain ⟨k1, k2⟩ := He.ba (show (PySem.W.codeIn K n13 p.1.qual && (He.dflB K n8 [] && He.kwdB K n9 [])) = true from c2)
      obtain ⟨k3, k4⟩ := He.ba k2
      exact ⟨_, ⟨oc, od, n8, n9, n10, n11, n12, n13, n14, osl, rfl, q, k1, He.dflB_ok k3, He.kwdB_ok k4⟩, kp⟩
    | _ => cases c2
theorem pl_ok {K : PySem.W.Frag} {h : Heap} {mg : Str → Option Value} (X : K.In h) (G : h.Ns mainGlobals mg) {d : Df} (c : plB K d = true) (kp : PySem.W.keepIn K (.ref (adOf K d)) = true) : Where K mg d (adOf K d) := by
  unfold plB at c
  unfold Where
  unfold adOf at kp ⊢
  cases e : d.pl with
  | fn x => simp only [e] at c kp ⊢; exact ⟨He.glo_ok X G c, kp⟩
  | me cl => simp only [e] at c ⊢; exact He.meth_ok c
  | ini cl =>
    simp only [e] at c ⊢
    obtain ⟨c1, c2⟩ := He.ba c
    rw [of_decide_eq_true c2]
    exact He.mkr_ok c1
  | pr cl =>
    simp only [e] at c ⊢
    obtain ⟨c1, c⟩ := He.ba c
    obtain ⟨c2, c⟩ := He.ba c
    obtain ⟨c3, c4⟩ := He.ba c
    refine ⟨_, He.eqO_ok c1, He.eqO_ok c2, of_decide_eq_true c3, ?_⟩
    split at c4
    · rename_i g r q
      have e2 := of_decide_eq_true c4
      have e3 : adOf K d = gtA K (He.ma K (He.ga K cl) d.name) := by unfold adOf; rw [e]
      rw [e3] at e2
      rw [← e2]
      exact ⟨r, q⟩
    · cases c4
/-! ### the facts of classes -/
def slB (K : PySem.W.Frag) (C : Addr) : Nat → List Str → Bool
  | _, [] => true
  | i, f :: r => He.eqO (PySem.W.findIn K (.ref C) f) (some (some (.ref (He.ma K C f)))) && (He.eqO (PySem.W.specialIn K (.ref (He.ma K C f)) "__get__") (some (some (.builtin "member_descriptor.__get__"))) && (decide (PySem.W.takesIn K (.ref (He.ma K C f)) = some true) &&
    (decide (PySem.W.typeIn K (.ref (He.ma K C f)) = some (.type "member_descriptor")) && (decide (PySem.W.slotIn K (He.ma K C f) C = some i) && (Nat.blt i 1000 && slB K C (i + 1) r)))))
theorem slB_ok {K : PySem.W.Frag} {C : Addr} : ∀ {n : Nat} {l : List Str}, slB K C n l = true → ∀ (i : Nat) (f : Str), l[i]? = some f → ∃ p, SlX.Slot1 K C f p (n + i)
  | n, [], _, i, f, e => by simp at e
  | n, g :: r, h, i, f, e => by
    unfold slB at h
    obtain ⟨h1, h⟩ := He.ba h
    obtain ⟨h2, h⟩ := He.ba h
    obtain ⟨h3, h⟩ := He.ba h
    obtain ⟨h4, h⟩ := He.ba h
    obtain ⟨h5, h⟩ := He.ba h
    obtain ⟨h6, h⟩ := He.ba h
    cases i with
    | zero => cases e; exact ⟨_, He.eqO_ok h1, He.eqO_ok h2, of_decide_eq_true h3, of_decide_eq_true h4, of_decide_eq_true h5, Nat.le_of_ble_eq_true h6⟩
    | succ i =>
      obtain ⟨p, q⟩ := slB_ok h i f e
      exact ⟨p, by rw [show n + (i + 1) = n + 1 + i by omega]; exact q⟩
def cl1B (K : PySem.W.Frag) (p : String × List Str) : Bool := (He.Fa.glo p.1).ok K && (PySem.W.plainGet K (He.ga K p.1) Str.empty && (PySem.W.isClsIn K (He.ga K p.1) && (PySem.W.plainOver K (He.ga K p.1) &&
  (He.eqO (PySem.W.findIn K (.ref (He.ga K p.1)) "__setattr__") (some (some (.builtin "object.__setattr__"))) && (He.eqO (PySem.W.findIn K (.ref (He.ga K p.1)) "__class__") (some (some (.builtin "object.__class__"))) &&
  (He.eqO (PySem.W.specialIn K (.builtin "object.__class__") "__get__") (some (some (.builtin "getset_descriptor.__get__"))) && (decide (PySem.W.takesIn K (.builtin "object.__class__") = some true) && (decide (PySem.W.mroIn K (He.ga K p.1) (.type "object") = some true) && slB K (He.ga K p.1) 0 p.2))))))))
def clsB (K : PySem.W.Frag) (cls : List (String × List Str)) : Bool := (cls.all (cl1B K)) && ((cls.all fun p => cls.all fun r => decide (PySem.W.kitOne K (.ref (He.ga K p.1)) (.ref (He.ga K r.1)) = some (p.1 == r.1))) && (tys7.all fun t => cls.all fun r => decide (PySem.W.kitOne K (.type t) (.ref (He.ga K r.1)) = some false)))
theorem cls_ok {K : PySem.W.Frag} {h : Heap} {mg : Str → Option Value} (X : K.In h) (G : h.Ns mainGlobals mg) {cls : List (String × List Str)} (c : clsB K cls = true) : ClsA K cls ∧ ∀ p ∈ cls, mg p.1 = some (.ref (He.ga K p.1)) := by
  obtain ⟨c1, c⟩ := He.ba c
  obtain ⟨c2, c3⟩ := He.ba c
  refine ⟨⟨fun p hp => ?_, fun p hp r hr => of_decide_eq_true (List.all_eq_true.mp (List.all_eq_true.mp c2 p hp) r hr), fun t ht r hr => of_decide_eq_true (List.all_eq_true.mp (List.all_eq_true.mp c3 t ht) r hr)⟩, fun p hp => ?_⟩
  · have q := List.all_eq_true.mp c1 p hp
    unfold cl1B at q
    obtain ⟨_, q⟩ := He.ba q
    obtain ⟨q1, q⟩ := He.ba q
    obtain ⟨q2, q⟩ := He.ba q
    obtain ⟨q3, q⟩ := He.ba q
    obtain ⟨q4, q⟩ := He.ba q
    obtain ⟨q5, q⟩ := He.ba q
    obtain ⟨q6, q⟩ := He.ba q
    obtain ⟨q7, q⟩ := He.ba q
    obtain ⟨q8, q9⟩ := He.ba q
    refine ⟨⟨q1, q2, q3, He.eqO_ok q4⟩, ⟨He.eqO_ok q5, He.eqO_ok q6, of_decide_eq_true q7, of_decide_eq_true q8⟩, fun i f e => ?_, ?_⟩
    · have := slB_ok q9 i f e
      rwa [Nat.zero_add] at this
    · unfold PySem.W.notFirst; simp
  · have q := List.all_eq_true.mp c1 p hp
    unfold cl1B at q
    exact He.glo_ok X G (He.ba q).1
/-! ### the facts of errors' classes -/
def xc1B (K : PySem.W.Frag) (n : String) : Bool := (He.Fa.glo n).ok K && (PySem.W.excIn K (He.ga K n) [.type "ValueError", .type "Exception", .type "BaseException", .type "object"] "ValueError.__new__" && (PySem.W.keepIn K (.ref (He.ga K n)) && (decide (PySem.W.subIn K (.ref (He.ga K n)) (.type "BaseException") = some true) && decide (PySem.W.typeIn K (.ref (He.ga K n)) = some (.type "type")))))
def xcB (K : PySem.W.Frag) (xc : List String) : Bool := xc.all (xc1B K) && ((List.range xc.length).all fun i => (List.range xc.length).all fun j => decide (PySem.W.exmOne K (.ref (He.ga K (xc.getD i ""))) (.ref (He.ga K (xc.getD j ""))) = some (decide (i = j))))
theorem xc_ok {K : PySem.W.Frag} {h : Heap} {mg : Str → Option Value} (X : K.In h) (G : h.Ns mainGlobals mg) {xc : List String} (c : xcB K xc = true) : XcA K xc ∧ ∀ n ∈ xc, mg n = some (.ref (He.ga K n)) := by
  obtain ⟨c1, c2⟩ := He.ba c
  refine ⟨⟨fun n hn => ?_, fun i j n m hi hj => ?_⟩, fun n hn => ?_⟩
  · have q := List.all_eq_true.mp c1 n hn
    unfold xc1B at q
    obtain ⟨_, q⟩ := He.ba q
    obtain ⟨q1, q⟩ := He.ba q
    obtain ⟨q2, q⟩ := He.ba q
    obtain ⟨q3, q4⟩ := He.ba q
    exact ⟨q1, q2, of_decide_eq_true q3, of_decide_eq_true q4⟩
  · have li : i < xc.length := (List.getElem?_eq_some_iff.mp hi).1
    have lj : j < xc.length := (List.getElem?_eq_some_iff.mp hj).1
    have q := List.all_eq_true.mp (List.all_eq_true.mp c2 i (List.mem_range.mpr li)) j (List.mem_range.mpr lj)
    have e1 : xc.getD i "" = n := by rw [List.getD_eq_getElem?_getD, hi]; rfl
    have e2 : xc.getD j "" = m := by rw [List.getD_eq_getElem?_getD, hj]; rfl
    rw [e1, e2] at q
    exact of_decide_eq_true q
  · have q := List.all_eq_true.mp c1 n hn
    unfold xc1B at q
    exact He.glo_ok X G (He.ba q).1
/-! ### the seer -/
def seerB (K : PySem.W.Frag) : Bool := (K.lookup cStatics).isSome && ((K.lookup sysModules).isSome && ((K.lookup builtinsNs).isSome && ((K.lookup mainGlobals).isSome && (match PySem.W.nsIn K mainGlobals "__builtins__" with
  | some (some (.ref b)) => (K.lookup b).isSome
  | _ => false))))
theorem in_at {K : PySem.W.Frag} {h b : Heap} {a : Addr} {o : Obj} (X : K.In h) (Y : K.In b) (s : (K.lookup a).isSome = true) (e : h.get? a = some o) : b.get? a = some o := by
  cases q : K.lookup a with
  | none => rw [q] at s; cases s
  | some u =>
    have := (X a u q).symm.trans e
    rw [← this]
    exact Y a u q
theorem seer_ok {K : PySem.W.Frag} {h : Heap} (X : K.In h) (N : h.NoSeer) (c : seerB K = true) (b : Heap) (Y : K.In b) : b.NoSeer := by
  obtain ⟨c1, c⟩ := He.ba c
  obtain ⟨c2, c⟩ := He.ba c
  obtain ⟨c3, c⟩ := He.ba c
  obtain ⟨c4, c5⟩ := He.ba c
  obtain ⟨mc, ⟨o1, es1, ep1, h1, r1⟩, z1⟩ := N.statics
  obtain ⟨mm, ⟨o2, es2, ep2, h2, r2⟩, z2⟩ := N.mods
  obtain ⟨mb, ⟨o3, es3, ep3, h3, r3⟩, z3⟩ := N.imp
  obtain ⟨mg, bm, ob, ⟨o4, es4, ep4, h4, r4⟩, g1, g2, g3⟩ := N.main
  have G : h.Ns mainGlobals mg := ⟨o4, es4, ep4, h4, r4⟩
  refine ⟨⟨mc, ⟨o1, es1, ep1, in_at X Y c1 h1, r1⟩, z1⟩, ⟨mm, ⟨o2, es2, ep2, in_at X Y c2 h2, r2⟩, z2⟩, ⟨mb, ⟨o3, es3, ep3, in_at X Y c3 h3, r3⟩, z3⟩, ⟨mg, bm, ob, ⟨o4, es4, ep4, in_at X Y c4 h4, r4⟩, g1, in_at X Y ?_ g2, g3⟩⟩
  split at c5
  · rename_i b' e
    have := PySem.W.mg_of X G e
    rw [g1] at this
    have e2 := Value.ref.inj (Option.some.inj this)
    rw [e2]
    exact c5
  · cases c5
/-! ### the part of the heap that is looked at -/
def nxt (o : Obj) : List Addr := match o.data with
  | .func fd => He.refV fd.code ++ He.refV fd.defaults
  | .cls cd => cd.ns :: cd.mro.flatMap He.refV
  | .seq its _ => its.toList.flatMap He.refV
  | .dict es _ => es.toList.flatMap fun e => He.refV e.val
  | .fields vs => if o.cls == .type "property" then vs.toList.flatMap He.refV else []
  | _ => []
def reach (g : Addr → Option Obj) : Nat → Addr → List Addr
  | 0, a => [a]
  | n + 1, a => a :: (match g a with
    | some o => ((nxt o).filter fun b => !(Nat.beq b a)).flatMap (reach g n)
    | none => [])
def partG (n : Nat) (g : Addr → Option Obj) : PySem.W.Frag := He.frG g (cStatics :: sysModules :: builtinsNs :: reach g n mainGlobals)
abbrev AlQ : Type := Bool × List He.FnW
def obsQ (cls : List (String × List Str)) (xc : List String) (tab : List (Df × Stmt)) (gs : List (Str × D)) (K : PySem.W.Frag) : AlQ :=
  (seerB K && ((blts.all fun x => (He.Fa.free x).ok K) && (clsB K cls && (xcB K xc && ((tab.all fun p => isD K p.1 && plB K p.1) && gs.all (glB K))))), tab.map fun p => seeD K p.1)
def valQ (tab : List (Df × Stmt)) : AlQ := (true, tab.map valOf)
def SaysQ (cls : List (String × List Str)) (xc : List String) (tab : List (Df × Stmt)) (gs : List (Str × D)) (K : PySem.W.Frag) : Prop := obsQ cls xc tab gs K = valQ tab
def obsQG (n : Nat) (cls : List (String × List Str)) (xc : List String) (tab : List (Df × Stmt)) (gs : List (Str × D)) (g : Addr → Option Obj) : AlQ := obsQ cls xc tab gs (partG n g)
def hookQ (n : Nat) (cls : List (String × List Str)) (xc : List String) (tab : List (Df × Stmt)) (gs : List (Str × D)) : PySem.W.Hook where
  α := AlQ
  obs := fun s => obsQG n cls xc tab gs s.heap.get?
  val := fun _ => valQ tab
  says := fun _ h => ∃ K : PySem.W.Frag, K.In h ∧ SaysQ cls xc tab gs K
  of := fun _ _ e => ⟨_, He.frG_in, e⟩
  keeps := fun _ _ _ ⟨K, hK, c⟩ k => ⟨K, PySem.W.Frag.In.keeps hK k, c⟩
theorem obsQG_eq {n : Nat} {cls : List (String × List Str)} {xc : List String} {tab : List (Df × Stmt)} {gs : List (Str × D)} {g : Addr → Option Obj} {s : Shared} (h : ∀ a, g a = s.heap.get? a) : obsQG n cls xc tab gs g = (hookQ n cls xc tab gs).obs s := by
  have e : g = s.heap.get? := funext h
  rw [e] <;> rfl
section
variable {K : PySem.W.Frag} {mg : Str → Option Value} {h : Heap} {cls : List (String × List Str)} {xc : List String} {tab : List (Df × Stmt)} {gs : List (Str × D)}
theorem says_ok (X : K.In h) (G : h.Ns mainGlobals mg) (c : SaysQ cls xc tab gs K) : (∀ p ∈ tab, Told K mg p.1 p.2) ∧ (∀ x ∈ blts, mg x = none) ∧ (∀ g ∈ gs, ∃ (u : Value) (v : V), mg g.1 = some u ∧ RelV v u ∧ ∀ O H, Rp K O H v g.2) ∧ (ClsA K cls ∧ ∀ p ∈ cls, mg p.1 = some (.ref (He.ga K p.1))) ∧ (XcA K xc ∧ ∀ n ∈ xc, mg n = some (.ref (He.ga K n))) ∧ seerB K = true := by
  obtain ⟨c1, c2⟩ := Prod.mk.inj (show (_, _) = (_, _) from c)
  obtain ⟨s1, c1⟩ := He.ba c1
  obtain ⟨s2, c1⟩ := He.ba c1
  obtain ⟨s3, c1⟩ := He.ba c1
  obtain ⟨s6, c1⟩ := He.ba c1
  obtain ⟨s4, s5⟩ := He.ba c1
  refine ⟨fun p hp => ?_, fun x hx => He.free_ok X G (List.all_eq_true.mp s2 x hx), fun g hg => ?_, cls_ok X G s3, xc_ok X G s6, s1⟩
  · obtain ⟨q1, q2⟩ := He.ba (List.all_eq_true.mp s4 p hp)
    obtain ⟨i, e⟩ := List.mem_iff_getElem?.mp hp
    have e2 : (tab.map fun p => seeD K p.1)[i]? = (tab.map valOf)[i]? := by rw [c2]
    rw [List.getElem?_map, List.getElem?_map, e] at e2
    obtain ⟨fd, F⟩ := see_ok (Option.some.inj e2) q1
    exact ⟨_, fd, F, pl_ok X G q2 (He.ba q1).1⟩
  · have q := List.all_eq_true.mp s5 g hg
    unfold glB at q
    split at q
    · rename_i u e
      obtain ⟨v, r, rp⟩ := datB_ok g.2 q
      exact ⟨u, v, PySem.W.mg_of X G e, r, rp⟩
    · cases q
theorem obsQ_app {t1 t2 : List (Df × Stmt)} {g1 : List (Str × D)} (a : obsQ cls xc t1 g1 K = valQ t1) (b : obsQ [] [] t2 [] K = valQ t2) : obsQ cls xc (t1 ++ t2) g1 K = valQ (t1 ++ t2) := by
  obtain ⟨a1, a2⟩ := Prod.mk.inj (show (_, _) = (_, _) from a)
  obtain ⟨b1, b2⟩ := Prod.mk.inj (show (_, _) = (_, _) from b)
  simp only [Bool.and_eq_true] at a1 b1
  unfold obsQ valQ
  refine Prod.ext ?_ ?_
  · simp only [Bool.and_eq_true, List.all_append]
    exact ⟨a1.1, a1.2.1, a1.2.2.1, a1.2.2.2.1, ⟨a1.2.2.2.2.1, b1.2.2.2.2.1⟩, a1.2.2.2.2.2⟩
  · show List.map _ _ = List.map _ _
    rw [List.map_append, List.map_append, a2, b2]
theorem map_obsQ {o : Option PySem.W.SharedT} {n : Nat} {t1 t2 : List (Df × Stmt)} {g1 : List (Str × D)} (a : o.map (fun s => obsQG n cls xc t1 g1 (HandSHeadRun.getT s)) = some (valQ t1)) (b : o.map (fun s => obsQG n [] [] t2 [] (HandSHeadRun.getT s)) = some (valQ t2)) :
    o.map (fun s => obsQG n cls xc (t1 ++ t2) g1 (HandSHeadRun.getT s)) = some (valQ (t1 ++ t2)) := by
  cases o with
  | none => cases a
  | some s => exact congrArg some (obsQ_app (Option.some.inj a) (Option.some.inj b))
end
end DL

/-! DL15: from defs to the law; lemmas for loops. -/
namespace DL
open PySem PySem.Spec PyProof.Rows L2
theorem FnOk.to0 {P : Program} {w : World} {K : PySem.W.Frag} {mg : Str → Option Value} {base : Heap} {k : Nat} {f : Addr} {fd : FuncData} {ps : List Str} {sp : Sp} (F : FnOk P w K mg base (L2.CX P w) k f fd ps sp) :
    FnOk P w K mg base CX0 k f fd ps (fun vs H Q _ => sp vs H Q E0) :=
  ⟨fun vs H Q E h => F.len vs H Q E0 h, fun A outer s H args us vs Q E hr e0 hb r h => codeAny_mono (F.run A outer s H args us vs Q E0 hr e0 hb r h) fun q s' hq => by
    cases q with
    | ok fl => cases fl <;> exact hq
    | error e =>
      have hq : L2.CX P w outer H s E0 e s' := hq
      obtain ⟨_, _, _, _, _, _, _, _, _, _, _, _, z⟩ := hq
      exact z.elim⟩
theorem law_of {L : Lnk} {K : PySem.W.Frag} {F : FSp} {H : Hp} {a : Addr} {ns : List Int} (hl : ns.length ≤ 63) (hO : Only H) (hS : SqL K H a (ns.map V.int)) (h : F [.scr ns] (fun _ => none) xNo fun d _ => d = .bl true) : spOf L K F [.ref a] H (fun v _ => v = .bl true) E0 := by
  have z : ns.length ≤ sizeLine := Nat.le_trans hl (by decide)
  have rp : Rp K (fun _ => False) H (.ref a) (.scr ns) := by
    rcases hS with (h | ⟨o, h⟩) | h
    · rcases hO a with e | ⟨o, xs, e⟩ <;> rw [e] at h <;> cases h
    · exact .scr z h
    · exact .scrK z fun H' => .inr h
  refine ⟨[.scr ns], fun _ => none, fun _ => False, xNo, _, ⟨fun a ds h => (nomatch h), fun a h => h.elim, fun _ _ _ _ h => (nomatch h), fun _ h => (nomatch h), fun _ _ _ _ _ _ _ h => (nomatch h)⟩, .cons rp .nil, h, fun _ _ _ _ _ _ _ _ _ _ z => z.elim, fun v H' d S' O' r _ _ q => ?_⟩
  subst q
  cases r
  rfl
/-! ### known values -/
section
variable {S : Sto} {p : Addr} {ds : List D} {k : List D → (Sto → Prop) → Prop}
theorem res_i {i : Int} : res S (.int i) = .int i := rfl
theorem res_b {i : Bool} : res S (.bl i) = .bl i := rfl
theorem res_s {i : Str} : res S (.str i) = .str i := rfl
theorem res_n : res S .non = .non := rfl
theorem res_t {i : List D} : res S (.tup i) = .tup i := rfl
theorem res_l {i : List D} : res S (.lst i) = .lst i := rfl
theorem res_c {i : List Int} : res S (.scr i) = .scr i := rfl
theorem res_ob {c : String} {i : List D} : res S (.obj c i) = .obj c i := rfl
theorem res_dc : res S .dct = .dct := rfl
theorem res_sup : res (sup S p (.lst ds)) (.ref p) = .lst ds := by unfold res; simp only [sup_same]
theorem res_of (h : S p = some (.lst ds)) : res S (.ref p) = .lst ds := by unfold res; simp only [h]
theorem seqD_t : seqD S (.tup ds) k = k ds fun _ => True := rfl
theorem seqD_l : seqD S (.lst ds) k = k ds fun _ => True := rfl
theorem seqD_c {i : List Int} : seqD S (.scr i) k = k (i.map .int) fun _ => True := rfl
theorem seqD_sup : seqD (sup S p (.lst ds)) (.ref p) k = k ds fun S' => S' p = some (.lst ds) := by unfold seqD; simp only [sup_same]
theorem seqD_of (h : S p = some (.lst ds)) : seqD S (.ref p) k = k ds fun S' => S' p = some (.lst ds) := by unfold seqD; simp only [h]
theorem at2_0 {a b : D} : atD [a, b] 0 = some a := rfl
theorem at2_1 {a b : D} : atD [a, b] 1 = some b := rfl
theorem at3_0 {a b c : D} : atD [a, b, c] 0 = some a := rfl
theorem at3_1 {a b c : D} : atD [a, b, c] 1 = some b := rfl
theorem at3_2 {a b c : D} : atD [a, b, c] 2 = some c := rfl
theorem ix3_0 : L2.ixN 3 0 = some 0 := rfl
theorem ix3_1 : L2.ixN 3 1 = some 1 := rfl
theorem ix3_2 : L2.ixN 3 2 = some 2 := rfl
theorem at_nat {xs : List D} {i : Nat} {d : D} (h : xs[i]? = some d) : atD xs (i : Int) = some d := L2.atI_nat h
theorem at_last {xs : List D} {d : D} (h : xs.getLast? = some d) : atD xs (-1) = some d := by
  have hne : xs ≠ [] := fun e => by rw [e] at h; cases h
  have e : xs = xs.dropLast ++ [d] := by
    rw [List.getLast?_eq_some_getLast hne] at h
    cases h
    exact (List.dropLast_concat_getLast hne).symm
  rw [e]
  exact L2.atI_last _ _
theorem ix_nat {n i : Nat} (h : i < n) : L2.ixN n (i : Int) = some i := by
  unfold L2.ixN
  rw [if_pos (by omega), if_pos (by omega)]
  rfl
theorem cut_to {xs : List D} {m : Nat} (h : m ≤ xs.length) : cutD xs none (some (m : Int)) = xs.take m := by
  unfold cutD
  rw [HT.sIx_none, HT.sIx_nat]
  have e : min m xs.length = m := by omega
  rw [e, List.drop_zero, Nat.sub_zero]
theorem cut_from {xs : List D} {m : Nat} (h : m ≤ xs.length) : cutD xs (some (m : Int)) none = xs.drop m := by
  unfold cutD
  rw [HT.sIx_none, HT.sIx_nat]
  have e : min m xs.length = m := by omega
  rw [e]
  exact List.take_of_length_le (by rw [List.length_drop]; exact Nat.le_refl _)
theorem cut_last {xs : List D} : cutD xs none (some (-1)) = xs.dropLast := by
  unfold cutD
  rw [HT.sIx_none, List.drop_zero, Nat.sub_zero, List.dropLast_eq_take]
  have e : HT.sIx xs.length xs.length (some (-1)) = ((-1 : Int) + (xs.length : Int)).toNat := by
    show (if (-1 : Int) < 0 then ((-1 : Int) + (xs.length : Int)).toNat else min (-1 : Int).toNat xs.length) = _
    exact if_pos (by decide)
  rw [e]
  congr 1
  omega
/-- turned round -/
theorem pick_rev {α : Type} (xs : List α) : pick xs none none (-1) = xs.reverse := by
  unfold pick
  have h1 : (Builtin.Slice.sliceAdjust none none (-1) (xs.length : Int)) = ((xs.length : Int) - 1, -1) := rfl
  rw [h1]
  have h2 : Builtin.Slice.slicePlaces ((xs.length : Int) - 1) (-1) (-1) = xs.length := by
    unfold Builtin.Slice.slicePlaces
    have q : ¬ ((-1 : Int) > 0) := by decide
    simp only [q, if_false]
    split
    · have : ((xs.length : Int) - 1 - -1 - 1) / (- -1) = (xs.length : Int) - 1 := by
        rw [show (- -1 : Int) = 1 by decide, Int.ediv_one]; omega
      rw [this]; omega
    · omega
  rw [h2]
  have f : ∀ k ∈ List.range xs.length, xs[((xs.length : Int) - 1 + (k : Int) * -1).toNat]? = xs.reverse[k]? := fun k hk => by
    have hk := List.mem_range.mp hk
    have e1 : ((xs.length : Int) - 1 + (k : Int) * -1).toNat = xs.length - 1 - k := by omega
    rw [e1, List.getElem?_reverse hk]
  have f2 : ∀ l : List Nat, (∀ k ∈ l, xs[((xs.length : Int) - 1 + (k : Int) * -1).toNat]? = xs.reverse[k]?) → (l.filterMap fun (k : Nat) => xs[((xs.length : Int) - 1 + (k : Int) * -1).toNat]?) = l.filterMap fun (k : Nat) => xs.reverse[k]? := fun l h => by
    induction l with
    | nil => rfl
    | cons a l ih => simp only [List.filterMap_cons, h a List.mem_cons_self, ih fun k hk => h k (List.mem_cons_of_mem _ hk)]
  show ((List.range xs.length).filterMap fun (k : Nat) => xs[((xs.length : Int) - 1 + (k : Int) * -1).toNat]?) = _
  rw [f2 _ f]
  have f3 : ∀ ys : List α, ((List.range ys.length).filterMap fun (k : Nat) => ys[k]?) = ys := fun ys => by
    induction ys with
    | nil => rfl
    | cons y ys ih =>
      rw [List.length_cons, List.range_succ_eq_map, List.filterMap_cons]
      show y :: List.filterMap _ _ = _
      rw [List.filterMap_map]
      congr 1
  have := f3 xs.reverse
  rw [List.length_reverse] at this
  exact this
theorem mulOk {k l : Nat} {x y : Int} (h : x.natAbs < 2 ^ k) (h' : y.natAbs < 2 ^ l) (hk : k ≤ 2 ^ 26) (hl : l ≤ 2 ^ 26) : IntMulOk x y := by
  have bits : ∀ {k : Nat} {x : Int}, x.natAbs < 2 ^ k → Builtin.Int.intBits x ≤ k := fun {k x} h => by
    unfold Builtin.Int.intBits
    split
    · exact Nat.zero_le _
    · rename_i hx
      have hx0 : x.natAbs ≠ 0 := by
        intro e
        apply hx
        have : x = 0 := by omega
        simp [this]
      have := (Nat.log2_lt hx0).mpr h
      omega
  have b1 := bits h
  have b2 := bits h'
  have tb : Builtin.Int.intTooBig ((Builtin.Int.intBits x : Int) + (Builtin.Int.intBits y : Int)) = false := by
    unfold Builtin.Int.intTooBig; unfold bitsLine
    exact decide_eq_false fun z => by omega
  unfold IntMulOk; rw [tb, Bool.and_false]
  exact Bool.false_ne_true
theorem res_ty {d : D} {t : String} (h : typD d = some t) : res S d = d := by cases d <;> first | rfl | cases h
end
/-! ### loops -/
theorem forL_ind {bd : D → Env → Sto → (Env → Sto → Prop) → Prop} {body : DEnd → Env → Sto → Prop} {C : Sto → Prop} {E : DEnd} (I : List D → Env → Sto → Prop) (he : ∀ ρ S, I [] ρ S → C S ∧ E.nx ρ S)
    (hs : ∀ d rest ρ S (N : Env → Sto → Prop), I (d :: rest) ρ S → (∀ ρ S, I rest ρ S → N ρ S) → C S ∧ bd d ρ S fun ρ' S' => body { nx := N, ct := N, bk := E.nx, rt := E.rt } ρ' S') : ∀ ds ρ S, I ds ρ S → forL bd body C E ds ρ S
  | [], ρ, S, h => he ρ S h
  | d :: ds, ρ, S, h => hs d ds ρ S _ h fun ρ S h => forL_ind I he hs ds ρ S h
theorem compL_ind {bd : D → Env → Sto → (Env → Sto → Prop) → Prop} {tw : Env → Sto → (Bool → Sto → Prop) → Prop} {ew : Env → Sto → QD → Prop} {B : List D → Prop} {C : Sto → Prop} {Kp : List D → Sto → Prop} {ρ : Env} (I : List D → Sto → List D → Prop) (he : ∀ S acc, I [] S acc → C S ∧ Kp acc S)
    (hs : ∀ d rest S acc (N : Sto → List D → Prop), I (d :: rest) S acc → (∀ S acc, I rest S acc → N S acc) → C S ∧ bd d ρ S fun ρ' S1 => tw ρ' S1 fun b S2 => if b = true then ew ρ' S2 fun y S3 => B acc ∧ N S3 (acc ++ [y]) else N S2 acc) : ∀ ds S acc, I ds S acc → compL bd tw ew B C Kp ρ ds S acc
  | [], S, acc, h => he S acc h
  | d :: ds, S, acc, h => hs d ds S acc _ h fun S acc h => compL_ind I he hs ds S acc h
theorem compO_ind {bd : D → Env → Sto → (Env → Sto → Prop) → Prop} {tw : Env → Sto → (Bool → Sto → Prop) → Prop} {iw : Env → Sto → List D → (List D → Sto → Prop) → Prop} {C : Sto → Prop} {Kp : List D → Sto → Prop} {ρ : Env} (I : List D → Sto → List D → Prop) (he : ∀ S acc, I [] S acc → C S ∧ Kp acc S)
    (hs : ∀ d rest S acc (N : Sto → List D → Prop), I (d :: rest) S acc → (∀ S acc, I rest S acc → N S acc) → C S ∧ bd d ρ S fun ρ' S1 => tw ρ' S1 fun b S2 => if b = true then iw ρ' S2 acc fun acc' S3 => N S3 acc' else N S2 acc) : ∀ ds S acc, I ds S acc → compO bd tw iw C Kp ρ ds S acc
  | [], S, acc, h => he S acc h
  | d :: ds, S, acc, h => hs d ds S acc _ h fun S acc h => compO_ind I he hs ds S acc h
/-- a comprehension without a test whose items are f of the walked ones -/
theorem compL_map {bd : D → Env → Sto → (Env → Sto → Prop) → Prop} {ew : Env → Sto → QD → Prop} {C : Sto → Prop} {Q : List D → Sto → Prop} {ρ : Env} {S : Sto} (f : D → D) (hC : C S) :
    ∀ (ds : List D) (acc : List D), (∀ d ∈ ds, ∀ N : QD, N (f d) S → bd d ρ S fun ρ' S1 => ew ρ' S1 N) → Q (acc ++ ds.map f) S → compL bd (fun _ S K => K true S) ew (fun _ => True) C Q ρ ds S acc
  | [], acc, h, q => ⟨hC, by rw [List.map_nil, List.append_nil] at q; exact q⟩
  | d :: ds, acc, h, q => ⟨hC, by
    have := h d List.mem_cons_self (fun y S3 => True ∧ compL bd (fun _ S K => K true S) ew (fun _ => True) C Q ρ ds S3 (acc ++ [y])) ⟨trivial, compL_map f hC ds (acc ++ [f d]) (fun d hd => h d (List.mem_cons_of_mem _ hd)) (by rw [List.append_assoc]; exact q)⟩
    simp only [if_true]
    exact this⟩
theorem compL_mapG {α : Type} {bd : D → Env → Sto → (Env → Sto → Prop) → Prop} {ew : Env → Sto → QD → Prop} {C : Sto → Prop} {Q : List D → Sto → Prop} {ρ : Env} {S : Sto} (g f : α → D) (hC : C S) :
    ∀ (l : List α) (acc : List D), (∀ a ∈ l, ∀ N : QD, N (f a) S → bd (g a) ρ S fun ρ' S1 => ew ρ' S1 N) → Q (acc ++ l.map f) S → compL bd (fun _ S K => K true S) ew (fun _ => True) C Q ρ (l.map g) S acc
  | [], acc, h, q => ⟨hC, by rw [List.map_nil, List.append_nil] at q; exact q⟩
  | a :: l, acc, h, q => ⟨hC, by
    have := h a List.mem_cons_self (fun y S3 => True ∧ compL bd (fun _ S K => K true S) ew (fun _ => True) C Q ρ (l.map g) S3 (acc ++ [y])) ⟨trivial, compL_mapG g f hC l (acc ++ [f a]) (fun d hd => h d (List.mem_cons_of_mem _ hd)) (by rw [List.append_assoc]; exact q)⟩
    simp only [if_true]
    exact this⟩
theorem zipD_map {α β : Type} (g : α → D) (h : β → D) : ∀ (l : List α) (m : List β), zipD (l.map g) (m.map h) = (l.zip m).map fun x => .tup [g x.1, h x.2]
  | [], m => by simp [zipD]
  | _ :: _, [] => by simp [zipD]
  | a :: l, b :: m => by
    have := zipD_map g h l m
    unfold zipD at this ⊢
    simp only [List.map_cons, List.zipWith_cons_cons, List.zip_cons_cons, this]
/-- numbered from n on -/
def num {α : Type} : Nat → List α → List (Nat × α)
  | _, [] => []
  | n, x :: r => (n, x) :: num (n + 1) r
theorem enumD_map {α : Type} (g : α → D) : ∀ (n : Nat) (l : List α), enumD n (l.map g) = (num n l).map fun x => .tup [.int x.1, g x.2]
  | _, [] => rfl
  | n, a :: l => by rw [List.map_cons, enumD, num, List.map_cons, enumD_map g (n + 1) l]
end DL

/-! DL16: == of trees of ints. -/
namespace DL
open PySem
/-- trees of ints and None, n deep at most -/
def IT : Nat → D → Prop
  | _, .int _ => True
  | _, .non => True
  | n + 1, .tup ds => ∀ d ∈ ds, IT n d
  | n + 1, .lst ds => ∀ d ∈ ds, IT n d
  | _, _ => False
theorem it_py : ∀ (n : Nat) (d : D), IT n d → ∃ p, d.py = some p ∧ p.canLay0 = true ∧ p.depth ≤ n
  | n, .int i, _ => ⟨.int i, rfl, rfl, Nat.zero_le _⟩
  | n, .non, _ => ⟨.none, rfl, rfl, Nat.zero_le _⟩
  | n + 1, .tup ds, h => by
    have all : ∀ ds : List D, (∀ d ∈ ds, IT n d) → ∃ ps, D.py.pys ds = some ps ∧ PyData.canLayAll0 ps = true ∧ PyData.depthAll ps ≤ n := by
      intro ds
      induction ds with
      | nil => intro _; exact ⟨[], rfl, rfl, Nat.zero_le _⟩
      | cons d ds ih =>
        intro h
        obtain ⟨p, h1, h2, h3⟩ := it_py n d (h d List.mem_cons_self)
        obtain ⟨ps, h4, h5, h6⟩ := ih fun d hd => h d (List.mem_cons_of_mem _ hd)
        refine ⟨p :: ps, by simp only [D.py.pys, h1, h4], ?_, ?_⟩
        · simp only [PyData.canLayAll0, h2, h5, Bool.and_self]
        · simp only [PyData.depthAll]; omega
    obtain ⟨ps, h1, h2, h3⟩ := all ds h
    refine ⟨.tuple ps, by simp only [D.py, h1, Option.map_some], by simp only [PyData.canLay0, h2], ?_⟩
    simp only [PyData.depth]; omega
  | n + 1, .lst ds, h => by
    have all : ∀ ds : List D, (∀ d ∈ ds, IT n d) → ∃ ps, D.py.pys ds = some ps ∧ PyData.canLayAll0 ps = true ∧ PyData.depthAll ps ≤ n := by
      intro ds
      induction ds with
      | nil => intro _; exact ⟨[], rfl, rfl, Nat.zero_le _⟩
      | cons d ds ih =>
        intro h
        obtain ⟨p, h1, h2, h3⟩ := it_py n d (h d List.mem_cons_self)
        obtain ⟨ps, h4, h5, h6⟩ := ih fun d hd => h d (List.mem_cons_of_mem _ hd)
        refine ⟨p :: ps, by simp only [D.py.pys, h1, h4], ?_, ?_⟩
        · simp only [PyData.canLayAll0, h2, h5, Bool.and_self]
        · simp only [PyData.depthAll]; omega
    obtain ⟨ps, h1, h2, h3⟩ := all ds h
    refine ⟨.list ps, by simp only [D.py, h1, Option.map_some], by simp only [PyData.canLay0, h2], ?_⟩
    simp only [PyData.depth]; omega
  | 0, .tup _, h => h.elim
  | 0, .lst _, h => h.elim
  | n, .bl _, h => by cases n <;> exact h.elim
  | n, .str _, h => by cases n <;> exact h.elim
  | n, .ref _, h => by cases n <;> exact h.elim
  | n, .ty _, h => by cases n <;> exact h.elim
  | n, .scr _, h => by cases n <;> exact h.elim
  | n, .obj _ _, h => by cases n <;> exact h.elim
  | n, .dct, h => by cases n <;> exact h.elim
theorem it_eqv : ∀ (n m : Nat) (x y : D) (p q : PyData), IT n x → IT m y → x.py = some p → y.py = some q → (PyData.eqv p q = true ↔ x = y) := by
  intro n
  induction n with
  | zero =>
    intro m x y p q hx hy ep eq
    cases x <;> try exact hx.elim
    all_goals
      cases ep
      cases y <;> try (cases m <;> exact hy.elim)
      all_goals (try (cases eq; simp [PyData.eqv]))
      all_goals
        simp only [D.py] at eq
        revert eq
        cases D.py.pys _ <;> intro eq
        · cases eq
        · cases eq; simp [PyData.eqv]
  | succ n ih =>
    intro m x y p q hx hy ep eq
    have all : ∀ (m : Nat) (xs ys : List D) (ps qs : List PyData), (∀ d ∈ xs, IT n d) → (∀ d ∈ ys, IT m d) → D.py.pys xs = some ps → D.py.pys ys = some qs → (PyData.eqvAll ps qs = true ↔ xs = ys) := by
      intro m xs
      induction xs with
      | nil =>
        intro ys ps qs _ _ e1 e2
        cases e1
        cases ys with
        | nil => cases e2; simp [PyData.eqvAll]
        | cons y ys =>
          simp only [D.py.pys] at e2
          split at e2
          · cases e2; simp [PyData.eqvAll]
          · cases e2
      | cons x xs ihx =>
        intro ys ps qs h1 h2 e1 e2
        simp only [D.py.pys] at e1
        split at e1
        · rename_i p ps' ep eps
          cases e1
          cases ys with
          | nil => cases e2; simp [PyData.eqvAll]
          | cons y ys =>
            simp only [D.py.pys] at e2
            split at e2
            · rename_i q qs' eq eqs
              cases e2
              have a := ih m x y p q (h1 x List.mem_cons_self) (h2 y List.mem_cons_self) ep eq
              have b := ihx ys ps' qs' (fun d hd => h1 d (List.mem_cons_of_mem _ hd)) (fun d hd => h2 d (List.mem_cons_of_mem _ hd)) eps eqs
              simp only [PyData.eqvAll, Bool.and_eq_true, a, b, List.cons.injEq]
            · cases e2
        · cases e1
    cases x <;> try exact hx.elim
    case int | non =>
      cases ep
      cases y <;> try (cases m <;> exact hy.elim)
      all_goals (try (cases eq; simp [PyData.eqv]))
      all_goals
        simp only [D.py] at eq
        revert eq
        cases D.py.pys _ <;> intro eq
        · cases eq
        · cases eq; simp [PyData.eqv]
    case tup xs =>
      simp only [D.py] at ep
      cases e1 : D.py.pys xs with
      | none => rw [e1] at ep; cases ep
      | some ps =>
        rw [e1] at ep; cases ep
        cases y <;> try (cases m <;> exact hy.elim)
        case tup ys =>
          simp only [D.py] at eq
          cases e2 : D.py.pys ys with
          | none => rw [e2] at eq; cases eq
          | some qs =>
            rw [e2] at eq; cases eq
            cases m with
            | zero => exact hy.elim
            | succ m =>
              have := all m xs ys ps qs hx hy e1 e2
              simp only [PyData.eqv, this, D.tup.injEq]
        case lst ys =>
          simp only [D.py] at eq
          cases e2 : D.py.pys ys with
          | none => rw [e2] at eq; cases eq
          | some qs => rw [e2] at eq; cases eq; simp [PyData.eqv]
        all_goals (cases eq; simp [PyData.eqv])
    case lst xs =>
      simp only [D.py] at ep
      cases e1 : D.py.pys xs with
      | none => rw [e1] at ep; cases ep
      | some ps =>
        rw [e1] at ep; cases ep
        cases y <;> try (cases m <;> exact hy.elim)
        case lst ys =>
          simp only [D.py] at eq
          cases e2 : D.py.pys ys with
          | none => rw [e2] at eq; cases eq
          | some qs =>
            rw [e2] at eq; cases eq
            cases m with
            | zero => exact hy.elim
            | succ m =>
              have := all m xs ys ps qs hx hy e1 e2
              simp only [PyData.eqv, this, D.lst.injEq]
        case tup ys =>
          simp only [D.py] at eq
          cases e2 : D.py.pys ys with
          | none => rw [e2] at eq; cases eq
          | some qs => rw [e2] at eq; cases eq; simp [PyData.eqv]
        all_goals (cases eq; simp [PyData.eqv])
/-- == of two trees of ints -/
theorem eqD_it {n m : Nat} {x y : D} {k : Bool → Prop} (hx : IT n x) (hy : IT m y) (hn : n ≤ 64) (hm : m ≤ 64) (h1 : x = y → k true) (h2 : x ≠ y → k false) : eqD x y k := by
  obtain ⟨p, ep, lp, dp⟩ := it_py n x hx
  obtain ⟨q, eq, lq, dq⟩ := it_py m y hy
  refine ⟨p, q, ep, eq, by simp only [SeqAt.shaped, lp, Bool.true_and, decide_eq_true_eq]; omega, by simp only [SeqAt.shaped, lq, Bool.true_and, decide_eq_true_eq]; omega, ?_⟩
  have e := it_eqv n m x y p q hx hy ep eq
  by_cases z : x = y
  · rw [e.mpr z]; exact h1 z
  · have : PyData.eqv p q = false := by
      cases w : PyData.eqv p q with
      | true => exact absurd (e.mp w) z
      | false => rfl
    rw [this]; exact h2 z
/-- data that can be laid, n deep at most -/
def Sh (n : Nat) (d : D) : Prop := ∃ p, d.py = some p ∧ p.canLay0 = true ∧ p.depth ≤ n
theorem sh_it {n : Nat} {d : D} (h : IT n d) : Sh n d := it_py n d h
theorem sh_str {n : Nat} {x : Str} (h : PyData.strOk x = true) : Sh n (.str x) := ⟨.str x, rfl, by simp only [PyData.canLay0, h], Nat.zero_le _⟩
theorem sh_bl {n : Nat} {b : Bool} : Sh n (.bl b) := ⟨.bool b, rfl, rfl, Nat.zero_le _⟩
theorem sh_all {n : Nat} : ∀ ds : List D, (∀ d ∈ ds, Sh n d) → ∃ ps, D.py.pys ds = some ps ∧ PyData.canLayAll0 ps = true ∧ PyData.depthAll ps ≤ n
  | [], _ => ⟨[], rfl, rfl, Nat.zero_le _⟩
  | d :: ds, h => by
    obtain ⟨p, h1, h2, h3⟩ := h d List.mem_cons_self
    obtain ⟨ps, h4, h5, h6⟩ := sh_all ds fun d hd => h d (List.mem_cons_of_mem _ hd)
    refine ⟨p :: ps, by simp only [D.py.pys, h1, h4], ?_, ?_⟩
    · simp only [PyData.canLayAll0, h2, h5, Bool.and_self]
    · simp only [PyData.depthAll]; omega
theorem sh_lst {n : Nat} {ds : List D} (h : ∀ d ∈ ds, Sh n d) : Sh (n + 1) (.lst ds) := by
  obtain ⟨ps, h1, h2, h3⟩ := sh_all ds h
  refine ⟨.list ps, by simp only [D.py, h1, Option.map_some], by simp only [PyData.canLay0, h2], ?_⟩
  simp only [PyData.depth]; omega
theorem sh_tup {n : Nat} {ds : List D} (h : ∀ d ∈ ds, Sh n d) : Sh (n + 1) (.tup ds) := by
  obtain ⟨ps, h1, h2, h3⟩ := sh_all ds h
  refine ⟨.tuple ps, by simp only [D.py, h1, Option.map_some], by simp only [PyData.canLay0, h2], ?_⟩
  simp only [PyData.depth]; omega
theorem eqD_sh {n : Nat} {x : D} {k : Bool → Prop} (h : Sh n x) (hn : n ≤ 64) (q : k true) : eqD x x k := by
  obtain ⟨p, h1, h2, h3⟩ := h
  have s : SeqAt.shaped p = true := by simp only [SeqAt.shaped, h2, Bool.true_and, decide_eq_true_eq]; omega
  exact ⟨p, p, h1, h1, s, s, by rw [SeqAt.eqv_refl p h2]; exact q⟩
end DL

/-! DL18: the law's end where divisions of great integers have room: the base heap is one without a seer. -/
namespace DL
open PySem PySem.Spec PyProof.Rows L2
/-! ### the head's run looked at piece by piece -/
theorem map3 {σ α β γ : Type _} {o : Option σ} {f : σ → α} {g : σ → β} {k : σ → γ} {x : α} {y : β} {z : γ} (a : o.map f = some x) (b : o.map g = some y) (c : o.map k = some z) : o.map (fun s => (f s, g s, k s)) = some (x, y, z) := by
  cases o with
  | none => cases a
  | some s =>
    have a := Option.some.inj a
    have b := Option.some.inj b
    have c := Option.some.inj c
    show some (f s, g s, k s) = _
    rw [a, b, c]
/-- the end of a law whose head imports nothing: the promise over bases in which there is no seer -/
theorem walk_far {law' : PySem.W.OpenLaw} {most k : Nat} {view' : Program} {out : List Str} {XQ : (Str → Option Value) → Heap → Prop} {YQ : World → Heap → Prop} {rec' : DefRec} {name : Str}
    (hm : law'.most = some most) (hs : most ≤ sizeLine) (hd : rec'.params.defaults = []) (room : Room k callerA) (hi : importsNone view' = true)
    (give : ∀ (w : World) (mg : Str → Option Value) (fa : Addr) (h : Heap), YQ w h → h.Ns mainGlobals mg → h.NoSeer → mg rec'.name = some (.ref fa) →
      ∃ (K : PySem.W.Frag) (fd : FuncData) (F : FSp) (L : Lnk), K.In h ∧ (∀ (s : Shared) (v : Value), BindsTo s fd ⟨[v], []⟩ [(name, v)]) ∧ (∀ ns : List Int, F [.scr ns] (fun _ => none) xNo fun d _ => d = .bl true) ∧
        ∀ base : Heap, K.In base → FnOk law'.prog w K mg base CX0 k fa fd [name] (fun vs H Q _ => spOf L K F vs H Q E0)) (h63 : most ≤ 63) :
    PySem.W.WalkO view' out XQ YQ law'.row.toRowW rec' [] (fun f vs => PySem.call f vs) :=
  Att.attach_call hm hd fun w _ _ mg _ fa _ _ _ _ a _ ns G Y _ _ _ hmg hobj hints hlen hg =>
    let ⟨_, _, _, _, KX, hb, hsp, hF⟩ := give w mg fa _ Y G.T.g (G.T.seer hi) hmg
    law_call KX G.T.g G.T.b G.T.builtins G.T.nolimit hg hobj hints (Nat.le_trans hlen hs) room (fun b kb _ => hF b kb) hb
      (fun H hO hS => law_of (Nat.le_trans hlen h63) hO hS (hsp ns)) fun _ _ _ z => z
end DL

/-! M1: sums; polys as lists of ints from the lowest on, without a nought on top. -/
namespace PM
def sumN : Nat → (Nat → Int) → Int
  | 0, _ => 0
  | n + 1, f => sumN n f + f n
theorem sumN_congr {f g : Nat → Int} : ∀ {n : Nat}, (∀ i, i < n → f i = g i) → sumN n f = sumN n g
  | 0, _ => rfl
  | n + 1, h => by rw [sumN, sumN, sumN_congr (n := n) fun i hi => h i (by omega), h n (by omega)]
theorem sumN_zero {f : Nat → Int} : ∀ {n : Nat}, (∀ i, i < n → f i = 0) → sumN n f = 0
  | 0, _ => rfl
  | n + 1, h => by rw [sumN, sumN_zero (n := n) fun i hi => h i (by omega), h n (by omega)]; rfl
theorem sumN_add (f g : Nat → Int) : ∀ n : Nat, sumN n (fun i => f i + g i) = sumN n f + sumN n g
  | 0 => rfl
  | n + 1 => by rw [sumN, sumN, sumN, sumN_add f g n]; omega
theorem sumN_mul (k : Int) (f : Nat → Int) : ∀ n : Nat, sumN n (fun i => k * f i) = k * sumN n f
  | 0 => by simp [sumN]
  | n + 1 => by rw [sumN, sumN, sumN_mul k f n, Int.mul_add]
theorem sumN_head (f : Nat → Int) : ∀ n : Nat, sumN (n + 1) f = f 0 + sumN n fun i => f (i + 1)
  | 0 => by simp [sumN]
  | n + 1 => by
    have := sumN_head f n
    rw [sumN, this, sumN]
    omega
theorem sumN_one {f : Nat → Int} {n k : Nat} (hk : k < n) (h : ∀ i, i < n → i ≠ k → f i = 0) : sumN n f = f k := by
  induction n with
  | zero => omega
  | succ n ih =>
    rw [sumN]
    by_cases e : k = n
    · subst e
      rw [sumN_zero fun i hi => h i (by omega) (by omega)]
      omega
    · rw [ih (by omega) fun i hi ne => h i (by omega) ne, h n (by omega) (by omega)]
      omega
theorem sumN_more {f : Nat → Int} {n : Nat} : ∀ {m : Nat}, n ≤ m → (∀ i, n ≤ i → i < m → f i = 0) → sumN m f = sumN n f
  | 0, h, _ => by have : n = 0 := by omega
                  subst this; rfl
  | m + 1, h, z => by
    by_cases e : n = m + 1
    · subst e; rfl
    · rw [sumN, sumN_more (m := m) (by omega) fun i h1 h2 => z i h1 (by omega), z m (by omega) (by omega)]
      omega
theorem sumN_rev (f : Nat → Int) : ∀ n : Nat, sumN n (fun i => f (n - 1 - i)) = sumN n f
  | 0 => rfl
  | n + 1 => by
    rw [sumN_head, sumN]
    have := sumN_rev f n
    rw [← this]
    have e : sumN n (fun i => f (n + 1 - 1 - (i + 1))) = sumN n fun i => f (n - 1 - i) := sumN_congr fun i hi => by
      congr 1; omega
    rw [e]
    have e2 : n + 1 - 1 - 0 = n := by omega
    rw [e2]
    omega
/-- the coefficient at a place -/
def cf (p : List Int) (i : Nat) : Int := p.getD i 0
theorem cf_nil (i : Nat) : cf [] i = 0 := rfl
theorem cf_ge {p : List Int} {i : Nat} (h : p.length ≤ i) : cf p i = 0 := by
  unfold cf
  rw [List.getD_eq_getElem?_getD, List.getElem?_eq_none h]; rfl
theorem cf_lt {p : List Int} {i : Nat} (h : i < p.length) : cf p i = p[i] := by
  unfold cf
  rw [List.getD_eq_getElem?_getD, List.getElem?_eq_getElem h]; rfl
theorem cf_cons_zero (c : Int) (p : List Int) : cf (c :: p) 0 = c := rfl
theorem cf_cons_succ (c : Int) (p : List Int) (i : Nat) : cf (c :: p) (i + 1) = cf p i := rfl
theorem cf_map_range (n : Nat) (f : Nat → Int) (i : Nat) : cf ((List.range n).map f) i = if i < n then f i else 0 := by
  by_cases h : i < n
  · rw [if_pos h, cf_lt (by simpa using h)]; simp
  · rw [if_neg h, cf_ge (by simpa using h)]
theorem cf_map (f : Int → Int) (h0 : f 0 = 0) (p : List Int) (i : Nat) : cf (p.map f) i = f (cf p i) := by
  by_cases h : i < p.length
  · rw [cf_lt (by simpa using h), cf_lt h]; simp
  · rw [cf_ge (by simpa using h), cf_ge (by omega), h0]
/-- no nought on top -/
def Nrm (p : List Int) : Prop := ∀ c, p.getLast? = some c → c ≠ 0
theorem nrm_nil : Nrm [] := fun _ h => nomatch h
theorem nrm_top {p : List Int} (h : Nrm p) (hp : p ≠ []) : cf p (p.length - 1) ≠ 0 := by
  have hl : 0 < p.length := List.length_pos_iff.mpr hp
  rw [cf_lt (by omega)]
  refine h _ ?_
  rw [List.getLast?_eq_getElem?]
  exact List.getElem?_eq_getElem _
theorem nrm_of_top {p : List Int} (h : p ≠ [] → cf p (p.length - 1) ≠ 0) : Nrm p := fun c hc => by
  have hp : p ≠ [] := fun e => by rw [e] at hc; cases hc
  have hl : 0 < p.length := List.length_pos_iff.mpr hp
  rw [List.getLast?_eq_getElem?, List.getElem?_eq_getElem (by omega)] at hc
  cases hc
  have := h hp
  rwa [cf_lt (by omega)] at this
theorem ext_len {p q : List Int} (hp : Nrm p) (h : ∀ i, cf p i = cf q i) : p.length ≤ q.length := by
  by_cases e : p = []
  · rw [e]; exact Nat.zero_le _
  · have hl : 0 < p.length := List.length_pos_iff.mpr e
    have := nrm_top hp e
    rw [h] at this
    by_cases l : p.length ≤ q.length
    · exact l
    · exact absurd (cf_ge (by omega)) this
theorem ext {p q : List Int} (hp : Nrm p) (hq : Nrm q) (h : ∀ i, cf p i = cf q i) : p = q := by
  have l1 := ext_len hp h
  have l2 := ext_len hq fun i => (h i).symm
  refine List.ext_getElem (by omega) fun i h1 h2 => ?_
  have := h i
  rwa [cf_lt h1, cf_lt h2] at this
/-- without the noughts on top -/
def trim (p : List Int) : List Int := (p.reverse.dropWhile (· == 0)).reverse
theorem trim_nil : trim [] = [] := rfl
theorem trim_snoc (p : List Int) (c : Int) : trim (p ++ [c]) = if c = 0 then trim p else p ++ [c] := by
  unfold trim
  rw [List.reverse_append, List.reverse_singleton, List.singleton_append, List.dropWhile_cons]
  by_cases h : c = 0
  · rw [if_pos h, if_pos (by simpa using h)]
  · rw [if_neg h, if_neg (by simpa using h)]
    simp
theorem snoc_ind {P : List Int → Prop} (h0 : P []) (h1 : ∀ p c, P p → P (p ++ [c])) (p : List Int) : P p := by
  have : ∀ n : Nat, ∀ p : List Int, p.length = n → P p := by
    intro n
    induction n with
    | zero => intro p e; rw [List.eq_nil_of_length_eq_zero e]; exact h0
    | succ n ih =>
      intro p e
      have hp : p ≠ [] := fun z => by rw [z] at e; cases e
      rw [← List.dropLast_concat_getLast hp]
      exact h1 _ _ (ih _ (by rw [List.length_dropLast]; omega))
  exact this _ p rfl
theorem nrm_trim (p : List Int) : Nrm (trim p) := by
  refine snoc_ind (P := fun p => Nrm (trim p)) (fun c h => nomatch h) (fun p c ih => ?_) p
  rw [trim_snoc]
  by_cases h : c = 0
  · rw [if_pos h]; exact ih
  · rw [if_neg h]
    intro d hd
    rw [List.getLast?_append, List.getLast?_singleton] at hd
    simp at hd
    rw [← hd]; exact h
theorem cf_append_zero (p : List Int) (i : Nat) : cf (p ++ [0]) i = cf p i := by
  by_cases h : i < p.length
  · rw [cf_lt (by simp; omega), cf_lt h, List.getElem_append_left h]
  · by_cases e : i = p.length
    · subst e
      rw [cf_lt (by simp), cf_ge (Nat.le_refl _)]
      simp
    · rw [cf_ge (by simp; omega), cf_ge (by omega)]
theorem cf_trim (p : List Int) (i : Nat) : cf (trim p) i = cf p i := by
  refine snoc_ind (P := fun p => cf (trim p) i = cf p i) rfl (fun p c ih => ?_) p
  rw [trim_snoc]
  by_cases h : c = 0
  · rw [if_pos h, ih, h, cf_append_zero]
  · rw [if_neg h]
theorem trim_of_nrm {p : List Int} (h : Nrm p) : trim p = p := ext (nrm_trim p) h (cf_trim p)
theorem trim_len (p : List Int) : (trim p).length ≤ p.length := by
  refine snoc_ind (P := fun p => (trim p).length ≤ p.length) (Nat.le_refl _) (fun p c ih => ?_) p
  rw [trim_snoc]
  split
  · rw [List.length_append]; omega
  · exact Nat.le_refl _
theorem trim_mem {p : List Int} {c : Int} (h : c ∈ trim p) : c ∈ p := by
  unfold trim at h
  rw [List.mem_reverse] at h
  exact List.mem_reverse.mp ((List.dropWhile_sublist _).subset h)
/-! ### sums, products -/
def pplus (p q : List Int) : List Int := trim ((List.range (max p.length q.length)).map fun i => cf p i + cf q i)
theorem nrm_pplus (p q : List Int) : Nrm (pplus p q) := nrm_trim _
theorem cf_pplus (p q : List Int) (i : Nat) : cf (pplus p q) i = cf p i + cf q i := by
  unfold pplus
  rw [cf_trim, cf_map_range]
  split
  · rfl
  · rw [cf_ge (p := p) (by omega), cf_ge (p := q) (by omega)]; rfl
theorem pplus_len (p q : List Int) : (pplus p q).length ≤ max p.length q.length := by
  refine Nat.le_trans (trim_len _) ?_
  simp
def conv (p q : List Int) (n : Nat) : Int := sumN (n + 1) fun i => cf p i * cf q (n - i)
def pmul (p q : List Int) : List Int := if p = [] ∨ q = [] then [] else (List.range (p.length + q.length - 1)).map (conv p q)
theorem conv_ge {p q : List Int} {n : Nat} (h : p.length + q.length ≤ n + 1) : conv p q n = 0 := sumN_zero fun i hi => by
  by_cases l : p.length ≤ i
  · rw [cf_ge l, Int.zero_mul]
  · rw [cf_ge (p := q) (by omega), Int.mul_zero]
theorem cf_pmul (p q : List Int) (n : Nat) : cf (pmul p q) n = conv p q n := by
  unfold pmul
  split
  · rename_i h
    rw [cf_nil]
    rcases h with h | h
    · subst h; exact (sumN_zero fun i _ => by rw [cf_nil, Int.zero_mul]).symm
    · subst h; exact (sumN_zero fun i _ => by rw [cf_nil, Int.mul_zero]).symm
  · rename_i h
    have h1 : 0 < p.length := List.length_pos_iff.mpr fun e => h (.inl e)
    rw [cf_map_range]
    split
    · rfl
    · rw [conv_ge (by omega)]
theorem nrm_pmul {p q : List Int} (hp : Nrm p) (hq : Nrm q) : Nrm (pmul p q) := by
  by_cases h : p = [] ∨ q = []
  · unfold pmul; rw [if_pos h]; exact nrm_nil
  · have n1 : p ≠ [] := fun e => h (.inl e)
    have n2 : q ≠ [] := fun e => h (.inr e)
    have l1 : 0 < p.length := List.length_pos_iff.mpr n1
    have l2 : 0 < q.length := List.length_pos_iff.mpr n2
    have hl : (pmul p q).length = p.length + q.length - 1 := by unfold pmul; rw [if_neg h]; simp
    refine nrm_of_top fun _ => ?_
    rw [hl, cf_pmul]
    unfold conv
    rw [sumN_one (k := p.length - 1) (by omega) fun i hi ne => ?_]
    · have e : p.length + q.length - 1 - 1 - (p.length - 1) = q.length - 1 := by omega
      rw [e]
      exact Int.mul_ne_zero (nrm_top hp n1) (nrm_top hq n2)
    · by_cases l : p.length ≤ i
      · rw [cf_ge l, Int.zero_mul]
      · rw [cf_ge (p := q) (by omega), Int.mul_zero]
theorem pmul_len (p q : List Int) : (pmul p q).length ≤ p.length + q.length := by
  unfold pmul
  split
  · exact Nat.zero_le _
  · simp
theorem pmul_plus {p q r : List Int} (hp : Nrm p) : pmul p (pplus q r) = pplus (pmul p q) (pmul p r) :=
  ext (nrm_pmul hp (nrm_pplus q r)) (nrm_pplus _ _) fun n => by
    rw [cf_pplus, cf_pmul, cf_pmul, cf_pmul]
    unfold conv
    rw [← sumN_add]
    exact sumN_congr fun i _ => by rw [cf_pplus, Int.mul_add]
/-- led to its slope -/
def pder (p : List Int) : List Int := (List.range (p.length - 1)).map fun (i : Nat) => ((i : Int) + 1) * cf p (i + 1)
theorem cf_pder (p : List Int) (i : Nat) : cf (pder p) i = ((i : Int) + 1) * cf p (i + 1) := by
  unfold pder
  rw [cf_map_range]
  split
  · rfl
  · rw [cf_ge (p := p) (by omega), Int.mul_zero]
theorem nrm_pder {p : List Int} (h : Nrm p) : Nrm (pder p) := by
  refine nrm_of_top fun ne => ?_
  have hl : (pder p).length = p.length - 1 := by unfold pder; simp
  have l1 : 0 < (pder p).length := List.length_pos_iff.mpr ne
  rw [cf_pder, hl]
  have hp : p ≠ [] := fun e => by subst e; exact ne rfl
  have e : p.length - 1 - 1 + 1 = p.length - 1 := by omega
  rw [e]
  exact Int.mul_ne_zero (by omega) (nrm_top h hp)
theorem pder_mul {p q : List Int} (hp : Nrm p) (hq : Nrm q) : pder (pmul p q) = pplus (pmul (pder p) q) (pmul p (pder q)) :=
  ext (nrm_pder (nrm_pmul hp hq)) (nrm_pplus _ _) fun n => by
    rw [cf_pder, cf_pmul, cf_pplus, cf_pmul, cf_pmul]
    unfold conv
    rw [← sumN_mul]
    have e1 : sumN (n + 1) (fun i => cf (pder p) i * cf q (n - i)) = sumN (n + 1 + 1) fun i => (i : Int) * (cf p i * cf q (n + 1 - i)) := by
      conv => rhs; rw [sumN_head]
      simp only [Int.natCast_zero, Int.zero_mul, Int.zero_add]
      refine sumN_congr fun i hi => ?_
      rw [cf_pder]
      have : n + 1 - (i + 1) = n - i := by omega
      rw [this, Int.natCast_add, Int.mul_assoc]
      rfl
    have e2 : sumN (n + 1) (fun i => cf p i * cf (pder q) (n - i)) = sumN (n + 1 + 1) fun i => ((n + 1 - i : Nat) : Int) * (cf p i * cf q (n + 1 - i)) := by
      conv => rhs; rw [sumN]
      simp only [Nat.sub_self, Int.natCast_zero, Int.zero_mul, Int.add_zero]
      refine sumN_congr fun i hi => ?_
      rw [cf_pder]
      have h1 : n + 1 - i = n - i + 1 := by omega
      rw [h1, Int.natCast_add]
      rw [← Int.mul_assoc, Int.mul_comm (cf p i), Int.mul_assoc]
      rfl
    rw [e1, e2, ← sumN_add]
    refine sumN_congr fun i hi => ?_
    rw [← Int.add_mul]
    congr 1
    omega
/-! ### by a number, moved, lowest -/
def pby (k : Int) (p : List Int) : List Int := if k = 0 then [] else p.map (k * ·)
def pone (c : Int) : List Int := trim [c]
def pmov (m : Int) : List Int → List Int
  | [] => []
  | c :: p => pplus (pmul (pmov m p) (trim [m, 1])) (trim [c])
theorem nrm_pmov (m : Int) (p : List Int) : Nrm (pmov m p) := by
  cases p with
  | nil => exact nrm_nil
  | cons c p => exact nrm_pplus _ _
def pcon (p : List Int) : Nat := p.foldl (fun g c => Int.gcd (g : Int) c) 0
def plow (p : List Int) : List Int := if p = [] then [] else p.map fun c => c.fdiv (if cf p (p.length - 1) > 0 then (pcon p : Int) else 0 - (pcon p : Int))
theorem pcon_dvd (p : List Int) : ∀ (g : Nat), ((p.foldl (fun g c => Int.gcd (g : Int) c) g : Nat) : Int) ∣ g ∧ ∀ c ∈ p, ((p.foldl (fun g c => Int.gcd (g : Int) c) g : Nat) : Int) ∣ c := by
  induction p with
  | nil => intro g; exact ⟨Int.dvd_refl _, fun _ h => nomatch h⟩
  | cons c p ih =>
    intro g
    obtain ⟨h1, h2⟩ := ih (Int.gcd (g : Int) c)
    refine ⟨Int.dvd_trans h1 (Int.gcd_dvd_left ..), fun d hd => ?_⟩
    rcases List.mem_cons.mp hd with e | e
    · rw [e]; exact Int.dvd_trans h1 (Int.gcd_dvd_right ..)
    · exact h2 d e
theorem pcon_zero {p : List Int} (h : pcon p = 0) : ∀ c ∈ p, c = 0 := fun c hc => by
  have := (pcon_dvd p 0).2 c hc
  unfold pcon at h
  rw [h] at this
  exact Int.zero_dvd.mp this
theorem pcon_le {p : List Int} {c : Int} (hc : c ∈ p) (h : c ≠ 0) : (pcon p) ≤ c.natAbs := by
  have := (pcon_dvd p 0).2 c hc
  exact Int.natAbs_dvd_natAbs.mpr this |> fun d => by
    have h2 : c.natAbs ≠ 0 := by omega
    have := Nat.le_of_dvd (by omega) d
    simpa [pcon] using this
end PM

/-! M2: values of polys at broken numbers; bounds. -/
namespace PM
/-! ### raw sums and products; the value -/
def padd : List Int → List Int → List Int
  | [], q => q
  | p, [] => p
  | a :: p, b :: q => (a + b) :: padd p q
def rmul : List Int → List Int → List Int
  | [], _ => []
  | c :: p, q => padd (q.map (c * ·)) (0 :: rmul p q)
def pe : List Int → Rat → Rat
  | [], _ => 0
  | c :: p, x => (c : Rat) + x * pe p x
theorem pe_nil (x : Rat) : pe [] x = 0 := rfl
theorem pe_cons (c : Int) (p : List Int) (x : Rat) : pe (c :: p) x = (c : Rat) + x * pe p x := rfl
theorem cf_padd : ∀ (p q : List Int) (i : Nat), cf (padd p q) i = cf p i + cf q i
  | [], q, i => by rw [padd, cf_nil, Int.zero_add]
  | a :: p, [], i => by rw [padd, cf_nil, Int.add_zero]; intro h; cases h
  | a :: p, b :: q, 0 => rfl
  | a :: p, b :: q, i + 1 => by rw [padd, cf_cons_succ, cf_cons_succ, cf_cons_succ, cf_padd p q i]
theorem pe_padd (x : Rat) : ∀ (p q : List Int), pe (padd p q) x = pe p x + pe q x
  | [], q => by rw [padd, pe_nil]; grind
  | a :: p, [] => by rw [padd, pe_nil]; grind; intro h; cases h
  | a :: p, b :: q => by rw [padd, pe_cons, pe_cons, pe_cons, pe_padd x p q, Rat.intCast_add]; grind
theorem pe_map (x : Rat) (k : Int) : ∀ (p : List Int), pe (p.map (k * ·)) x = (k : Rat) * pe p x
  | [] => by rw [List.map_nil, pe_nil]; grind
  | c :: p => by rw [List.map_cons, pe_cons, pe_cons, pe_map x k p, Rat.intCast_mul]; grind
theorem pe_rmul (x : Rat) (q : List Int) : ∀ (p : List Int), pe (rmul p q) x = pe p x * pe q x
  | [] => by rw [rmul, pe_nil]; grind
  | c :: p => by
    rw [rmul, pe_padd, pe_map, pe_cons, pe_rmul x q p, pe_cons, Rat.intCast_zero]
    grind
theorem cf_rmul (q : List Int) : ∀ (p : List Int) (n : Nat), cf (rmul p q) n = conv p q n
  | [], n => by
    rw [rmul, cf_nil]
    exact (sumN_zero fun i _ => by rw [cf_nil, Int.zero_mul]).symm
  | c :: p, n => by
    rw [rmul, cf_padd, cf_map _ (Int.mul_zero c)]
    unfold conv
    rw [sumN_head, cf_cons_zero, Nat.sub_zero]
    congr 1
    cases n with
    | zero => rfl
    | succ n =>
      rw [cf_cons_succ, cf_rmul q p n]
      unfold conv
      refine sumN_congr fun i hi => ?_
      rw [cf_cons_succ]
      congr 2
      omega
theorem pe_zero (x : Rat) : ∀ (p : List Int), (∀ i, cf p i = 0) → pe p x = 0
  | [], _ => rfl
  | c :: p, h => by
    have h0 : c = 0 := h 0
    rw [pe_cons, pe_zero x p fun i => h (i + 1), h0, Rat.intCast_zero]
    grind
theorem pe_ext (x : Rat) : ∀ (p q : List Int), (∀ i, cf p i = cf q i) → pe p x = pe q x
  | [], q, h => (pe_zero x q fun i => (h i).symm.trans (cf_nil i)).symm
  | a :: p, [], h => pe_zero x _ fun i => (h i).trans (cf_nil i)
  | a :: p, b :: q, h => by
    have h0 : a = b := h 0
    rw [pe_cons, pe_cons, h0, pe_ext x p q fun i => h (i + 1)]
theorem pe_pmul (p q : List Int) (x : Rat) : pe (pmul p q) x = pe p x * pe q x := by
  rw [← pe_rmul]
  exact pe_ext x _ _ fun i => by rw [cf_pmul, cf_rmul]
/-- value and power, from the top on -/
def hv (a b : Int) : List Int → Int × Int
  | [] => (0, 1)
  | c :: p => ((hv a b p).1 * a + c * (hv a b p).2, (hv a b p).2 * b)
theorem hv_pos (a : Int) {b : Int} (hb : 0 < b) : ∀ p : List Int, 0 < (hv a b p).2
  | [] => Int.one_pos
  | c :: p => Int.mul_pos (hv_pos a hb p) hb
theorem divInt_int (c : Int) : (c : Rat) = Rat.divInt c 1 := by
  apply Rat.ext
  · rw [Rat.num_divInt]; simp
  · rw [Rat.den_divInt]; simp
theorem hv_val (a : Int) {b : Int} (hb : 0 < b) : ∀ p : List Int, Rat.divInt ((hv a b p).1 * b) (hv a b p).2 = pe p (Rat.divInt a b)
  | [] => by
    rw [pe_nil]
    show Rat.divInt (0 * b) 1 = 0
    rw [Int.zero_mul, ← divInt_int]; rfl
  | c :: p => by
    have hp := hv_pos a hb p
    rw [pe_cons, ← hv_val a hb p, Rat.divInt_mul_divInt, divInt_int, Rat.divInt_add_divInt _ _ (by decide) (Int.ne_of_gt (Int.mul_pos hb hp)), Rat.divInt_eq_divInt_iff]
    · show ((hv a b p).1 * a + c * (hv a b p).2) * b * (1 * (b * (hv a b p).2)) = (c * (b * (hv a b p).2) + a * ((hv a b p).1 * b) * 1) * ((hv a b p).2 * b)
      grind
    · exact Int.ne_of_gt (Int.mul_pos hp hb)
    · exact Int.ne_of_gt (Int.mul_pos (by decide) (Int.mul_pos hb hp))
/-! ### bounds -/
def Bd (k : Nat) (x : Int) : Prop := x.natAbs < 2 ^ k
def BdP (k : Nat) (p : List Int) : Prop := ∀ c ∈ p, Bd k c
theorem Bd.mono {k l : Nat} {x : Int} (h : Bd k x) (hl : k ≤ l) : Bd l x := Nat.lt_of_lt_of_le h (Nat.pow_le_pow_right (by decide) hl)
theorem BdP.mono {k l : Nat} {p : List Int} (h : BdP k p) (hl : k ≤ l) : BdP l p := fun c hc => (h c hc).mono hl
theorem bd_zero {k : Nat} : Bd k 0 := Nat.two_pow_pos k
theorem Bd.mul {k l : Nat} {x y : Int} (h : Bd k x) (h' : Bd l y) : Bd (k + l) (x * y) := by
  unfold Bd at *
  rw [Int.natAbs_mul, Nat.pow_add]
  exact Nat.mul_lt_mul'' h h'
theorem Bd.add {k : Nat} {x y : Int} (h : Bd k x) (h' : Bd k y) : Bd (k + 1) (x + y) := by
  unfold Bd at *
  have := Int.natAbs_add_le x y
  rw [Nat.pow_succ]
  omega
theorem Bd.neg {k : Nat} {x : Int} (h : Bd k x) : Bd k (-x) := by
  unfold Bd at *
  rwa [Int.natAbs_neg]
theorem Bd.of {k : Nat} {x : Int} (h : x.natAbs < 2 ^ k) : Bd k x := h
theorem BdP.cf {k : Nat} {p : List Int} (h : BdP k p) (i : Nat) : Bd k (PM.cf p i) := by
  by_cases l : i < p.length
  · rw [cf_lt l]; exact h _ (List.getElem_mem _)
  · rw [cf_ge (by omega)]; exact bd_zero
theorem bd_sum {k l : Nat} {f : Nat → Int} : ∀ {n : Nat}, (∀ i, i < n → Bd k (f i)) → n ≤ 2 ^ l → Bd (k + l) (sumN n f) := fun {n} h hn => by
  have key : ∀ n, (∀ i, i < n → Bd k (f i)) → (sumN n f).natAbs ≤ n * (2 ^ k - 1) := by
    intro n
    induction n with
    | zero => intro _; simp [sumN]
    | succ n ih =>
      intro h
      rw [sumN, Nat.succ_mul]
      have h1 := ih fun i hi => h i (by omega)
      have h2 : (f n).natAbs < 2 ^ k := h n (by omega)
      have := Int.natAbs_add_le (sumN n f) (f n)
      omega
  have h1 := key n h
  unfold Bd
  have h2 : 0 < 2 ^ k := Nat.two_pow_pos k
  have h3 : n * (2 ^ k - 1) ≤ 2 ^ l * (2 ^ k - 1) := Nat.mul_le_mul_right _ hn
  have h4 : 2 ^ l * (2 ^ k - 1) < 2 ^ l * 2 ^ k := Nat.mul_lt_mul_of_pos_left (by omega) (Nat.two_pow_pos l)
  rw [Nat.pow_add, Nat.mul_comm (2 ^ k)]
  omega
theorem bd_pplus {k : Nat} {p q : List Int} (h : BdP k p) (h' : BdP k q) : BdP (k + 1) (pplus p q) := fun c hc => by
  have := trim_mem hc
  obtain ⟨i, _, e⟩ := List.mem_map.mp this
  rw [← e]
  exact (h.cf i).add (h'.cf i)
theorem bd_conv {k l m : Nat} {p q : List Int} (h : BdP k p) (h' : BdP l q) {n : Nat} (hn : n + 1 ≤ 2 ^ m) : Bd (k + l + m) (conv p q n) := bd_sum (fun i _ => (h.cf i).mul (h'.cf _)) hn
theorem bd_pmul {k l m : Nat} {p q : List Int} (h : BdP k p) (h' : BdP l q) (hm : p.length + q.length ≤ 2 ^ m) : BdP (k + l + m) (pmul p q) := fun c hc => by
  unfold pmul at hc
  split at hc
  · cases hc
  · obtain ⟨i, hi, e⟩ := List.mem_map.mp hc
    rw [← e]
    have := List.mem_range.mp hi
    exact bd_conv h h' (by omega)
theorem bd_pder {k l : Nat} {p : List Int} (h : BdP k p) (hl : p.length < 2 ^ l) : BdP (l + k) (pder p) := fun c hc => by
  unfold pder at hc
  obtain ⟨i, hi, e⟩ := List.mem_map.mp hc
  rw [← e]
  have := List.mem_range.mp hi
  have b : Bd l ((i : Int) + 1) := by unfold Bd; omega
  exact b.mul (h.cf _)
theorem bd_trim {k : Nat} {p : List Int} (h : BdP k p) : BdP k (trim p) := fun c hc => h c (trim_mem hc)
theorem bd_pby {k l : Nat} {n : Int} {p : List Int} (h : BdP l p) (hn : Bd k n) : BdP (k + l) (pby n p) := fun c hc => by
  unfold pby at hc
  split at hc
  · cases hc
  · obtain ⟨d, hd, e⟩ := List.mem_map.mp hc
    rw [← e]
    exact hn.mul (h d hd)
theorem bd_pmov {k l : Nat} {m : Int} (hm : Bd l m) (hl : 1 ≤ l) : ∀ {p : List Int}, BdP k p → p.length ≤ 60 → BdP (k + p.length * (l + 8)) (pmov m p) ∧ (pmov m p).length ≤ p.length
  | [], _, _ => ⟨(fun _ h => nomatch h), Nat.le_refl _⟩
  | c :: p, h, hp => by
    have hp' : p.length + 1 ≤ 60 := hp
    obtain ⟨b, len⟩ := bd_pmov hm hl (p := p) (fun d hd => h d (List.mem_cons_of_mem _ hd)) (by omega)
    have e : (c :: p).length = p.length + 1 := rfl
    have b1 : BdP l (trim [m, 1]) := bd_trim fun d hd => by
      rcases List.mem_cons.mp hd with q | hd
      · rw [q]; exact hm
      · rcases List.mem_cons.mp hd with q | hd
        · rw [q]; unfold Bd; exact Nat.lt_of_lt_of_le (by decide) (Nat.pow_le_pow_right (by decide) hl)
        · cases hd
    have l1 : (trim [m, 1]).length ≤ 2 := trim_len _
    have b2 : BdP (k + p.length * (l + 8) + l + 6) (pmul (pmov m p) (trim [m, 1])) := bd_pmul b b1 (by omega)
    have b3 : BdP k (trim [c]) := bd_trim fun d hd => h d (by rw [List.mem_singleton.mp hd]; exact List.mem_cons_self)
    have b4 := bd_pplus (b2.mono (l := k + p.length * (l + 8) + l + 7) (by omega)) (b3.mono (by omega))
    refine ⟨?_, ?_⟩
    · rw [e, Nat.succ_mul]
      exact b4.mono (by omega)
    · show (pplus (pmul (pmov m p) (trim [m, 1])) (trim [c])).length ≤ _
      have h1 := pplus_len (pmul (pmov m p) (trim [m, 1])) (trim [c])
      have h2 : (pmul (pmov m p) (trim [m, 1])).length ≤ p.length + 1 := by
        unfold pmul
        split
        · exact Nat.zero_le _
        · simp; omega
      have h3 : (trim [c]).length ≤ 1 := trim_len _
      rw [e]; omega
theorem bd_hv {k l : Nat} {a b : Int} (ha : Bd l a) (hb : Bd l b) : ∀ {p : List Int}, BdP k p → Bd (k + 1 + p.length * (l + 1)) (hv a b p).1 ∧ Bd (1 + p.length * l) (hv a b p).2
  | [], _ => ⟨bd_zero, by show (1 : Int).natAbs < 2 ^ (1 + 0 * l); simp⟩
  | c :: p, h => by
    obtain ⟨b1, b2⟩ := bd_hv ha hb (p := p) fun d hd => h d (List.mem_cons_of_mem _ hd)
    have e : (c :: p).length = p.length + 1 := rfl
    refine ⟨?_, ?_⟩
    · have x1 := b1.mul ha
      have x2 := (h c List.mem_cons_self).mul b2
      have le2 : p.length * l ≤ p.length * (l + 1) := Nat.mul_le_mul_left _ (Nat.le_succ _)
      have x3 := (x1.mono (l := k + 1 + p.length * (l + 1) + l) (by omega)).add (x2.mono (by omega))
      rw [e, Nat.succ_mul]
      exact x3.mono (by omega)
    · rw [e, Nat.succ_mul]
      exact (b2.mul hb).mono (by omega)
theorem bd_num {k : Nat} {n d : Int} (h : Bd k n) : Bd k (Rat.divInt n d).num := by
  rw [Rat.num_divInt]
  unfold Bd at *
  refine Nat.lt_of_le_of_lt ?_ h
  refine Nat.le_trans (Int.natAbs_ediv_le_natAbs _ _) ?_
  rw [Int.natAbs_mul]
  rcases Int.lt_trichotomy d 0 with z | z | z
  · rw [Int.sign_eq_neg_one_of_neg z]; simp
  · subst z; simp
  · rw [Int.sign_eq_one_of_pos z]; simp
theorem bd_den {k : Nat} {n d : Int} (h : Bd k d) (hk : 1 ≤ k) : Bd k (Rat.divInt n d).den := by
  rw [Rat.den_divInt]
  unfold Bd at *
  split
  · exact Nat.lt_of_lt_of_le (by decide) (Nat.pow_le_pow_right (by decide) hk)
  · refine Nat.lt_of_le_of_lt ?_ h
    exact Nat.div_le_self d.natAbs (d.gcd n)
end PM

/-! M3: values at integers tell polys; division with a multiple; primitive parts; common divisors. -/
namespace PM
/-- the value at an integer -/
def pei : List Int → Int → Int
  | [], _ => 0
  | c :: p, x => c + x * pei p x
theorem pei_nil (x : Int) : pei [] x = 0 := rfl
theorem pei_cons (c : Int) (p : List Int) (x : Int) : pei (c :: p) x = c + x * pei p x := rfl
theorem pei_big {p : List Int} : ∀ {N : Int}, (∀ n, N ≤ n → pei p n = 0) → ∀ i, cf p i = 0 := by
  induction p with
  | nil => intro N _ i; exact cf_nil i
  | cons c p ih =>
    intro N h i
    have hc : c = 0 := by
      by_cases z : c = 0
      · exact z
      · exfalso
        have m1 : N ≤ max N (c.natAbs + 1 : Int) := Int.le_max_left ..
        have m2 : (c.natAbs + 1 : Int) ≤ max N (c.natAbs + 1 : Int) := Int.le_max_right ..
        have e := h _ m1
        rw [pei_cons] at e
        have d : max N (c.natAbs + 1 : Int) ∣ c := ⟨-(pei p (max N (c.natAbs + 1 : Int))), by rw [Int.mul_neg]; omega⟩
        have le := Int.natAbs_dvd_natAbs.mpr d
        have := Nat.le_of_dvd (by omega) le
        omega
    cases i with
    | zero => exact hc
    | succ i =>
      rw [cf_cons_succ]
      refine ih (N := max N 1) (fun n hn => ?_) i
      have h1 : N ≤ n := Int.le_trans (Int.le_max_left ..) hn
      have h2 : (1 : Int) ≤ n := Int.le_trans (Int.le_max_right ..) hn
      have e := h n h1
      rw [pei_cons, hc, Int.zero_add] at e
      rcases Int.mul_eq_zero.mp e with z | z
      · omega
      · exact z
theorem pei_padd (x : Int) : ∀ (p q : List Int), pei (padd p q) x = pei p x + pei q x
  | [], q => by rw [padd, pei_nil]; omega
  | a :: p, [] => by rw [padd, pei_nil]; omega; intro h; cases h
  | a :: p, b :: q => by rw [padd, pei_cons, pei_cons, pei_cons, pei_padd x p q]; grind
theorem pei_map (x : Int) (k : Int) : ∀ (p : List Int), pei (p.map (k * ·)) x = k * pei p x
  | [] => by rw [List.map_nil, pei_nil]; omega
  | c :: p => by rw [List.map_cons, pei_cons, pei_cons, pei_map x k p]; grind
theorem pei_rmul (x : Int) (q : List Int) : ∀ (p : List Int), pei (rmul p q) x = pei p x * pei q x
  | [] => by rw [rmul, pei_nil]; omega
  | c :: p => by
    rw [rmul, pei_padd, pei_map, pei_cons, pei_rmul x q p, pei_cons]
    grind
theorem pei_zero (x : Int) : ∀ (p : List Int), (∀ i, cf p i = 0) → pei p x = 0
  | [], _ => rfl
  | c :: p, h => by
    have h0 : c = 0 := h 0
    rw [pei_cons, pei_zero x p fun i => h (i + 1), h0]
    omega
theorem pei_ext (x : Int) : ∀ (p q : List Int), (∀ i, cf p i = cf q i) → pei p x = pei q x
  | [], q, h => (pei_zero x q fun i => (h i).symm.trans (cf_nil i)).symm
  | a :: p, [], h => pei_zero x _ fun i => (h i).trans (cf_nil i)
  | a :: p, b :: q, h => by
    have h0 : a = b := h 0
    rw [pei_cons, pei_cons, h0, pei_ext x p q fun i => h (i + 1)]
theorem pei_trim (p : List Int) (x : Int) : pei (trim p) x = pei p x := pei_ext x _ _ (cf_trim p)
theorem pei_pplus (p q : List Int) (x : Int) : pei (pplus p q) x = pei p x + pei q x := by
  rw [← pei_padd]
  exact pei_ext x _ _ fun i => by rw [cf_pplus, cf_padd]
theorem pei_pmul (p q : List Int) (x : Int) : pei (pmul p q) x = pei p x * pei q x := by
  rw [← pei_rmul]
  exact pei_ext x _ _ fun i => by rw [cf_pmul, cf_rmul]
theorem pei_pby (k : Int) (p : List Int) (x : Int) : pei (pby k p) x = k * pei p x := by
  unfold pby
  split
  · rename_i h; rw [h, pei_nil]; omega
  · exact pei_map x k p
/-- the same at all integers: the same -/
theorem pei_inj {p q : List Int} (hp : Nrm p) (hq : Nrm q) (h : ∀ n, pei p n = pei q n) : p = q := by
  refine ext hp hq fun i => ?_
  have z := pei_big (p := pplus p (pby (-1) q)) (N := 0) (fun n _ => by rw [pei_pplus, pei_pby, h n]; omega) i
  rw [cf_pplus] at z
  have : cf (pby (-1) q) i = -1 * cf q i := by
    unfold pby
    rw [if_neg (by decide)]
    exact cf_map _ (by decide) q i
  rw [this] at z
  omega
theorem nrm_pby' {k : Int} {p : List Int} (h : Nrm p) : Nrm (pby k p) := by
  unfold pby
  split
  · exact nrm_nil
  · rename_i hk
    refine nrm_of_top fun ne => ?_
    have hp : p ≠ [] := fun e => ne (by rw [e]; rfl)
    rw [List.length_map, cf_map _ (Int.mul_zero k)]
    exact Int.mul_ne_zero hk (nrm_top h hp)
theorem cf_pby (k : Int) (p : List Int) (i : Nat) : cf (pby k p) i = k * cf p i := by
  unfold pby
  split
  · rename_i h; rw [h, cf_nil]; omega
  · exact cf_map _ (Int.mul_zero k) p i
theorem pby_length {k : Int} {p : List Int} (hk : k ≠ 0) : (pby k p).length = p.length := by
  unfold pby; rw [if_neg hk, List.length_map]
theorem pby_len' (k : Int) (p : List Int) : (pby k p).length ≤ p.length := by
  unfold pby
  split
  · exact Nat.zero_le _
  · rw [List.length_map]; exact Nat.le_refl _
theorem pmul_length {p q : List Int} (hp : p ≠ []) (hq : q ≠ []) : (pmul p q).length = p.length + q.length - 1 := by
  unfold pmul; rw [if_neg (fun z => z.elim hp hq)]; simp
theorem pmul_zero {p q : List Int} (h : pmul p q = []) : p = [] ∨ q = [] := by
  by_cases a : p = []
  · exact .inl a
  · by_cases b : q = []
    · exact .inr b
    · have := congrArg List.length h
      rw [pmul_length a b] at this
      have h1 := List.length_pos_iff.mpr a
      have h2 := List.length_pos_iff.mpr b
      simp at this
      omega
/-! ### division with a multiple -/
structure Pdv (p d : List Int) (t : Int) (q r : List Int) : Prop where
  ht : t ≠ 0
  hq : Nrm q
  hr : Nrm r
  hl : r.length < d.length
  he : ∀ n, t * pei p n = pei q n * pei d n + pei r n
theorem Pdv.uniq {p d q r q' r' : List Int} {t t' : Int} (hd : Nrm d) (a : Pdv p d t q r) (b : Pdv p d t' q' r') : pby t' q = pby t q' ∧ pby t' r = pby t r' := by
  have ne : d ≠ [] := fun e => by have := a.hl; rw [e] at this; simp at this
  have e : pmul (pplus (pby t' q) (pby (-t) q')) d = pplus (pby t r') (pby (-t') r) := by
    refine pei_inj (nrm_pmul (nrm_pplus _ _) hd) (nrm_pplus _ _) fun n => ?_
    rw [pei_pmul, pei_pplus, pei_pplus, pei_pby, pei_pby, pei_pby, pei_pby]
    have h1 := a.he n
    have h2 := b.he n
    grind
  have z : pplus (pby t' q) (pby (-t) q') = [] := by
    by_cases z : pplus (pby t' q) (pby (-t) q') = []
    · exact z
    · exfalso
      have l1 := congrArg List.length e
      rw [pmul_length z ne] at l1
      have l2 := pplus_len (pby t r') (pby (-t') r)
      have l3 := pby_len' t r'
      have l4 := pby_len' (-t') r
      have l5 := a.hl
      have l6 := b.hl
      have l7 := List.length_pos_iff.mpr z
      omega
  have z2 : pplus (pby t r') (pby (-t') r) = [] := by
    rw [← e, z]; unfold pmul; rw [if_pos (.inl rfl)]
  refine ⟨pei_inj (nrm_pby' a.hq) (nrm_pby' b.hq) fun n => ?_, pei_inj (nrm_pby' a.hr) (nrm_pby' b.hr) fun n => ?_⟩
  · have := congrArg (fun l => pei l n) z
    simp only [pei_pplus, pei_pby, pei_nil] at this
    rw [pei_pby, pei_pby]
    grind
  · have := congrArg (fun l => pei l n) z2
    simp only [pei_pplus, pei_pby, pei_nil] at this
    rw [pei_pby, pei_pby]
    grind
/-! ### primitive parts -/
theorem foldl_gcd_scale (k : Int) : ∀ (p : List Int) (g : Nat), (p.map (k * ·)).foldl (fun g c => Int.gcd (g : Int) c) (k.natAbs * g) = k.natAbs * p.foldl (fun g c => Int.gcd (g : Int) c) g
  | [], g => rfl
  | c :: p, g => by
    rw [List.map_cons, List.foldl_cons, List.foldl_cons, ← foldl_gcd_scale k p]
    congr 1
    show Int.gcd ((k.natAbs * g : Nat) : Int) (k * c) = k.natAbs * Int.gcd (g : Int) c
    show Nat.gcd ((k.natAbs * g : Nat) : Int).natAbs (k * c).natAbs = k.natAbs * Nat.gcd ((g : Int).natAbs) c.natAbs
    rw [Int.natAbs_natCast, Int.natAbs_natCast, Int.natAbs_mul, Nat.gcd_mul_left]
theorem pcon_scale (k : Int) (p : List Int) : pcon (p.map (k * ·)) = k.natAbs * pcon p := by
  unfold pcon
  have := foldl_gcd_scale k p 0
  rw [Nat.mul_zero] at this
  exact this
theorem pcon_pby (k : Int) (p : List Int) : pcon (pby k p) = k.natAbs * pcon p := by
  unfold pby
  split
  · rename_i h; subst h; simp [pcon]
  · exact pcon_scale k p
/-- the share by which plow divides -/
def psh (p : List Int) : Int := if cf p (p.length - 1) > 0 then (pcon p : Int) else 0 - (pcon p : Int)
theorem pcon_ne {p : List Int} (hn : Nrm p) (h : p ≠ []) : pcon p ≠ 0 := fun e => by
  have hl : 0 < p.length := List.length_pos_iff.mpr h
  have := pcon_zero e _ (List.getElem_mem (show p.length - 1 < p.length by omega))
  rw [← cf_lt (by omega)] at this
  exact nrm_top hn h this
theorem psh_ne {p : List Int} (hn : Nrm p) (h : p ≠ []) : psh p ≠ 0 := by
  have := pcon_ne hn h
  unfold psh
  split <;> omega
theorem psh_dvd (p : List Int) (i : Nat) : psh p ∣ cf p i := by
  by_cases l : i < p.length
  · have := (pcon_dvd p 0).2 (cf p i) (by rw [cf_lt l]; exact List.getElem_mem _)
    unfold psh
    split
    · exact this
    · rw [Int.zero_sub]; exact Int.neg_dvd.mpr this
  · rw [cf_ge (by omega)]; exact Int.dvd_zero _
theorem plow_nil : plow [] = [] := rfl
theorem plow_len (p : List Int) : (plow p).length = p.length := by
  unfold plow
  split
  · rename_i h; rw [h]
  · rw [List.length_map]
theorem cf_plow (p : List Int) (i : Nat) : psh p * cf (plow p) i = cf p i := by
  by_cases h : p = []
  · subst h; rw [plow_nil, cf_nil]; omega
  · have e : plow p = p.map fun c => c.fdiv (psh p) := by unfold plow; rw [if_neg h]; rfl
    rw [e, cf_map (fun c => c.fdiv (psh p)) (Int.zero_fdiv _), Int.fdiv_eq_ediv_of_dvd (psh_dvd p i)]
    exact Int.mul_ediv_cancel' (psh_dvd p i)
theorem pby_plow (p : List Int) (hn : Nrm p) : pby (psh p) (plow p) = p := by
  refine ext (nrm_of_top fun ne => ?_) hn fun i => by rw [cf_pby, cf_plow]
  have hp : p ≠ [] := fun e => ne (by rw [e]; unfold pby; split <;> rfl)
  rw [cf_pby, cf_plow, pby_length (psh_ne hn hp), plow_len]
  exact nrm_top hn hp
theorem nrm_plow {p : List Int} (hn : Nrm p) : Nrm (plow p) := by
  refine nrm_of_top fun ne => ?_
  have hp : p ≠ [] := fun e => ne (by rw [e]; rfl)
  intro z
  have := cf_plow p ((plow p).length - 1)
  rw [z, Int.mul_zero, plow_len] at this
  exact nrm_top hn hp this.symm
/-- polys that are multiples of one another by integers have one lowest one -/
theorem plow_scale {p q : List Int} {k l : Int} (hp : Nrm p) (hq : Nrm q) (hk : k ≠ 0) (hl : l ≠ 0) (h : pby k p = pby l q) : plow p = plow q := by
  by_cases e : p = []
  · subst e
    have : pby l q = [] := by rw [← h]; unfold pby; split <;> rfl
    have l1 := congrArg List.length this
    rw [pby_length hl] at l1
    rw [List.eq_nil_of_length_eq_zero l1]
  · have len : p.length = q.length := by
      have := congrArg List.length h
      rwa [pby_length hk, pby_length hl] at this
    have e2 : q ≠ [] := fun z => by
      rw [z] at len
      exact e (List.eq_nil_of_length_eq_zero len)
    have hc : ∀ i, k * cf p i = l * cf q i := fun i => by
      have := congrArg (fun z => cf z i) h
      simpa only [cf_pby] using this
    have hcon : k.natAbs * pcon p = l.natAbs * pcon q := by
      have := congrArg pcon h
      rwa [pcon_pby, pcon_pby] at this
    have p1 := pcon_ne hp e
    have q1 := pcon_ne hq e2
    -- the signed shares go along
    have sg : k * psh p = l * psh q := by
      have t := hc (p.length - 1)
      have tp := nrm_top hp e
      have tq := nrm_top hq e2
      rw [← len] at tq
      have hcon2 : (k.natAbs : Int) * (pcon p : Int) = (l.natAbs : Int) * (pcon q : Int) := by exact_mod_cast hcon
      have sp : ∀ {w : List Int}, cf w (w.length - 1) ≠ 0 → psh w = (cf w (w.length - 1)).sign * (pcon w : Int) := fun {w} h => by
        unfold psh
        rcases Int.lt_or_gt_of_ne h with z | z
        · rw [if_neg (by omega), Int.sign_eq_neg_one_of_neg z]; omega
        · rw [if_pos z, Int.sign_eq_one_of_pos z]; omega
      have key : ∀ (k a C : Int), k * (a.sign * C) = (k * a).sign * (k.natAbs * C) := fun k a C => by
        have := Int.sign_mul_natAbs k
        rw [Int.sign_mul]
        generalize k.sign = x at this ⊢
        generalize (k.natAbs : Int) = y at this ⊢
        generalize a.sign = z
        rw [← this]
        grind
      rw [sp tp, sp (by rw [← len]; exact tq), ← len, key, key, t, hcon2]
    refine ext (nrm_plow hp) (nrm_plow hq) fun i => ?_
    have e3 : k * psh p * cf (plow p) i = k * psh p * cf (plow q) i := by
      rw [Int.mul_assoc, cf_plow, sg, Int.mul_assoc, cf_plow, hc]
    exact Int.eq_of_mul_eq_mul_left (Int.mul_ne_zero hk (psh_ne hp e)) e3
end PM

/-! M4: division exists; common divisors by Euclid's way; multipliers. -/
namespace PM
/-- c * x ^ m -/
def mono (m : Nat) (c : Int) : List Int := List.replicate m 0 ++ [c]
theorem mono_len (m : Nat) (c : Int) : (mono m c).length = m + 1 := by unfold mono; simp
theorem nrm_mono {m : Nat} {c : Int} (h : c ≠ 0) : Nrm (mono m c) := fun d hd => by
  unfold mono at hd
  rw [List.getLast?_append, List.getLast?_singleton] at hd
  simp at hd
  rw [← hd]; exact h
theorem cf_mono (m : Nat) (c : Int) (i : Nat) : cf (mono m c) i = if i = m then c else 0 := by
  unfold mono
  by_cases h : i < m
  · rw [cf_lt (by simp; omega), List.getElem_append_left (by simpa using h), if_neg (by omega)]; simp
  · by_cases e : i = m
    · subst e
      rw [cf_lt (by simp), List.getElem_append_right (by simp), if_pos rfl]; simp
    · rw [cf_ge (by simp; omega), if_neg e]
theorem conv_mono (m : Nat) (c : Int) (d : List Int) (n : Nat) : conv (mono m c) d n = if m ≤ n then c * cf d (n - m) else 0 := by
  unfold conv
  by_cases h : m ≤ n
  · rw [if_pos h, sumN_one (k := m) (by omega) fun i hi ne => by rw [cf_mono, if_neg ne, Int.zero_mul], cf_mono, if_pos rfl]
  · rw [if_neg h]
    exact sumN_zero fun i hi => by rw [cf_mono, if_neg (by omega), Int.zero_mul]
/-- one step of the division: the top goes -/
theorem step_len {r d : List Int} {b s : Int} (hr : Nrm r) (hd : Nrm d) (ne : d ≠ []) (hl : d.length ≤ r.length) (h : b * cf r (r.length - 1) = s * cf d (d.length - 1)) :
    (pplus (pby b r) (pby (-1) (pmul (mono (r.length - d.length) s) d))).length < r.length := by
  have ld := List.length_pos_iff.mpr ne
  have l0 : (pplus (pby b r) (pby (-1) (pmul (mono (r.length - d.length) s) d))).length ≤ r.length := by
    refine Nat.le_trans (pplus_len _ _) ?_
    have a := pby_len' b r
    have c := pby_len' (-1) (pmul (mono (r.length - d.length) s) d)
    have e : (pmul (mono (r.length - d.length) s) d).length ≤ r.length := by
      rw [pmul_length (fun z => by have := congrArg List.length z; rw [mono_len] at this; cases this) ne, mono_len]; omega
    omega
  rcases Nat.lt_or_eq_of_le l0 with z | z
  · exact z
  · exfalso
    have hne : pplus (pby b r) (pby (-1) (pmul (mono (r.length - d.length) s) d)) ≠ [] := fun e => by rw [e] at z; simp at z; omega
    have t := nrm_top (nrm_pplus _ _) hne
    rw [z, cf_pplus, cf_pby, cf_pby, cf_pmul, conv_mono, if_pos (by omega)] at t
    have e : r.length - 1 - (r.length - d.length) = d.length - 1 := by omega
    rw [e] at t
    omega
theorem pdv_step {p d q r : List Int} {t b s : Int} (e : ∀ n, t * pei p n = pei q n * pei d n + pei r n) (m : Nat) :
    ∀ n, (t * b) * pei p n = pei (pplus (pby b q) (mono m s)) n * pei d n + pei (pplus (pby b r) (pby (-1) (pmul (mono m s) d))) n := fun n => by
  have := e n
  rw [pei_pplus, pei_pby, pei_pplus, pei_pby, pei_pby, pei_pmul]
  grind
theorem pdv_ex {d : List Int} (hd : Nrm d) (ne : d ≠ []) (p : List Int) (hp : Nrm p) : ∃ t q r, Pdv p d t q r := by
  have ld := List.length_pos_iff.mpr ne
  have key : ∀ (k : Nat) (t : Int) (q r : List Int), r.length < k → t ≠ 0 → Nrm q → Nrm r → (∀ n, t * pei p n = pei q n * pei d n + pei r n) → ∃ t q r, Pdv p d t q r := by
    intro k
    induction k with
    | zero => intro t q r h; omega
    | succ k ih =>
      intro t q r hk ht hq hr e
      by_cases l : r.length < d.length
      · exact ⟨t, q, r, ht, hq, hr, l, e⟩
      · have hl : d.length ≤ r.length := by omega
        refine ih (t * cf d (d.length - 1)) _ _ ?_ (Int.mul_ne_zero ht (nrm_top hd ne)) (nrm_pplus _ _) (nrm_pplus _ _) (pdv_step e (b := cf d (d.length - 1)) (s := cf r (r.length - 1)) (r.length - d.length))
        have := step_len (b := cf d (d.length - 1)) (s := cf r (r.length - 1)) hr hd ne hl (Int.mul_comm _ _)
        omega
  exact key (p.length + 1) 1 [] p (by omega) (by decide) nrm_nil hp fun n => by rw [pei_nil]; omega
open Classical in
/-- the lowest rest -/
noncomputable def prem (p d : List Int) : List Int := if h : ∃ r, ∃ t q, Pdv p d t q r then plow h.choose else []
theorem prem_of {p d q r : List Int} {t : Int} (hd : Nrm d) (h : Pdv p d t q r) : prem p d = plow r := by
  have ex : ∃ r, ∃ t q, Pdv p d t q r := ⟨r, t, q, h⟩
  unfold prem
  rw [dif_pos ex]
  obtain ⟨t', q', h'⟩ := ex.choose_spec
  have := (Pdv.uniq hd h' h).2
  exact plow_scale h'.hr h.hr h.ht h'.ht this
theorem prem_len {p d : List Int} (hd : Nrm d) (ne : d ≠ []) (hp : Nrm p) : (prem p d).length < d.length ∧ Nrm (prem p d) := by
  obtain ⟨t, q, r, h⟩ := pdv_ex hd ne p hp
  rw [prem_of hd h, plow_len]
  exact ⟨h.hl, nrm_plow h.hr⟩
theorem pdv_scale {p d q r : List Int} {t k l : Int} (hk : k ≠ 0) (hl : l ≠ 0) (h : Pdv p d t q r) : Pdv (pby k p) (pby l d) (t * l) (pby k q) (pby (k * l) r) where
  ht := Int.mul_ne_zero h.ht hl
  hq := nrm_pby' h.hq
  hr := nrm_pby' h.hr
  hl := by rw [pby_length (Int.mul_ne_zero hk hl), pby_length hl]; exact h.hl
  he := fun n => by
    have := h.he n
    rw [pei_pby, pei_pby, pei_pby, pei_pby]
    grind
theorem plow_pby {k : Int} {p : List Int} (hk : k ≠ 0) (hp : Nrm p) : plow (pby k p) = plow p :=
  plow_scale (k := 1) (l := k) (nrm_pby' hp) hp (by decide) hk (pei_inj (nrm_pby' (nrm_pby' hp)) (nrm_pby' hp) fun n => by rw [pei_pby, Int.one_mul])
theorem prem_scale {p d : List Int} {k l : Int} (hk : k ≠ 0) (hl : l ≠ 0) (hd : Nrm d) (ne : d ≠ []) (hp : Nrm p) : prem (pby k p) (pby l d) = prem p d := by
  obtain ⟨t, q, r, h⟩ := pdv_ex hd ne p hp
  rw [prem_of (nrm_pby' hd) (pdv_scale hk hl h), prem_of hd h, plow_pby (Int.mul_ne_zero hk hl) h.hr]
/-! ### Euclid's way -/
noncomputable def pgF : Nat → List Int → List Int → List Int
  | 0, p, _ => p
  | n + 1, p, q => if q = [] then p else pgF n q (prem p q)
noncomputable def pgcd (p q : List Int) : List Int := pgF (q.length + 1) p q
theorem pgF_more : ∀ (n m : Nat) (p q : List Int), Nrm p → Nrm q → q.length < n → q.length < m → pgF n p q = pgF m p q := by
  intro n
  induction n with
  | zero => intro m p q _ _ h; omega
  | succ n ih =>
    intro m p q hp hq h1 h2
    cases m with
    | zero => omega
    | succ m =>
      by_cases e : q = []
      · rw [pgF, pgF, if_pos e, if_pos e]
      · obtain ⟨l, hn⟩ := prem_len hq e hp
        rw [pgF, pgF, if_neg e, if_neg e]
        exact ih m q (prem p q) hq hn (by omega) (by omega)
theorem pgcd_nil (p : List Int) : pgcd p [] = p := by unfold pgcd; rw [pgF, if_pos rfl]
theorem pgcd_step {p q : List Int} (hp : Nrm p) (hq : Nrm q) (ne : q ≠ []) : pgcd p q = pgcd q (prem p q) := by
  obtain ⟨l, hn⟩ := prem_len hq ne hp
  unfold pgcd
  rw [pgF, if_neg ne]
  exact pgF_more _ _ _ _ hq hn l (by omega)
/-- d divides p, but for an integer -/
def Dvs (d p : List Int) : Prop := ∃ (c : Int) (a : List Int), c ≠ 0 ∧ Nrm a ∧ ∀ n, c * pei p n = pei a n * pei d n
theorem Dvs.refl (p : List Int) : Dvs p p := ⟨1, [1], by decide, fun c h => by cases h; decide, fun n => by rw [pei_cons, pei_nil]; grind⟩
theorem Dvs.comb {g p q s : List Int} {a b : List Int} {c : Int} (h1 : Dvs g p) (h2 : Dvs g q) (hc : c ≠ 0) (e : ∀ n, c * pei s n = pei a n * pei p n + pei b n * pei q n) : Dvs g s := by
  obtain ⟨c1, a1, n1, m1, e1⟩ := h1
  obtain ⟨c2, a2, n2, m2, e2⟩ := h2
  refine ⟨c * (c1 * c2), trim (padd (rmul (pby c2 a) a1) (rmul (pby c1 b) a2)), Int.mul_ne_zero hc (Int.mul_ne_zero n1 n2), nrm_trim _, fun n => ?_⟩
  rw [pei_trim, pei_padd, pei_rmul, pei_rmul, pei_pby, pei_pby]
  have := e n
  have := e1 n
  have := e2 n
  grind
theorem pgcd_main : ∀ (k : Nat) (p q : List Int), q.length < k → Nrm p → Nrm q → Nrm (pgcd p q) ∧ (pgcd p q = [] → p = [] ∧ q = []) ∧ Dvs (pgcd p q) p ∧ Dvs (pgcd p q) q ∧
    ∃ (t : Int) (u v : List Int), t ≠ 0 ∧ ∀ n, t * pei (pgcd p q) n = pei u n * pei p n + pei v n * pei q n := by
  intro k
  induction k with
  | zero => intro p q h; omega
  | succ k ih =>
    intro p q hk hp hq
    by_cases e : q = []
    · subst e
      rw [pgcd_nil]
      refine ⟨hp, fun h => ⟨h, rfl⟩, .refl p, ⟨1, [], by decide, nrm_nil, fun n => by rw [pei_nil]; omega⟩, 1, [1], [], by decide, fun n => ?_⟩
      rw [pei_cons, pei_nil]; grind
    · obtain ⟨l, hn⟩ := prem_len hq e hp
      rw [pgcd_step hp hq e]
      obtain ⟨g1, g2, g3, g4, t, u, v, ht, he⟩ := ih q (prem p q) (by omega) hq hn
      obtain ⟨t2, q2, r2, h⟩ := pdv_ex hq e p hp
      have er := prem_of hq h
      have hr := pby_plow r2 h.hr
      have hpr : ∀ n, t2 * pei p n = pei q2 n * pei q n + psh r2 * pei (prem p q) n := fun n => by
        have z : psh r2 * pei (plow r2) n = pei r2 n := by rw [← pei_pby, hr]
        rw [h.he n, er, z]
      refine ⟨g1, fun z => absurd (g2 z).1 e, ?_, g3, ?_⟩
      · refine Dvs.comb (a := q2) (b := [psh r2]) g3 g4 h.ht fun n => ?_
        rw [hpr n, pei_cons, pei_nil]; grind
      · by_cases z : r2 = []
        · have ez : prem p q = [] := by rw [er, z]; rfl
          refine ⟨t, [], u, ht, fun n => ?_⟩
          have a := he n
          have b : pei (prem p q) n = 0 := by rw [ez]; rfl
          rw [b] at a
          rw [a, pei_nil]; grind
        · have hs := psh_ne h.hr z
          refine ⟨t * psh r2, pby t2 v, trim (padd (pby (psh r2) u) (pby (-1) (rmul v q2))), Int.mul_ne_zero ht hs, fun n => ?_⟩
          have a := he n
          have b := hpr n
          rw [pei_trim, pei_padd, pei_pby, pei_pby, pei_pby, pei_rmul]
          grind
end PM

/-! M5: Gauss, lowest pairs of polys, bounds of divisors by their values. -/
namespace PM
theorem ncd {d : Nat} {x : Int} : (d : Int) ∣ x ↔ d ∣ x.natAbs := by
  have := Int.natAbs_dvd_natAbs (a := (d : Int)) (b := x)
  rw [Int.natAbs_natCast] at this
  exact this.symm
theorem bdp_cf {k : Nat} {p : List Int} (h : ∀ i, Bd k (cf p i)) : BdP k p := fun c hc => by
  obtain ⟨i, hi, e⟩ := List.mem_iff_getElem.mp hc
  rw [← e, ← cf_lt hi]
  exact h i
/-! ### dividing all integers of a product -/
theorem least {P : Nat → Prop} : ∀ (n : Nat), P n → ∃ m, m ≤ n ∧ P m ∧ ∀ k, k < m → ¬ P k := by
  intro n
  induction n using Nat.strongRecOn with
  | _ n ih =>
    intro h
    by_cases e : ∃ k, k < n ∧ P k
    · obtain ⟨k, hk, pk⟩ := e
      obtain ⟨m, h1, h2, h3⟩ := ih k hk pk
      exact ⟨m, by omega, h2, h3⟩
    · exact ⟨n, Nat.le_refl _, h, fun k hk pk => e ⟨k, hk, pk⟩⟩
/-- as primes are -/
structure Pri (d : Nat) : Prop where
  one : 1 < d
  min : ∀ e, 1 < e → e ∣ d → e = d
theorem pri_ex : ∀ {n : Nat}, 1 < n → ∃ d, Pri d ∧ d ∣ n := by
  intro n
  induction n using Nat.strongRecOn with
  | _ n ih =>
    intro h
    by_cases e : ∀ e, 1 < e → e ∣ n → e = n
    · exact ⟨n, ⟨h, e⟩, Nat.dvd_refl _⟩
    · have ⟨k, hk⟩ := Classical.not_forall.mp e
      have ⟨h1, hk⟩ := Classical.not_imp.mp hk
      have ⟨h2, h3⟩ := Classical.not_imp.mp hk
      have := Nat.le_of_dvd (by omega) h2
      obtain ⟨d, p, hd⟩ := ih k (by omega) h1
      exact ⟨d, p, Nat.dvd_trans hd h2⟩
theorem Pri.mul {d : Nat} (p : Pri d) {x y : Int} (h : (d : Int) ∣ x * y) : (d : Int) ∣ x ∨ (d : Int) ∣ y := by
  have h : d ∣ x.natAbs * y.natAbs := by
    have := Int.natAbs_dvd_natAbs.mpr h
    rwa [Int.natAbs_mul, Int.natAbs_natCast] at this
  have l : Nat.gcd d x.natAbs ∣ d := Nat.gcd_dvd_left ..
  have r : Nat.gcd d x.natAbs ∣ x.natAbs := Nat.gcd_dvd_right ..
  have d0 := p.one
  by_cases e : Nat.gcd d x.natAbs = 1
  · right
    have := Nat.Coprime.dvd_of_dvd_mul_left (k := d) (m := x.natAbs) (n := y.natAbs) e h
    exact ncd.mpr this
  · left
    have g0 : Nat.gcd d x.natAbs ≠ 0 := fun z => by rw [Nat.gcd_eq_zero_iff] at z; omega
    rw [p.min _ (by omega) l] at r
    exact ncd.mpr r
theorem dvd_but {d : Int} {f : Nat → Int} {k : Nat} : ∀ {n : Nat}, (∀ i, i < n → i ≠ k → d ∣ f i) → k < n → d ∣ sumN n f - f k := by
  intro n
  induction n with
  | zero => intro _ h; omega
  | succ n ih =>
    intro h hk
    rw [sumN]
    by_cases e : k = n
    · subst e
      have : ∀ m, m ≤ k → d ∣ sumN m f := by
        intro m
        induction m with
        | zero => intro _; exact Int.dvd_zero _
        | succ m ih => intro hm; rw [sumN]; exact Int.dvd_add (ih (by omega)) (h m (by omega) (by omega))
      have e2 : sumN k f + f k - f k = sumN k f := by omega
      rw [e2]
      exact this k (Nat.le_refl _)
    · have e2 : sumN n f + f n - f k = (sumN n f - f k) + f n := by omega
      rw [e2]
      exact Int.dvd_add (ih (fun i hi => h i (by omega)) (by omega)) (h n (by omega) (fun z => e z.symm))
theorem gauss {d : Nat} (pd : Pri d) {p q : List Int} (h : ∀ n, (d : Int) ∣ conv p q n) : (∀ i, (d : Int) ∣ cf p i) ∨ ∀ i, (d : Int) ∣ cf q i := by
  by_cases hp : ∀ i, (d : Int) ∣ cf p i
  · exact .inl hp
  by_cases hq : ∀ i, (d : Int) ∣ cf q i
  · exact .inr hq
  exfalso
  obtain ⟨i, hi⟩ := Classical.not_forall.mp hp
  obtain ⟨j, hj⟩ := Classical.not_forall.mp hq
  obtain ⟨i, _, hi, mi⟩ := least (P := fun i => ¬ (d : Int) ∣ cf p i) i hi
  obtain ⟨j, _, hj, mj⟩ := least (P := fun i => ¬ (d : Int) ∣ cf q i) j hj
  have a := h (i + j)
  have b : (d : Int) ∣ conv p q (i + j) - cf p i * cf q (i + j - i) := dvd_but (f := fun k => cf p k * cf q (i + j - k)) (fun k hk ne => by
    by_cases l : k < i
    · exact Int.dvd_mul_of_dvd_left (Classical.not_not.mp (mi k l))
    · exact Int.dvd_mul_of_dvd_right (Classical.not_not.mp (mj (i + j - k) (by omega)))) (by omega)
  have c : (d : Int) ∣ cf p i * cf q (i + j - i) := by
    have := Int.dvd_sub a b
    have e : conv p q (i + j) - (conv p q (i + j) - cf p i * cf q (i + j - i)) = cf p i * cf q (i + j - i) := by omega
    rwa [e] at this
  have e : i + j - i = j := by omega
  rw [e] at c
  exact (pd.mul c).elim hi hj
theorem dvd_pcon {d : Nat} {p : List Int} (h : ∀ i, (d : Int) ∣ cf p i) : d ∣ pcon p := by
  unfold pcon
  have : ∀ (l : List Int) (g : Nat), d ∣ g → (∀ c ∈ l, (d : Int) ∣ c) → d ∣ l.foldl (fun g c => Int.gcd (g : Int) c) g := by
    intro l
    induction l with
    | nil => intro g hg _; exact hg
    | cons c l ih =>
      intro g hg hl
      rw [List.foldl_cons]
      refine ih _ ?_ fun x hx => hl x (List.mem_cons_of_mem _ hx)
      have h1 : d ∣ c.natAbs := ncd.mp (hl c List.mem_cons_self)
      show d ∣ Nat.gcd (Int.natAbs (g : Int)) c.natAbs
      rw [Int.natAbs_natCast]
      exact Nat.dvd_gcd hg h1
  refine this p 0 (Nat.dvd_zero _) fun c hc => ?_
  obtain ⟨i, hi, e⟩ := List.mem_iff_getElem.mp hc
  rw [← e, ← cf_lt hi]
  exact h i
theorem pcon_dvd_cf (p : List Int) (i : Nat) : (pcon p : Int) ∣ cf p i := by
  by_cases l : i < p.length
  · exact (pcon_dvd p 0).2 _ (by rw [cf_lt l]; exact List.getElem_mem _)
  · rw [cf_ge (by omega)]; exact Int.dvd_zero _
/-! ### lowest pairs -/
structure Low (t b : List Int) : Prop where
  nt : Nrm t
  nb : Nrm b
  ne : b ≠ []
  top : 0 < cf b (b.length - 1)
  con : Nat.gcd (pcon t) (pcon b) = 1
  cop : ∃ u v : List Int, ∃ n : Int, n ≠ 0 ∧ ∀ x, pei u x * pei t x + pei v x * pei b x = n
theorem pei_eq {p q : List Int} (hp : Nrm p) (hq : Nrm q) (h : ∀ x, pei p x = pei q x) (i : Nat) : cf p i = cf q i := by rw [pei_inj hp hq h]
/-- all integers divided -/
def pdiv (d : Int) (p : List Int) : List Int := p.map fun c => c / d
theorem pei_pdiv {d : Int} {p : List Int} (h : ∀ i, d ∣ cf p i) (x : Int) : d * pei (pdiv d p) x = pei p x := by
  have e : pei (pby d (pdiv d p)) x = pei p x := pei_ext x _ _ fun i => by
    rw [cf_pby]
    unfold pdiv
    rw [cf_map (fun c => c / d) (Int.zero_ediv _)]
    exact Int.mul_ediv_cancel' (h i)
  rw [← pei_pby, e]
theorem low_step {t b T B : List Int} (con : Nat.gcd (pcon t) (pcon b) = 1) : ∀ (N : Nat) (n : Int) (h : List Int), n.natAbs = N → n ≠ 0 → (∀ x, n * pei T x = pei h x * pei t x) → (∀ x, n * pei B x = pei h x * pei b x) →
    ∃ h', (∀ x, pei T x = pei h' x * pei t x) ∧ ∀ x, pei B x = pei h' x * pei b x := by
  intro N
  induction N using Nat.strongRecOn with
  | _ N ih =>
    intro n h hN n0 e1 e2
    by_cases hn : N = 1
    · refine ⟨pby n h, fun x => ?_, fun x => ?_⟩
      · have := e1 x
        have nn : n * n = 1 := by
          rcases Int.natAbs_eq n with z | z <;> rw [z, hN, hn] <;> decide
        rw [pei_pby, Int.mul_assoc, ← this, ← Int.mul_assoc, nn, Int.one_mul]
      · have := e2 x
        have nn : n * n = 1 := by
          rcases Int.natAbs_eq n with z | z <;> rw [z, hN, hn] <;> decide
        rw [pei_pby, Int.mul_assoc, ← this, ← Int.mul_assoc, nn, Int.one_mul]
    · obtain ⟨d, pd, dn⟩ := pri_ex (n := N) (by omega)
      have dn' : (d : Int) ∣ n := ncd.mpr (by rw [hN]; exact dn)
      have key : ∀ {s S : List Int}, (∀ x, n * pei S x = pei h x * pei s x) → ∀ i, (d : Int) ∣ conv h s i := fun {s S} e i => by
        have z := pei_eq (p := trim (pby n S)) (q := trim (pmul h s)) (nrm_trim _) (nrm_trim _) (fun x => by rw [pei_trim, pei_trim, pei_pby, pei_pmul]; exact e x) i
        rw [cf_trim, cf_trim, cf_pby, cf_pmul] at z
        rw [← z]
        exact Int.dvd_mul_of_dvd_left dn'
      have dh : ∀ i, (d : Int) ∣ cf h i := by
        rcases gauss pd (key e1) with z | z1
        · exact z
        rcases gauss pd (key e2) with z | z2
        · exact z
        exfalso
        have := Nat.dvd_gcd (dvd_pcon z1) (dvd_pcon z2)
        rw [con] at this
        have := Nat.le_of_dvd (by decide) this
        have := pd.one
        omega
      obtain ⟨n', hn'⟩ := dn'
      have d0 : (d : Int) ≠ 0 := by have := pd.one; omega
      have n0' : n' ≠ 0 := fun z => n0 (by rw [hn', z, Int.mul_zero])
      have lt : n'.natAbs < N := by
        rw [← hN, hn', Int.natAbs_mul, Int.natAbs_natCast]
        have := pd.one
        have : 0 < n'.natAbs := by omega
        have : 2 * n'.natAbs ≤ d * n'.natAbs := Nat.mul_le_mul_right _ pd.one
        omega
      refine ih _ lt n' (pdiv d h) rfl n0' (fun x => ?_) fun x => ?_
      · refine Int.eq_of_mul_eq_mul_left d0 ?_
        rw [← Int.mul_assoc, ← hn', e1, ← pei_pdiv dh, Int.mul_assoc]
      · refine Int.eq_of_mul_eq_mul_left d0 ?_
        rw [← Int.mul_assoc, ← hn', e2, ← pei_pdiv dh, Int.mul_assoc]
/-- what is led crosswise by a lowest pair is a multiple of it -/
theorem low_fac {t b T B : List Int} (L : Low t b) (h : ∀ x, pei t x * pei B x = pei T x * pei b x) : ∃ s, Nrm s ∧ (∀ x, pei T x = pei s x * pei t x) ∧ ∀ x, pei B x = pei s x * pei b x := by
  obtain ⟨u, v, n, n0, e⟩ := L.cop
  obtain ⟨s, h1, h2⟩ := low_step (T := T) (B := B) L.con _ n (pplus (pmul u T) (pmul v B)) rfl n0 (fun x => by
      have b : pei v x * (pei t x * pei B x) = pei v x * (pei T x * pei b x) := by rw [h x]
      rw [pei_pplus, pei_pmul, pei_pmul, ← e x]; grind) fun x => by
      have b : pei u x * (pei t x * pei B x) = pei u x * (pei T x * pei b x) := by rw [h x]
      rw [pei_pplus, pei_pmul, pei_pmul, ← e x]; grind
  exact ⟨trim s, nrm_trim _, fun x => by rw [pei_trim]; exact h1 x, fun x => by rw [pei_trim]; exact h2 x⟩
theorem low_uniq {t b t' b' : List Int} (L : Low t b) (L' : Low t' b') (h : ∀ x, pei t x * pei b' x = pei t' x * pei b x) : t = t' ∧ b = b' := by
  obtain ⟨s, ns, h1, h2⟩ := low_fac L h
  obtain ⟨u, v, n, n0, e⟩ := L'.cop
  have es : pmul s (pplus (pmul u t) (pmul v b)) = [n] := pei_inj (nrm_pmul ns (nrm_pplus _ _)) (fun c hc => by cases hc; exact n0) fun x => by
    have a := e x; have b := h1 x; have c := h2 x
    rw [pei_pmul, pei_pplus, pei_pmul, pei_pmul, pei_cons, pei_nil]; grind
  have ls : s.length = 1 := by
    have l := congrArg List.length es
    have a1 : s ≠ [] := fun z => by rw [z] at es; unfold pmul at es; rw [if_pos (.inl rfl)] at es; cases es
    have a2 : pplus (pmul u t) (pmul v b) ≠ [] := fun z => by rw [z] at es; unfold pmul at es; rw [if_pos (.inr rfl)] at es; cases es
    rw [pmul_length a1 a2] at l
    have := List.length_pos_iff.mpr a1
    have := List.length_pos_iff.mpr a2
    have : [n].length = 1 := rfl
    omega
  obtain ⟨c, rfl⟩ := List.length_eq_one_iff.mp ls
  have c0 : c ≠ 0 := ns c rfl
  have e1 : t' = pby c t := pei_inj L'.nt (nrm_pby' L.nt) fun x => by rw [h1, pei_cons, pei_nil, pei_pby]; grind
  have e2 : b' = pby c b := pei_inj L'.nb (nrm_pby' L.nb) fun x => by rw [h2, pei_cons, pei_nil, pei_pby]; grind
  have cc : c.natAbs = 1 := by
    have z := L'.con
    rw [e1, e2, pcon_pby, pcon_pby, Nat.gcd_mul_left, L.con] at z
    omega
  have pos := L'.top
  rw [e2, pby_length c0, cf_pby] at pos
  have := L.top
  have c1 : c = 1 := by
    rcases Int.natAbs_eq c with z | z
    · rw [cc] at z; exact z
    · rw [cc] at z
      rw [z] at pos
      have : (-((1 : Nat) : Int)) * cf b (b.length - 1) = -(cf b (b.length - 1)) := by omega
      omega
  subst c1
  refine ⟨pei_inj L.nt L'.nt fun x => by rw [e1, pei_pby]; omega, pei_inj L.nb L'.nb fun x => by rw [e2, pei_pby]; omega⟩
/-! ### values at integers -/
/-- (p less its value at a) divided by (x - a) -/
def sdv (a : Int) : List Int → List Int
  | [] => []
  | _ :: p => if p = [] then [] else pei p a :: sdv a p
theorem sdv_len (a : Int) : ∀ p : List Int, (sdv a p).length = p.length - 1
  | [] => rfl
  | c :: p => by
    rw [sdv]
    split
    · rename_i h; subst h; rfl
    · rename_i h
      rw [List.length_cons, sdv_len a p, List.length_cons]
      have := List.length_pos_iff.mpr h
      omega
theorem pei_sdv (a x : Int) : ∀ p : List Int, (x - a) * pei (sdv a p) x = pei p x - pei p a
  | [] => by simp only [sdv, pei_nil]; omega
  | c :: p => by
    rw [sdv]
    split
    · rename_i h; subst h; rw [pei_nil, pei_cons, pei_cons, pei_nil, pei_nil]; omega
    · have ih := pei_sdv a x p
      rw [pei_cons, pei_cons, pei_cons]; grind
theorem cf_sdv0 (a : Int) : ∀ p : List Int, cf p 0 = pei p a - a * cf (sdv a p) 0
  | [] => by rw [sdv, pei_nil, cf_nil]; omega
  | c :: p => by
    rw [sdv]
    split
    · rename_i h; subst h; rw [cf_cons_zero, cf_nil, pei_cons, pei_nil]; omega
    · rw [cf_cons_zero, cf_cons_zero, pei_cons]; omega
theorem cf_sdv (a : Int) : ∀ (p : List Int) (i : Nat), cf p (i + 1) = cf (sdv a p) i - a * cf (sdv a p) (i + 1)
  | [], i => by simp only [sdv, cf_nil]; omega
  | c :: p, i => by
    rw [sdv]
    split
    · rename_i h; subst h; rw [cf_cons_succ]; simp only [cf_nil]; omega
    · rw [cf_cons_succ]
      cases i with
      | zero => rw [cf_cons_zero, cf_cons_succ]; exact cf_sdv0 a p
      | succ i => rw [cf_cons_succ, cf_cons_succ]; exact cf_sdv a p i
theorem bd_pei {a k : Nat} {x : Int} (hx : Bd k x) : ∀ {p : List Int}, BdP a p → Bd (a + p.length * (k + 1)) (pei p x)
  | [], _ => by rw [pei_nil]; exact bd_zero
  | c :: p, h => by
    rw [pei_cons, List.length_cons, Nat.add_mul]
    have b := bd_pei hx (p := p) fun c hc => h c (List.mem_cons_of_mem _ hc)
    exact ((((h c List.mem_cons_self).mono (show a ≤ k + (a + p.length * (k + 1)) by omega)).add (hx.mul b))).mono (by omega)
/-- bounded at enough places, bounded as a list -/
theorem bd_vals {k : Nat} : ∀ (xs : List Int) (m : Nat) (p : List Int), xs.Nodup → p.length ≤ xs.length → (∀ x ∈ xs, Bd k x ∧ Bd m (pei p x)) → ∀ i, Bd (m + xs.length * (k + 3)) (cf p i)
  | [], m, p, _, hl, _, i => by
    have : p = [] := List.eq_nil_of_length_eq_zero (by simpa using hl)
    rw [this, cf_nil]; exact bd_zero
  | a :: xs, m, p, hn, hl, h, i => by
    have hn' := List.nodup_cons.mp hn
    obtain ⟨ha, hv⟩ := h a List.mem_cons_self
    have ih := bd_vals xs (m + 1) (sdv a p) hn'.2 (by rw [sdv_len]; rw [List.length_cons] at hl; omega) fun x hx => by
      obtain ⟨h1, h2⟩ := h x (List.mem_cons_of_mem _ hx)
      refine ⟨h1, ?_⟩
      have e := pei_sdv a x p
      have ne : x - a ≠ 0 := fun z => hn'.1 (by have : x = a := by omega
                                                rw [← this]; exact hx)
      have b : Bd (m + 1) (pei p x - pei p a) := by rw [Int.sub_eq_add_neg]; exact h2.add hv.neg
      rw [← e] at b
      unfold Bd at *
      rw [Int.natAbs_mul] at b
      exact Nat.lt_of_le_of_lt (Nat.le_mul_of_pos_left _ (by omega)) b
    rw [List.length_cons, Nat.add_mul]
    have sub : ∀ {K : Nat} {y z : Int}, Bd K y → Bd K z → Bd (K + 1) (y - z) := fun {K y z} a b => by rw [Int.sub_eq_add_neg]; exact a.add b.neg
    cases i with
    | zero =>
      rw [cf_sdv0 a p]
      exact (sub (hv.mono (show m ≤ k + (m + 1 + xs.length * (k + 3)) by omega)) (ha.mul (ih 0))).mono (by omega)
    | succ i =>
      rw [cf_sdv a p i]
      exact (sub ((ih i).mono (show _ ≤ k + (m + 1 + xs.length * (k + 3)) by omega)) (ha.mul (ih (i + 1)))).mono (by omega)
/-- no more roots than the degree -/
theorem roots_lt : ∀ (xs : List Int) (p : List Int), xs.Nodup → (∀ x ∈ xs, pei p x = 0) → (∃ y, pei p y ≠ 0) → xs.length < p.length
  | [], p, _, _, ⟨y, hy⟩ => by
    cases p with
    | nil => exact absurd rfl hy
    | cons c p => exact Nat.succ_pos _
  | a :: xs, p, hn, h, ⟨y, hy⟩ => by
    have hn' := List.nodup_cons.mp hn
    have ha := h a List.mem_cons_self
    have ih := roots_lt xs (sdv a p) hn'.2 (fun x hx => by
      have e := pei_sdv a x p
      rw [ha, h x (List.mem_cons_of_mem _ hx)] at e
      have ne : x - a ≠ 0 := fun z => hn'.1 (by have : x = a := by omega
                                                rw [← this]; exact hx)
      exact (Int.mul_eq_zero.mp (show (x - a) * pei (sdv a p) x = 0 by omega)).resolve_left ne) ⟨y, fun z => hy (by
      have e := pei_sdv a y p
      rw [z, ha, Int.mul_zero] at e
      omega)⟩
    rw [sdv_len] at ih
    rw [List.length_cons]
    omega
/-- what divides has not much greater integers -/
theorem bd_fac {a L k : Nat} {T s t : List Int} (hL : 2 * L ≤ 2 ^ k) (ne : ∃ y, pei T y ≠ 0) (bT : BdP a T) (lT : T.length ≤ L) (lt : t.length ≤ L) (e : ∀ x, pei T x = pei s x * pei t x) : BdP (a + L * (2 * k + 4)) t := by
  have hn : ((List.range (2 * L)).map fun (i : Nat) => (i : Int)).Nodup := by
    refine List.Pairwise.map _ (fun x y h z => h ?_) List.nodup_range
    exact Int.ofNat.inj z
  generalize hX : ((List.range (2 * L)).map fun (i : Nat) => (i : Int)) = X at hn
  have lX : X.length = 2 * L := by rw [← hX]; simp
  have bX : ∀ x ∈ X, Bd k x := fun x hx => by
    rw [← hX] at hx
    obtain ⟨i, hi, rfl⟩ := List.mem_map.mp hx
    have := List.mem_range.mp hi
    unfold Bd
    rw [Int.natAbs_natCast]
    omega
  have split : ∀ (l : List Int), (l.filter fun x => decide (pei T x = 0)).length + (l.filter fun x => !decide (pei T x = 0)).length = l.length := by
    intro l
    induction l with
    | nil => rfl
    | cons c l ih =>
      rw [List.filter_cons, List.filter_cons, List.length_cons]
      cases decide (pei T c = 0) <;> simp <;> omega
  have s1 := split X
  have r := roots_lt (X.filter fun x => decide (pei T x = 0)) T (hn.filter _) (fun x hx => by have := (List.mem_filter.mp hx).2; simpa using this) ne
  have b := bd_vals (k := k) ((X.filter fun x => !decide (pei T x = 0)).take L) (a + L * (k + 1)) t ((hn.filter _).sublist (List.take_sublist _ _)) (by rw [List.length_take]; omega) fun x hx => by
    have hx := List.mem_filter.mp (List.mem_of_mem_take hx)
    have nz : pei T x ≠ 0 := by simpa using hx.2
    refine ⟨bX x hx.1, ?_⟩
    have v := bd_pei (bX x hx.1) bT
    have v := v.mono (show a + T.length * (k + 1) ≤ a + L * (k + 1) by have : T.length * (k + 1) ≤ L * (k + 1) := Nat.mul_le_mul_right _ lT; omega)
    rw [e x] at v nz
    have s0 : pei s x ≠ 0 := fun z => nz (by rw [z, Int.zero_mul])
    unfold Bd at *
    rw [Int.natAbs_mul] at v
    exact Nat.lt_of_le_of_lt (Nat.le_mul_of_pos_left _ (by omega)) v
  refine bdp_cf fun i => (b i).mono ?_
  rw [List.length_take]
  have h1 : min L (X.filter fun x => !decide (pei T x = 0)).length * (k + 3) ≤ L * (k + 3) := Nat.mul_le_mul_right _ (Nat.min_le_left _ _)
  have h2 : L * (2 * k + 4) = L * (k + 1) + L * (k + 3) := by rw [← Nat.mul_add]; congr 1; omega
  show a + L * (k + 1) + min L (X.filter fun x => !decide (pei T x = 0)).length * (k + 3) ≤ _
  omega
/-! ### more of lowest pairs -/
def Crs (t b T B : List Int) : Prop := ∀ x, pei t x * pei B x = pei T x * pei b x
theorem pei_ne {p : List Int} (hp : Nrm p) (h : p ≠ []) : ∃ y, pei p y ≠ 0 := by
  refine Classical.byContradiction fun z => h (pei_inj hp nrm_nil fun n => ?_)
  rw [pei_nil]
  exact Classical.not_not.mp fun q => z ⟨n, q⟩
theorem pei_cancel {p q B : List Int} (hB : Nrm B) (ne : B ≠ []) (h : ∀ x, pei p x * pei B x = pei q x * pei B x) (x : Int) : pei p x = pei q x := by
  have e : pmul (pplus p (pby (-1) q)) B = [] := pei_inj (nrm_pmul (nrm_pplus _ _) hB) nrm_nil fun y => by
    have := h y
    rw [pei_pmul, pei_pplus, pei_pby, pei_nil]; grind
  rcases pmul_zero e with z | z
  · have := congrArg (fun l => pei l x) z
    simp only [pei_pplus, pei_pby, pei_nil] at this
    omega
  · exact absurd z ne
/-- equal fractions have one lowest pair -/
theorem low_one {t b t' b' T B T' B' : List Int} (L : Low t b) (L' : Low t' b') (nB : Nrm B) (ne : B ≠ []) (nB' : Nrm B') (ne' : B' ≠ []) (h : Crs t b T B) (h' : Crs t' b' T' B') (e : Crs T B T' B') : t = t' ∧ b = b' := by
  refine low_uniq L L' fun x => ?_
  have hBB : Nrm (pmul B B') := nrm_pmul nB nB'
  have nBB : pmul B B' ≠ [] := fun z => (pmul_zero z).elim ne ne'
  have := pei_cancel (p := pmul t b') (q := pmul t' b) hBB nBB (fun x => by
    have a1 := h x
    have a2 := h' x
    have a3 := e x
    rw [pei_pmul, pei_pmul, pei_pmul]
    have c1 : pei t x * pei b' x * (pei B x * pei B' x) = (pei t x * pei B x) * pei b' x * pei B' x := by grind
    have c2 : pei t' x * pei b x * (pei B x * pei B' x) = (pei t' x * pei B' x) * pei b x * pei B x := by grind
    rw [c1, c2, a1, a2]
    have c3 : pei T x * pei b x * pei b' x * pei B' x = (pei T x * pei B' x) * (pei b x * pei b' x) := by grind
    rw [c3, a3]; grind) x
  rw [pei_pmul, pei_pmul] at this
  exact this
theorem low_nought : Low [] [1] := ⟨nrm_nil, fun c hc => by cases hc; decide, by decide, by decide, by decide, [], [1], 1, by decide, fun x => by rw [pei_nil, pei_cons, pei_nil]; omega⟩
/-- bounds of a lowest pair -/
theorem low_bd {t b T B : List Int} {a L k : Nat} (hL : 2 * L ≤ 2 ^ k) (L0 : Low t b) (h : Crs t b T B) (nT : Nrm T) (nB : Nrm B) (ne : B ≠ []) (bT : BdP a T) (bB : BdP a B) (lT : T.length ≤ L) (lB : B.length ≤ L) :
    (BdP (a + L * (2 * k + 4)) t ∧ BdP (a + L * (2 * k + 4)) b) ∧ t.length ≤ max T.length 0 ∧ b.length ≤ B.length := by
  obtain ⟨s, ns, h1, h2⟩ := low_fac L0 h
  have s0 : s ≠ [] := fun z => by
    obtain ⟨y, hy⟩ := pei_ne nB ne
    rw [h2 y, z, pei_nil, Int.zero_mul] at hy
    exact hy rfl
  have sl := List.length_pos_iff.mpr s0
  have e1 : T = pmul s t := pei_inj nT (nrm_pmul ns L0.nt) fun x => by rw [h1, pei_pmul]
  have e2 : B = pmul s b := pei_inj nB (nrm_pmul ns L0.nb) fun x => by rw [h2, pei_pmul]
  have lb : b.length ≤ B.length := by rw [e2, pmul_length s0 L0.ne]; omega
  by_cases z : t = []
  · subst z
    exact ⟨⟨fun c hc => (nomatch hc), bd_fac hL (pei_ne nB ne) bB lB (by omega) h2⟩, Nat.zero_le _, lb⟩
  · have lt : t.length ≤ T.length := by rw [e1, pmul_length s0 z]; omega
    have nT0 : T ≠ [] := fun q => by rw [q] at e1; exact (pmul_zero e1.symm).elim s0 z
    exact ⟨⟨bd_fac hL (pei_ne nT nT0) bT lT (by omega) h1, bd_fac hL (pei_ne nB ne) bB lB (by omega) h2⟩, by omega, lb⟩
end PM

/-! M6: the lowest pair that the ways of the program and of the laws make. -/
namespace PM
theorem over_pm {g : Int} {p : List Int} (hg : g ≠ 0) (np : Nrm p) (h : ∀ i, g ∣ cf p i) : pby g (p.map fun c => c.fdiv g) = p ∧ Nrm (p.map fun c => c.fdiv g) := by
  have hc : ∀ i, g * cf (p.map fun c => c.fdiv g) i = cf p i := fun i => by
    rw [cf_map (fun c => c.fdiv g) (Int.zero_fdiv _), Int.fdiv_eq_ediv_of_dvd (h i)]
    exact Int.mul_ediv_cancel' (h i)
  have hn : Nrm (p.map fun c => c.fdiv g) := by
    refine nrm_of_top fun ne => ?_
    have hp : p ≠ [] := fun e => ne (by rw [e]; rfl)
    intro z
    have := hc ((p.map fun c => c.fdiv g).length - 1)
    rw [z, Int.mul_zero, List.length_map] at this
    exact nrm_top np hp this.symm
  exact ⟨ext (nrm_pby' hn) np fun i => by rw [cf_pby, hc], hn⟩
theorem pcon_plow {p : List Int} (np : Nrm p) (ne : p ≠ []) : pcon (plow p) = 1 := by
  have e := congrArg pcon (pby_plow p np)
  rw [pcon_pby] at e
  have z := pcon_ne np ne
  have a : (psh p).natAbs = pcon p := by
    unfold psh
    split
    · exact Int.natAbs_natCast _
    · rw [Int.zero_sub, Int.natAbs_neg]; exact Int.natAbs_natCast _
  rw [a] at e
  exact Nat.eq_of_mul_eq_mul_left (Nat.pos_of_ne_zero z) (e.trans (Nat.mul_one _).symm)
theorem pcon_pgcd : ∀ (k : Nat) (p q : List Int), q.length < k → Nrm p → Nrm q → (p ≠ [] → pcon p = 1) → (q ≠ [] → pcon q = 1) → (p ≠ [] ∨ q ≠ []) → pcon (pgcd p q) = 1 := by
  intro k
  induction k with
  | zero => intro p q h; omega
  | succ k ih =>
    intro p q hk hp hq h1 h2 h3
    by_cases e : q = []
    · subst e
      rw [pgcd_nil]
      exact h1 (h3.resolve_right fun z => z rfl)
    · obtain ⟨l, hn⟩ := prem_len hq e hp
      rw [pgcd_step hp hq e]
      refine ih q (prem p q) (by omega) hq hn h2 (fun z => ?_) (.inl e)
      obtain ⟨t2, q2, r2, h⟩ := pdv_ex hq e p hp
      rw [prem_of hq h] at z ⊢
      exact pcon_plow h.hr fun y => z (by rw [y]; rfl)
/-- a poly that a lowest one divides -/
theorem dvs_fac {g T : List Int} (hc : pcon g = 1) (h : Dvs g T) : ∃ s, Nrm s ∧ ∀ x, pei T x = pei s x * pei g x := by
  obtain ⟨c, a, c0, na, e⟩ := h
  obtain ⟨s, h1, _⟩ := low_step (t := g) (b := g) (T := T) (B := T) (by rw [hc]; rfl) _ c a rfl c0 e e
  exact ⟨trim s, nrm_trim _, fun x => by rw [pei_trim]; exact h1 x⟩
structure GF (T B g h1 h2 : List Int) : Prop where
  ng : Nrm g
  ge : g ≠ []
  n1 : Nrm h1
  n2 : Nrm h2
  e1 : ∀ x, pei T x = pei h1 x * pei g x
  e2 : ∀ x, pei B x = pei h2 x * pei g x
  ne : h2 ≠ []
  cop : ∃ u v : List Int, ∃ n : Int, n ≠ 0 ∧ ∀ x, pei u x * pei h1 x + pei v x * pei h2 x = n
theorem dvs_low {g p : List Int} (np : Nrm p) (h : Dvs g (plow p)) : Dvs g p := by
  by_cases z : p = []
  · subst z; exact h
  obtain ⟨c, a, c0, na, e⟩ := h
  refine ⟨c, pby (psh p) a, c0, nrm_pby' na, fun n => ?_⟩
  have e2 : pei p n = psh p * pei (plow p) n := by rw [← pei_pby, pby_plow p np]
  have := e n
  rw [e2, pei_pby]; grind
theorem gf_ex {T B : List Int} (nT : Nrm T) (nB : Nrm B) (z : T ≠ []) (ne : B ≠ []) : ∃ h1 h2, GF T B (pgcd (plow T) (plow B)) h1 h2 := by
  obtain ⟨g1, g2, g3, g4, t, u, v, ht, he⟩ := pgcd_main _ (plow T) (plow B) (Nat.lt_succ_self _) (nrm_plow nT) (nrm_plow nB)
  have nb : plow B ≠ [] := fun z => ne (by have := plow_len B; rw [z] at this; exact List.eq_nil_of_length_eq_zero this.symm)
  have ge : pgcd (plow T) (plow B) ≠ [] := fun z => nb (g2 z).2
  have hc : pcon (pgcd (plow T) (plow B)) = 1 := pcon_pgcd _ _ _ (Nat.lt_succ_self _) (nrm_plow nT) (nrm_plow nB)
    (fun z => pcon_plow nT fun y => z (by rw [y]; rfl)) (fun _ => pcon_plow nB ne) (.inr nb)
  obtain ⟨h1, n1, e1⟩ := dvs_fac hc (dvs_low nT g3)
  obtain ⟨h2, n2, e2⟩ := dvs_fac hc (dvs_low nB g4)
  have nh2 : h2 ≠ [] := fun z => by
    obtain ⟨y, hy⟩ := pei_ne nB ne
    rw [e2 y, z, pei_nil, Int.zero_mul] at hy
    exact hy rfl
  have eB : ∀ x, pei B x = psh B * pei (plow B) x := fun x => by rw [← pei_pby, pby_plow B nB]
  have sB := psh_ne nB ne
  refine ⟨h1, h2, g1, ge, n1, n2, e1, e2, nh2, ?_⟩
  generalize hg : pgcd (plow T) (plow B) = g at *
  · have sT := psh_ne nT z
    have eT : ∀ x, pei T x = psh T * pei (plow T) x := fun x => by rw [← pei_pby, pby_plow T nT]
    refine ⟨pby (psh B) u, pby (psh T) v, psh T * psh B * t, Int.mul_ne_zero (Int.mul_ne_zero sT sB) ht, fun x => ?_⟩
    have := pei_cancel (p := pplus (pmul (pby (psh B) u) h1) (pmul (pby (psh T) v) h2)) (q := [psh T * psh B * t]) g1 ge (fun x => by
      have a := he x
      have b1 := e1 x
      have b2 := e2 x
      have c1 := eT x
      have c2 := eB x
      rw [pei_pplus, pei_pmul, pei_pmul, pei_pby, pei_pby, pei_cons, pei_nil]
      have d1 : psh B * pei u x * pei h1 x * pei g x = psh B * pei u x * (psh T * pei (plow T) x) := by rw [← c1, b1]; grind
      have d2 : psh T * pei v x * pei h2 x * pei g x = psh T * pei v x * (psh B * pei (plow B) x) := by rw [← c2, b2]; grind
      have d3 : psh T * psh B * (t * pei g x) = psh T * psh B * (pei u x * pei (plow T) x + pei v x * pei (plow B) x) := by rw [a]
      grind) x
    rw [pei_pplus, pei_pmul, pei_pmul, pei_cons, pei_nil] at this
    rw [this]; omega
/-- both divided by what they share, the bottom's last integer above 0 -/
theorem low_nf {h1 h2 : List Int} (n1 : Nrm h1) (n2 : Nrm h2) (ne : h2 ≠ []) (cop : ∃ u v : List Int, ∃ n : Int, n ≠ 0 ∧ ∀ x, pei u x * pei h1 x + pei v x * pei h2 x = n) {s : Int}
    (hs : s = if 0 < cf h2 (h2.length - 1) then (Nat.gcd (pcon h1) (pcon h2) : Int) else 0 - (Nat.gcd (pcon h1) (pcon h2) : Int)) :
    s ≠ 0 ∧ Low (h1.map fun c => c.fdiv s) (h2.map fun c => c.fdiv s) ∧ Crs (h1.map fun c => c.fdiv s) (h2.map fun c => c.fdiv s) h1 h2 := by
  have z2 := pcon_ne n2 ne
  have g0 : Nat.gcd (pcon h1) (pcon h2) ≠ 0 := fun z => by rw [Nat.gcd_eq_zero_iff] at z; exact z2 z.2
  have sa : s.natAbs = Nat.gcd (pcon h1) (pcon h2) := by
    rw [hs]
    split
    · exact Int.natAbs_natCast _
    · rw [Int.zero_sub, Int.natAbs_neg]; exact Int.natAbs_natCast _
  have s0 : s ≠ 0 := fun z => by rw [z] at sa; exact g0 sa.symm
  have dv : ∀ {p : List Int}, Nat.gcd (pcon h1) (pcon h2) ∣ pcon p → ∀ i, s ∣ cf p i := fun {p} d i => by
    have : (Nat.gcd (pcon h1) (pcon h2) : Int) ∣ cf p i := Int.dvd_trans (Int.natCast_dvd_natCast.mpr d) (pcon_dvd_cf p i)
    rw [← sa] at this
    exact Int.natAbs_dvd.mp this
  obtain ⟨o1, m1⟩ := over_pm s0 n1 (dv (Nat.gcd_dvd_left ..))
  obtain ⟨o2, m2⟩ := over_pm s0 n2 (dv (Nat.gcd_dvd_right ..))
  have ne2 : (h2.map fun c => c.fdiv s) ≠ [] := fun z => ne (List.map_eq_nil_iff.mp z)
  have p1 : ∀ x, s * pei (h1.map fun c => c.fdiv s) x = pei h1 x := fun x => by rw [← pei_pby, o1]
  have p2 : ∀ x, s * pei (h2.map fun c => c.fdiv s) x = pei h2 x := fun x => by rw [← pei_pby, o2]
  refine ⟨s0, ⟨m1, m2, ne2, ?_, ?_, ?_⟩, fun x => ?_⟩
  · have t := nrm_top n2 ne
    have e : s * cf (h2.map fun c => c.fdiv s) (h2.length - 1) = cf h2 (h2.length - 1) := by rw [← cf_pby, o2]
    rw [List.length_map]
    by_cases q : 0 < cf h2 (h2.length - 1)
    · rw [if_pos q] at hs
      have sp : 0 < s := by omega
      rw [← e] at q
      exact Int.not_le.mp fun w => by have := Int.mul_le_mul_of_nonneg_left w (Int.le_of_lt sp); omega
    · rw [if_neg q] at hs
      have sp : s < 0 := by omega
      have q : 0 < (-s) * cf (h2.map fun c => c.fdiv s) (h2.length - 1) := by rw [Int.neg_mul, e]; omega
      exact Int.not_le.mp fun w => by have := Int.mul_le_mul_of_nonneg_left w (show 0 ≤ -s by omega); omega
  · have a : pcon h1 = s.natAbs * pcon (h1.map fun c => c.fdiv s) := by rw [← pcon_pby, o1]
    have b : pcon h2 = s.natAbs * pcon (h2.map fun c => c.fdiv s) := by rw [← pcon_pby, o2]
    have c := sa
    rw [a, b, Nat.gcd_mul_left] at c
    have pos : 0 < s.natAbs := by omega
    exact Nat.eq_of_mul_eq_mul_left pos (by rw [← c, Nat.mul_one])
  · obtain ⟨u, v, n, n0, e⟩ := cop
    refine ⟨pby s u, pby s v, n, n0, fun x => ?_⟩
    have := e x
    rw [pei_pby, pei_pby, ← this, ← p1, ← p2]; grind
  · rw [← p1, ← p2]; grind
/-- .. of the two as they were -/
theorem crs_gf {T B g h1 h2 t b : List Int} (F : GF T B g h1 h2) (h : Crs t b h1 h2) : Crs t b T B := fun x => by
  have := h x
  rw [F.e1, F.e2, ← Int.mul_assoc, this]; grind
end PM

/-! M11: steps as lists of polys: their values, sums, products by what they do to sequences; lowest lines. -/
namespace PM
abbrev Ln := List (List Int)
def cp (s : Ln) (i : Nat) : List Int := s.getD i []
theorem cp_ge {s : Ln} {i : Nat} (h : s.length ≤ i) : cp s i = [] := by
  unfold cp; rw [List.getD_eq_getElem?_getD, List.getElem?_eq_none h]; rfl
theorem cp_lt {s : Ln} {i : Nat} (h : i < s.length) : cp s i = s[i] := by
  unfold cp; rw [List.getD_eq_getElem?_getD, List.getElem?_eq_getElem h]; rfl
def cv (s : Ln) (i : Nat) (x : Int) : Int := pei (cp s i) x
theorem cv_ge {s : Ln} {i : Nat} (h : s.length ≤ i) (x : Int) : cv s i x = 0 := by unfold cv; rw [cp_ge h]; rfl
def NrL (s : Ln) : Prop := ∀ p ∈ s, Nrm p
theorem cp_mem {s : Ln} {i : Nat} (h : i < s.length) : cp s i ∈ s := by rw [cp_lt h]; exact List.getElem_mem h
theorem NrL.cp {s : Ln} (h : NrL s) (i : Nat) : Nrm (PM.cp s i) := by
  rcases Nat.lt_or_ge i s.length with q | q
  · exact h _ (cp_mem q)
  · rw [cp_ge q]; exact nrm_nil
structure NSt (s : Ln) : Prop where
  n : NrL s
  top : s ≠ [] → cp s (s.length - 1) ≠ []
theorem nst_nil : NSt [] := ⟨fun _ h => (nomatch h), fun h => absurd rfl h⟩
theorem lsnoc_ind {P : Ln → Prop} (h0 : P []) (h1 : ∀ p c, P p → P (p ++ [c])) (p : Ln) : P p := by
  have : ∀ n : Nat, ∀ p : Ln, p.length = n → P p := by
    intro n
    induction n with
    | zero => intro p e; rw [List.eq_nil_of_length_eq_zero e]; exact h0
    | succ n ih =>
      intro p e
      have hp : p ≠ [] := fun z => by rw [z] at e; cases e
      rw [← List.dropLast_concat_getLast hp]
      exact h1 _ _ (ih _ (by rw [List.length_dropLast]; omega))
  exact this _ p rfl
theorem cp_snoc (s : Ln) (p : List Int) (i : Nat) : cp (s ++ [p]) i = if i < s.length then cp s i else if i = s.length then p else [] := by
  unfold cp
  simp only [List.getD_eq_getElem?_getD]
  by_cases h : i < s.length
  · rw [if_pos h, List.getElem?_append_left h]
  · rw [if_neg h, List.getElem?_append_right (by omega)]
    by_cases e : i = s.length
    · rw [if_pos e, e]; simp
    · rw [if_neg e, List.getElem?_eq_none (by simp; omega)]; rfl
/-- without noughts at the end -/
def strm (s : Ln) : Ln := (s.reverse.dropWhile fun p => p.isEmpty).reverse
theorem strm_nil : strm [] = [] := rfl
theorem strm_snoc (s : Ln) (p : List Int) : strm (s ++ [p]) = if p = [] then strm s else s ++ [p] := by
  unfold strm
  rw [List.reverse_append, List.reverse_singleton, List.singleton_append, List.dropWhile_cons]
  by_cases h : p = []
  · rw [if_pos h, if_pos (by rw [h]; rfl)]
  · rw [if_neg h, if_neg (by simpa using h)]
    simp
theorem cp_strm (s : Ln) (i : Nat) : cp (strm s) i = cp s i := by
  refine lsnoc_ind (P := fun s => cp (strm s) i = cp s i) rfl (fun s p ih => ?_) s
  rw [strm_snoc]
  by_cases h : p = []
  · rw [if_pos h, ih, cp_snoc, h]
    split
    · rfl
    · split
      · rename_i z _; exact cp_ge (by omega)
      · rename_i z _; exact cp_ge (by omega)
  · rw [if_neg h]
theorem strm_len (s : Ln) : (strm s).length ≤ s.length := by
  refine lsnoc_ind (P := fun s => (strm s).length ≤ s.length) (Nat.le_refl _) (fun s p ih => ?_) s
  rw [strm_snoc]; split
  · rw [List.length_append]; exact Nat.le_trans ih (Nat.le_add_right _ _)
  · exact Nat.le_refl _
theorem strm_mem {s : Ln} {p : List Int} (h : p ∈ strm s) : p ∈ s := by
  unfold strm at h
  rw [List.mem_reverse] at h
  have := (List.dropWhile_sublist (fun p : List Int => p.isEmpty)).subset h
  rwa [List.mem_reverse] at this
theorem nst_strm {s : Ln} (h : NrL s) : NSt (strm s) := by
  refine ⟨fun p hp => h p (strm_mem hp), ?_⟩
  clear h
  refine lsnoc_ind (P := fun s => strm s ≠ [] → cp (strm s) ((strm s).length - 1) ≠ []) (fun h => absurd rfl h) (fun s p ih => ?_) s
  rw [strm_snoc]
  by_cases h : p = []
  · rw [if_pos h]; exact ih
  · rw [if_neg h]
    intro _
    rw [cp_snoc, List.length_append]
    simp [h]
theorem nst_len {s t : Ln} (hs : NSt s) (h : ∀ i, cp s i = cp t i) : s.length ≤ t.length := by
  rcases Nat.lt_or_ge t.length s.length with q | q
  · have ne : s ≠ [] := fun e => by rw [e] at q; simp at q
    have := hs.top ne
    rw [h, cp_ge (by omega)] at this
    exact absurd rfl this
  · exact q
theorem nst_ext {s t : Ln} (hs : NSt s) (ht : NSt t) (h : ∀ i, cp s i = cp t i) : s = t := by
  have e := Nat.le_antisymm (nst_len hs h) (nst_len ht fun i => (h i).symm)
  refine List.ext_getElem e fun i h1 h2 => ?_
  have := h i
  rwa [cp_lt h1, cp_lt h2] at this
theorem nst_ext_v {s t : Ln} (hs : NSt s) (ht : NSt t) (h : ∀ i x, cv s i x = cv t i x) : s = t := nst_ext hs ht fun i => pei_inj (hs.n.cp i) (ht.n.cp i) (h i)
theorem strm_of {s : Ln} (h : NSt s) : strm s = s := nst_ext (nst_strm h.n) h (cp_strm s)
theorem cv_strm (s : Ln) (i : Nat) (x : Int) : cv (strm s) i x = cv s i x := by unfold cv; rw [cp_strm]
theorem cp_map_range (n : Nat) (f : Nat → List Int) (i : Nat) : cp ((List.range n).map f) i = if i < n then f i else [] := by
  by_cases h : i < n
  · rw [if_pos h, cp_lt (by simpa using h)]; simp
  · rw [if_neg h, cp_ge (by simpa using h)]
theorem cp_map (f : List Int → List Int) (h0 : f [] = []) (s : Ln) (i : Nat) : cp (s.map f) i = f (cp s i) := by
  rcases Nat.lt_or_ge i s.length with q | q
  · rw [cp_lt (by simpa using q), List.getElem_map, cp_lt q]
  · rw [cp_ge (by simpa using q), cp_ge q, h0]
/-! ### sums, steps led by a poly, moved ones -/
def splus (a b : Ln) : Ln := strm ((List.range (max a.length b.length)).map fun i => pplus (cp a i) (cp b i))
theorem nst_splus (a b : Ln) : NSt (splus a b) := nst_strm fun p hp => by
  obtain ⟨i, _, e⟩ := List.mem_map.mp hp
  rw [← e]; exact nrm_pplus _ _
theorem cv_splus (a b : Ln) (i : Nat) (x : Int) : cv (splus a b) i x = cv a i x + cv b i x := by
  unfold splus
  rw [cv_strm]
  unfold cv
  rw [cp_map_range]
  split
  · rw [pei_pplus]
  · rename_i h
    rw [cp_ge (s := a) (by omega), cp_ge (s := b) (by omega)]; rfl
def sled (p : List Int) (s : Ln) : Ln := strm (s.map (pmul p))
theorem pmul_nil_r (p : List Int) : pmul p [] = [] := by unfold pmul; rw [if_pos (.inr rfl)]
theorem nst_sled {p : List Int} {s : Ln} (hp : Nrm p) (hs : NrL s) : NSt (sled p s) := nst_strm fun q hq => by
  obtain ⟨r, hr, e⟩ := List.mem_map.mp hq
  rw [← e]; exact nrm_pmul hp (hs r hr)
theorem cv_sled (p : List Int) (s : Ln) (i : Nat) (x : Int) : cv (sled p s) i x = pei p x * cv s i x := by
  unfold sled
  rw [cv_strm]
  unfold cv
  rw [cp_map _ (pmul_nil_r p), pei_pmul]
/-! ### products -/
def mulv (a b : Ln) (n : Nat) (x : Int) : Int := sumN (n + 1) fun i => cv a i x * cv b (n - i) (x + (i : Nat))
structure IsMul (a b t : Ln) : Prop where
  n : NSt t
  v : ∀ n x, cv t n x = mulv a b n x
theorem IsMul.uniq {a b t u : Ln} (h : IsMul a b t) (g : IsMul a b u) : t = u := nst_ext_v h.n g.n fun i x => by rw [h.v, g.v]
def sumQ : Nat → (Nat → Rat) → Rat
  | 0, _ => 0
  | n + 1, f => sumQ n f + f n
theorem sumQ_congr {f g : Nat → Rat} : ∀ {n : Nat}, (∀ i, i < n → f i = g i) → sumQ n f = sumQ n g
  | 0, _ => rfl
  | n + 1, h => by rw [sumQ, sumQ, sumQ_congr fun i hi => h i (by omega), h n (by omega)]
theorem sumQ_zero {f : Nat → Rat} : ∀ {n : Nat}, (∀ i, i < n → f i = 0) → sumQ n f = 0
  | 0, _ => rfl
  | n + 1, h => by rw [sumQ, sumQ_zero fun i hi => h i (by omega), h n (by omega)]; grind
theorem sumQ_add (f g : Nat → Rat) : ∀ n : Nat, sumQ n (fun i => f i + g i) = sumQ n f + sumQ n g
  | 0 => by rw [sumQ, sumQ, sumQ]; grind
  | n + 1 => by rw [sumQ, sumQ, sumQ, sumQ_add f g n]; grind
theorem sumQ_mul (k : Rat) (f : Nat → Rat) : ∀ n : Nat, sumQ n (fun i => k * f i) = k * sumQ n f
  | 0 => by rw [sumQ, sumQ]; grind
  | n + 1 => by rw [sumQ, sumQ, sumQ_mul k f n]; grind
theorem sumQ_more {f : Nat → Rat} {n : Nat} : ∀ {m : Nat}, n ≤ m → (∀ i, n ≤ i → i < m → f i = 0) → sumQ m f = sumQ n f
  | 0, h, _ => by rw [show n = 0 by omega]
  | m + 1, h, hz => by
    by_cases e : n = m + 1
    · rw [e]
    · rw [sumQ, sumQ_more (m := m) (by omega) fun i h1 h2 => hz i h1 (by omega), hz m (by omega) (by omega)]; grind
theorem sumQ_cast (f : Nat → Int) : ∀ n : Nat, ((sumN n f : Int) : Rat) = sumQ n fun i => (f i : Rat)
  | 0 => rfl
  | n + 1 => by rw [sumN, sumQ, Rat.intCast_add, sumQ_cast f n]
theorem tri (g : Nat → Nat → Rat) : ∀ N : Nat, (sumQ N fun n => sumQ (n + 1) fun i => g i (n - i)) = sumQ N fun i => sumQ (N - i) fun j => g i j
  | 0 => rfl
  | N + 1 => by
    rw [sumQ, tri g N]
    have e : (sumQ N fun i => sumQ (N + 1 - i) fun j => g i j) = sumQ N (fun i => (sumQ (N - i) fun j => g i j) + g i (N - i)) := sumQ_congr fun i hi => by
      rw [show N + 1 - i = N - i + 1 by omega, sumQ]
    conv => rhs; rw [sumQ]
    rw [e, sumQ_add, show N + 1 - N = 0 + 1 by omega]
    simp only [sumQ]
    rw [Nat.sub_self]
    grind
theorem tri2 (g : Nat → Nat → Rat) {A B N : Nat} (h : A + B ≤ N + 1) (z1 : ∀ i j, A ≤ i → g i j = 0) (z2 : ∀ i j, B ≤ j → g i j = 0) : (sumQ N fun n => sumQ (n + 1) fun i => g i (n - i)) = sumQ A fun i => sumQ B fun j => g i j := by
  rw [tri]
  by_cases hB : B = 0
  · subst hB
    have e : (sumQ A fun i => sumQ 0 fun j => g i j) = 0 := sumQ_zero fun i hi => rfl
    rw [sumQ_zero fun i hi => sumQ_zero fun j hj => z2 i j (by omega), e]
  · rw [sumQ_more (n := A) (m := N) (by omega) fun i h1 h2 => sumQ_zero fun j _ => z1 i j h1]
    exact sumQ_congr fun i hi => sumQ_more (by omega) fun j h1 h2 => z2 i j h1
/-- what a step does to a sequence -/
def act (a : Ln) (f : Int → Rat) (x : Int) : Rat := sumQ a.length fun i => (cv a i x : Rat) * f (x + (i : Nat))
theorem act_more {a : Ln} {f : Int → Rat} {x : Int} {N : Nat} (h : a.length ≤ N) : sumQ N (fun i => (cv a i x : Rat) * f (x + (i : Nat))) = act a f x := sumQ_more h fun i h1 _ => by
  rw [cv_ge h1]; simp
theorem act_mul {a b t : Ln} (h : IsMul a b t) (f : Int → Rat) (x : Int) : act t f x = act a (act b f) x := by
  have h1 : act t f x = sumQ (max t.length (a.length + b.length)) fun n => sumQ (n + 1) fun i => (cv a i x : Rat) * (cv b (n - i) (x + (i : Nat)) : Rat) * f (x + (i : Nat) + ((n - i : Nat) : Int)) := by
    rw [← act_more (N := max t.length (a.length + b.length)) (Nat.le_max_left _ _)]
    refine sumQ_congr fun n _ => ?_
    rw [h.v]
    unfold mulv
    rw [sumQ_cast]
    rw [Rat.mul_comm, ← sumQ_mul]
    refine sumQ_congr fun i hi => ?_
    rw [Rat.intCast_mul, show x + (i : Nat) + ((n - i : Nat) : Int) = x + (n : Nat) by omega]
    grind
  rw [h1, tri2 (fun i j => (cv a i x : Rat) * (cv b j (x + (i : Nat)) : Rat) * f (x + (i : Nat) + (j : Int))) (A := a.length) (B := b.length) (by omega) (fun i j hi => by rw [cv_ge hi]; simp) (fun i j hj => by rw [cv_ge hj]; simp)]
  unfold act
  refine sumQ_congr fun i hi => ?_
  rw [← sumQ_mul]
  exact sumQ_congr fun j _ => by grind
theorem act_plus (a b : Ln) (f : Int → Rat) (x : Int) : act (splus a b) f x = act a f x + act b f x := by
  have l : (splus a b).length ≤ max a.length b.length := by
    unfold splus
    exact Nat.le_trans (strm_len _) (by rw [List.length_map, List.length_range]; exact Nat.le_refl _)
  rw [← act_more l, ← act_more (Nat.le_max_left a.length b.length), ← act_more (Nat.le_max_right a.length b.length), ← sumQ_add]
  exact sumQ_congr fun i _ => by rw [cv_splus, Rat.intCast_add]; grind
theorem act_add (a : Ln) (f g : Int → Rat) (x : Int) : act a (fun y => f y + g y) x = act a f x + act a g x := by
  unfold act
  rw [← sumQ_add]
  exact sumQ_congr fun i _ => by grind
/-- a step is what it does -/
theorem act_inj {a b : Ln} (ha : NSt a) (hb : NSt b) (h : ∀ f x, act a f x = act b f x) : a = b := by
  refine nst_ext_v ha hb fun k x => ?_
  have key : ∀ s : Ln, act s (fun y => if y = x + (k : Nat) then 1 else 0) x = (cv s k x : Rat) := fun s => by
    rw [← act_more (N := max s.length (k + 1)) (Nat.le_max_left _ _)]
    have one : ∀ N : Nat, k < N → sumQ N (fun i => (cv s i x : Rat) * (if x + (i : Nat) = x + (k : Nat) then 1 else 0)) = (cv s k x : Rat) := by
      intro N
      induction N with
      | zero => intro h; omega
      | succ N ih =>
        intro hk
        rw [sumQ]
        by_cases e : k = N
        · subst e
          rw [sumQ_zero fun i hi => by rw [if_neg (by omega)]; simp, if_pos rfl]; grind
        · rw [ih (by omega), if_neg (by omega)]; grind
    exact one _ (by omega)
  have := h (fun y => if y = x + (k : Nat) then 1 else 0) x
  rw [key, key] at this
  exact Rat.intCast_inj.mp this
theorem mul_assoc {a b c ab bc t u : Ln} (h1 : IsMul a b ab) (h2 : IsMul ab c t) (h3 : IsMul b c bc) (h4 : IsMul a bc u) : t = u :=
  act_inj h2.n h4.n fun f x => by
    rw [act_mul h2, act_mul h1, act_mul h4]
    unfold act
    exact sumQ_congr fun i _ => by
      have := act_mul h3 f (x + (i : Nat))
      unfold act at this
      rw [this]
theorem act_congr {a : Ln} {f g : Int → Rat} (h : ∀ y, f y = g y) (x : Int) : act a f x = act a g x := by rw [show f = g from funext h]
theorem mul_plus {a b c ab ac bc t : Ln} (h1 : IsMul a b ab) (h2 : IsMul a c ac) (hb : bc = splus b c) (h3 : IsMul a bc t) : t = splus ab ac :=
  act_inj h3.n (nst_splus _ _) fun f x => by
    rw [act_mul h3, act_plus, act_mul h1, act_mul h2, hb, act_congr (act_plus b c f), act_add]
end PM

/-! M12: what divides all polys of a line; lowest lines. -/
namespace PM
def lcon (s : Ln) : Nat := s.foldl (fun g p => Int.gcd (g : Int) (pcon p)) 0
theorem lcon_dvd (s : Ln) : ∀ g : Nat, (s.foldl (fun g p => Int.gcd (g : Int) (pcon p)) g) ∣ g ∧ ∀ p ∈ s, (s.foldl (fun g p => Int.gcd (g : Int) (pcon p)) g) ∣ pcon p := by
  induction s with
  | nil => intro g; exact ⟨Nat.dvd_refl _, fun _ h => nomatch h⟩
  | cons p s ih =>
    intro g
    rw [List.foldl_cons]
    obtain ⟨h1, h2⟩ := ih (Int.gcd (g : Int) (pcon p))
    have e : Int.gcd (g : Int) (pcon p) = Nat.gcd g (pcon p) := rfl
    refine ⟨Nat.dvd_trans h1 (by rw [e]; exact Nat.gcd_dvd_left _ _), fun q hq => ?_⟩
    rcases List.mem_cons.mp hq with z | z
    · rw [z]; exact Nat.dvd_trans h1 (by rw [e]; exact Nat.gcd_dvd_right _ _)
    · exact h2 q z
theorem dvd_lcon {d : Nat} {s : Ln} (h : ∀ p ∈ s, d ∣ pcon p) : d ∣ lcon s := by
  have : ∀ (s : Ln) (g : Nat), d ∣ g → (∀ p ∈ s, d ∣ pcon p) → d ∣ s.foldl (fun g p => Int.gcd (g : Int) (pcon p)) g := by
    intro s
    induction s with
    | nil => intro g h _; exact h
    | cons p s ih =>
      intro g hg h
      rw [List.foldl_cons]
      exact ih _ (Nat.dvd_gcd hg (h p List.mem_cons_self)) fun q hq => h q (List.mem_cons_of_mem _ hq)
  exact this s 0 (Nat.dvd_zero d) h
theorem lcon_cf (s : Ln) (i j : Nat) : (lcon s : Int) ∣ cf (cp s i) j := by
  rcases Nat.lt_or_ge i s.length with q | q
  · exact Int.dvd_trans (Int.natCast_dvd_natCast.mpr ((lcon_dvd s 0).2 _ (cp_mem q))) (pcon_dvd_cf _ _)
  · rw [cp_ge q, cf_nil]; exact Int.dvd_zero _
theorem dvd_lcon_cf {d : Nat} {s : Ln} (h : ∀ i j, (d : Int) ∣ cf (cp s i) j) : d ∣ lcon s := dvd_lcon fun p hp => by
  obtain ⟨i, hi, e⟩ := List.mem_iff_getElem.mp hp
  refine dvd_pcon fun j => ?_
  have := h i j
  rwa [cp_lt hi, e] at this
theorem lcon_ne {s : Ln} (n : NrL s) {i : Nat} (h : cp s i ≠ []) : lcon s ≠ 0 := fun e => by
  have := lcon_cf s i ((cp s i).length - 1)
  rw [e] at this
  exact nrm_top (n.cp i) h (Int.zero_dvd.mp this)
theorem lcon_pby (c : Int) (s : Ln) : lcon (s.map (pby c)) = c.natAbs * lcon s := by
  have : ∀ (s : Ln) (g : Nat), (s.map (pby c)).foldl (fun g p => Int.gcd (g : Int) (pcon p)) (c.natAbs * g) = c.natAbs * s.foldl (fun g p => Int.gcd (g : Int) (pcon p)) g := by
    intro s
    induction s with
    | nil => intro g; rfl
    | cons p s ih =>
      intro g
      rw [List.map_cons, List.foldl_cons, List.foldl_cons, ← ih]
      congr 1
      rw [pcon_pby]
      show Nat.gcd (c.natAbs * g) (c.natAbs * pcon p) = c.natAbs * Nat.gcd g (pcon p)
      exact Nat.gcd_mul_left _ _ _
  have := this s 0
  rwa [Nat.mul_zero] at this
/-- sums of products of polys are polys -/
theorem psum (us : Nat → List Int) (t : Ln) : ∀ n : Nat, ∃ w, Nrm w ∧ ∀ x, pei w x = sumN n fun i => pei (us i) x * cv t i x
  | 0 => ⟨[], nrm_nil, fun _ => rfl⟩
  | n + 1 => by
    obtain ⟨w, h1, h2⟩ := psum us t n
    exact ⟨pplus w (pmul (us n) (cp t n)), nrm_pplus _ _, fun x => by rw [pei_pplus, pei_pmul, h2, sumN]; rfl⟩
structure LowL (t : Ln) : Prop where
  n : NrL t
  con : lcon t = 1
  cop : ∃ (us : Nat → List Int) (m : Int), m ≠ 0 ∧ ∀ x, sumN t.length (fun i => pei (us i) x * cv t i x) = m
/-- led by polys they are the same -/
def Prp (s t : Ln) : Prop := s.length = t.length ∧ ∃ α β : List Int, Nrm α ∧ Nrm β ∧ α ≠ [] ∧ β ≠ [] ∧ ∀ i x, pei α x * cv s i x = pei β x * cv t i x
theorem pne_mul {p q : List Int} (hp : p ≠ []) (hq : q ≠ []) : pmul p q ≠ [] := fun z => (pmul_zero z).elim hp hq
theorem Prp.symm {s t : Ln} (h : Prp s t) : Prp t s := let ⟨l, α, β, h1, h2, h3, h4, h5⟩ := h; ⟨l.symm, β, α, h2, h1, h4, h3, fun i x => (h5 i x).symm⟩
theorem Prp.trans {s t v : Ln} (h : Prp s t) (g : Prp t v) : Prp s v := by
  obtain ⟨l, α, β, h1, h2, h3, h4, h5⟩ := h
  obtain ⟨l', γ, δ, g1, g2, g3, g4, g5⟩ := g
  refine ⟨l.trans l', pmul α γ, pmul β δ, nrm_pmul h1 g1, nrm_pmul h2 g2, pne_mul h3 g3, pne_mul h4 g4, fun i x => ?_⟩
  rw [pei_pmul, pei_pmul]
  have a := h5 i x
  have b := g5 i x
  generalize pei α x = A at *
  generalize pei β x = B at *
  generalize pei γ x = C at *
  generalize pei δ x = E at *
  generalize cv s i x = X at *
  generalize cv t i x = Y at *
  generalize cv v i x = Z at *
  grind
theorem sumN_cm (k : Int) (f g : Nat → Int) (n : Nat) (h : ∀ i, i < n → k * f i = g i) : k * sumN n f = sumN n g := by
  rw [← sumN_mul]
  exact sumN_congr h
theorem lowl_uniq {t t' : Ln} (L : LowL t) (L' : LowL t') (h : Prp t t') : ∃ k : Int, (k = 1 ∨ k = -1) ∧ ∀ i x, cv t i x = k * cv t' i x := by
  obtain ⟨us, m, m0, e1⟩ := L.cop
  obtain ⟨us', m', m0', e2⟩ := L'.cop
  obtain ⟨hl, α, β, nα, nβ, α0, β0, hp⟩ := h
  obtain ⟨w, nw, hw⟩ := psum us t' t.length
  obtain ⟨w', nw', hw'⟩ := psum us' t t'.length
  have a1 : ∀ x, pei α x * m = pei β x * pei w x := fun x => by
    rw [← e1 x, hw]
    rw [← sumN_mul, ← sumN_mul]
    exact sumN_congr fun i _ => by
      have := hp i x
      grind
  have a2 : ∀ x, pei β x * m' = pei α x * pei w' x := fun x => by
    rw [← e2 x, hw']
    rw [← sumN_mul, ← sumN_mul]
    exact sumN_congr fun i _ => by
      have := hp i x
      grind
  have nmm : Nrm [m * m'] := fun c h => by cases h; exact Int.mul_ne_zero m0 m0'
  have a3 : ∀ x, pei (pmul w w') x = pei [m * m'] x := fun x => by
    refine pei_cancel (B := pmul α β) (nrm_pmul nα nβ) (pne_mul α0 β0) (fun x => ?_) x
    rw [pei_pmul, pei_pmul, pei_cons, pei_nil]
    have z1 := a1 x
    have z2 := a2 x
    generalize pei α x = A at *
    generalize pei β x = B at *
    generalize pei w x = C at *
    generalize pei w' x = E at *
    grind
  have e3 : pmul w w' = [m * m'] := pei_inj (nrm_pmul nw nw') nmm a3
  have w0 : w ≠ [] := fun z => by rw [z] at e3; unfold pmul at e3; rw [if_pos (.inl rfl)] at e3; cases e3
  have w0' : w' ≠ [] := fun z => by rw [z] at e3; rw [pmul_nil_r] at e3; cases e3
  have hlen := pmul_length w0 w0'
  rw [e3] at hlen
  have l1 := List.length_pos_iff.mpr w0
  have l2 := List.length_pos_iff.mpr w0'
  obtain ⟨c, rfl⟩ : ∃ c, w = [c] := List.length_eq_one_iff.mp (by simp at hlen; omega)
  have c0 : c ≠ 0 := nw c rfl
  have a4 : ∀ i x, c * cv t i x = m * cv t' i x := fun i x => by
    have := pei_cancel (p := pby c (cp t i)) (q := pby m (cp t' i)) (B := β) nβ β0 (fun x => by
      rw [pei_pby, pei_pby]
      have z1 := a1 x
      have z2 := hp i x
      rw [pei_cons, pei_nil] at z1
      unfold cv at z2
      generalize pei α x = A at *
      generalize pei β x = B at *
      grind) x
    rw [pei_pby, pei_pby] at this
    exact this
  have a5 : ∀ i, pby c (cp t i) = pby m (cp t' i) := fun i => pei_inj (nrm_pby' (L.n.cp i)) (nrm_pby' (L'.n.cp i)) fun x => by rw [pei_pby, pei_pby]; exact a4 i x
  have a6 : t.map (pby c) = t'.map (pby m) := List.ext_getElem (by simp [hl]) fun i h1 h2 => by
    have := a5 i
    rw [cp_lt (by simpa using h1), cp_lt (by simpa using h2)] at this
    simpa using this
  have a7 := congrArg lcon a6
  rw [lcon_pby, lcon_pby, L.con, L'.con, Nat.mul_one, Nat.mul_one] at a7
  rcases Int.natAbs_eq_natAbs_iff.mp a7 with z | z
  · refine ⟨1, .inl rfl, fun i x => ?_⟩
    have := a4 i x
    rw [z] at this
    rw [Int.one_mul]
    exact Int.eq_of_mul_eq_mul_left m0 this
  · refine ⟨-1, .inr rfl, fun i x => ?_⟩
    have := a4 i x
    rw [z] at this
    refine Int.eq_of_mul_eq_mul_left m0 ?_
    grind
/-! ### the common poly of a line -/
noncomputable def cgf (g : List Int) (s : Ln) : List Int := s.foldl (fun g p => pgcd (plow g) (plow p)) g
theorem prem_zero {q : List Int} (nq : Nrm q) (ne : q ≠ []) : prem [] q = [] := by
  have h : Pdv [] q 1 [] [] := ⟨by decide, nrm_nil, nrm_nil, List.length_pos_iff.mpr ne, fun n => by rw [pei_nil]; omega⟩
  rw [prem_of nq h]; rfl
theorem pgcd_nil_left {q : List Int} (nq : Nrm q) : pgcd [] q = q := by
  by_cases e : q = []
  · rw [e, pgcd_nil]
  · rw [pgcd_step nrm_nil nq e, prem_zero nq e, pgcd_nil]
structure CG (g0 : List Int) (s : Ln) (g : List Int) : Prop where
  n : Nrm g
  con : g ≠ [] → pcon g = 1
  nil : g = [] → g0 = [] ∧ ∀ p ∈ s, p = []
  d0 : Dvs g g0
  d : ∀ p ∈ s, Dvs g p
  bz : ∃ (c : Int) (u0 : List Int) (us : Nat → List Int), c ≠ 0 ∧ ∀ x, c * pei g x = pei u0 x * pei g0 x + sumN s.length fun i => pei (us i) x * cv s i x
theorem Dvs.trans' {d e p : List Int} (h1 : Dvs d e) (h2 : Dvs e p) : Dvs d p := by
  obtain ⟨c1, a1, n1, m1, e1⟩ := h1
  obtain ⟨c2, a2, n2, m2, e2⟩ := h2
  refine ⟨c1 * c2, pmul a1 a2, Int.mul_ne_zero n1 n2, nrm_pmul m1 m2, fun n => ?_⟩
  rw [pei_pmul]
  have := e1 n
  have := e2 n
  grind
theorem psh_ex {p : List Int} (np : Nrm p) : ∃ k : Int, k ≠ 0 ∧ ∀ x, pei p x = k * pei (plow p) x := by
  by_cases e : p = []
  · exact ⟨1, by decide, fun x => by rw [e, plow_nil, pei_nil]; omega⟩
  · exact ⟨psh p, psh_ne np e, fun x => by rw [← pei_pby, pby_plow p np]⟩
theorem plow_e {p : List Int} (h : plow p = []) : p = [] := by
  have := plow_len p
  rw [h] at this
  exact List.eq_nil_of_length_eq_zero this.symm
theorem cg_step {g0 p : List Int} (n0 : Nrm g0) (np : Nrm p) : Nrm (pgcd (plow g0) (plow p)) ∧ (pgcd (plow g0) (plow p) ≠ [] → pcon (pgcd (plow g0) (plow p)) = 1) ∧ (pgcd (plow g0) (plow p) = [] → g0 = [] ∧ p = []) ∧
    Dvs (pgcd (plow g0) (plow p)) g0 ∧ Dvs (pgcd (plow g0) (plow p)) p ∧ ∃ (c : Int) (u v : List Int), c ≠ 0 ∧ ∀ x, c * pei (pgcd (plow g0) (plow p)) x = pei u x * pei g0 x + pei v x * pei p x := by
  obtain ⟨h1, h2, h3, h4, t, u, v, ht, he⟩ := pgcd_main _ (plow g0) (plow p) (Nat.lt_succ_self _) (nrm_plow n0) (nrm_plow np)
  refine ⟨h1, fun ne => ?_, fun z => ⟨plow_e (h2 z).1, plow_e (h2 z).2⟩, dvs_low n0 h3, dvs_low np h4, ?_⟩
  · refine pcon_pgcd _ _ _ (Nat.lt_succ_self _) (nrm_plow n0) (nrm_plow np) (fun z => pcon_plow n0 fun e => z (by rw [e]; rfl)) (fun z => pcon_plow np fun e => z (by rw [e]; rfl)) ?_
    by_cases z : plow g0 = []
    · refine .inr fun z2 => ne ?_
      rw [z, z2, pgcd_nil]
    · exact .inl z
  · obtain ⟨k, k0, hk⟩ := psh_ex n0
    obtain ⟨l, l0, hl⟩ := psh_ex np
    refine ⟨t * (k * l), pby l u, pby k v, Int.mul_ne_zero ht (Int.mul_ne_zero k0 l0), fun x => ?_⟩
    rw [pei_pby, pei_pby, hk, hl]
    have := he x
    grind
theorem cp_cons_succ (p : List Int) (s : Ln) (i : Nat) : cp (p :: s) (i + 1) = cp s i := rfl
theorem cg_ex : ∀ (s : Ln) (g0 : List Int), NrL s → Nrm g0 → (g0 ≠ [] → pcon g0 = 1) → CG g0 s (cgf g0 s)
  | [], g0, _, n0, c0 => ⟨n0, c0, fun h => ⟨h, fun _ h => nomatch h⟩, .refl _, (fun _ h => nomatch h), 1, [1], fun _ => [], by decide, fun x => by
    show 1 * pei g0 x = _
    rw [pei_cons, pei_nil]
    simp only [List.length_nil, sumN]; grind⟩
  | p :: s, g0, n, n0, c0 => by
    obtain ⟨a1, a2, a3, a4, a5, c1, u, v, c10, a6⟩ := cg_step n0 (n p List.mem_cons_self)
    have C := cg_ex s (pgcd (plow g0) (plow p)) (fun q hq => n q (List.mem_cons_of_mem _ hq)) a1 a2
    obtain ⟨c2, u0, us, c20, hb⟩ := C.bz
    refine ⟨C.n, C.con, fun z => ?_, C.d0.trans' a4, fun q hq => ?_, c2 * c1, pmul u0 u, fun i => match i with
      | 0 => pmul u0 v
      | i + 1 => pby c1 (us i), Int.mul_ne_zero c20 c10, fun x => ?_⟩
    · obtain ⟨z1, z2⟩ := C.nil z
      obtain ⟨z3, z4⟩ := a3 z1
      refine ⟨z3, fun q hq => ?_⟩
      rcases List.mem_cons.mp hq with e | e
      · rw [e]; exact z4
      · exact z2 q e
    · rcases List.mem_cons.mp hq with e | e
      · rw [e]; exact C.d0.trans' a5
      · exact C.d q e
    · have b1 := hb x
      have b2 := a6 x
      rw [List.length_cons, sumN_head]
      have e1 : sumN s.length (fun i => pei (pby c1 (us i)) x * cv (p :: s) (i + 1) x) = c1 * sumN s.length fun i => pei (us i) x * cv s i x := by
        rw [← sumN_mul]
        exact sumN_congr fun i _ => by
          rw [pei_pby]; unfold cv; rw [cp_cons_succ]; grind
      show c2 * c1 * pei (cgf (pgcd (plow g0) (plow p)) s) x = _
      have e2 : cv (p :: s) 0 x = pei p x := rfl
      simp only [e1, e2, pei_pmul]
      have b3 : c2 * c1 * pei (cgf (pgcd (plow g0) (plow p)) s) x = c1 * (c2 * pei (cgf (pgcd (plow g0) (plow p)) s) x) := by grind
      rw [b3, b1]
      generalize pei (pgcd (plow g0) (plow p)) x = G at *
      generalize sumN s.length (fun i => pei (us i) x * cv s i x) = T at *
      generalize pei u0 x = A at *
      generalize pei u x = B at *
      generalize pei v x = D at *
      generalize pei g0 x = E at *
      generalize pei p x = F at *
      grind
/-- the polys of a line by what divides all -/
structure LX (s : Ln) (g : List Int) (N : Nat) (h t : Ln) : Prop where
  gn : Nrm g
  g0 : g ≠ []
  gc : pcon g = 1
  N0 : N ≠ 0
  hl : h.length = s.length
  hn : NrL h
  e : ∀ i x, cv s i x = cv h i x * pei g x
  tl : t.length = s.length
  ht : ∀ i, cp h i = pby N (cp t i)
  L : LowL t
  hc : lcon h = N
  tf : t = h.map fun p => p.map fun c => c.fdiv (N : Int)
theorem lst_ex {P : Nat → List Int → Prop} : ∀ n : Nat, (∀ i, i < n → ∃ p, P i p) → ∃ h : Ln, h.length = n ∧ ∀ i, i < n → P i (cp h i)
  | 0, _ => ⟨[], rfl, fun i hi => absurd hi (Nat.not_lt_zero _)⟩
  | n + 1, H => by
    obtain ⟨h, h1, h2⟩ := lst_ex n fun i hi => H i (by omega)
    obtain ⟨p, hp⟩ := H n (by omega)
    refine ⟨h ++ [p], by simp [h1], fun i hi => ?_⟩
    rw [cp_snoc, h1]
    by_cases e : i < n
    · rw [if_pos e]; exact h2 i e
    · rw [if_neg e, if_pos (by omega), show i = n by omega]; exact hp
theorem lowl_ex {s : Ln} (n : NrL s) (ne : ∃ i, cp s i ≠ []) : ∃ h t, LX s (cgf [] s) (lcon s) h t := by
  have C := cg_ex s [] n nrm_nil fun h => absurd rfl h
  obtain ⟨i0, hi0⟩ := ne
  have hi1 : i0 < s.length := by
    rcases Nat.lt_or_ge i0 s.length with q | q
    · exact q
    · exact absurd (cp_ge q) hi0
  have g0 : cgf [] s ≠ [] := fun z => hi0 ((C.nil z).2 _ (cp_mem hi1))
  have gc := C.con g0
  have N0 := lcon_ne n hi0
  obtain ⟨h, hl, hh⟩ := lst_ex (P := fun i q => Nrm q ∧ ∀ x, cv s i x = pei q x * pei (cgf [] s) x) s.length fun i hi => by
    obtain ⟨q, h1, h2⟩ := dvs_fac gc (C.d _ (cp_mem hi))
    exact ⟨q, h1, h2⟩
  have hn : NrL h := fun p hp => by
    obtain ⟨i, hi, e⟩ := List.mem_iff_getElem.mp hp
    have := (hh i (by omega)).1
    rwa [cp_lt hi, e] at this
  have he : ∀ i x, cv s i x = cv h i x * pei (cgf [] s) x := fun i x => by
    rcases Nat.lt_or_ge i s.length with q | q
    · exact (hh i q).2 x
    · rw [cv_ge q, cv_ge (by omega)]; omega
  -- the greatest integer divides what is left
  have dv : ∀ i j, (lcon s : Int) ∣ cf (cp h i) j := fun i j => by
    have sp : ∀ k, (lcon s : Int) ∣ cf (cp s i) k := fun k => lcon_cf s i k
    obtain ⟨o1, o2⟩ := over_pm (g := (lcon s : Int)) (by omega) (n.cp i) sp
    have hd : Dvs (cgf [] s) ((cp s i).map fun c => c.fdiv (lcon s : Int)) := ⟨lcon s, cp h i, by omega, hn.cp i, fun x => by
      rw [← pei_pby, o1]; exact he i x⟩
    obtain ⟨q, q1, q2⟩ := dvs_fac gc hd
    have e2 : cp h i = pby (lcon s) q := pei_inj (hn.cp i) (nrm_pby' q1) fun x => by
      refine pei_cancel (B := cgf [] s) C.n g0 (fun x => ?_) x
      rw [pei_pby]
      have a := he i x
      have b : cv s i x = (lcon s : Int) * pei ((cp s i).map fun c => c.fdiv (lcon s : Int)) x := by rw [← pei_pby, o1]; rfl
      rw [b, q2] at a
      unfold cv at a
      grind
    rw [e2, cf_pby]
    exact Int.dvd_mul_right _ _
  have ht : ∀ i, cp h i = pby (lcon s) (cp (h.map fun p => p.map fun c => c.fdiv (lcon s : Int)) i) ∧ Nrm (cp (h.map fun p => p.map fun c => c.fdiv (lcon s : Int)) i) := fun i => by
    rw [cp_map (fun p : List Int => p.map fun c => c.fdiv (lcon s : Int)) rfl]
    obtain ⟨o1, o2⟩ := over_pm (g := (lcon s : Int)) (by omega) (hn.cp i) (dv i)
    exact ⟨o1.symm, o2⟩
  have hc : lcon h = lcon s := by
    refine Nat.dvd_antisymm (dvd_lcon_cf fun i j => ?_) (dvd_lcon_cf dv)
    have e3 : cp s i = pmul (cp h i) (cgf [] s) := pei_inj (n.cp i) (nrm_pmul (hn.cp i) C.n) fun x => by rw [pei_pmul]; exact he i x
    rw [e3, cf_pmul]
    unfold conv
    have : ∀ n : Nat, (lcon h : Int) ∣ sumN n fun k => cf (cp h i) k * cf (cgf [] s) (j - k) := by
      intro n
      induction n with
      | zero => exact Int.dvd_zero _
      | succ n ih => rw [sumN]; exact Int.dvd_add ih (Int.dvd_trans (lcon_cf h i n) (Int.dvd_mul_right _ _))
    exact this _
  refine ⟨h, _, C.n, g0, gc, N0, hl, hn, he, by rw [List.length_map, hl], fun i => (ht i).1, ⟨fun p hp => ?_, ?_, ?_⟩, hc, rfl⟩
  · obtain ⟨i, hi, e⟩ := List.mem_iff_getElem.mp hp
    have := (ht i).2
    rwa [cp_lt hi, e] at this
  · have e4 : h = (h.map fun p => p.map fun c => c.fdiv (lcon s : Int)).map (pby (lcon s)) := List.ext_getElem (by simp) fun i h1 h2 => by
      have := (ht i).1
      rw [cp_lt h1, cp_lt (by simpa using h1)] at this
      simpa using this
    have e5 := congrArg lcon e4
    rw [lcon_pby, hc, Int.natAbs_natCast] at e5
    exact Nat.eq_of_mul_eq_mul_left (Nat.pos_of_ne_zero N0) (by omega)
  · obtain ⟨c, u0, us, c0, hb⟩ := C.bz
    refine ⟨fun i => pby (lcon s) (us i), c, c0, fun x => ?_⟩
    obtain ⟨W, nW, hW⟩ := psum (fun i => pby (lcon s) (us i)) (h.map fun p => p.map fun c => c.fdiv (lcon s : Int)) (h.map fun p => p.map fun c => c.fdiv (lcon s : Int)).length
    rw [← hW]
    have := pei_cancel (p := W) (q := [c]) (B := cgf [] s) C.n g0 (fun x => by
      have b := hb x
      rw [pei_cons, pei_nil, Int.mul_zero, Int.add_zero, b, hW, pei_nil, Int.mul_zero, Int.zero_add, List.length_map, hl, Int.mul_comm, ← sumN_mul]
      exact sumN_congr fun i _ => by
        rw [he i x]
        have e6 : cv h i x = (lcon s : Int) * cv (h.map fun p => p.map fun c => c.fdiv (lcon s : Int)) i x := by unfold cv; rw [(ht i).1, pei_pby]
        rw [e6, pei_pby]
        grind) x
    rw [this, pei_cons, pei_nil]; omega
theorem LX.prp {s : Ln} {g : List Int} {N : Nat} {h t : Ln} (X : LX s g N h t) : Prp s t := by
  have nN : Nrm (pby (N : Int) g) := nrm_pby' X.gn
  have N0 : (N : Int) ≠ 0 := by have := X.N0; omega
  refine ⟨X.tl.symm, [1], pby N g, fun c h => by cases h; decide, nN, by simp, fun z => X.g0 ?_, fun i x => ?_⟩
  · have := pby_length (p := g) N0
    rw [z] at this
    exact List.eq_nil_of_length_eq_zero this.symm
  · rw [X.e, pei_cons, pei_nil, pei_pby]
    unfold cv
    rw [X.ht, pei_pby]; grind
end PM

/-! M13: lines turned round, lines with another sign, the one lowest line. -/
namespace PM
theorem cp_rev {s : Ln} {i : Nat} (h : i < s.length) : cp s.reverse i = cp s (s.length - 1 - i) := by
  rw [cp_lt (by simpa using h), cp_lt (by omega), List.getElem_reverse]
theorem cv_rev {s : Ln} {i : Nat} (h : i < s.length) (x : Int) : cv s.reverse i x = cv s (s.length - 1 - i) x := by unfold cv; rw [cp_rev h]
theorem NrL.rev {s : Ln} (h : NrL s) : NrL s.reverse := fun p hp => h p (List.mem_reverse.mp hp)
theorem lcon_rev (s : Ln) : lcon s.reverse = lcon s := by
  refine Nat.dvd_antisymm (dvd_lcon fun p hp => (lcon_dvd s.reverse 0).2 p (List.mem_reverse.mpr hp)) (dvd_lcon fun p hp => (lcon_dvd s 0).2 p (List.mem_reverse.mp hp))
theorem LowL.rev {t : Ln} (L : LowL t) : LowL t.reverse := by
  refine ⟨L.n.rev, by rw [lcon_rev]; exact L.con, ?_⟩
  obtain ⟨us, m, m0, h⟩ := L.cop
  refine ⟨fun i => us (t.length - 1 - i), m, m0, fun x => ?_⟩
  rw [← h x, List.length_reverse, ← sumN_rev]
  exact sumN_congr fun i hi => by
    rw [cv_rev (by omega)]
    have : t.length - 1 - (t.length - 1 - i) = i := by omega
    simp only [this]
theorem Prp.rev {s t : Ln} (h : Prp s t) : Prp s.reverse t.reverse := by
  obtain ⟨l, α, β, h1, h2, h3, h4, h5⟩ := h
  refine ⟨by simp [l], α, β, h1, h2, h3, h4, fun i x => ?_⟩
  rcases Nat.lt_or_ge i s.length with q | q
  · rw [cv_rev q, cv_rev (by omega), l]
    have := h5 (s.length - 1 - i) x
    rwa [l] at this
  · rw [cv_ge (s := s.reverse) (by simpa using q), cv_ge (s := t.reverse) (by simp; omega), Int.mul_zero, Int.mul_zero]
theorem cv_neg (t : Ln) (i : Nat) (x : Int) : cv (t.map (pby (-1))) i x = -cv t i x := by
  unfold cv
  rw [cp_map (pby (-1)) (by decide), pei_pby]; omega
theorem LowL.neg {t : Ln} (L : LowL t) : LowL (t.map (pby (-1))) := by
  refine ⟨fun p hp => ?_, by rw [lcon_pby, L.con]; rfl, ?_⟩
  · obtain ⟨q, hq, e⟩ := List.mem_map.mp hp
    rw [← e]; exact nrm_pby' (L.n q hq)
  · obtain ⟨us, m, m0, h⟩ := L.cop
    refine ⟨us, -m, by omega, fun x => ?_⟩
    rw [List.length_map, ← h x]
    have : -(sumN t.length fun i => pei (us i) x * cv t i x) = (-1) * sumN t.length fun i => pei (us i) x * cv t i x := by omega
    rw [this, ← sumN_mul]
    exact sumN_congr fun i _ => by rw [cv_neg]; grind
theorem Prp.neg {s t : Ln} (h : Prp s t) : Prp s (t.map (pby (-1))) := by
  obtain ⟨l, α, β, h1, h2, h3, h4, h5⟩ := h
  have b0 : pby (-1) β ≠ [] := fun z => h4 (by
    have := pby_length (k := -1) (p := β) (by decide)
    rw [z] at this
    exact List.eq_nil_of_length_eq_zero this.symm)
  refine ⟨by simp [l], α, pby (-1) β, h1, nrm_pby' h2, h3, b0, fun i x => ?_⟩
  rw [cv_neg, pei_pby, h5]; grind
theorem pby_top {k : Int} {p : List Int} (hk : k ≠ 0) : (pby k p).length = p.length ∧ cf (pby k p) ((pby k p).length - 1) = k * cf p (p.length - 1) := by
  have := pby_length (k := k) (p := p) hk
  exact ⟨this, by rw [this, cf_pby]⟩
theorem low_pos {t t' : Ln} (L : LowL t) (L' : LowL t') (h : Prp t t') (i : Nat) (h1 : 0 < cf (cp t i) ((cp t i).length - 1)) (h2 : 0 < cf (cp t' i) ((cp t' i).length - 1)) : ∀ i x, cv t i x = cv t' i x := by
  obtain ⟨k, hk, he⟩ := lowl_uniq L L' h
  have e : cp t i = pby k (cp t' i) := pei_inj (L.n.cp i) (nrm_pby' (L'.n.cp i)) fun x => by rw [pei_pby]; exact he i x
  have k0 : k ≠ 0 := by rcases hk with z | z <;> rw [z] <;> decide
  rw [e, (pby_top k0).2] at h1
  rcases hk with z | z
  · intro i x
    rw [he, z, Int.one_mul]
  · rw [z] at h1; omega
theorem Prp.nil {s t : Ln} (ns : NrL s) (nt : NrL t) (h : Prp s t) (i : Nat) : cp s i = [] ↔ cp t i = [] := by
  have key : ∀ {s t : Ln}, NrL t → Prp s t → cp s i = [] → cp t i = [] := fun {s t} nt h e => by
    obtain ⟨l, α, β, h1, h2, h3, h4, h5⟩ := h
    have : pmul β (cp t i) = [] := pei_inj (nrm_pmul h2 (nt.cp i)) nrm_nil fun x => by
      rw [pei_pmul]
      have := h5 i x
      unfold cv at this
      rw [e] at this
      rw [← this, pei_nil, Int.mul_zero]
    exact (pmul_zero this).resolve_left h4
  exact ⟨key nt h, key ns h.symm⟩
end PM

/-! M14: partings of steps. -/
namespace PM
theorem pei_shift (m x : Int) : ∀ p : List Int, pei (pmov m p) x = pei p (x + m)
  | [] => rfl
  | c :: p => by
    rw [pmov, pei_pplus, pei_pmul, pei_shift m x p, pei_cons]
    rw [pei_trim, pei_trim]
    simp only [pei_cons, pei_nil]
    grind
theorem pmul_len1 (p q : List Int) : (pmul p q).length ≤ p.length + q.length - 1 := by
  by_cases hp : p = []
  · rw [hp]; unfold pmul; rw [if_pos (.inl rfl)]; exact Nat.zero_le _
  by_cases hq : q = []
  · rw [hq, pmul_nil_r]; exact Nat.zero_le _
  exact Nat.le_of_eq (pmul_length hp hq)
theorem act_led {p : List Int} {s : Ln} (f : Int → Rat) (x : Int) : act (sled p s) f x = (pei p x : Rat) * act s f x := by
  have l : (sled p s).length ≤ s.length := Nat.le_trans (strm_len _) (by rw [List.length_map]; exact Nat.le_refl _)
  rw [← act_more l]
  unfold act
  rw [← sumQ_mul]
  exact sumQ_congr fun i _ => by rw [cv_sled, Rat.intCast_mul]; grind
theorem act_nil (f : Int → Rat) (x : Int) : act [] f x = 0 := rfl
theorem act_congr2 {a : Ln} {f g : Int → Rat} {x : Int} (h : ∀ i : Nat, i < a.length → f (x + i) = g (x + i)) : act a f x = act a g x := sumQ_congr fun i hi => by rw [h i hi]
/-- a step moved on by some places -/
def mvd (m : Nat) (b : Ln) : Ln := List.replicate m ([] : List Int) ++ b.map (pmov (m : Int))
def pwr (m : Nat) : Ln := List.replicate m ([] : List Int) ++ [[1]]
theorem cp_reps (k : Nat) (t : Ln) (n : Nat) : cp (List.replicate k ([] : List Int) ++ t) n = if n < k then [] else cp t (n - k) := by
  unfold cp
  simp only [List.getD_eq_getElem?_getD]
  by_cases h : n < k
  · rw [if_pos h, List.getElem?_append_left (by simpa using h), List.getElem?_eq_getElem (by simpa using h), List.getElem_replicate]; rfl
  · rw [if_neg h, List.getElem?_append_right (by simp; omega), List.length_replicate]
theorem pmov_nil' (m : Int) : pmov m [] = [] := rfl
theorem cp_mvd (m : Nat) (b : Ln) (n : Nat) : cp (mvd m b) n = if n < m then [] else pmov (m : Int) (cp b (n - m)) := by
  unfold mvd
  rw [cp_reps]
  split
  · rfl
  · rw [cp_map (pmov (m : Int)) (pmov_nil' _)]
theorem cv_mvd (m : Nat) (b : Ln) (n : Nat) (x : Int) : cv (mvd m b) n x = if n < m then 0 else cv b (n - m) (x + (m : Nat)) := by
  unfold cv
  rw [cp_mvd]
  split
  · rfl
  · rw [pei_shift]
theorem cv_pwr (m n : Nat) (x : Int) : cv (pwr m) n x = if n = m then 1 else 0 := by
  unfold cv pwr
  rw [cp_reps]
  by_cases h : n < m
  · rw [if_pos h, if_neg (by omega)]; rfl
  · rw [if_neg h]
    by_cases e : n = m
    · rw [if_pos e, e, Nat.sub_self]; show pei [1] x = 1; rw [pei_cons, pei_nil]; omega
    · rw [if_neg e, cp_ge (by simp; omega)]; rfl
theorem mvd_len (m : Nat) (b : Ln) : (mvd m b).length = m + b.length := by unfold mvd; simp
theorem pmov_ne' {m : Int} {p : List Int} (np : Nrm p) (h : p ≠ []) : pmov m p ≠ [] := fun z => h (pei_inj np nrm_nil fun x => by
  have := pei_shift m (x - m) p
  rw [z, show x - m + m = x by omega, pei_nil] at this
  rw [pei_nil]; exact this.symm)
theorem nst_mvd (m : Nat) {b : Ln} (h : NSt b) (e : b ≠ []) : NSt (mvd m b) := by
  have l := List.length_pos_iff.mpr e
  refine ⟨fun p hp => ?_, fun _ => ?_⟩
  · unfold mvd at hp
    rcases List.mem_append.mp hp with q | q
    · rw [List.eq_of_mem_replicate q]; exact nrm_nil
    · obtain ⟨r, _, e⟩ := List.mem_map.mp q
      rw [← e]; exact nrm_pmov _ _
  · rw [mvd_len, cp_mvd, if_neg (by omega), show m + b.length - 1 - m = b.length - 1 by omega]
    exact pmov_ne' (h.n.cp _) (h.top e)
theorem nst_pwr (m : Nat) : NSt (pwr m) := by
  refine ⟨fun p hp => ?_, fun _ => ?_⟩
  · unfold pwr at hp
    rcases List.mem_append.mp hp with q | q
    · rw [List.eq_of_mem_replicate q]; exact nrm_nil
    · rw [List.mem_singleton.mp q]; exact fun c h => by cases h; decide
  · unfold pwr
    rw [List.length_append, List.length_replicate, cp_reps, if_neg (by simp), show m + [[(1 : Int)]].length - 1 - m = 0 by simp]
    decide
theorem mul_mvd (m : Nat) {b : Ln} (h : NSt b) (e : b ≠ []) : IsMul (pwr m) b (mvd m b) := ⟨nst_mvd m h e, fun n x => by
  rw [cv_mvd]
  unfold mulv
  by_cases q : n < m
  · rw [if_pos q]
    exact (sumN_zero fun i hi => by rw [cv_pwr, if_neg (by omega)]; omega).symm
  · rw [if_neg q, sumN_one (k := m) (by omega) fun i hi ne => by rw [cv_pwr, if_neg ne]; omega]
    rw [cv_pwr, if_pos rfl]; omega⟩
theorem act_mvd (m : Nat) {b : Ln} (h : NSt b) (e : b ≠ []) (f : Int → Rat) (x : Int) : act (mvd m b) f x = act b f (x + (m : Nat)) := by
  rw [act_mul (mul_mvd m h e)]
  unfold act
  have l : (pwr m).length = m + 1 := by unfold pwr; simp
  rw [l, sumQ, sumQ_zero fun i hi => by rw [cv_pwr, if_neg (by omega)]; simp, cv_pwr, if_pos rfl]
  grind
theorem act_pwr (m : Nat) (f : Int → Rat) (x : Int) : act (pwr m) f x = f (x + (m : Nat)) := by
  unfold act
  have l : (pwr m).length = m + 1 := by unfold pwr; simp
  rw [l, sumQ, sumQ_zero fun i hi => by rw [cv_pwr, if_neg (by omega)]; simp, cv_pwr, if_pos rfl]
  grind
/-! ### products are there -/
theorem mulv_poly {a b : Ln} (n : Nat) : ∀ k : Nat, ∃ w, Nrm w ∧ ∀ x, pei w x = sumN k fun i => cv a i x * cv b (n - i) (x + (i : Nat))
  | 0 => ⟨[], nrm_nil, fun _ => rfl⟩
  | k + 1 => by
    obtain ⟨w, h1, h2⟩ := mulv_poly (a := a) (b := b) n k
    exact ⟨pplus w (pmul (cp a k) (pmov (k : Nat) (cp b (n - k)))), nrm_pplus _ _, fun x => by rw [pei_pplus, pei_pmul, pei_shift, h2, sumN]; rfl⟩
theorem mul_ex (a b : Ln) : ∃ t, IsMul a b t ∧ t.length ≤ a.length + b.length - 1 := by
  obtain ⟨h, hl, hh⟩ := lst_ex (P := fun n q => Nrm q ∧ ∀ x, pei q x = mulv a b n x) (a.length + b.length - 1) fun n _ => mulv_poly n (n + 1)
  have hn : NrL h := fun p hp => by
    obtain ⟨i, hi, e⟩ := List.mem_iff_getElem.mp hp
    have := (hh i (by omega)).1
    rwa [cp_lt hi, e] at this
  refine ⟨strm h, ⟨nst_strm hn, fun n x => ?_⟩, Nat.le_trans (strm_len h) (by omega)⟩
  rw [cv_strm]
  rcases Nat.lt_or_ge n (a.length + b.length - 1) with q | q
  · exact (hh n q).2 x
  · rw [cv_ge (by omega)]
    unfold mulv
    refine (sumN_zero fun i hi => ?_).symm
    rcases Nat.lt_or_ge i a.length with w | w
    · rw [cv_ge (s := b) (by omega)]; omega
    · rw [cv_ge (s := a) w]; omega
theorem mul_lenM {a b t : Ln} (na : NSt a) (nb : NSt b) (h : IsMul a b t) (ea : a ≠ []) (eb : b ≠ []) : a.length + b.length - 1 ≤ t.length := by
  have l1 := List.length_pos_iff.mpr ea
  have l2 := List.length_pos_iff.mpr eb
  rcases Nat.lt_or_ge (a.length + b.length - 2) t.length with q | q
  · omega
  exfalso
  have key : ∀ x, cv a (a.length - 1) x * cv b (b.length - 1) (x + ((a.length - 1 : Nat) : Int)) = 0 := fun x => by
    have e := h.v (a.length + b.length - 2) x
    rw [cv_ge q] at e
    unfold mulv at e
    rw [sumN_one (k := a.length - 1) (by omega) fun i hi ne => by
      rcases Nat.lt_or_ge i a.length with w | w
      · rw [cv_ge (s := b) (by omega)]; omega
      · rw [cv_ge (s := a) w]; omega] at e
    rw [show a.length + b.length - 2 - (a.length - 1) = b.length - 1 by omega] at e
    exact e.symm
  have z : pmul (cp a (a.length - 1)) (pmov ((a.length - 1 : Nat) : Int) (cp b (b.length - 1))) = [] := pei_inj (nrm_pmul (na.n.cp _) (nrm_pmov _ _)) nrm_nil fun x => by
    rw [pei_pmul, pei_shift, pei_nil]
    exact key x
  rcases pmul_zero z with w | w
  · exact na.top ea w
  · exact pmov_ne' (nb.n.cp _) (nb.top eb) w
/-- a step times another one that is of a lesser order than the other one is nought -/
theorem quot_zero {d b r : Ln} (nd : NSt d) (nb : NSt b) (nr : NSt r) (eb : b ≠ []) (hl : r.length < b.length) (h : ∀ f x, act d (act b f) x = act r f x) : d = [] ∧ r = [] := by
  obtain ⟨t, T, _⟩ := mul_ex d b
  have e : t = r := act_inj T.n nr fun f x => by rw [act_mul T, h]
  by_cases ed : d = []
  · refine ⟨ed, ?_⟩
    refine act_inj nr nst_nil fun f x => ?_
    rw [← h, ed, act_nil, act_nil]
  · have := mul_lenM nd nb T ed eb
    have l1 := List.length_pos_iff.mpr ed
    rw [e] at this
    omega
theorem sled_lenM {p : List Int} {s : Ln} (np : Nrm p) (pe : p ≠ []) (hs : NSt s) : (sled p s).length = s.length := by
  by_cases e : s = []
  · rw [e]; rfl
  have l := List.length_pos_iff.mpr e
  have h1 : (sled p s).length ≤ s.length := Nat.le_trans (strm_len _) (by rw [List.length_map]; exact Nat.le_refl _)
  rcases Nat.lt_or_ge (s.length - 1) (sled p s).length with q | q
  · omega
  exfalso
  have : pmul p (cp s (s.length - 1)) = [] := pei_inj (nrm_pmul np (hs.n.cp _)) nrm_nil fun x => by
    have := cv_sled p s (s.length - 1) x
    rw [cv_ge q] at this
    rw [pei_pmul, pei_nil]
    exact this.symm
  rcases pmul_zero this with w | w
  · exact pe w
  · exact hs.top e w
theorem splus_lenM (a b : Ln) : (splus a b).length ≤ max a.length b.length := by
  unfold splus
  exact Nat.le_trans (strm_len _) (by rw [List.length_map, List.length_range]; exact Nat.le_refl _)
/-- a step less another one -/
def sminus (a b : Ln) : Ln := splus a (sled [-1] b)
theorem nrm_m1 : Nrm [-1] := fun c h => by cases h; decide
theorem act_minus (a b : Ln) (f : Int → Rat) (x : Int) : act (sminus a b) f x = act a f x - act b f x := by
  unfold sminus
  rw [act_plus, act_led]
  have : pei [-1] x = -1 := by rw [pei_cons, pei_nil]; omega
  rw [this]; simp; grind
theorem cv_minus (a b : Ln) (i : Nat) (x : Int) : cv (sminus a b) i x = cv a i x - cv b i x := by
  unfold sminus
  rw [cv_splus, cv_sled, pei_cons, pei_nil]; omega
theorem nst_minus (a b : Ln) : NSt (sminus a b) := nst_splus _ _
theorem minus_len (a : Ln) {b : Ln} (hb : NSt b) : (sminus a b).length ≤ max a.length b.length := by
  have := splus_lenM a (sled [-1] b)
  rw [sled_lenM nrm_m1 (by decide) hb] at this
  exact this
theorem minus_nil {a b : Ln} (ha : NSt a) (hb : NSt b) (h : sminus a b = []) : a = b := nst_ext_v ha hb fun i x => by
  have := cv_minus a b i x
  rw [h, cv_ge (Nat.zero_le _)] at this
  omega
/-! ### partings -/
structure Par (a b : Ln) (p : List Int) (q r : Ln) : Prop where
  np : Nrm p
  p0 : p ≠ []
  nq : NSt q
  nr : NSt r
  e : ∀ f x, (pei p x : Rat) * act a f x = act q (act b f) x + act r f x
theorem par_zero {a : Ln} {b : Ln} (ha : NSt a) : Par a b [1] [] a := ⟨fun c h => by cases h; decide, by simp, nst_nil, ha, fun f x => by
  rw [pei_cons, pei_nil, act_nil]; simp; grind⟩
/-- a turn -/
theorem par_step {a b q r : Ln} {p u v : List Int} {m : Nat} (nb : NSt b) (eb : b ≠ []) (P : Par a b p q r) (nu : Nrm u) (nv : Nrm v) (u0 : u ≠ []) (hm : r.length = m + b.length)
    (top : ∀ x, pei u x * cv r (r.length - 1) x = pei v x * cv (mvd m b) (r.length - 1) x) :
    Par a b (pmul u p) (splus (sled u q) (sled v (pwr m))) (sminus (sled u r) (sled v (mvd m b))) ∧ (sminus (sled u r) (sled v (mvd m b))).length < r.length := by
  have l2 := List.length_pos_iff.mpr eb
  refine ⟨⟨nrm_pmul nu P.np, fun z => (pmul_zero z).elim u0 P.p0, nst_splus _ _, nst_minus _ _, fun f x => ?_⟩, ?_⟩
  · rw [pei_pmul, act_plus, act_minus, act_led, act_led, act_led, act_led, act_pwr, act_mvd m nb eb, Rat.intCast_mul]
    have := P.e f x
    grind
  · have h1 := minus_len (sled u r) (nst_sled nv (nst_mvd m nb eb).n)
    have h2 : (sled u r).length ≤ r.length := Nat.le_trans (strm_len _) (by rw [List.length_map]; exact Nat.le_refl _)
    have h3 : (sled v (mvd m b)).length ≤ r.length := Nat.le_trans (strm_len _) (by rw [List.length_map, mvd_len]; omega)
    rcases Nat.lt_or_ge (sminus (sled u r) (sled v (mvd m b))).length r.length with w | w
    · exact w
    exfalso
    have N := nst_minus (sled u r) (sled v (mvd m b))
    have el : (sminus (sled u r) (sled v (mvd m b))).length = r.length := by omega
    refine N.top (fun z => by rw [z, List.length_nil] at el; omega) (pei_inj (N.n.cp _) nrm_nil fun x => ?_)
    have := cv_minus (sled u r) (sled v (mvd m b)) (r.length - 1) x
    rw [cv_sled, cv_sled, top x, Int.sub_self] at this
    rw [el, pei_nil]
    exact this
/-- two partings are led to one -/
theorem par_same {a b q r q' r' : Ln} {p p' : List Int} (nb : NSt b) (eb : b ≠ []) (P : Par a b p q r) (P' : Par a b p' q' r') (l : r.length < b.length) (l' : r'.length < b.length) : sled p' q = sled p q' ∧ sled p' r = sled p r' := by
  have z := quot_zero (d := sminus (sled p' q) (sled p q')) (b := b) (r := sminus (sled p r') (sled p' r)) (nst_minus _ _) nb (nst_minus _ _) eb (by
    have := minus_len (sled p r') (nst_sled P'.np P.nr.n)
    rw [sled_lenM P.np P.p0 P'.nr, sled_lenM P'.np P'.p0 P.nr] at this
    omega) fun f x => by
    rw [act_minus, act_minus, act_led, act_led, act_led, act_led]
    have e1 := P.e f x
    have e2 := P'.e f x
    grind
  exact ⟨minus_nil (nst_sled P'.np P.nq.n) (nst_sled P.np P'.nq.n) z.1, (minus_nil (nst_sled P.np P'.nr.n) (nst_sled P'.np P.nr.n) z.2).symm⟩
theorem sled_inj {g : List Int} {X Y : Ln} (ng : Nrm g) (g0 : g ≠ []) (nX : NSt X) (nY : NSt Y) (h : ∀ f x, (pei g x : Rat) * act X f x = (pei g x : Rat) * act Y f x) : X = Y := by
  have e : sled g X = sled g Y := act_inj (nst_sled ng nX.n) (nst_sled ng nY.n) fun f x => by rw [act_led, act_led, h]
  refine nst_ext_v nX nY fun i x => ?_
  refine pei_cancel (p := cp X i) (q := cp Y i) ng g0 (fun x => ?_) x
  have h1 := cv_sled g X i x
  have h2 := cv_sled g Y i x
  rw [e] at h1
  rw [h1] at h2
  unfold cv at h2
  first
  | exact h2
  | (rw [Int.mul_comm, h2, Int.mul_comm])
theorem cpl_0 (p : List Int) (l : Ln) : cp (p :: l) 0 = p := rfl
theorem cp_app' (s t : Ln) (n : Nat) : cp (s ++ t) n = if n < s.length then cp s n else cp t (n - s.length) := by
  unfold cp
  simp only [List.getD_eq_getElem?_getD]
  by_cases h : n < s.length
  · rw [if_pos h, List.getElem?_append_left h]
  · rw [if_neg h, List.getElem?_append_right (by omega)]
theorem cpl_q (p : List Int) (q r : Ln) {i : Nat} (h : i < q.length) : cp (p :: (q ++ r)) (i + 1) = cp q i := by rw [cp_cons_succ, cp_app', if_pos h]
theorem cpl_r (p : List Int) (q r : Ln) (i : Nat) : cp (p :: (q ++ r)) (q.length + i + 1) = cp r i := by rw [cp_cons_succ, cp_app', if_neg (by omega), show q.length + i - q.length = i by omega]
theorem act_prop {g h : Int → Int} {q q' : Ln} {f : Int → Rat} {x : Int} (l : q.length = q'.length) (e : ∀ i, i < q.length → g x * cv q i x = h x * cv q' i x) : (g x : Rat) * act q f x = (h x : Rat) * act q' f x := by
  unfold act
  rw [← sumQ_mul, ← sumQ_mul, l]
  refine sumQ_congr fun i hi => ?_
  have := congrArg (fun z : Int => (z : Rat)) (e i (by omega))
  simp only [Rat.intCast_mul] at this
  grind
theorem par_prp {a b q r q' r' : Ln} {p p' : List Int} (ha : NSt a) (P : Par a b p q r) (h : Prp (p :: (q ++ r)) (p' :: (q' ++ r'))) (lq : q'.length = q.length) (lr : r'.length = r.length) (n' : NrL (p' :: (q' ++ r'))) : Par a b p' q' r' := by
  have nl : NrL (p :: (q ++ r)) := fun w hw => by
    rcases List.mem_cons.mp hw with e | e
    · rw [e]; exact P.np
    · rcases List.mem_append.mp e with e | e
      · exact P.nq.n w e
      · exact P.nr.n w e
  have np' : Nrm p' := n' _ List.mem_cons_self
  have nq' : NSt q' := ⟨fun w hw => n' w (List.mem_cons_of_mem _ (List.mem_append_left _ hw)), fun ne z => by
    have l1 := List.length_pos_iff.mpr ne
    have k := (Prp.nil nl n' h (q'.length - 1 + 1)).mpr (by rw [cpl_q _ _ _ (by omega)]; exact z)
    rw [lq, cpl_q _ _ _ (by omega)] at k
    exact P.nq.top (fun z => by rw [z, List.length_nil] at lq; omega) k⟩
  have nr' : NSt r' := ⟨fun w hw => n' w (List.mem_cons_of_mem _ (List.mem_append_right _ hw)), fun ne z => by
    have l1 := List.length_pos_iff.mpr ne
    have k := (Prp.nil nl n' h (q'.length + (r'.length - 1) + 1)).mpr (by rw [cpl_r]; exact z)
    rw [lq, lr, cpl_r] at k
    exact P.nr.top (fun z => by rw [z, List.length_nil] at lr; omega) k⟩
  have p0' : p' ≠ [] := fun z => P.p0 ((Prp.nil nl n' h 0).mpr z)
  obtain ⟨T, hT, _⟩ := mul_ex q' b
  obtain ⟨hl, α, β, h1, h2, h3, h4, h5⟩ := h
  have e0 : ∀ x, pei α x * pei p x = pei β x * pei p' x := fun x => h5 0 x
  have eq : ∀ i, i < q.length → ∀ x, pei α x * cv q i x = pei β x * cv q' i x := fun i hi x => by
    have := h5 (i + 1) x
    unfold cv at this ⊢
    rwa [cpl_q _ _ _ hi, cpl_q _ _ _ (by omega)] at this
  have er : ∀ i, ∀ x, pei α x * cv r i x = pei β x * cv r' i x := fun i x => by
    have := h5 (q.length + i + 1) x
    unfold cv at this ⊢
    rw [cpl_r] at this
    rw [← lq, cpl_r] at this
    exact this
  have key : sled p' a = splus T r' := by
    refine sled_inj h2 h4 (nst_sled np' ha.n) (nst_splus _ _) fun f x => ?_
    rw [act_led, act_plus, act_mul hT]
    have z1 := act_prop (g := pei α) (h := pei β) (f := act b f) (x := x) lq.symm fun i hi => eq i hi x
    have z2 := act_prop (g := pei α) (h := pei β) (f := f) (x := x) lr.symm fun i _ => er i x
    have z3 := congrArg (fun z : Int => (z : Rat)) (e0 x)
    simp only [Rat.intCast_mul] at z3
    have z4 := P.e f x
    generalize (pei α x : Rat) = A at *
    generalize (pei β x : Rat) = B at *
    generalize (pei p x : Rat) = C at *
    generalize (pei p' x : Rat) = C' at *
    generalize act a f x = U at *
    generalize act q (act b f) x = V at *
    generalize act q' (act b f) x = V' at *
    generalize act r f x = W at *
    generalize act r' f x = W' at *
    have : B * (C' * U) = A * (C * U) := by grind
    rw [this, z4]
    grind
  exact ⟨np', p0', nq', nr', fun f x => by rw [← act_led, key, act_plus, act_mul hT]⟩
structure LPar (a b : Ln) (p : List Int) (q r : Ln) : Prop where
  P : Par a b p q r
  l : r.length < b.length
  L : LowL (p :: (q ++ r))
  pos : 0 < cf p (p.length - 1)
theorem lpar_uniq {a b q r q' r' : Ln} {p p' : List Int} (nb : NSt b) (eb : b ≠ []) (P : LPar a b p q r) (P' : LPar a b p' q' r') : p = p' ∧ q = q' ∧ r = r' := by
  obtain ⟨s1, s2⟩ := par_same nb eb P.P P'.P P.l P'.l
  have lq : q.length = q'.length := by
    have := congrArg List.length s1
    rwa [sled_lenM P'.P.np P'.P.p0 P.P.nq, sled_lenM P.P.np P.P.p0 P'.P.nq] at this
  have lr : r.length = r'.length := by
    have := congrArg List.length s2
    rwa [sled_lenM P'.P.np P'.P.p0 P.P.nr, sled_lenM P.P.np P.P.p0 P'.P.nr] at this
  have ll : (p :: (q ++ r)).length = (p' :: (q' ++ r')).length := by simp [lq, lr]
  have pr : Prp (p :: (q ++ r)) (p' :: (q' ++ r')) := ⟨ll, p', p, P'.P.np, P.P.np, P'.P.p0, P.P.p0, fun i x => by
    match i with
    | 0 => show pei p' x * pei p x = pei p x * pei p' x; exact Int.mul_comm _ _
    | i + 1 =>
      rcases Nat.lt_or_ge i q.length with w | w
      · unfold cv
        rw [cpl_q _ _ _ w, cpl_q _ _ _ (by omega)]
        have h1 := cv_sled p' q i x
        have h2 := cv_sled p q' i x
        rw [s1] at h1
        rw [h1] at h2
        exact h2
      · obtain ⟨j, rfl⟩ : ∃ j, i = q.length + j := ⟨i - q.length, by omega⟩
        unfold cv
        rw [cpl_r]
        rw [lq, cpl_r]
        have h1 := cv_sled p' r j x
        have h2 := cv_sled p r' j x
        rw [s2] at h1
        rw [h1] at h2
        exact h2⟩
  have same := low_pos P.L P'.L pr 0 P.pos P'.pos
  have e : p :: (q ++ r) = p' :: (q' ++ r') := List.ext_getElem ll fun i h1 h2 => by
    have := pei_inj (P.L.n.cp i) (P'.L.n.cp i) (same i)
    rwa [cp_lt h1, cp_lt h2] at this
  obtain ⟨e1, e2⟩ := List.cons.inj e
  obtain ⟨e3, e4⟩ := List.append_inj e2 lq
  exact ⟨e1, e3, e4⟩
theorem lpar_of {a b q r q' r' : Ln} {p p' : List Int} (ha : NSt a) (P : Par a b p q r) (l : r.length < b.length) (h : Prp (p :: (q ++ r)) (p' :: (q' ++ r'))) (lq : q'.length = q.length) (lr : r'.length = r.length) (L : LowL (p' :: (q' ++ r'))) (pos : 0 < cf p' (p'.length - 1)) : LPar a b p' q' r' := ⟨par_prp ha P h lq lr L.n, by omega, L, pos⟩
end PM

/-! M15: slopes: lists of polys ahead of derivatives, by what they do to the numbers of series. -/
namespace PM
/-- a poly times a series -/
def pac (p : List Int) (f : Int → Rat) (n : Int) : Rat := sumQ p.length fun i => (cf p i : Rat) * f (n - (i : Nat))
/-- the derivative of a series -/
def dr (f : Int → Rat) (n : Int) : Rat := ((n + 1 : Int) : Rat) * f (n + 1)
def drN : Nat → (Int → Rat) → Int → Rat
  | 0, f => f
  | k + 1, f => dr (drN k f)
/-- what a slope does to a series -/
def actD (a : Ln) (f : Int → Rat) (n : Int) : Rat := sumQ a.length fun k => pac (cp a k) (drN k f) n
theorem pac_more {p : List Int} {f : Int → Rat} {n : Int} {N : Nat} (h : p.length ≤ N) : sumQ N (fun i => (cf p i : Rat) * f (n - (i : Nat))) = pac p f n := sumQ_more h fun i h1 _ => by
  rw [cf_ge h1]; simp
theorem pac_nil (f : Int → Rat) (n : Int) : pac [] f n = 0 := rfl
theorem pac_congr {p : List Int} {f g : Int → Rat} (h : ∀ y, f y = g y) (n : Int) : pac p f n = pac p g n := by rw [show f = g from funext h]
theorem pac_plus (p q : List Int) (f : Int → Rat) (n : Int) : pac (pplus p q) f n = pac p f n + pac q f n := by
  have l := pplus_len p q
  rw [← pac_more l, ← pac_more (Nat.le_max_left p.length q.length), ← pac_more (Nat.le_max_right p.length q.length), ← sumQ_add]
  exact sumQ_congr fun i _ => by rw [cf_pplus, Rat.intCast_add]; grind
theorem pac_add (p : List Int) (f g : Int → Rat) (n : Int) : pac p (fun y => f y + g y) n = pac p f n + pac p g n := by
  unfold pac
  rw [← sumQ_add]
  exact sumQ_congr fun i _ => by grind
theorem pac_zero (p : List Int) (n : Int) : pac p (fun _ => 0) n = 0 := by
  unfold pac
  exact sumQ_zero fun i _ => by grind
theorem pac_sum (p : List Int) (g : Nat → Int → Rat) (n : Int) : ∀ N : Nat, pac p (fun y => sumQ N fun k => g k y) n = sumQ N fun k => pac p (g k) n
  | 0 => by
    rw [show (fun y : Int => sumQ 0 fun k => g k y) = fun _ => 0 from rfl, pac_zero]; rfl
  | N + 1 => by
    rw [sumQ, ← pac_sum p g n N, ← pac_add]
    rfl
theorem pac_mul (p q : List Int) (f : Int → Rat) (n : Int) : pac (pmul p q) f n = pac p (pac q f) n := by
  have l := pmul_len p q
  have h1 : pac (pmul p q) f n = sumQ (p.length + q.length) fun m => sumQ (m + 1) fun i => (cf p i : Rat) * (cf q (m - i) : Rat) * f (n - (i : Nat) - ((m - i : Nat) : Int)) := by
    rw [← pac_more l]
    refine sumQ_congr fun m _ => ?_
    rw [cf_pmul]
    unfold conv
    rw [sumQ_cast, Rat.mul_comm, ← sumQ_mul]
    refine sumQ_congr fun i hi => ?_
    rw [Rat.intCast_mul, show n - (i : Nat) - ((m - i : Nat) : Int) = n - (m : Nat) by omega]
    grind
  rw [h1, tri2 (fun i j => (cf p i : Rat) * (cf q j : Rat) * f (n - (i : Nat) - (j : Int))) (A := p.length) (B := q.length) (by omega) (fun i j hi => by rw [cf_ge hi]; simp) (fun i j hj => by rw [cf_ge hj]; simp)]
  unfold pac
  refine sumQ_congr fun i hi => ?_
  rw [← sumQ_mul]
  exact sumQ_congr fun j _ => by grind
theorem sumQ_head (f : Nat → Rat) : ∀ n : Nat, sumQ (n + 1) f = f 0 + sumQ n fun i => f (i + 1)
  | 0 => by rw [sumQ, sumQ, sumQ]; grind
  | n + 1 => by
    have := sumQ_head f n
    rw [sumQ, this, sumQ]
    grind
/-- the derivative of a product -/
theorem dr_pac (p : List Int) (f : Int → Rat) (n : Int) : dr (pac p f) n = pac (pder p) f n + pac p (dr f) n := by
  have l : (pder p).length ≤ p.length := by unfold pder; simp
  have e1 : pac (pder p) f n = sumQ (p.length + 1) fun i => ((i : Int) : Rat) * ((cf p i : Rat) * f (n + 1 - (i : Nat))) := by
    rw [sumQ_head, ← pac_more l]
    have z : ((((0 : Nat) : Int)) : Rat) * ((cf p 0 : Rat) * f (n + 1 - ((0 : Nat) : Int))) = 0 := by
      rw [show (((0 : Nat) : Int) : Rat) = 0 from rfl, Rat.zero_mul]
    rw [z, Rat.zero_add]
    refine sumQ_congr fun i _ => ?_
    rw [cf_pder, Rat.intCast_mul, show n + 1 - ((i + 1 : Nat) : Int) = n - (i : Nat) by omega, show ((i + 1 : Nat) : Int) = (i : Int) + 1 by omega]
    grind
  have e2 : pac p (dr f) n = sumQ (p.length + 1) fun i => ((n + 1 - (i : Nat) : Int) : Rat) * ((cf p i : Rat) * f (n + 1 - (i : Nat))) := by
    rw [← pac_more (Nat.le_succ p.length)]
    refine sumQ_congr fun i _ => ?_
    unfold dr
    rw [show n - (i : Nat) + 1 = n + 1 - (i : Nat) by omega]
    grind
  rw [e1, e2, ← sumQ_add]
  unfold dr
  rw [← pac_more (Nat.le_succ p.length), ← sumQ_mul]
  refine sumQ_congr fun i _ => ?_
  have : ((n + 1 : Int) : Rat) = ((i : Int) : Rat) + ((n + 1 - (i : Nat) : Int) : Rat) := by
    rw [← Rat.intCast_add]; congr 1; omega
  rw [this]; grind
theorem dr_add (f g : Int → Rat) (n : Int) : dr (fun y => f y + g y) n = dr f n + dr g n := by unfold dr; grind
theorem dr_sum (g : Nat → Int → Rat) (n : Int) : ∀ N : Nat, dr (fun y => sumQ N fun k => g k y) n = sumQ N fun k => dr (g k) n
  | 0 => by unfold dr; simp [sumQ]
  | N + 1 => by
    rw [sumQ, ← dr_sum g n N, ← dr_add]
    rfl
theorem actD_more {a : Ln} {f : Int → Rat} {n : Int} {N : Nat} (h : a.length ≤ N) : sumQ N (fun k => pac (cp a k) (drN k f) n) = actD a f n := sumQ_more h fun i h1 _ => by
  rw [cp_ge h1, pac_nil]
/-- slopes with the same polys, noughts behind -/
theorem actD_of_cp {a b : Ln} (h : ∀ i, cp a i = cp b i) (f : Int → Rat) (n : Int) : actD a f n = actD b f n := by
  rw [← actD_more (Nat.le_max_left a.length b.length), ← actD_more (Nat.le_max_right a.length b.length)]
  exact sumQ_congr fun i _ => by rw [h]
theorem cp_splus (a b : Ln) (i : Nat) : cp (splus a b) i = pplus (cp a i) (cp b i) := by
  unfold splus
  rw [cp_strm, cp_map_range]
  split
  · rfl
  · rw [cp_ge (s := a) (by omega), cp_ge (s := b) (by omega)]; rfl
theorem cp_sled (p : List Int) (s : Ln) (i : Nat) : cp (sled p s) i = pmul p (cp s i) := by
  unfold sled
  rw [cp_strm, cp_map _ (pmul_nil_r p)]
theorem actD_plus (a b : Ln) (f : Int → Rat) (n : Int) : actD (splus a b) f n = actD a f n + actD b f n := by
  have l : (splus a b).length ≤ max a.length b.length := by
    unfold splus
    exact Nat.le_trans (strm_len _) (by rw [List.length_map, List.length_range]; exact Nat.le_refl _)
  rw [← actD_more l, ← actD_more (Nat.le_max_left a.length b.length), ← actD_more (Nat.le_max_right a.length b.length), ← sumQ_add]
  exact sumQ_congr fun i _ => by rw [cp_splus, pac_plus]
theorem actD_led (p : List Int) (s : Ln) (f : Int → Rat) (n : Int) : actD (sled p s) f n = pac p (actD s f) n := by
  have l : (sled p s).length ≤ s.length := by
    unfold sled
    exact Nat.le_trans (strm_len _) (by rw [List.length_map]; exact Nat.le_refl _)
  rw [← actD_more l]
  show _ = pac p (fun y => sumQ s.length fun k => pac (cp s k) (drN k f) y) n
  rw [pac_sum]
  exact sumQ_congr fun k _ => by rw [cp_sled, pac_mul]
/-- the derivative behind a slope -/
def sder (a : Ln) : Ln := splus (strm (a.map pder)) (if a = [] then [] else [] :: a)
theorem cp_sder (a : Ln) (i : Nat) : cp (sder a) i = pplus (pder (cp a i)) (cp ([] :: a) i) := by
  unfold sder
  rw [cp_splus, cp_strm, cp_map pder rfl]
  split
  · rename_i h
    rw [h]
    cases i <;> rfl
  · rfl
theorem cp_nil_cons (a : Ln) (i : Nat) : cp ([] :: a) i = if i = 0 then [] else cp a (i - 1) := by
  cases i with
  | zero => rfl
  | succ i => rw [if_neg (by omega)]; rfl
theorem nst_sder (a : Ln) : NSt (sder a) := nst_splus _ _
theorem sder_len (a : Ln) : (sder a).length ≤ a.length + 1 := by
  unfold sder splus
  refine Nat.le_trans (strm_len _) ?_
  rw [List.length_map, List.length_range]
  have := strm_len (a.map pder)
  rw [List.length_map] at this
  split
  · exact Nat.max_le.mpr ⟨by omega, by simp⟩
  · exact Nat.max_le.mpr ⟨by omega, by simp⟩
theorem actD_sder (a : Ln) (f : Int → Rat) (n : Int) : actD (sder a) f n = dr (actD a f) n := by
  rw [← actD_more (sder_len a)]
  show _ = dr (fun y => sumQ a.length fun k => pac (cp a k) (drN k f) y) n
  rw [dr_sum]
  have e1 : (sumQ (a.length + 1) fun k => pac (cp (sder a) k) (drN k f) n) = (sumQ (a.length + 1) fun k => pac (pder (cp a k)) (drN k f) n) + sumQ (a.length + 1) fun k => pac (cp ([] :: a) k) (drN k f) n := by
    rw [← sumQ_add]
    exact sumQ_congr fun k _ => by rw [cp_sder, pac_plus]
  have e2 : (sumQ (a.length + 1) fun k => pac (cp ([] :: a) k) (drN k f) n) = sumQ a.length fun k => pac (cp a k) (drN (k + 1) f) n := by
    rw [sumQ_head, show cp ([] :: a) 0 = [] from rfl, pac_nil, Rat.zero_add]
    rfl
  have e3 : (sumQ (a.length + 1) fun k => pac (pder (cp a k)) (drN k f) n) = sumQ a.length fun k => pac (pder (cp a k)) (drN k f) n := sumQ_more (Nat.le_succ _) fun i h1 _ => by
    rw [cp_ge h1]; rfl
  rw [e1, e2, e3, ← sumQ_add]
  exact sumQ_congr fun k _ => (dr_pac (cp a k) (drN k f) n).symm
/-- products -/
def slmG (F h : Ln) : Ln → Ln
  | [] => F
  | p :: a => slmG (splus F (sled p h)) (sder h) a
def slm (a b : Ln) : Ln := slmG [] b a
theorem drN_succ (k : Nat) (f : Int → Rat) : drN (k + 1) f = drN k (dr f) := by
  induction k with
  | zero => rfl
  | succ k ih => rw [drN, ih]; rfl
theorem actD_slmG (f : Int → Rat) (n : Int) : ∀ (a F h : Ln), actD (slmG F h a) f n = actD F f n + actD a (actD h f) n
  | [], F, h => by rw [slmG]; show _ = _ + (0 : Rat); grind
  | p :: a, F, h => by
    rw [slmG, actD_slmG f n a, actD_plus, actD_led]
    have e : actD (p :: a) (actD h f) n = pac p (actD h f) n + actD a (actD (sder h) f) n := by
      unfold actD
      rw [List.length_cons, sumQ_head]
      congr 1
      refine sumQ_congr fun k _ => ?_
      show pac (cp a k) _ n = _
      rw [drN_succ]
      congr 2
      funext y
      exact (actD_sder h f y).symm
    rw [e]; grind
theorem actD_slm (a b : Ln) (f : Int → Rat) (n : Int) : actD (slm a b) f n = actD a (actD b f) n := by
  unfold slm
  rw [actD_slmG]
  show (0 : Rat) + _ = _
  grind
theorem nst_slmG : ∀ (a F h : Ln), NSt F → NSt (slmG F h a)
  | [], F, h, n => n
  | p :: a, F, h, n => nst_slmG a _ _ (nst_splus _ _)
theorem nst_slm (a b : Ln) : NSt (slm a b) := nst_slmG a [] b nst_nil
/-! ### a slope is what it does -/
def fall (m : Int) : Nat → Int
  | 0 => 1
  | k + 1 => fall m k * (m - k)
theorem drN_at (f : Int → Rat) : ∀ (k : Nat) (n : Int), drN k f n = (fall (n + k) k : Rat) * f (n + k)
  | 0, n => by
    show f n = ((1 : Int) : Rat) * f (n + ((0 : Nat) : Int))
    rw [show n + ((0 : Nat) : Int) = n by omega]; grind
  | k + 1, n => by
    show dr (drN k f) n = _
    unfold dr
    rw [drN_at f k (n + 1), show n + 1 + (k : Int) = n + ((k + 1 : Nat) : Int) by omega, fall, Rat.intCast_mul, show n + ((k + 1 : Nat) : Int) - (k : Int) = n + 1 by omega]
    grind
theorem fall_zero {m k : Nat} (h : m < k) : fall (m : Int) k = 0 := by
  induction k with
  | zero => omega
  | succ k ih =>
    rw [fall]
    rcases Nat.lt_or_ge m k with q | q
    · rw [ih q, Int.zero_mul]
    · rw [show ((m : Int) - (k : Int)) = 0 by omega, Int.mul_zero]
theorem fall_pos : ∀ {k m : Nat}, k ≤ m → 0 < fall (m : Int) k
  | 0, _, _ => by show (0 : Int) < 1; decide
  | k + 1, m, h => by rw [fall]; exact Int.mul_pos (fall_pos (by omega)) (by omega)
theorem fall_head (m : Int) : ∀ k : Nat, fall m (k + 1) = m * fall (m - 1) k
  | 0 => by
    show 1 * (m - ((0 : Nat) : Int)) = m * 1
    omega
  | k + 1 => by
    rw [fall, fall_head m k, fall, Int.mul_assoc]
    congr 2
    omega
def rise (y : Int) : Nat → Int
  | 0 => 1
  | k + 1 => rise y k * (y + (k + 1 : Nat))
theorem fall_rise (y : Int) : ∀ k : Nat, fall (y + (k : Nat)) k = rise y k
  | 0 => rfl
  | k + 1 => by
    rw [fall_head, rise, show y + ((k + 1 : Nat) : Int) - 1 = y + (k : Nat) by omega, fall_rise y k, Int.mul_comm]
/-- what it does to a single number -/
theorem actD_one (s : Ln) (m n : Nat) : actD s (fun y => if y = (m : Int) then 1 else 0) (n : Int) = sumQ (m + 1) fun k => if m ≤ n + k then (cf (cp s k) (n + k - m) : Rat) * (fall (m : Int) k : Rat) else 0 := by
  have one : ∀ k, pac (cp s k) (drN k fun y => if y = (m : Int) then 1 else 0) (n : Int) = if m ≤ n + k then (cf (cp s k) (n + k - m) : Rat) * (fall (m : Int) k : Rat) else 0 := fun k => by
    have e : ∀ i : Nat, (cf (cp s k) i : Rat) * drN k (fun y => if y = (m : Int) then 1 else 0) ((n : Int) - (i : Nat)) = if i + m = n + k then (cf (cp s k) i : Rat) * (fall (m : Int) k : Rat) else 0 := fun i => by
      rw [drN_at]
      by_cases z : i + m = n + k
      · rw [if_pos z, if_pos (show (n : Int) - (i : Nat) + (k : Int) = (m : Int) by omega), show (n : Int) - (i : Nat) + (k : Int) = (m : Int) by omega]; grind
      · rw [if_neg z, if_neg (by omega)]; grind
    rw [← pac_more (Nat.le_max_left (cp s k).length (n + k + 1))]
    rw [sumQ_congr fun i _ => e i]
    split
    · rename_i hz
      have key : ∀ N, n + k - m < N → sumQ N (fun i => if i + m = n + k then (cf (cp s k) i : Rat) * (fall (m : Int) k : Rat) else 0) = (cf (cp s k) (n + k - m) : Rat) * (fall (m : Int) k : Rat) := by
        intro N
        induction N with
        | zero => intro h; omega
        | succ N ih =>
          intro h
          rw [sumQ]
          by_cases q : n + k - m = N
          · rw [sumQ_zero fun i hi => by rw [if_neg (by omega)], if_pos (by omega), q]; grind
          · rw [ih (by omega), if_neg (by omega)]; grind
      exact key _ (by omega)
    · exact sumQ_zero fun i hi => by rw [if_neg (by omega)]
  unfold actD
  rw [sumQ_congr fun k _ => one k]
  rw [← sumQ_more (n := s.length) (m := max s.length (m + 1)) (Nat.le_max_left _ _) fun i h1 _ => by rw [cp_ge h1, cf_nil]; split <;> simp]
  exact sumQ_more (Nat.le_max_right _ _) fun i h1 _ => by rw [fall_zero (by omega)]; split <;> simp
theorem actD_inj {a b : Ln} (ha : NSt a) (hb : NSt b) (h : ∀ f n, actD a f n = actD b f n) : a = b := by
  have key : ∀ m : Nat, ∀ i, cf (cp a m) i = cf (cp b m) i := by
    intro m
    induction m using Nat.strongRecOn with
    | _ m ih =>
      intro i
      have := h (fun y => if y = (m : Int) then 1 else 0) (i : Nat)
      rw [actD_one, actD_one, sumQ, sumQ, if_pos (by omega), if_pos (by omega), show i + m - m = i by omega] at this
      have e : (sumQ m fun k => if m ≤ i + k then (cf (cp a k) (i + k - m) : Rat) * (fall (m : Int) k : Rat) else 0) = sumQ m fun k => if m ≤ i + k then (cf (cp b k) (i + k - m) : Rat) * (fall (m : Int) k : Rat) else 0 := sumQ_congr fun k hk => by rw [ih k hk]
      rw [e] at this
      have q := fall_pos (Nat.le_refl m)
      have q' : ((fall (m : Int) m : Int) : Rat) ≠ 0 := fun z => by
        have := Rat.intCast_inj.mp (show ((fall (m : Int) m : Int) : Rat) = ((0 : Int) : Rat) from z)
        omega
      have e2 : (cf (cp a m) i : Rat) * (fall (m : Int) m : Rat) = (cf (cp b m) i : Rat) * (fall (m : Int) m : Rat) := by grind
      have e3 : (cf (cp a m) i : Rat) = (cf (cp b m) i : Rat) := by grind
      exact Rat.intCast_inj.mp e3
  exact nst_ext ha hb fun i => ext (ha.n.cp i) (hb.n.cp i) (key i)
theorem actD_congr {a : Ln} {f g : Int → Rat} (h : ∀ y, f y = g y) (n : Int) : actD a f n = actD a g n := by rw [show f = g from funext h]
theorem slm_assoc (a b c : Ln) : slm (slm a b) c = slm a (slm b c) := actD_inj (nst_slm _ _) (nst_slm _ _) fun f n => by
  rw [actD_slm, actD_slm, actD_slm]
  exact actD_congr (fun y => (actD_slm b c f y).symm) n
end PM

/-! ### the law's defs: numbers, bodies, table -/
namespace LW
open PySem PySem.Spec PyProof.Rows L2 DL
namespace F
abbrev is_integer : Nat := 0
abbrev is_plain_poly : Nat := 1
abbrev is_plain_step : Nat := 2
abbrev Slope_init : Nat := 3
abbrev _law_met : Nat := 4
abbrev _law_pl_times : Nat := 5
abbrev _law_pl_by : Nat := 6
abbrev _law_gcd : Nat := 7
abbrev _law_fr : Nat := 8
abbrev _law_fr_plus : Nat := 9
abbrev _law_fr_times : Nat := 10
abbrev _law_sl_led : Nat := 11
abbrev _law_roll : Nat := 12
abbrev _law_pick : Nat := 13
abbrev _law_drawn_numbers : Nat := 14
abbrev KnownSlope_init : Nat := 15
abbrev made_slope : Nat := 16
abbrev stripped : Nat := 17
abbrev poly_in : Nat := 18
abbrev plus_in : Nat := 19
abbrev step_sum : Nat := 20
abbrev require_slope : Nat := 21
abbrev require_slopes : Nat := 22
abbrev slope_plus : Nat := 23
abbrev _law_st : Nat := 24
abbrev _law_st_by : Nat := 25
abbrev _law_pl : Nat := 26
abbrev _law_pl_plus : Nat := 27
abbrev _law_st_plus : Nat := 28
abbrev derived_in : Nat := 29
abbrev derived_slope : Nat := 30
abbrev times_in : Nat := 31
abbrev step_led : Nat := 32
abbrev slope_product : Nat := 33
abbrev slope_times : Nat := 34
abbrev _law_pl_derived : Nat := 35
abbrev _law_sl_ahead : Nat := 36
abbrev _law_sl_times : Nat := 37
abbrev _law_content : Nat := 38
abbrev _law_pl_parted : Nat := 39
abbrev _law_pl_over : Nat := 40
abbrev _law_pl_lowest : Nat := 41
abbrev _law_pl_common : Nat := 42
abbrev _law_fm_lowest : Nat := 43
abbrev _law_sl_lowest : Nat := 44
abbrev Slope_eq : Nat := 45
abbrev Slope_order : Nat := 46
abbrev Slope_str : Nat := 47
abbrev Slope_polys : Nat := 48
abbrev _law_is : Nat := 49
abbrev _law_pl_drawn : Nat := 50
abbrev _law_st_drawn : Nat := 51
abbrev _law_sl_drawn : Nat := 52
abbrev Slope_ne : Nat := 53
abbrev by_in : Nat := 54
abbrev over_in : Nat := 55
abbrev minus_in : Nat := 56
abbrev common_share : Nat := 57
abbrev parted_in : Nat := 58
abbrev exact_in : Nat := 59
abbrev divided : Nat := 60
abbrev content_in : Nat := 61
abbrev content_of : Nat := 62
abbrev lowest_in : Nat := 63
abbrev common_in : Nat := 64
abbrev common_of : Nat := 65
abbrev lowest_step : Nat := 66
abbrev Slope_lowest : Nat := 67
abbrev _law_right : Nat := 68
abbrev _law_dice : Nat := 69
abbrev law : Nat := 70
end F
namespace G
abbrev NOUGHT : Nat := 0
abbrev MAX_SLOPE : Nat := 1
end G
abbrev cls : List (String × List Str) := [("KnownSlope", ["own_step"]), ("Slope", ["own_polys"])]
abbrev xcs : List String := ["InvalidLaw"]
def b_is_integer : Bl := (.cons (.ret (.and (.bi .isinst (.cons (.var 0) (.cons (.cst (.ty "int")) .nil))) (.not (.bi .isinst (.cons (.var 0) (.cons (.cst (.ty "bool")) .nil)))))) .nil)
def d_is_integer : Df := ⟨F.is_integer, "is_integer", ["value"], ["value"], 33, [], [], b_is_integer, (.fn "is_integer"), cls, [], [], [], xcs⟩
def b_is_plain_poly : Bl := (.cons (.ife (.or (.not (.bi .isinst (.cons (.var 0) (.cons (.cst (.ty "tuple")) .nil)))) (.not (.bi .all (.cons (.frz (.comp [1] (.nm 1) (.seq (.var 0)) .nil (.call F.is_integer (.cons (.var 1) .nil)))) .nil)))) (.cons (.ret (.cst (.bl false))) .nil) .nil) (.cons (.ret (.or (.cmp .eq (.var 0) (.tup .nil)) (.cmp .ne (.idx (.var 0) (.neg (.cst (.int 1)))) (.cst (.int 0))))) .nil))
def d_is_plain_poly : Df := ⟨F.is_plain_poly, "is_plain_poly", ["value"], ["value", "number"], 36, [(F.is_integer, "is_integer")], [], b_is_plain_poly, (.fn "is_plain_poly"), cls, [], [], [], xcs⟩
def b_is_plain_step : Bl := (.cons (.ife (.or (.not (.bi .isinst (.cons (.var 0) (.cons (.cst (.ty "tuple")) .nil)))) (.not (.bi .all (.cons (.frz (.comp [1] (.nm 1) (.seq (.var 0)) .nil (.call F.is_plain_poly (.cons (.var 1) .nil)))) .nil)))) (.cons (.ret (.cst (.bl false))) .nil) .nil) (.cons (.ret (.or (.cmp .eq (.var 0) (.tup .nil)) (.cmp .ne (.idx (.var 0) (.neg (.cst (.int 1)))) (.glb G.NOUGHT)))) .nil))
def d_is_plain_step : Df := ⟨F.is_plain_step, "is_plain_step", ["value"], ["value", "poly"], 39, [(F.is_plain_poly, "is_plain_poly")], [(G.NOUGHT, "NOUGHT")], b_is_plain_step, (.fn "is_plain_step"), cls, [], [], [], xcs⟩
def b_Slope_init : Bl := (.cons (.ife (.isC "KnownSlope" (.var 1)) (.cons (.asg (.fld (.var 0) "Slope" 0) (.fld "KnownSlope" 0 (.var 1))) .nil) (.cons (.ife (.or (.not (.call F.is_plain_step (.cons (.var 1) .nil))) (.not (.chn .le .le (.cst (.int 1)) (.bi .len (.cons (.var 1) .nil)) (.glb G.MAX_SLOPE)))) (.cons (.rse 0) .nil) .nil) (.cons (.asg (.fld (.var 0) "Slope" 0) (.var 1)) .nil))) .nil)
def d_Slope_init : Df := ⟨F.Slope_init, "__init__", ["self", "polys"], ["self", "polys"], 42, [(F.is_plain_step, "is_plain_step")], [(G.MAX_SLOPE, "MAX_SLOPE")], b_Slope_init, (.ini "Slope"), cls, [], [], [], xcs⟩
def b__law_met : Bl := (.cons (.tryC (.cons (.ex (.new F.Slope_init "Slope" 1 (.cons (.var 0) .nil))) .nil) [(0, (.bl true))]) (.cons (.ret (.cst (.bl false))) .nil))
def d__law_met : Df := ⟨F._law_met, "_law_met", ["polys"], ["polys"], 45, [], [], b__law_met, (.fn "_law_met"), cls, [], [], [(F.Slope_init, "Slope", "Slope")], xcs⟩
def b__law_pl_times : Bl := (.cons (.ife (.or (.cmp .eq (.var 0) (.tup .nil)) (.cmp .eq (.var 1) (.tup .nil))) (.cons (.ret (.tup .nil)) .nil) .nil) (.cons (.asg (.nm 2) (.own (.rep (.frz (.disp (.cons (.cst (.int 0)) .nil))) (.bin .sub (.bin .add (.bi .len (.cons (.var 0) .nil)) (.bi .len (.cons (.var 1) .nil))) (.cst (.int 1)))))) (.cons (.for (.tp (.cons (.nm 3) (.cons (.nm 4) .nil))) (.enum (.var 0)) (.cons (.for (.tp (.cons (.nm 5) (.cons (.nm 6) .nil))) (.enum (.var 1)) (.cons (.asg (.sub (.var 2) (.bin .add (.var 3) (.var 5))) (.bin .add (.idx (.var 2) (.bin .add (.var 3) (.var 5))) (.bin .mul (.var 4) (.var 6)))) .nil)) .nil)) (.cons (.ret (.bi .tuple (.cons (.var 2) .nil))) .nil))))
def d__law_pl_times : Df := ⟨F._law_pl_times, "_law_pl_times", ["one", "other"], ["one", "other", "found", "at", "left", "spot", "right"], 33, [], [], b__law_pl_times, (.fn "_law_pl_times"), cls, [], [], [], xcs⟩
def b__law_pl_by : Bl := (.cons (.ret (.ite (.cmp .ne (.var 0) (.cst (.int 0))) (.bi .tuple (.cons (.frz (.comp [2] (.nm 2) (.seq (.var 1)) .nil (.bin .mul (.var 0) (.var 2)))) .nil)) (.tup .nil))) .nil)
def d__law_pl_by : Df := ⟨F._law_pl_by, "_law_pl_by", ["number", "poly"], ["number", "poly", "one"], 33, [], [], b__law_pl_by, (.fn "_law_pl_by"), cls, [], [], [], xcs⟩
def b__law_gcd : Bl := (.cons (.whl (.cmp .ne (.var 1) (.cst (.int 0))) (.cons (.par [0, 1] (.cons (.var 1) (.cons (.bin .mod (.var 0) (.var 1)) .nil))) .nil)) (.cons (.ret (.bi .abs (.cons (.var 0) .nil))) .nil))
def d__law_gcd : Df := ⟨F._law_gcd, "_law_gcd", ["one", "other"], ["one", "other"], 33, [], [], b__law_gcd, (.fn "_law_gcd"), cls, [], [], [], xcs⟩
def b__law_fr : Bl := (.cons (.asg (.nm 2) (.call F._law_gcd (.cons (.var 0) (.cons (.var 1) .nil)))) (.cons (.asg (.nm 2) (.ite (.cmp .gt (.var 1) (.cst (.int 0))) (.var 2) (.bin .sub (.cst (.int 0)) (.var 2)))) (.cons (.ret (.tup (.cons (.bin .fdiv (.var 0) (.var 2)) (.cons (.bin .fdiv (.var 1) (.var 2)) .nil)))) .nil)))
def d__law_fr : Df := ⟨F._law_fr, "_law_fr", ["top", "bottom"], ["top", "bottom", "share"], 36, [(F._law_gcd, "_law_gcd")], [], b__law_fr, (.fn "_law_fr"), cls, [], [], [], xcs⟩
def b__law_fr_plus : Bl := (.cons (.ret (.call F._law_fr (.cons (.bin .add (.bin .mul (.idx (.var 0) (.cst (.int 0))) (.idx (.var 1) (.cst (.int 1)))) (.bin .mul (.idx (.var 1) (.cst (.int 0))) (.idx (.var 0) (.cst (.int 1))))) (.cons (.bin .mul (.idx (.var 0) (.cst (.int 1))) (.idx (.var 1) (.cst (.int 1)))) .nil)))) .nil)
def d__law_fr_plus : Df := ⟨F._law_fr_plus, "_law_fr_plus", ["one", "other"], ["one", "other"], 39, [(F._law_fr, "_law_fr")], [], b__law_fr_plus, (.fn "_law_fr_plus"), cls, [], [], [], xcs⟩
def b__law_fr_times : Bl := (.cons (.ret (.call F._law_fr (.cons (.bin .mul (.idx (.var 0) (.cst (.int 0))) (.idx (.var 1) (.cst (.int 0)))) (.cons (.bin .mul (.idx (.var 0) (.cst (.int 1))) (.idx (.var 1) (.cst (.int 1)))) .nil)))) .nil)
def d__law_fr_times : Df := ⟨F._law_fr_times, "_law_fr_times", ["one", "other"], ["one", "other"], 39, [(F._law_fr, "_law_fr")], [], b__law_fr_times, (.fn "_law_fr_times"), cls, [], [], [], xcs⟩
def b__law_sl_led : Bl := (.cons (.par [2, 3] (.cons (.bin .add (.bin .sub (.bi .len (.cons (.var 1) .nil)) (.bi .len (.cons (.var 0) .nil))) (.cst (.int 1))) (.cons (.own (.disp .nil)) .nil))) (.cons (.for (.nm 4) (.rng1 (.var 2)) (.cons (.asg (.nm 5) (.tup (.cons (.cst (.int 0)) (.cons (.cst (.int 1)) .nil)))) (.cons (.for (.tp (.cons (.nm 6) (.cons (.nm 7) .nil))) (.enum (.var 0)) (.cons (.for (.tp (.cons (.nm 8) (.cons (.nm 9) .nil))) (.enum (.var 7)) (.cons (.asg (.nm 10) (.bin .sub (.var 4) (.var 8))) (.cons (.ife (.and (.cmp .ne (.var 9) (.cst (.int 0))) (.cmp .ge (.var 10) (.cst (.int 0)))) (.cons (.asg (.nm 11) (.var 9)) (.cons (.for (.nm 12) (.rng2 (.cst (.int 1)) (.bin .add (.var 6) (.cst (.int 1)))) (.cons (.asg (.nm 11) (.bin .mul (.var 11) (.bin .add (.var 10) (.var 12)))) .nil)) (.cons (.asg (.nm 5) (.call F._law_fr_plus (.cons (.var 5) (.cons (.call F._law_fr_times (.cons (.tup (.cons (.var 11) (.cons (.cst (.int 1)) .nil))) (.cons (.idx (.var 1) (.bin .add (.var 10) (.var 6))) .nil))) .nil)))) .nil))) .nil) .nil))) .nil)) (.cons (.ex (.app (.var 3) (.var 5))) .nil)))) (.cons (.retF (.var 3)) .nil)))
def d__law_sl_led : Df := ⟨F._law_sl_led, "_law_sl_led", ["slope", "numbers"], ["slope", "numbers", "many", "found", "place", "total", "power", "poly", "at", "number", "spot", "by", "step"], 42, [(F._law_fr_plus, "_law_fr_plus"), (F._law_fr_times, "_law_fr_times")], [], b__law_sl_led, (.fn "_law_sl_led"), cls, [], [], [], xcs⟩
def b__law_roll : Bl := (.cons (.ife (.cmp .gt (.idx (.var 0) (.cst (.int 0))) (.cst (.int 0))) (.cons (.asg (.nm 2) (.bin .mod (.idx (.var 0) (.cst (.int 0))) (.var 1))) (.cons (.asg (.sub (.var 0) (.cst (.int 0))) (.bin .fdiv (.idx (.var 0) (.cst (.int 0))) (.var 1))) (.cons (.ret (.bi .int (.cons (.var 2) .nil))) .nil))) .nil) (.cons (.asg (.sub (.var 0) (.cst (.int 2))) (.bin .add (.idx (.var 0) (.cst (.int 2))) (.cst (.int 1)))) (.cons (.asg (.nm 3) (.bin .mod (.bin .add (.idx (.var 0) (.cst (.int 1))) (.bin .mul (.cst (.int 49979693)) (.idx (.var 0) (.cst (.int 2))))) (.cst (.int 2305843009213693951)))) (.cons (.asg (.nm 4) (.bin .add (.bin .mul (.bin .mod (.bin .add (.bin .mul (.var 3) (.var 3)) (.bin .mul (.cst (.int 131)) (.idx (.var 0) (.cst (.int 2))))) (.cst (.int 2305843009213693921))) (.cst (.int 32452867))) (.var 3))) (.cons (.ret (.bin .mod (.bi .int (.cons (.bin .fdiv (.var 4) (.cst (.int 65599))) .nil)) (.var 1))) .nil)))))
def d__law_roll : Df := ⟨F._law_roll, "_law_roll", ["dice", "total"], ["dice", "total", "found", "one", "two"], 33, [], [], b__law_roll, (.fn "_law_roll"), cls, [], [], [], xcs⟩
def b__law_pick : Bl := (.cons (.ret (.idx (.var 1) (.call F._law_roll (.cons (.var 0) (.cons (.bi .len (.cons (.var 1) .nil)) .nil))))) .nil)
def d__law_pick : Df := ⟨F._law_pick, "_law_pick", ["dice", "items"], ["dice", "items"], 36, [(F._law_roll, "_law_roll")], [], b__law_pick, (.fn "_law_pick"), cls, [], [], [], xcs⟩
def b__law_drawn_numbers : Bl := (.cons (.ret (.frz (.comp [2] (.nm 2) (.rng1 (.var 1)) .nil (.call F._law_fr (.cons (.bin .sub (.call F._law_roll (.cons (.var 0) (.cons (.cst (.int 9)) .nil))) (.cst (.int 4))) (.cons (.call F._law_pick (.cons (.var 0) (.cons (.frz (.disp (.cons (.cst (.int 1)) (.cons (.cst (.int 1)) (.cons (.cst (.int 1)) (.cons (.cst (.int 2)) (.cons (.cst (.int 3)) .nil))))))) .nil))) .nil)))))) .nil)
def d__law_drawn_numbers : Df := ⟨F._law_drawn_numbers, "_law_drawn_numbers", ["dice", "many"], ["dice", "many", "at"], 39, [(F._law_fr, "_law_fr"), (F._law_pick, "_law_pick"), (F._law_roll, "_law_roll")], [], b__law_drawn_numbers, (.fn "_law_drawn_numbers"), cls, [], [], [], xcs⟩
def b_KnownSlope_init : Bl := (.cons (.asg (.fld (.var 0) "KnownSlope" 0) (.var 1)) .nil)
def d_KnownSlope_init : Df := ⟨F.KnownSlope_init, "__init__", ["self", "step"], ["self", "step"], 33, [], [], b_KnownSlope_init, (.ini "KnownSlope"), cls, [], [], [], xcs⟩
def b_made_slope : Bl := (.cons (.ret (.new F.Slope_init "Slope" 1 (.cons (.new F.KnownSlope_init "KnownSlope" 1 (.cons (.var 0) .nil)) .nil))) .nil)
def d_made_slope : Df := ⟨F.made_slope, "made_slope", ["step"], ["step"], 45, [], [], b_made_slope, (.fn "made_slope"), cls, [], [], [(F.Slope_init, "Slope", "Slope"), (F.KnownSlope_init, "KnownSlope", "KnownSlope")], xcs⟩
def b_stripped : Bl := (.cons (.asg (.nm 1) (.frz (.comp [2, 3] (.tp (.cons (.nm 2) (.cons (.nm 3) .nil))) (.enum (.var 0)) (.cons (.cmp .ne (.var 3) (.glb G.NOUGHT)) .nil) (.var 2)))) (.cons (.ret (.ite (.cmp .ne (.var 1) (.frz (.disp .nil))) (.bi .tuple (.cons (.slc (.var 0) .no (.so (.bin .add (.idx (.var 1) (.neg (.cst (.int 1)))) (.cst (.int 1))))) .nil)) (.tup .nil))) .nil))
def d_stripped : Df := ⟨F.stripped, "stripped", ["polys"], ["polys", "some", "at", "poly"], 33, [], [(G.NOUGHT, "NOUGHT")], b_stripped, (.fn "stripped"), cls, [], [], [], xcs⟩
def b_poly_in : Bl := (.cons (.asg (.nm 1) (.bi .len (.cons (.var 0) .nil))) (.cons (.whl (.and (.cmp .gt (.var 1) (.cst (.int 0))) (.cmp .eq (.idx (.var 0) (.bin .sub (.var 1) (.cst (.int 1)))) (.cst (.int 0)))) (.cons (.aug 1 .sub (.cst (.int 1))) .nil)) (.cons (.ret (.bi .tuple (.cons (.slc (.var 0) .no (.so (.var 1))) .nil))) .nil)))
def d_poly_in : Df := ⟨F.poly_in, "poly_in", ["numbers"], ["numbers", "size"], 33, [], [], b_poly_in, (.fn "poly_in"), cls, [], [], [], xcs⟩
def b_plus_in : Bl := (.cons (.asg (.nm 2) (.bi .max (.cons (.bi .len (.cons (.var 0) .nil)) (.cons (.bi .len (.cons (.var 1) .nil)) .nil)))) (.cons (.par [3, 4] (.cons (.tup (.star (.var 0) (.star (.frz (.rep (.frz (.disp (.cons (.cst (.int 0)) .nil))) (.bin .sub (.var 2) (.bi .len (.cons (.var 0) .nil))))) .nil))) (.cons (.tup (.star (.var 1) (.star (.frz (.rep (.frz (.disp (.cons (.cst (.int 0)) .nil))) (.bin .sub (.var 2) (.bi .len (.cons (.var 1) .nil))))) .nil))) .nil))) (.cons (.ret (.call F.poly_in (.cons (.frz (.comp [5, 6] (.tp (.cons (.nm 5) (.cons (.nm 6) .nil))) (.zip (.var 3) (.var 4)) .nil (.bin .add (.var 5) (.var 6)))) .nil))) .nil)))
def d_plus_in : Df := ⟨F.plus_in, "plus_in", ["one", "other"], ["one", "other", "size", "left", "right", "first", "last"], 36, [(F.poly_in, "poly_in")], [], b_plus_in, (.fn "plus_in"), cls, [], [], [], xcs⟩
def b_step_sum : Bl := (.cons (.asg (.nm 2) (.bi .max (.cons (.bi .len (.cons (.var 0) .nil)) (.cons (.bi .len (.cons (.var 1) .nil)) .nil)))) (.cons (.par [3, 4] (.cons (.frz (.disp (.star (.var 0) (.star (.frz (.rep (.frz (.disp (.cons (.glb G.NOUGHT) .nil))) (.bin .sub (.var 2) (.bi .len (.cons (.var 0) .nil))))) .nil)))) (.cons (.frz (.disp (.star (.var 1) (.star (.frz (.rep (.frz (.disp (.cons (.glb G.NOUGHT) .nil))) (.bin .sub (.var 2) (.bi .len (.cons (.var 1) .nil))))) .nil)))) .nil))) (.cons (.ret (.call F.stripped (.cons (.frz (.comp [5, 6] (.tp (.cons (.nm 5) (.cons (.nm 6) .nil))) (.zip (.var 3) (.var 4)) .nil (.call F.plus_in (.cons (.var 5) (.cons (.var 6) .nil))))) .nil))) .nil)))
def d_step_sum : Df := ⟨F.step_sum, "step_sum", ["one", "other"], ["one", "other", "size", "left", "right", "first", "last"], 39, [(F.stripped, "stripped"), (F.plus_in, "plus_in")], [(G.NOUGHT, "NOUGHT")], b_step_sum, (.fn "step_sum"), cls, [], [], [], xcs⟩
def b_require_slope : Bl := (.cons (.ife (.not (.isC "Slope" (.var 0))) (.cons (.rse 0) .nil) .nil) .nil)
def d_require_slope : Df := ⟨F.require_slope, "require_slope", ["value"], ["value"], 33, [], [], b_require_slope, (.fn "require_slope"), cls, [], [], [], xcs⟩
def b_require_slopes : Bl := (.cons (.ex (.call F.require_slope (.cons (.var 0) .nil))) (.cons (.ex (.call F.require_slope (.cons (.var 1) .nil))) .nil))
def d_require_slopes : Df := ⟨F.require_slopes, "require_slopes", ["one", "other"], ["one", "other"], 36, [(F.require_slope, "require_slope")], [], b_require_slopes, (.fn "require_slopes"), cls, [], [], [], xcs⟩
def b_slope_plus : Bl := (.cons (.ex (.call F.require_slopes (.cons (.var 0) (.cons (.var 1) .nil)))) (.cons (.asg (.nm 2) (.call F.step_sum (.cons (.fld "Slope" 0 (.var 0)) (.cons (.fld "Slope" 0 (.var 1)) .nil)))) (.cons (.ret (.ite (.cmp .ne (.var 2) (.tup .nil)) (.call F.made_slope (.cons (.var 2) .nil)) (.cst .non))) .nil)))
def d_slope_plus : Df := ⟨F.slope_plus, "slope_plus", ["one", "other"], ["one", "other", "found"], 48, [(F.made_slope, "made_slope"), (F.step_sum, "step_sum"), (F.require_slopes, "require_slopes")], [], b_slope_plus, (.fn "slope_plus"), cls, [], [], [], xcs⟩
def b__law_st : Bl := (.cons (.asg (.nm 1) (.frz (.ofSeq (.var 0)))) (.cons (.whl (.and (.cmp .ne (.var 1) (.frz (.disp .nil))) (.cmp .eq (.idx (.var 1) (.neg (.cst (.int 1)))) (.tup .nil))) (.cons (.asg (.nm 1) (.slc (.var 1) .no (.so (.neg (.cst (.int 1)))))) .nil)) (.cons (.ret (.bi .tuple (.cons (.var 1) .nil))) .nil)))
def d__law_st : Df := ⟨F._law_st, "_law_st", ["polys"], ["polys", "left"], 33, [], [], b__law_st, (.fn "_law_st"), cls, [], [], [], xcs⟩
def b__law_st_by : Bl := (.cons (.ret (.call F._law_st (.cons (.frz (.comp [2] (.nm 2) (.seq (.var 1)) .nil (.call F._law_pl_times (.cons (.var 0) (.cons (.var 2) .nil))))) .nil))) .nil)
def d__law_st_by : Df := ⟨F._law_st_by, "_law_st_by", ["poly", "step"], ["poly", "step", "one"], 36, [(F._law_st, "_law_st"), (F._law_pl_times, "_law_pl_times")], [], b__law_st_by, (.fn "_law_st_by"), cls, [], [], [], xcs⟩
def b__law_pl : Bl := (.cons (.asg (.nm 1) (.frz (.ofSeq (.var 0)))) (.cons (.whl (.and (.cmp .ne (.var 1) (.frz (.disp .nil))) (.cmp .eq (.idx (.var 1) (.neg (.cst (.int 1)))) (.cst (.int 0)))) (.cons (.asg (.nm 1) (.slc (.var 1) .no (.so (.neg (.cst (.int 1)))))) .nil)) (.cons (.ret (.bi .tuple (.cons (.var 1) .nil))) .nil)))
def d__law_pl : Df := ⟨F._law_pl, "_law_pl", ["numbers"], ["numbers", "left"], 33, [], [], b__law_pl, (.fn "_law_pl"), cls, [], [], [], xcs⟩
def b__law_pl_plus : Bl := (.cons (.asg (.nm 2) (.own (.rep (.frz (.disp (.cons (.cst (.int 0)) .nil))) (.bi .max (.cons (.bi .len (.cons (.var 0) .nil)) (.cons (.bi .len (.cons (.var 1) .nil)) .nil)))))) (.cons (.for (.nm 3) (.seq (.tup (.cons (.var 0) (.cons (.var 1) .nil)))) (.cons (.for (.tp (.cons (.nm 4) (.cons (.nm 5) .nil))) (.enum (.var 3)) (.cons (.asg (.sub (.var 2) (.var 4)) (.bin .add (.idx (.var 2) (.var 4)) (.var 5))) .nil)) .nil)) (.cons (.ret (.call F._law_pl (.cons (.var 2) .nil))) .nil)))
def d__law_pl_plus : Df := ⟨F._law_pl_plus, "_law_pl_plus", ["one", "other"], ["one", "other", "found", "poly", "at", "number"], 36, [(F._law_pl, "_law_pl")], [], b__law_pl_plus, (.fn "_law_pl_plus"), cls, [], [], [], xcs⟩
def b__law_st_plus : Bl := (.cons (.asg (.nm 2) (.bi .max (.cons (.bi .len (.cons (.var 0) .nil)) (.cons (.bi .len (.cons (.var 1) .nil)) .nil)))) (.cons (.par [3, 4] (.cons (.frz (.cat (.frz (.ofSeq (.var 0))) (.frz (.rep (.frz (.disp (.cons (.tup .nil) .nil))) (.bin .sub (.var 2) (.bi .len (.cons (.var 0) .nil))))))) (.cons (.frz (.cat (.frz (.ofSeq (.var 1))) (.frz (.rep (.frz (.disp (.cons (.tup .nil) .nil))) (.bin .sub (.var 2) (.bi .len (.cons (.var 1) .nil))))))) .nil))) (.cons (.ret (.call F._law_st (.cons (.frz (.comp [5, 6] (.tp (.cons (.nm 5) (.cons (.nm 6) .nil))) (.zip (.var 3) (.var 4)) .nil (.call F._law_pl_plus (.cons (.var 5) (.cons (.var 6) .nil))))) .nil))) .nil)))
def d__law_st_plus : Df := ⟨F._law_st_plus, "_law_st_plus", ["one", "other"], ["one", "other", "wide", "left", "right", "first", "last"], 39, [(F._law_st, "_law_st"), (F._law_pl_plus, "_law_pl_plus")], [], b__law_st_plus, (.fn "_law_st_plus"), cls, [], [], [], xcs⟩
def b_derived_in : Bl := (.cons (.ret (.bi .tuple (.cons (.slc (.frz (.comp [1, 2] (.tp (.cons (.nm 1) (.cons (.nm 2) .nil))) (.enum (.var 0)) .nil (.bin .mul (.var 1) (.var 2)))) (.so (.cst (.int 1))) .no) .nil))) .nil)
def d_derived_in : Df := ⟨F.derived_in, "derived_in", ["poly"], ["poly", "at", "number"], 33, [], [], b_derived_in, (.fn "derived_in"), cls, [], [], [], xcs⟩
def b_derived_slope : Bl := (.cons (.asg (.nm 1) (.frz (.comp [2] (.nm 2) (.seq (.var 0)) .nil (.call F.derived_in (.cons (.var 2) .nil))))) (.cons (.ret (.call F.step_sum (.cons (.call F.stripped (.cons (.var 1) .nil)) (.cons (.ite (.cmp .ne (.var 0) (.tup .nil)) (.tup (.cons (.glb G.NOUGHT) (.star (.var 0) .nil))) (.tup .nil)) .nil)))) .nil))
def d_derived_slope : Df := ⟨F.derived_slope, "derived_slope", ["step"], ["step", "left", "poly"], 42, [(F.step_sum, "step_sum"), (F.stripped, "stripped"), (F.derived_in, "derived_in")], [(G.NOUGHT, "NOUGHT")], b_derived_slope, (.fn "derived_slope"), cls, [], [], [], xcs⟩
def b_times_in : Bl := (.cons (.ife (.or (.cmp .eq (.var 0) (.glb G.NOUGHT)) (.cmp .eq (.var 1) (.glb G.NOUGHT))) (.cons (.ret (.glb G.NOUGHT)) .nil) .nil) (.cons (.asg (.nm 2) (.own (.rep (.frz (.disp (.cons (.cst (.int 0)) .nil))) (.bin .sub (.bin .add (.bi .len (.cons (.var 0) .nil)) (.bi .len (.cons (.var 1) .nil))) (.cst (.int 1)))))) (.cons (.for (.tp (.cons (.nm 3) (.cons (.nm 4) .nil))) (.enum (.var 0)) (.cons (.for (.tp (.cons (.nm 5) (.cons (.nm 6) .nil))) (.enum (.var 1)) (.cons (.asg (.sub (.var 2) (.bin .add (.var 3) (.var 5))) (.bin .add (.idx (.var 2) (.bin .add (.var 3) (.var 5))) (.bin .mul (.var 4) (.var 6)))) .nil)) .nil)) (.cons (.ret (.bi .tuple (.cons (.var 2) .nil))) .nil))))
def d_times_in : Df := ⟨F.times_in, "times_in", ["one", "other"], ["one", "other", "found", "at", "left", "spot", "right"], 33, [], [(G.NOUGHT, "NOUGHT")], b_times_in, (.fn "times_in"), cls, [], [], [], xcs⟩
def b_step_led : Bl := (.cons (.ret (.call F.stripped (.cons (.frz (.comp [2] (.nm 2) (.seq (.var 1)) .nil (.call F.times_in (.cons (.var 0) (.cons (.var 2) .nil))))) .nil))) .nil)
def d_step_led : Df := ⟨F.step_led, "step_led", ["poly", "step"], ["poly", "step", "one"], 36, [(F.stripped, "stripped"), (F.times_in, "times_in")], [], b_step_led, (.fn "step_led"), cls, [], [], [], xcs⟩
def b_slope_product : Bl := (.cons (.par [2, 3] (.cons (.tup .nil) (.cons (.var 1) .nil))) (.cons (.for (.nm 4) (.seq (.var 0)) (.cons (.asg (.nm 2) (.call F.step_sum (.cons (.var 2) (.cons (.call F.step_led (.cons (.var 4) (.cons (.var 3) .nil))) .nil)))) (.cons (.asg (.nm 3) (.call F.derived_slope (.cons (.var 3) .nil))) .nil))) (.cons (.ret (.var 2)) .nil)))
def d_slope_product : Df := ⟨F.slope_product, "slope_product", ["one", "other"], ["one", "other", "found", "part", "poly"], 45, [(F.derived_slope, "derived_slope"), (F.step_sum, "step_sum"), (F.step_led, "step_led")], [], b_slope_product, (.fn "slope_product"), cls, [], [], [], xcs⟩
def b_slope_times : Bl := (.cons (.ex (.call F.require_slopes (.cons (.var 0) (.cons (.var 1) .nil)))) (.cons (.ret (.call F.made_slope (.cons (.call F.slope_product (.cons (.fld "Slope" 0 (.var 0)) (.cons (.fld "Slope" 0 (.var 1)) .nil))) .nil))) .nil))
def d_slope_times : Df := ⟨F.slope_times, "slope_times", ["one", "other"], ["one", "other"], 48, [(F.made_slope, "made_slope"), (F.slope_product, "slope_product"), (F.require_slopes, "require_slopes")], [], b_slope_times, (.fn "slope_times"), cls, [], [], [], xcs⟩
def b__law_pl_derived : Bl := (.cons (.ret (.call F._law_pl (.cons (.slc (.frz (.comp [1, 2] (.tp (.cons (.nm 1) (.cons (.nm 2) .nil))) (.enum (.var 0)) .nil (.bin .mul (.var 1) (.var 2)))) (.so (.cst (.int 1))) .no) .nil))) .nil)
def d__law_pl_derived : Df := ⟨F._law_pl_derived, "_law_pl_derived", ["poly"], ["poly", "at", "number"], 36, [(F._law_pl, "_law_pl")], [], b__law_pl_derived, (.fn "_law_pl_derived"), cls, [], [], [], xcs⟩
def b__law_sl_ahead : Bl := (.cons (.asg (.nm 1) (.frz (.cat (.frz (.comp [2] (.nm 2) (.seq (.var 0)) .nil (.call F._law_pl_derived (.cons (.var 2) .nil)))) (.frz (.disp (.cons (.tup .nil) .nil)))))) (.cons (.ret (.call F._law_st (.cons (.frz (.comp [3] (.nm 3) (.rng1 (.bi .len (.cons (.var 1) .nil))) .nil (.call F._law_pl_plus (.cons (.idx (.var 1) (.var 3)) (.cons (.ite (.cmp .gt (.var 3) (.cst (.int 0))) (.idx (.var 0) (.bin .sub (.var 3) (.cst (.int 1)))) (.tup .nil)) .nil))))) .nil))) .nil))
def d__law_sl_ahead : Df := ⟨F._law_sl_ahead, "_law_sl_ahead", ["slope"], ["slope", "found", "poly", "at"], 39, [(F._law_st, "_law_st"), (F._law_pl_plus, "_law_pl_plus"), (F._law_pl_derived, "_law_pl_derived")], [], b__law_sl_ahead, (.fn "_law_sl_ahead"), cls, [], [], [], xcs⟩
def b__law_sl_times : Bl := (.cons (.par [2, 3] (.cons (.tup .nil) (.cons (.var 1) .nil))) (.cons (.for (.nm 4) (.seq (.var 0)) (.cons (.par [2, 3] (.cons (.call F._law_st_plus (.cons (.var 2) (.cons (.call F._law_st_by (.cons (.var 4) (.cons (.var 3) .nil))) .nil))) (.cons (.call F._law_sl_ahead (.cons (.var 3) .nil)) .nil))) .nil)) (.cons (.ret (.var 2)) .nil)))
def d__law_sl_times : Df := ⟨F._law_sl_times, "_law_sl_times", ["one", "other"], ["one", "other", "found", "here", "poly"], 42, [(F._law_sl_ahead, "_law_sl_ahead"), (F._law_st_plus, "_law_st_plus"), (F._law_st_by, "_law_st_by")], [], b__law_sl_times, (.fn "_law_sl_times"), cls, [], [], [], xcs⟩
def b__law_content : Bl := (.cons (.asg (.nm 1) (.cst (.int 0))) (.cons (.for (.nm 2) (.seq (.var 0)) (.cons (.asg (.nm 1) (.call F._law_gcd (.cons (.var 1) (.cons (.var 2) .nil)))) .nil)) (.cons (.ret (.var 1)) .nil)))
def d__law_content : Df := ⟨F._law_content, "_law_content", ["numbers"], ["numbers", "found", "number"], 36, [(F._law_gcd, "_law_gcd")], [], b__law_content, (.fn "_law_content"), cls, [], [], [], xcs⟩
def b__law_pl_parted : Bl := (.cons (.par [2, 3, 4] (.cons (.own (.ofSeq (.var 0))) (.cons (.cst (.int 1)) (.cons (.own (.rep (.frz (.disp (.cons (.cst (.int 0)) .nil))) (.bi .max (.cons (.cst (.int 0)) (.cons (.bin .add (.bin .sub (.bi .len (.cons (.var 0) .nil)) (.bi .len (.cons (.var 1) .nil))) (.cst (.int 1))) .nil))))) .nil)))) (.cons (.for (.nm 5) (.rng3 (.bin .sub (.bi .len (.cons (.var 0) .nil)) (.bi .len (.cons (.var 1) .nil))) (.neg (.cst (.int 1))) (.neg (.cst (.int 1)))) (.cons (.asg (.nm 6) (.idx (.var 2) (.bin .sub (.bin .add (.var 5) (.bi .len (.cons (.var 1) .nil))) (.cst (.int 1))))) (.cons (.ife (.cmp .ne (.var 6) (.cst (.int 0))) (.cons (.par [2, 3] (.cons (.own (.comp [7] (.nm 7) (.seq (.var 2)) .nil (.bin .mul (.var 7) (.idx (.var 1) (.neg (.cst (.int 1))))))) (.cons (.bin .mul (.var 3) (.idx (.var 1) (.neg (.cst (.int 1))))) .nil))) (.cons (.asg (.nm 4) (.own (.comp [7] (.nm 7) (.seq (.var 4)) .nil (.bin .mul (.var 7) (.idx (.var 1) (.neg (.cst (.int 1)))))))) (.cons (.asg (.sub (.var 4) (.var 5)) (.bin .add (.idx (.var 4) (.var 5)) (.var 6))) (.cons (.for (.tp (.cons (.nm 8) (.cons (.nm 7) .nil))) (.enum (.var 1)) (.cons (.asg (.sub (.var 2) (.bin .add (.var 5) (.var 8))) (.bin .sub (.idx (.var 2) (.bin .add (.var 5) (.var 8))) (.bin .mul (.var 6) (.var 7)))) .nil)) .nil)))) .nil) .nil))) (.cons (.asg (.nm 9) (.ite (.cmp .gt (.var 3) (.cst (.int 0))) (.cst (.int 1)) (.neg (.cst (.int 1))))) (.cons (.ret (.tup (.cons (.bin .mul (.var 9) (.var 3)) (.cons (.call F._law_pl (.cons (.frz (.comp [0] (.nm 0) (.seq (.var 4)) .nil (.bin .mul (.var 9) (.var 0)))) .nil)) (.cons (.call F._law_pl (.cons (.frz (.comp [0] (.nm 0) (.seq (.var 2)) .nil (.bin .mul (.var 9) (.var 0)))) .nil)) .nil))))) .nil))))
def d__law_pl_parted : Df := ⟨F._law_pl_parted, "_law_pl_parted", ["one", "other"], ["one", "other", "left", "times", "found", "at", "last", "number", "spot", "sign"], 36, [(F._law_pl, "_law_pl")], [], b__law_pl_parted, (.fn "_law_pl_parted"), cls, [], [], [], xcs⟩
def b__law_pl_over : Bl := (.cons (.asg (.tp (.cons (.nm 2) (.cons (.nm 3) .nil))) (.slc (.call F._law_pl_parted (.cons (.var 0) (.cons (.var 1) .nil))) .no (.so (.cst (.int 2))))) (.cons (.asg (.nm 4) (.call F._law_gcd (.cons (.var 2) (.cons (.call F._law_content (.cons (.var 3) .nil)) .nil)))) (.cons (.ret (.tup (.cons (.bin .fdiv (.var 2) (.var 4)) (.cons (.bi .tuple (.cons (.frz (.comp [5] (.nm 5) (.seq (.var 3)) .nil (.bin .fdiv (.var 5) (.var 4)))) .nil)) .nil)))) .nil)))
def d__law_pl_over : Df := ⟨F._law_pl_over, "_law_pl_over", ["one", "other"], ["one", "other", "times", "found", "share", "number"], 39, [(F._law_gcd, "_law_gcd"), (F._law_content, "_law_content"), (F._law_pl_parted, "_law_pl_parted")], [], b__law_pl_over, (.fn "_law_pl_over"), cls, [], [], [], xcs⟩
def b__law_pl_lowest : Bl := (.cons (.asg (.nm 1) (.call F._law_content (.cons (.var 0) .nil))) (.cons (.ife (.cmp .eq (.var 1) (.cst (.int 0))) (.cons (.ret (.tup .nil)) .nil) .nil) (.cons (.asg (.nm 1) (.ite (.cmp .gt (.idx (.var 0) (.neg (.cst (.int 1)))) (.cst (.int 0))) (.var 1) (.bin .sub (.cst (.int 0)) (.var 1)))) (.cons (.ret (.bi .tuple (.cons (.frz (.comp [2] (.nm 2) (.seq (.var 0)) .nil (.bin .fdiv (.var 2) (.var 1)))) .nil))) .nil))))
def d__law_pl_lowest : Df := ⟨F._law_pl_lowest, "_law_pl_lowest", ["poly"], ["poly", "share", "number"], 39, [(F._law_content, "_law_content")], [], b__law_pl_lowest, (.fn "_law_pl_lowest"), cls, [], [], [], xcs⟩
def b__law_pl_common : Bl := (.cons (.par [2, 3] (.cons (.call F._law_pl_lowest (.cons (.var 0) .nil)) (.cons (.call F._law_pl_lowest (.cons (.var 1) .nil)) .nil))) (.cons (.whl (.cmp .ne (.var 3) (.tup .nil)) (.cons (.par [2, 3] (.cons (.var 3) (.cons (.call F._law_pl_lowest (.cons (.idx (.call F._law_pl_parted (.cons (.var 2) (.cons (.var 3) .nil))) (.cst (.int 2))) .nil)) .nil))) .nil)) (.cons (.ret (.var 2)) .nil)))
def d__law_pl_common : Df := ⟨F._law_pl_common, "_law_pl_common", ["one", "other"], ["one", "other", "left", "right"], 42, [(F._law_pl_lowest, "_law_pl_lowest"), (F._law_pl_parted, "_law_pl_parted")], [], b__law_pl_common, (.fn "_law_pl_common"), cls, [], [], [], xcs⟩
def b__law_fm_lowest : Bl := (.cons (.asg (.nm 1) (.tup .nil)) (.cons (.for (.nm 2) (.seq (.var 0)) (.cons (.asg (.nm 1) (.ite (.cmp .ne (.var 1) (.tup .nil)) (.call F._law_pl_common (.cons (.var 1) (.cons (.var 2) .nil))) (.call F._law_pl_lowest (.cons (.var 2) .nil)))) .nil)) (.cons (.ife (.cmp .eq (.var 1) (.tup .nil)) (.cons (.ret (.var 0)) .nil) .nil) (.cons (.asg (.nm 3) (.frz (.comp [2] (.nm 2) (.seq (.var 0)) .nil (.ite (.cmp .ne (.var 2) (.tup .nil)) (.call F._law_pl_over (.cons (.var 2) (.cons (.var 1) .nil))) (.tup (.cons (.cst (.int 1)) (.cons (.tup .nil) .nil))))))) (.cons (.asg (.nm 4) (.cst (.int 1))) (.cons (.for (.tp (.cons (.nm 5) (.cons (.nm 2) .nil))) (.seq (.var 3)) (.cons (.asg (.nm 4) (.bin .fdiv (.bin .mul (.var 4) (.var 5)) (.call F._law_gcd (.cons (.var 4) (.cons (.var 5) .nil))))) .nil)) (.cons (.asg (.nm 6) (.frz (.comp [5, 2] (.tp (.cons (.nm 5) (.cons (.nm 2) .nil))) (.seq (.var 3)) .nil (.call F._law_pl_by (.cons (.bin .fdiv (.var 4) (.var 5)) (.cons (.var 2) .nil)))))) (.cons (.asg (.nm 7) (.cst (.int 0))) (.cons (.for (.nm 2) (.seq (.var 6)) (.cons (.asg (.nm 7) (.call F._law_gcd (.cons (.var 7) (.cons (.call F._law_content (.cons (.var 2) .nil)) .nil)))) .nil)) (.cons (.asg (.nm 8) (.idx (.frz (.comp [2] (.nm 2) (.seq (.var 6)) (.cons (.cmp .ne (.var 2) (.tup .nil)) .nil) (.var 2))) (.cst (.int 0)))) (.cons (.asg (.nm 7) (.ite (.cmp .gt (.idx (.var 8) (.neg (.cst (.int 1)))) (.cst (.int 0))) (.var 7) (.bin .sub (.cst (.int 0)) (.var 7)))) (.cons (.ret (.bi .tuple (.cons (.frz (.comp [2] (.nm 2) (.seq (.var 6)) .nil (.bi .tuple (.cons (.frz (.comp [9] (.nm 9) (.seq (.var 2)) .nil (.bin .fdiv (.var 9) (.var 7)))) .nil)))) .nil))) .nil))))))))))))
def d__law_fm_lowest : Df := ⟨F._law_fm_lowest, "_law_fm_lowest", ["line"], ["line", "common", "poly", "parts", "whole", "times", "found", "share", "first", "number"], 45, [(F._law_gcd, "_law_gcd"), (F._law_content, "_law_content"), (F._law_pl_by, "_law_pl_by"), (F._law_pl_over, "_law_pl_over"), (F._law_pl_common, "_law_pl_common"), (F._law_pl_lowest, "_law_pl_lowest")], [], b__law_fm_lowest, (.fn "_law_fm_lowest"), cls, [], [], [], xcs⟩
def b__law_sl_lowest : Bl := (.cons (.ret (.stp (.call F._law_fm_lowest (.cons (.stp (.var 0) .no .no (.neg (.cst (.int 1)))) .nil)) .no .no (.neg (.cst (.int 1))))) .nil)
def d__law_sl_lowest : Df := ⟨F._law_sl_lowest, "_law_sl_lowest", ["slope"], ["slope"], 48, [(F._law_fm_lowest, "_law_fm_lowest")], [], b__law_sl_lowest, (.fn "_law_sl_lowest"), cls, [], [], [], xcs⟩
def b_Slope_eq : Bl := (.cons (.ret (.and (.isC "Slope" (.var 1)) (.cmp .eq (.fld "Slope" 0 (.var 0)) (.fld "Slope" 0 (.var 1))))) .nil)
def d_Slope_eq : Df := ⟨F.Slope_eq, "__eq__", ["self", "other"], ["self", "other"], 33, [], [], b_Slope_eq, (.me "Slope"), cls, [], [], [], xcs⟩
def b_Slope_order : Bl := (.cons (.ret (.bin .sub (.bi .len (.cons (.fld "Slope" 0 (.var 0)) .nil)) (.cst (.int 1)))) .nil)
def d_Slope_order : Df := ⟨F.Slope_order, "order", ["self"], ["self"], 33, [], [], b_Slope_order, (.pr "Slope"), cls, [], [], [], xcs⟩
def b_Slope_str : Bl := (.cons (.ret (.fst (.cons (.cst (.str "slope of order ")) (.cons (.prop F.Slope_order "Slope" (.var 0)) .nil)))) .nil)
def d_Slope_str : Df := ⟨F.Slope_str, "__str__", ["self"], ["self"], 36, [], [], b_Slope_str, (.me "Slope"), cls, [], [(F.Slope_order, "Slope", "order")], [], xcs⟩
def b_Slope_polys : Bl := (.cons (.ret (.fld "Slope" 0 (.var 0))) .nil)
def d_Slope_polys : Df := ⟨F.Slope_polys, "polys", ["self"], ["self"], 33, [], [], b_Slope_polys, (.pr "Slope"), cls, [], [], [], xcs⟩
def b__law_is : Bl := (.cons (.asg (.nm 2) (.bin .add (.cst (.str "slope of order ")) (.bi .str (.cons (.bin .sub (.bi .len (.cons (.var 1) .nil)) (.cst (.int 1))) .nil)))) (.cons (.ret (.and (.cmp .eq (.frz (.disp (.cons (.prop F.Slope_polys "Slope" (.var 0)) (.cons (.prop F.Slope_order "Slope" (.var 0)) (.cons (.strO F.Slope_str "Slope" (.var 0)) .nil))))) (.frz (.disp (.cons (.var 1) (.cons (.bin .sub (.bi .len (.cons (.var 1) .nil)) (.cst (.int 1))) (.cons (.var 2) .nil)))))) (.cmpO .eq F.Slope_eq "Slope" (.var 0) (.new F.Slope_init "Slope" 1 (.cons (.var 1) .nil))))) .nil))
def d__law_is : Df := ⟨F._law_is, "_law_is", ["slope", "polys"], ["slope", "polys", "text"], 45, [], [], b__law_is, (.fn "_law_is"), cls, [(F.Slope_eq, "Slope", "__eq__"), (F.Slope_str, "Slope", "__str__")], [(F.Slope_order, "Slope", "order"), (F.Slope_polys, "Slope", "polys")], [(F.Slope_init, "Slope", "Slope")], xcs⟩
def b__law_pl_drawn : Bl := (.cons (.asg (.nm 2) (.frz (.comp [3] (.nm 3) (.rng1 (.call F._law_roll (.cons (.var 0) (.cons (.bin .add (.var 1) (.cst (.int 1))) .nil)))) .nil (.call F._law_pick (.cons (.var 0) (.cons (.frz (.disp (.cons (.cst (.int 0)) (.cons (.cst (.int 1)) (.cons (.cst (.int 1)) (.cons (.neg (.cst (.int 1))) (.cons (.cst (.int 2)) (.cons (.neg (.cst (.int 2))) (.cons (.cst (.int 3)) .nil))))))))) .nil)))))) (.cons (.ret (.bi .tuple (.cons (.frz (.cat (.var 2) (.frz (.disp (.cons (.call F._law_pick (.cons (.var 0) (.cons (.frz (.disp (.cons (.cst (.int 1)) (.cons (.cst (.int 1)) (.cons (.neg (.cst (.int 1))) (.cons (.cst (.int 2)) (.cons (.neg (.cst (.int 3))) .nil))))))) .nil))) .nil))))) .nil))) .nil))
def d__law_pl_drawn : Df := ⟨F._law_pl_drawn, "_law_pl_drawn", ["dice", "most"], ["dice", "most", "found", "at"], 39, [(F._law_pick, "_law_pick"), (F._law_roll, "_law_roll")], [], b__law_pl_drawn, (.fn "_law_pl_drawn"), cls, [], [], [], xcs⟩
def b__law_st_drawn : Bl := (.cons (.asg (.nm 3) (.frz (.comp [4] (.nm 4) (.rng1 (.var 1)) .nil (.ite (.cmp .gt (.call F._law_roll (.cons (.var 0) (.cons (.cst (.int 4)) .nil))) (.cst (.int 0))) (.call F._law_pl_drawn (.cons (.var 0) (.cons (.var 2) .nil))) (.tup .nil))))) (.cons (.ret (.bi .tuple (.cons (.frz (.cat (.var 3) (.frz (.disp (.cons (.call F._law_pl_drawn (.cons (.var 0) (.cons (.var 2) .nil))) .nil))))) .nil))) .nil))
def d__law_st_drawn : Df := ⟨F._law_st_drawn, "_law_st_drawn", ["dice", "order", "degree"], ["dice", "order", "degree", "found", "at"], 42, [(F._law_pl_drawn, "_law_pl_drawn"), (F._law_roll, "_law_roll")], [], b__law_st_drawn, (.fn "_law_st_drawn"), cls, [], [], [], xcs⟩
def b__law_sl_drawn : Bl := (.cons (.ret (.call F._law_st_drawn (.cons (.var 0) (.cons (.call F._law_roll (.cons (.var 0) (.cons (.bin .add (.var 1) (.cst (.int 1))) .nil))) (.cons (.var 2) .nil))))) .nil)
def d__law_sl_drawn : Df := ⟨F._law_sl_drawn, "_law_sl_drawn", ["dice", "order", "degree"], ["dice", "order", "degree"], 45, [(F._law_st_drawn, "_law_st_drawn"), (F._law_roll, "_law_roll")], [], b__law_sl_drawn, (.fn "_law_sl_drawn"), cls, [], [], [], xcs⟩
def b_Slope_ne : Bl := (.cons (.ret (.not (.cmpOD .eq F.Slope_eq "Slope" (.var 0) (.var 1)))) .nil)
def d_Slope_ne : Df := ⟨F.Slope_ne, "__ne__", ["self", "other"], ["self", "other"], 36, [], [], b_Slope_ne, (.me "Slope"), cls, [(F.Slope_eq, "Slope", "__eq__")], [], [], xcs⟩
def b_by_in : Bl := (.cons (.ret (.ite (.cmp .ne (.var 0) (.cst (.int 0))) (.bi .tuple (.cons (.frz (.comp [2] (.nm 2) (.seq (.var 1)) .nil (.bin .mul (.var 0) (.var 2)))) .nil)) (.glb G.NOUGHT))) .nil)
def d_by_in : Df := ⟨F.by_in, "by_in", ["number", "poly"], ["number", "poly", "one"], 33, [], [(G.NOUGHT, "NOUGHT")], b_by_in, (.fn "by_in"), cls, [], [], [], xcs⟩
def b_over_in : Bl := (.cons (.ret (.bi .tuple (.cons (.frz (.comp [2] (.nm 2) (.seq (.var 0)) .nil (.bin .fdiv (.var 2) (.var 1)))) .nil))) .nil)
def d_over_in : Df := ⟨F.over_in, "over_in", ["poly", "number"], ["poly", "number", "one"], 33, [], [], b_over_in, (.fn "over_in"), cls, [], [], [], xcs⟩
def b_minus_in : Bl := (.cons (.ret (.call F.plus_in (.cons (.var 0) (.cons (.call F.by_in (.cons (.neg (.cst (.int 1))) (.cons (.var 1) .nil))) .nil)))) .nil)
def d_minus_in : Df := ⟨F.minus_in, "minus_in", ["one", "other"], ["one", "other"], 39, [(F.plus_in, "plus_in"), (F.by_in, "by_in")], [], b_minus_in, (.fn "minus_in"), cls, [], [], [], xcs⟩
def b_common_share : Bl := (.cons (.whl (.cmp .ne (.var 1) (.cst (.int 0))) (.cons (.par [0, 1] (.cons (.var 1) (.cons (.bin .mod (.var 0) (.var 1)) .nil))) .nil)) (.cons (.ret (.bi .abs (.cons (.var 0) .nil))) .nil))
def d_common_share : Df := ⟨F.common_share, "common_share", ["one", "other"], ["one", "other"], 33, [], [], b_common_share, (.fn "common_share"), cls, [], [], [], xcs⟩
def b_parted_in : Bl := (.cons (.asg (.tp (.cons (.nm 2) (.cons (.nm 3) (.cons (.nm 4) (.cons (.nm 5) .nil))))) (.tup (.cons (.cst (.int 1)) (.cons (.glb G.NOUGHT) (.cons (.var 0) (.cons (.idx (.var 1) (.neg (.cst (.int 1)))) .nil)))))) (.cons (.whl (.cmp .ge (.bi .len (.cons (.var 4) .nil)) (.bi .len (.cons (.var 1) .nil))) (.cons (.asg (.nm 6) (.call F.common_share (.cons (.idx (.var 4) (.neg (.cst (.int 1)))) (.cons (.var 5) .nil)))) (.cons (.asg (.nm 6) (.ite (.cmp .gt (.var 5) (.cst (.int 0))) (.var 6) (.bin .sub (.cst (.int 0)) (.var 6)))) (.cons (.par [7, 8] (.cons (.bin .fdiv (.var 5) (.var 6)) (.cons (.bin .add (.bin .mul (.tup (.cons (.cst (.int 0)) .nil)) (.bin .sub (.bi .len (.cons (.var 4) .nil)) (.bi .len (.cons (.var 1) .nil)))) (.tup (.cons (.bin .fdiv (.idx (.var 4) (.neg (.cst (.int 1)))) (.var 6)) .nil))) .nil))) (.cons (.par [2, 3] (.cons (.bin .mul (.var 2) (.var 7)) (.cons (.call F.plus_in (.cons (.call F.by_in (.cons (.var 7) (.cons (.var 3) .nil))) (.cons (.var 8) .nil))) .nil))) (.cons (.asg (.nm 4) (.call F.minus_in (.cons (.call F.by_in (.cons (.var 7) (.cons (.var 4) .nil))) (.cons (.call F.times_in (.cons (.var 8) (.cons (.var 1) .nil))) .nil)))) .nil)))))) (.cons (.ret (.tup (.cons (.var 2) (.cons (.var 3) (.cons (.var 4) .nil))))) .nil)))
def d_parted_in : Df := ⟨F.parted_in, "parted_in", ["one", "other"], ["one", "other", "times", "quotient", "rest", "last", "share", "by", "step"], 42, [(F.minus_in, "minus_in"), (F.times_in, "times_in"), (F.by_in, "by_in"), (F.plus_in, "plus_in"), (F.common_share, "common_share")], [(G.NOUGHT, "NOUGHT")], b_parted_in, (.fn "parted_in"), cls, [], [], [], xcs⟩
def b_exact_in : Bl := (.cons (.ret (.ite (.cmp .ne (.var 0) (.glb G.NOUGHT)) (.idx (.call F.parted_in (.cons (.var 0) (.cons (.var 1) .nil))) (.cst (.int 1))) (.glb G.NOUGHT))) .nil)
def d_exact_in : Df := ⟨F.exact_in, "exact_in", ["one", "other"], ["one", "other"], 45, [(F.parted_in, "parted_in")], [(G.NOUGHT, "NOUGHT")], b_exact_in, (.fn "exact_in"), cls, [], [], [], xcs⟩
def b_divided : Bl := (.cons (.asg (.nm 3) (.own (.disp .nil))) (.cons (.for (.nm 4) (.seq (.var 0)) (.cons (.ex (.app (.var 3) (.call F.over_in (.cons (.call F.exact_in (.cons (.var 4) (.cons (.var 1) .nil))) (.cons (.var 2) .nil))))) .nil)) (.cons (.retF (.var 3)) .nil)))
def d_divided : Df := ⟨F.divided, "divided", ["polys", "poly", "number"], ["polys", "poly", "number", "found", "one"], 48, [(F.over_in, "over_in"), (F.exact_in, "exact_in")], [], b_divided, (.fn "divided"), cls, [], [], [], xcs⟩
def b_content_in : Bl := (.cons (.asg (.nm 1) (.cst (.int 0))) (.cons (.for (.nm 2) (.seq (.var 0)) (.cons (.asg (.nm 1) (.call F.common_share (.cons (.var 1) (.cons (.var 2) .nil)))) .nil)) (.cons (.ret (.var 1)) .nil)))
def d_content_in : Df := ⟨F.content_in, "content_in", ["poly"], ["poly", "found", "number"], 36, [(F.common_share, "common_share")], [], b_content_in, (.fn "content_in"), cls, [], [], [], xcs⟩
def b_content_of : Bl := (.cons (.asg (.nm 1) (.cst (.int 0))) (.cons (.for (.nm 2) (.seq (.var 0)) (.cons (.asg (.nm 1) (.call F.common_share (.cons (.var 1) (.cons (.call F.content_in (.cons (.var 2) .nil)) .nil)))) .nil)) (.cons (.ret (.var 1)) .nil)))
def d_content_of : Df := ⟨F.content_of, "content_of", ["polys"], ["polys", "found", "poly"], 39, [(F.common_share, "common_share"), (F.content_in, "content_in")], [], b_content_of, (.fn "content_of"), cls, [], [], [], xcs⟩
def b_lowest_in : Bl := (.cons (.ife (.cmp .eq (.var 0) (.glb G.NOUGHT)) (.cons (.ret (.glb G.NOUGHT)) .nil) .nil) (.cons (.asg (.nm 1) (.call F.content_in (.cons (.var 0) .nil))) (.cons (.ret (.call F.over_in (.cons (.var 0) (.cons (.ite (.cmp .gt (.idx (.var 0) (.neg (.cst (.int 1)))) (.cst (.int 0))) (.var 1) (.bin .sub (.cst (.int 0)) (.var 1))) .nil)))) .nil)))
def d_lowest_in : Df := ⟨F.lowest_in, "lowest_in", ["poly"], ["poly", "share"], 39, [(F.over_in, "over_in"), (F.content_in, "content_in")], [(G.NOUGHT, "NOUGHT")], b_lowest_in, (.fn "lowest_in"), cls, [], [], [], xcs⟩
def b_common_in : Bl := (.cons (.par [0, 1] (.cons (.call F.lowest_in (.cons (.var 0) .nil)) (.cons (.call F.lowest_in (.cons (.var 1) .nil)) .nil))) (.cons (.whl (.cmp .ne (.var 1) (.glb G.NOUGHT)) (.cons (.par [0, 1] (.cons (.var 1) (.cons (.call F.lowest_in (.cons (.idx (.call F.parted_in (.cons (.var 0) (.cons (.var 1) .nil))) (.cst (.int 2))) .nil)) .nil))) .nil)) (.cons (.ret (.var 0)) .nil)))
def d_common_in : Df := ⟨F.common_in, "common_in", ["one", "other"], ["one", "other"], 45, [(F.lowest_in, "lowest_in"), (F.parted_in, "parted_in")], [(G.NOUGHT, "NOUGHT")], b_common_in, (.fn "common_in"), cls, [], [], [], xcs⟩
def b_common_of : Bl := (.cons (.asg (.nm 1) (.glb G.NOUGHT)) (.cons (.for (.nm 2) (.seq (.var 0)) (.cons (.asg (.nm 1) (.call F.common_in (.cons (.var 1) (.cons (.var 2) .nil)))) .nil)) (.cons (.ret (.var 1)) .nil)))
def d_common_of : Df := ⟨F.common_of, "common_of", ["polys"], ["polys", "found", "poly"], 48, [(F.common_in, "common_in")], [(G.NOUGHT, "NOUGHT")], b_common_of, (.fn "common_of"), cls, [], [], [], xcs⟩
def b_lowest_step : Bl := (.cons (.par [1, 2] (.cons (.call F.common_of (.cons (.var 0) .nil)) (.cons (.call F.content_of (.cons (.var 0) .nil)) .nil))) (.cons (.asg (.nm 3) (.call F.divided (.cons (.var 0) (.cons (.var 1) (.cons (.var 2) .nil))))) (.cons (.ret (.ite (.cmp .gt (.idx (.idx (.var 3) (.neg (.cst (.int 1)))) (.neg (.cst (.int 1)))) (.cst (.int 0))) (.bi .tuple (.cons (.var 3) .nil)) (.bi .tuple (.cons (.frz (.comp [4] (.nm 4) (.seq (.var 3)) .nil (.call F.by_in (.cons (.neg (.cst (.int 1))) (.cons (.var 4) .nil))))) .nil)))) .nil)))
def d_lowest_step : Df := ⟨F.lowest_step, "lowest_step", ["step"], ["step", "poly", "number", "found", "one"], 51, [(F.by_in, "by_in"), (F.divided, "divided"), (F.content_of, "content_of"), (F.common_of, "common_of")], [], b_lowest_step, (.fn "lowest_step"), cls, [], [], [], xcs⟩
def b_Slope_lowest : Bl := (.cons (.ret (.call F.made_slope (.cons (.call F.lowest_step (.cons (.fld "Slope" 0 (.var 0)) .nil)) .nil))) .nil)
def d_Slope_lowest : Df := ⟨F.Slope_lowest, "lowest", ["self"], ["self"], 54, [(F.made_slope, "made_slope"), (F.lowest_step, "lowest_step")], [], b_Slope_lowest, (.me "Slope"), cls, [], [], [], xcs⟩
def b__law_right : Bl := (.cons (.asg (.nm 1) (.frz (.comp [2] (.nm 2) (.rng1 (.cst (.int 3))) .nil (.call F._law_sl_drawn (.cons (.var 0) (.cons (.ite (.cmp .gt (.var 2) (.cst (.int 0))) (.cst (.int 1)) (.cst (.int 2))) (.cons (.cst (.int 2)) .nil))))))) (.cons (.asg (.tp (.cons (.nm 3) (.cons (.nm 4) (.cons (.nm 5) .nil)))) (.frz (.comp [6] (.nm 6) (.seq (.var 1)) .nil (.new F.Slope_init "Slope" 1 (.cons (.var 6) .nil))))) (.cons (.ife (.or (.not (.call F._law_is (.cons (.var 3) (.cons (.idx (.var 1) (.cst (.int 0))) .nil)))) (.cmp .ne (.prop F.Slope_polys "Slope" (.meth F.Slope_lowest "Slope" (.var 3) .nil)) (.call F._law_sl_lowest (.cons (.idx (.var 1) (.cst (.int 0))) .nil)))) (.cons (.ret (.cst (.bl false))) .nil) .nil) (.cons (.asg (.nm 7) (.call F._law_sl_times (.cons (.idx (.var 1) (.cst (.int 0))) (.cons (.idx (.var 1) (.cst (.int 1))) .nil)))) (.cons (.ife (.or (.cmp .ne (.prop F.Slope_polys "Slope" (.call F.slope_times (.cons (.var 3) (.cons (.var 4) .nil)))) (.var 7)) (.cmp .ne (.prop F.Slope_polys "Slope" (.call F.slope_times (.cons (.var 4) (.cons (.var 3) .nil)))) (.call F._law_sl_times (.cons (.idx (.var 1) (.cst (.int 1))) (.cons (.idx (.var 1) (.cst (.int 0))) .nil))))) (.cons (.ret (.cst (.bl false))) .nil) .nil) (.cons (.ife (.cmpO .ne F.Slope_ne "Slope" (.call F.slope_times (.cons (.call F.slope_times (.cons (.var 3) (.cons (.var 4) .nil))) (.cons (.var 5) .nil))) (.call F.slope_times (.cons (.var 3) (.cons (.call F.slope_times (.cons (.var 4) (.cons (.var 5) .nil))) .nil)))) (.cons (.ret (.cst (.bl false))) .nil) .nil) (.cons (.asg (.nm 8) (.call F._law_st_plus (.cons (.idx (.var 1) (.cst (.int 0))) (.cons (.idx (.var 1) (.cst (.int 1))) .nil)))) (.cons (.asg (.nm 9) (.call F.slope_plus (.cons (.var 3) (.cons (.var 4) .nil)))) (.cons (.ife (.cmp .ne (.ite (.cmp .isn (.var 9) (.cst .non)) (.prop F.Slope_polys "Slope" (.var 9)) (.tup .nil)) (.var 8)) (.cons (.ret (.cst (.bl false))) .nil) .nil) (.cons (.asg (.nm 10) (.new F.Slope_init "Slope" 1 (.cons (.call F._law_st_by (.cons (.tup (.cons (.neg (.cst (.int 1))) .nil)) (.cons (.idx (.var 1) (.cst (.int 0))) .nil))) .nil))) (.cons (.ife (.or (.cmp .isn (.call F.slope_plus (.cons (.var 3) (.cons (.var 10) .nil))) (.cst .non)) (.cmpOD .ne F.Slope_ne "Slope" (.call F.slope_plus (.cons (.var 3) (.cons (.var 4) .nil))) (.call F.slope_plus (.cons (.var 4) (.cons (.var 3) .nil))))) (.cons (.ret (.cst (.bl false))) .nil) .nil) (.cons (.asg (.nm 11) (.call F._law_drawn_numbers (.cons (.var 0) (.cons (.cst (.int 9)) .nil)))) (.cons (.asg (.nm 12) (.call F._law_sl_led (.cons (.idx (.var 1) (.cst (.int 0))) (.cons (.call F._law_sl_led (.cons (.idx (.var 1) (.cst (.int 1))) (.cons (.var 11) .nil))) .nil)))) (.cons (.ife (.cmp .ne (.var 12) (.slc (.call F._law_sl_led (.cons (.var 7) (.cons (.var 11) .nil))) .no (.so (.bi .len (.cons (.var 12) .nil))))) (.cons (.ret (.cst (.bl false))) .nil) .nil) (.cons (.asg (.nm 13) (.new F.Slope_init "Slope" 1 (.cons (.bi .tuple (.cons (.frz (.comp [14] (.nm 14) (.seq (.idx (.var 1) (.cst (.int 0)))) .nil (.call F._law_pl_times (.cons (.call F._law_pl_by (.cons (.neg (.cst (.int 2))) (.cons (.tup (.cons (.cst (.int 1)) (.cons (.cst (.int 1)) .nil))) .nil))) (.cons (.var 14) .nil))))) .nil)) .nil))) (.cons (.ife (.or (.cmpO .ne F.Slope_ne "Slope" (.meth F.Slope_lowest "Slope" (.var 13) .nil) (.meth F.Slope_lowest "Slope" (.var 3) .nil)) (.or (.cmp .ne (.cmpO .eq F.Slope_eq "Slope" (.var 3) (.var 4)) (.cmp .eq (.idx (.var 1) (.cst (.int 0))) (.idx (.var 1) (.cst (.int 1))))) (.cmpOD .eq F.Slope_eq "Slope" (.var 3) (.idx (.var 1) (.cst (.int 0)))))) (.cons (.ret (.cst (.bl false))) .nil) .nil) (.cons (.ret (.cst (.bl true))) .nil)))))))))))))))))
def d__law_right : Df := ⟨F._law_right, "_law_right", ["dice"], ["dice", "some", "turn", "one", "other", "third", "polys", "both", "total", "told", "less", "numbers", "led", "wide", "poly"], 57, [(F._law_pl_times, "_law_pl_times"), (F._law_pl_by, "_law_pl_by"), (F._law_sl_led, "_law_sl_led"), (F._law_drawn_numbers, "_law_drawn_numbers"), (F.slope_plus, "slope_plus"), (F._law_st_by, "_law_st_by"), (F._law_st_plus, "_law_st_plus"), (F.slope_times, "slope_times"), (F._law_sl_times, "_law_sl_times"), (F._law_sl_lowest, "_law_sl_lowest"), (F._law_is, "_law_is"), (F._law_sl_drawn, "_law_sl_drawn")], [], b__law_right, (.fn "_law_right"), cls, [(F.Slope_eq, "Slope", "__eq__"), (F.Slope_ne, "Slope", "__ne__"), (F.Slope_lowest, "Slope", "lowest")], [(F.Slope_polys, "Slope", "polys")], [(F.Slope_init, "Slope", "Slope")], xcs⟩
def b__law_dice : Bl := (.cons (.asg (.nm 2) (.ite (.cmp .lt (.var 1) (.bi .len (.cons (.var 0) .nil))) (.bi .int (.cons (.idx (.var 0) (.var 1)) .nil)) (.bin .add (.bin .mul (.cst (.int 137)) (.var 1)) (.cst (.int 41))))) (.cons (.asg (.nm 3) (.bin .mod (.bi .int (.cons (.bi .abs (.cons (.var 2) .nil)) .nil)) (.bin .pow (.bin .pow (.cst (.int 10)) (.cst (.int 53))) (.cst (.int 6))))) (.cons (.asg (.nm 4) (.bin .add (.bin .add (.bin .add (.bin .mul (.bin .mod (.var 3) (.cst (.int 2305843009213693907))) (.cst (.int 73))) (.bin .mul (.cst (.int 619)) (.var 1))) (.bin .mul (.cst (.int 41)) (.bi .int (.cons (.cmp .lt (.var 2) (.cst (.int 0))) .nil)))) (.cst (.int 17)))) (.cons (.ret (.own (.disp (.cons (.bi .max (.cons (.cst (.int 0)) (.cons (.bin .sub (.var 3) (.bin .pow (.cst (.int 10)) (.cst (.int 16)))) .nil))) (.cons (.var 4) (.cons (.cst (.int 0)) .nil)))))) .nil))))
def d__law_dice : Df := ⟨F._law_dice, "_law_dice", ["script", "spot"], ["script", "spot", "cell", "great", "seed"], 33, [], [], b__law_dice, (.fn "_law_dice"), cls, [], [], [], xcs⟩
def b_law : Bl := (.cons (.for (.nm 1) (.rng1 (.bi .max (.cons (.cst (.int 1)) (.cons (.bi .min (.cons (.cst (.int 6)) (.cons (.bi .len (.cons (.var 0) .nil)) .nil))) .nil)))) (.cons (.asg (.nm 2) (.call F._law_dice (.cons (.var 0) (.cons (.var 1) .nil)))) (.cons (.ife (.cmp .ne (.frz (.comp [3] (.nm 3) (.rng1 (.cst (.int 4))) (.cons (.not (.call F._law_right (.cons (.var 2) .nil))) .nil) (.var 3))) (.frz (.disp .nil))) (.cons (.ret (.cst (.bl false))) .nil) .nil) .nil))) (.cons (.asg (.nm 4) (.frz (.disp (.cons (.cst .non) (.cons (.tup .nil) (.cons (.tup (.cons (.tup .nil) .nil)) (.cons (.tup (.cons (.tup (.cons (.cst (.int 1)) .nil)) (.cons (.tup .nil) .nil))) (.cons (.tup (.cons (.tup (.cons (.cst (.int 0)) .nil)) .nil)) (.cons (.frz (.disp (.cons (.tup (.cons (.cst (.int 1)) .nil)) .nil))) (.cons (.tup (.cons (.tup (.cons (.cst (.int 1)) (.cons (.cst (.int 0)) .nil))) .nil)) (.cons (.tup (.cons (.tup (.cons (.cst (.bl true)) .nil)) .nil)) (.cons (.cst (.int 0)) (.cons (.cst (.str "slope")) (.cons (.bin .mul (.tup (.cons (.tup (.cons (.cst (.int 1)) .nil)) .nil)) (.cst (.int 6))) (.cons .dct .nil))))))))))))))) (.cons (.ret (.and (.cmp .eq (.frz (.comp [5] (.nm 5) (.seq (.var 4)) (.cons (.not (.call F._law_met (.cons (.var 5) .nil))) .nil) (.var 5))) (.frz (.disp .nil))) (.not (.call F._law_met (.cons (.bin .mul (.tup (.cons (.tup (.cons (.cst (.int 1)) .nil)) .nil)) (.cst (.int 5))) .nil))))) .nil)))
def d_law : Df := ⟨F.law, "law", ["script"], ["script", "spot", "dice", "turn", "wrong", "polys"], 60, [(F._law_met, "_law_met"), (F._law_right, "_law_right"), (F._law_dice, "_law_dice")], [], b_law, (.fn "law"), cls, [], [], [], xcs⟩
end LW
/-! ### promises of the defs -/
namespace LW
open PySem DL PM
abbrev dI (p : List Int) : List D := p.map D.int
abbrev P (p : List Int) : D := .tup (dI p)
abbrev Fr (r : Rat) : D := .tup [.int r.num, .int (r.den : Int)]
abbrev Dice (p : Addr) (a b c : Int) (S : Sto) : Sto := sup S p (.lst [.int a, .int b, .int c])
abbrev HasDice (S : Sto) (p : Addr) : Prop := ∃ a b c : Int, S p = some (.lst [.int a, .int b, .int c])
/-- an int within 2^9000 -/
abbrev Sm (x : Int) : Prop := Bd 60000000 x
abbrev SmF (r : Rat) : Prop := Bd 3000 r.num ∧ Bd 3000 (r.den : Int)
abbrev SmP (p : List Int) : Prop := BdP 60000000 p ∧ p.length ≤ 60
def isI : D → Bool
  | .int _ => true
  | _ => false
def isPl : D → Bool
  | .tup xs => xs.all isI && (match xs.getLast? with
    | some (.int 0) => false
    | _ => true)
  | _ => false
def Ty (v : D) : Prop := ∃ t, typD v = some t
def Ty2 (v : D) : Prop := Ty v ∧ ∀ xs, v = .tup xs → ∀ x ∈ xs, Ty x
abbrev sp_common_share : FSp := fun ds S R Q => ∃ a b : Int, ds = [.int a, .int b] ∧ Q (.int (Int.gcd a b)) S
abbrev sp__law_gcd : FSp := sp_common_share
abbrev sp_is_integer : FSp := fun ds S R Q => ∃ v, ds = [v] ∧ Ty v ∧ Q (.bl (isI v)) S
abbrev sp__law_is_int : FSp := sp_is_integer
abbrev sp_is_plain_poly : FSp := fun ds S R Q => ∃ v, ds = [v] ∧ Ty2 v ∧ Q (.bl (isPl v)) S
abbrev sp_is_poly : FSp := sp_is_plain_poly
abbrev sp__law_pl_is : FSp := sp_is_plain_poly
abbrev sp_require_poly : FSp := fun ds S R Q => ∃ p, ds = [P p] ∧ Nrm p ∧ Q .non S
abbrev sp_require_polys : FSp := fun ds S R Q => ∃ p q, ds = [P p, P q] ∧ Nrm p ∧ Nrm q ∧ Q .non S
abbrev sp_is_broken : FSp := fun ds S R Q => ∃ r, ds = [Fr r] ∧ Q (.bl true) S
abbrev sp_require_broken : FSp := fun ds S R Q => ∃ r, ds = [Fr r] ∧ Q .non S
abbrev sp_require_moves : FSp := fun ds S R Q => ∃ m : Int, ds = [.int m] ∧ m.natAbs ≤ 1000 ∧ Q .non S
abbrev sp_broken_in : FSp := fun ds S R Q => ∃ t b : Int, ds = [.int t, .int b] ∧ b ≠ 0 ∧ Sm b ∧ Q (Fr (Rat.divInt t b)) S
abbrev sp__law_fr : FSp := sp_broken_in
abbrev sp__law_fr_plus : FSp := fun ds S R Q => ∃ r s, ds = [Fr r, Fr s] ∧ SmF r ∧ SmF s ∧ Q (Fr (r + s)) S
abbrev sp__law_fr_times : FSp := fun ds S R Q => ∃ r s, ds = [Fr r, Fr s] ∧ SmF r ∧ SmF s ∧ Q (Fr (r * s)) S
abbrev sp_poly_in : FSp := fun ds S R Q => ∃ v p, ds = [v] ∧ (res S v = .tup (dI p) ∨ res S v = .lst (dI p)) ∧ p.length ≤ 1000 ∧ Q (P (trim p)) S
abbrev sp__law_pl : FSp := sp_poly_in
abbrev sp_plus_in : FSp := fun ds S R Q => ∃ p q, ds = [P p, P q] ∧ p.length ≤ 500 ∧ q.length ≤ 500 ∧ Q (P (pplus p q)) S
abbrev sp__law_pl_plus : FSp := sp_plus_in
abbrev sp_by_in : FSp := fun ds S R Q => ∃ k p, ds = [.int k, P p] ∧ Bd 60000000 k ∧ SmP p ∧ Q (P (pby k p)) S
abbrev sp__law_pl_by : FSp := sp_by_in
abbrev sp_times_in : FSp := fun ds S R Q => ∃ p q, ds = [P p, P q] ∧ SmP p ∧ SmP q ∧ Q (P (pmul p q)) S
abbrev sp__law_pl_times : FSp := sp_times_in
abbrev sp_content_in : FSp := fun ds S R Q => ∃ p, ds = [P p] ∧ p.length ≤ 1000 ∧ Q (.int (pcon p)) S
abbrev sp__law_content : FSp := sp_content_in
abbrev sp_over_in : FSp := fun ds S R Q => ∃ p, ∃ n : Int, ds = [P p, .int n] ∧ n ≠ 0 ∧ p.length ≤ 1000 ∧ Q (P (p.map fun c => c.fdiv n)) S
abbrev sp_lowest_in : FSp := fun ds S R Q => ∃ p, ds = [P p] ∧ Nrm p ∧ SmP p ∧ Q (P (plow p)) S
abbrev sp__law_pl_lowest : FSp := sp_lowest_in
abbrev sp_moved_in : FSp := fun ds S R Q => ∃ p m, ds = [P p, .int m] ∧ BdP 100 p ∧ p.length ≤ 20 ∧ m.natAbs ≤ 1000 ∧ Q (P (pmov m p)) S
abbrev sp__law_pl_moved : FSp := sp_moved_in
abbrev sp_derived_in : FSp := fun ds S R Q => ∃ p, ds = [P p] ∧ SmP p ∧ Q (P (pder p)) S
abbrev sp_value_at_in : FSp := fun ds S R Q => ∃ p, ∃ a b : Int, ds = [P p, .tup [.int a, .int b]] ∧ BdP 300 p ∧ p.length ≤ 20 ∧ 0 < b ∧ Bd 10 a ∧ Bd 10 b ∧ Q (Fr (pe p (Rat.divInt a b))) S
abbrev sp__law_pl_value : FSp := fun ds S R Q => ∃ p r, ds = [P p, Fr r] ∧ BdP 300 p ∧ p.length ≤ 20 ∧ Bd 10 r.num ∧ Bd 10 (r.den : Int) ∧ Q (Fr (pe p r)) S
abbrev sp_degree_in : FSp := fun ds S R Q => ∃ p, ds = [P p] ∧ p.length ≤ 1000 ∧ Q (.int ((p.length : Int) - 1)) S
abbrev sp_poly_plus : FSp := fun ds S R Q => ∃ p q, ds = [P p, P q] ∧ Nrm p ∧ Nrm q ∧ p.length ≤ 500 ∧ q.length ≤ 500 ∧ Q (P (pplus p q)) S
abbrev sp_poly_times : FSp := fun ds S R Q => ∃ p q, ds = [P p, P q] ∧ Nrm p ∧ Nrm q ∧ SmP p ∧ SmP q ∧ Q (P (pmul p q)) S
abbrev sp_by_number : FSp := fun ds S R Q => ∃ k p, ds = [.int k, P p] ∧ Nrm p ∧ Bd 60000000 k ∧ SmP p ∧ Q (P (pby k p)) S
abbrev sp_moved : FSp := fun ds S R Q => ∃ p m, ds = [P p, .int m] ∧ Nrm p ∧ BdP 100 p ∧ p.length ≤ 20 ∧ m.natAbs ≤ 1000 ∧ Q (P (pmov m p)) S
abbrev sp_derived : FSp := fun ds S R Q => ∃ p, ds = [P p] ∧ Nrm p ∧ SmP p ∧ Q (P (pder p)) S
abbrev sp_degree : FSp := fun ds S R Q => ∃ p, ds = [P p] ∧ Nrm p ∧ p.length ≤ 1000 ∧ Q (.int ((p.length : Int) - 1)) S
abbrev sp_lowest_poly : FSp := sp_lowest_in
abbrev sp_poly_at : FSp := fun ds S R Q => ∃ p r, ds = [P p, Fr r] ∧ Nrm p ∧ BdP 300 p ∧ p.length ≤ 20 ∧ Bd 10 r.num ∧ Bd 10 (r.den : Int) ∧ Q (Fr (pe p r)) S
abbrev sp__law_dice : FSp := fun ds S R Q => ∃ ns, ∃ i : Nat, ds = [.scr ns, .int i] ∧ ∀ p a b c, S p = none → Q (.ref p) (Dice p a b c S)
abbrev sp__law_roll : FSp := fun ds S R Q => ∃ p t, ds = [.ref p, .int t] ∧ HasDice S p ∧ 0 < t ∧ t < 2 ^ 30 ∧ ∀ r a b c : Int, 0 ≤ r → r < t → Q (.int r) (Dice p a b c S)
abbrev sp__law_pick : FSp := fun ds S R Q => ∃ p xs, ds = [.ref p, .lst xs] ∧ HasDice S p ∧ xs ≠ [] ∧ xs.length < 1000 ∧ ∀ x ∈ xs, ∀ a b c : Int, Q x (Dice p a b c S)
abbrev sp__law_pl_drawn : FSp := fun ds S R Q => ∃ p, ∃ m : Nat, ds = [.ref p, .int m] ∧ HasDice S p ∧ m ≤ 20 ∧ ∀ q, ∀ a b c : Int, Nrm q → BdP 2 q → q.length ≤ m + 1 → q ≠ [] → Q (P q) (Dice p a b c S)
abbrev sp_law : FSp := fun ds S R Q => ∃ ns, ds = [.scr ns] ∧ ∀ S', Q (.bl true) S'

/-! ### division -/
/-- bits of rests -/
def xb (a b m l : Nat) : Nat := a + (m + 1 - l) * (b + 1)
abbrev sp_require_some : FSp := fun ds S R Q => ∃ p, ds = [P p] ∧ p ≠ [] ∧ Q .non S
abbrev sp_minus_in : FSp := fun ds S R Q => ∃ p q, ds = [P p, P q] ∧ p.length ≤ 500 ∧ SmP q ∧ Q (P (pplus p (pby (-1) q))) S
structure PdB (a b : Nat) (p d : List Int) (t : Int) (q r : List Int) : Prop where
  pos : 0 < t
  dv : Pdv p d t q r
  bt : Bd (xb a b p.length d.length + 1) t
  bq : BdP (xb a b p.length d.length) q
  br : BdP (xb a b p.length d.length) r
  lq : q.length ≤ p.length
structure PdIn (a b : Nat) (p d : List Int) : Prop where
  np : Nrm p
  nd : Nrm d
  ne : d ≠ []
  lp : p.length ≤ 20
  ld : d.length ≤ 20
  bp : BdP a p
  bd : BdP b d
  xb : xb a b p.length d.length ≤ 50000000
abbrev sp_parted_in : FSp := fun ds S R Q => ∃ p d a b, ds = [P p, P d] ∧ PdIn a b p d ∧ ∀ t q r, PdB a b p d t q r → ((∃ s, Nrm s ∧ ∀ x, pei p x = pei s x * pei d x) → t = 1) → Q (.tup [.int t, P q, P r]) S
/-- the law's own way, a turn -/
def lpS (d : List Int) (k : Nat) (s : Int × List Int × List Int) : Int × List Int × List Int :=
  if cf s.2.1 (k + d.length - 1) = 0 then s else
    (s.1 * cf d (d.length - 1), (List.range s.2.1.length).map (fun n => cf d (d.length - 1) * cf s.2.1 n - if k ≤ n ∧ n - k < d.length then cf s.2.1 (k + d.length - 1) * cf d (n - k) else 0),
      (List.range s.2.2.length).map fun n => cf d (d.length - 1) * cf s.2.2 n + if n = k then cf s.2.1 (k + d.length - 1) else 0)
def lpR (d : List Int) : Nat → Int × List Int × List Int → Int × List Int × List Int
  | 0, s => s
  | k + 1, s => lpR d k (lpS d k s)
def lsg (t : Int) : Int := if 0 < t then 1 else -1
def lprE (s : Int × List Int × List Int) : Int × List Int × List Int := (lsg s.1 * s.1, trim (s.2.2.map fun c => lsg s.1 * c), trim (s.2.1.map fun c => lsg s.1 * c))
def lprt (p d : List Int) : Int × List Int × List Int := lprE (lpR d (p.length + 1 - d.length) (1, p, List.replicate (p.length + 1 - d.length) 0))
abbrev sp__law_pl_parted : FSp := fun ds S R Q => ∃ p d a b, ds = [P p, P d] ∧ PdIn a b p d ∧ ∀ t q r, PdB a b p d t q r → (t, q, r) = lprt p d → Q (.tup [.int t, P q, P r]) S
/-- a number and a poly, lowest together -/
def lpD (t : Int) (r : List Int) : D := .tup [.int (t.fdiv (Int.gcd t (pcon r))), P (r.map fun c => c.fdiv (Int.gcd t (pcon r)))]
abbrev sp_rest_in : FSp := fun ds S R Q => ∃ p d a b, ds = [P p, P d] ∧ PdIn a b p d ∧ ∀ t q r, PdB a b p d t q r → Q (lpD t r) S
abbrev sp_rest : FSp := sp_rest_in
abbrev sp_quotient_in : FSp := fun ds S R Q => ∃ p d a b, ds = [P p, P d] ∧ PdIn a b p d ∧ ∀ t q r, PdB a b p d t q r → Q (lpD t q) S
abbrev sp__law_pl_over : FSp := sp_quotient_in
noncomputable def dvB (d p : List Int) : Bool := if d = [] then decide (p = []) else decide (prem p d = [])
abbrev sp_does_divide_in : FSp := fun ds S R Q => ∃ p d a b, ds = [P d, P p] ∧ (d ≠ [] → PdIn a b p d) ∧ Nrm p ∧ Nrm d ∧ Q (.bl (dvB d p)) S
abbrev sp_does_divide : FSp := sp_does_divide_in
abbrev sp__law_pl_divides : FSp := sp_does_divide_in
abbrev sp_quotient : FSp := fun ds S R Q => ∃ p d a b, ds = [P p, P d] ∧ PdIn a b p d ∧ (dvB d p = true → ∀ t q r, PdB a b p d t q r → Q (lpD t q) S) ∧ (dvB d p = false → Q .non S)
/-- bounds that let Euclid's way go on: lengths and bits of both -/
def gOk : Nat → Nat → Nat → Nat → Nat → Bool
  | 0, _, _, l, _ => l == 0
  | n + 1, m, a, l, b => l == 0 || (decide (xb a b m l ≤ 50000000) && decide (m ≤ 20) && decide (l ≤ 20) && (List.range l).all fun k => gOk n l b k (xb a b m l))
abbrev sp_common_in : FSp := fun ds S R Q => ∃ p q a b, ds = [P p, P q] ∧ Nrm p ∧ Nrm q ∧ SmP p ∧ SmP q ∧ BdP a p ∧ BdP b q ∧ gOk (q.length + 1) p.length a q.length b = true ∧ Q (P (pgcd (plow p) (plow q))) S
abbrev sp_common : FSp := sp_common_in
abbrev sp__law_pl_common : FSp := sp_common_in
/-! ### ratios -/
abbrev Rt (t b : List Int) : D := .tup [P t, P b]
structure RI (T B : List Int) : Prop where
  nT : Nrm T
  nB : Nrm B
  ne : B ≠ []
  bT : BdP 610 T
  bB : BdP 610 B
  lT : T.length ≤ 13
  lB : B.length ≤ 13
structure Rw (t b : List Int) : Prop where
  nt : Nrm t
  nb : Nrm b
  ne : b ≠ []
  bt : BdP 300 t
  bb : BdP 300 b
  lt : t.length ≤ 7
  lb : b.length ≤ 7
structure Ra (t b : List Int) : Prop where
  w : Rw t b
  lw : Low t b
structure Rb (t b : List Int) : Prop where
  lw : Low t b
  bt : BdP 42 t
  bb : BdP 42 b
  lt : t.length ≤ 4
  lb : b.length ≤ 4
theorem Rb.a {t b : List Int} (h : Rb t b) : Ra t b := ⟨⟨h.lw.nt, h.lw.nb, h.lw.ne, h.bt.mono (by decide), h.bb.mono (by decide), by have := h.lt; omega, by have := h.lb; omega⟩, h.lw⟩
abbrev sp_exact_in : FSp := fun ds S R Q => ∃ p d s a b, ds = [P p, P d] ∧ PdIn a b p d ∧ Nrm s ∧ (∀ x, pei p x = pei s x * pei d x) ∧ Q (P s) S
abbrev sp_ratio_in : FSp := fun ds S R Q => ∃ T B, ds = [P T, P B] ∧ RI T B ∧ ∀ t b, Low t b → Crs t b T B → Q (Rt t b) S
abbrev sp_ratio_of : FSp := sp_ratio_in
abbrev sp__law_rt : FSp := sp_ratio_in
abbrev sp_ratio_of_poly : FSp := fun ds S R Q => ∃ m : Int, ∃ p, ds = [.int m, P p] ∧ m ≠ 0 ∧ RI p [m] ∧ ∀ t b, Low t b → Crs t b p [m] → Q (Rt t b) S
abbrev sp_ratio_plus_in : FSp := fun ds S R Q => ∃ t1 b1 t2 b2, ds = [Rt t1 b1, Rt t2 b2] ∧ Rw t1 b1 ∧ Rw t2 b2 ∧ ∀ t b, Low t b → Crs t b (pplus (pmul t1 b2) (pmul t2 b1)) (pmul b1 b2) → Q (Rt t b) S
abbrev sp__law_rt_plus : FSp := sp_ratio_plus_in
abbrev sp_ratio_plus : FSp := fun ds S R Q => ∃ t1 b1 t2 b2, ds = [Rt t1 b1, Rt t2 b2] ∧ Ra t1 b1 ∧ Ra t2 b2 ∧ ∀ t b, Low t b → Crs t b (pplus (pmul t1 b2) (pmul t2 b1)) (pmul b1 b2) → Q (Rt t b) S
abbrev sp_ratio_minus_in : FSp := fun ds S R Q => ∃ t1 b1 t2 b2, ds = [Rt t1 b1, Rt t2 b2] ∧ Rw t1 b1 ∧ Rw t2 b2 ∧ ∀ t b, Low t b → Crs t b (pplus (pmul t1 b2) (pby (-1) (pmul t2 b1))) (pmul b1 b2) → Q (Rt t b) S
abbrev sp_ratio_minus : FSp := fun ds S R Q => ∃ t1 b1 t2 b2, ds = [Rt t1 b1, Rt t2 b2] ∧ Ra t1 b1 ∧ Ra t2 b2 ∧ ∀ t b, Low t b → Crs t b (pplus (pmul t1 b2) (pby (-1) (pmul t2 b1))) (pmul b1 b2) → Q (Rt t b) S
abbrev sp__law_rt_minus : FSp := fun ds S R Q => ∃ t1 b1 t2 b2, ds = [Rt t1 b1, Rt t2 b2] ∧ Rw t1 b1 ∧ Rb t2 b2 ∧ ∀ t b, Low t b → Crs t b (pplus (pmul t1 b2) (pmul (pby (-1) t2) b1)) (pmul b1 b2) → Q (Rt t b) S
abbrev sp_ratio_times_in : FSp := fun ds S R Q => ∃ t1 b1 t2 b2, ds = [Rt t1 b1, Rt t2 b2] ∧ Rw t1 b1 ∧ Rw t2 b2 ∧ ∀ t b, Low t b → Crs t b (pmul t1 t2) (pmul b1 b2) → Q (Rt t b) S
abbrev sp__law_rt_times : FSp := sp_ratio_times_in
abbrev sp_ratio_times : FSp := fun ds S R Q => ∃ t1 b1 t2 b2, ds = [Rt t1 b1, Rt t2 b2] ∧ Ra t1 b1 ∧ Ra t2 b2 ∧ ∀ t b, Low t b → Crs t b (pmul t1 t2) (pmul b1 b2) → Q (Rt t b) S
abbrev sp_ratio_over_in : FSp := fun ds S R Q => ∃ t1 b1 t2 b2, ds = [Rt t1 b1, Rt t2 b2] ∧ Rw t1 b1 ∧ Rw t2 b2 ∧ t2 ≠ [] ∧ ∀ t b, Low t b → Crs t b (pmul t1 b2) (pmul b1 t2) → Q (Rt t b) S
abbrev sp_ratio_over : FSp := fun ds S R Q => ∃ t1 b1 t2 b2, ds = [Rt t1 b1, Rt t2 b2] ∧ Ra t1 b1 ∧ Ra t2 b2 ∧ t2 ≠ [] ∧ ∀ t b, Low t b → Crs t b (pmul t1 b2) (pmul b1 t2) → Q (Rt t b) S
abbrev sp__law_rt_over : FSp := fun ds S R Q => ∃ t1 b1 t2 b2, ds = [Rt t1 b1, Rt t2 b2] ∧ Rw t1 b1 ∧ Rb t2 b2 ∧ t2 ≠ [] ∧ ∀ t b, Low t b → Crs t b (pmul t1 b2) (pmul b1 t2) → Q (Rt t b) S
abbrev sp_ratio_moved_in : FSp := fun ds S R Q => ∃ t b, ∃ m : Int, ds = [Rt t b, .int m] ∧ Rb t b ∧ m.natAbs ≤ 1000 ∧ Q (Rt (pmov m t) (pmov m b)) S
abbrev sp_ratio_moved : FSp := sp_ratio_moved_in
abbrev sp__law_rt_moved : FSp := fun ds S R Q => ∃ t b, ∃ m : Int, ds = [Rt t b, .int m] ∧ Rb t b ∧ m.natAbs ≤ 40 ∧ ∀ t' b', Low t' b' → Crs t' b' (pmov m t) (pmov m b) → Q (Rt t' b') S
abbrev sp_broken_over : FSp := fun ds S R Q => ∃ r s, ds = [Fr r, Fr s] ∧ s ≠ 0 ∧ SmF r ∧ SmF s ∧ Q (Fr (r / s)) S
abbrev sp_ratio_at_in : FSp := fun ds S R Q => ∃ t b r, ds = [Rt t b, Fr r] ∧ Rb t b ∧ Bd 10 r.num ∧ Bd 10 (r.den : Int) ∧ Q (if pe b r = 0 then .non else Fr (pe t r / pe b r)) S
abbrev sp_ratio_at : FSp := sp_ratio_at_in
abbrev sp_whole_in : FSp := fun ds S R Q => ∃ t b, ds = [Rt t b] ∧ Rb t b ∧ ∀ m q r, PdB 42 42 t b m q r → Q (lpD m q) S
abbrev sp_whole_part : FSp := sp_whole_in
abbrev sp_proper_in : FSp := fun ds S R Q => ∃ t b, ds = [Rt t b] ∧ Rb t b ∧ ∀ m q r, PdB 42 42 t b m q r → ∀ t' b', Low t' b' → Crs t' b' r (pby m b) → Q (Rt t' b') S
abbrev sp_proper_part : FSp := sp_proper_in
def unP : D → List Int
  | .tup xs => xs.filterMap fun x => match x with
    | .int i => some i
    | _ => none
  | _ => []
open Classical in
noncomputable def isRt : D → Bool
  | .tup [x0, x1] => isPl x0 && isPl x1 && decide (Low (unP x0) (unP x1))
  | _ => false
def PO (x : D) : Prop := (∃ p, x = P p ∧ BdP 610 p ∧ p.length ≤ 13) ∨ (Ty2 x ∧ isPl x = false)
def RtOk (v : D) : Prop := (Ty v ∧ ∀ xs, v ≠ .tup xs) ∨ (∃ xs, v = .tup xs ∧ xs.length ≠ 2) ∨ ∃ x0 x1, v = .tup [x0, x1] ∧ PO x0 ∧ PO x1
abbrev sp_is_plain_ratio : FSp := fun ds S R Q => ∃ v, ds = [v] ∧ RtOk v ∧ Q (.bl (isRt v)) S
abbrev sp_is_ratio : FSp := sp_is_plain_ratio
abbrev sp__law_rt_is : FSp := sp_is_plain_ratio
abbrev sp_require_ratio : FSp := fun ds S R Q => ∃ t b, ds = [Rt t b] ∧ Ra t b ∧ Q .non S
abbrev sp_require_ratios : FSp := fun ds S R Q => ∃ t1 b1 t2 b2, ds = [Rt t1 b1, Rt t2 b2] ∧ Ra t1 b1 ∧ Ra t2 b2 ∧ Q .non S
abbrev sp__law_rt_drawn : FSp := fun ds S R Q => ∃ p, ∃ m : Nat, ds = [.ref p, .int m] ∧ HasDice S p ∧ m ≤ 3 ∧ ∀ t b, ∀ x y z : Int, Rb t b → Q (Rt t b) (Dice p x y z S)
abbrev sp__law_some : FSp := fun ds S R Q => ∃ p, ds = [.ref p] ∧ HasDice S p ∧ ∀ t b, ∀ x y z : Int, Rb t b → Q (Rt t b) (Dice p x y z S)
abbrev sp__law_near : FSp := fun ds S R Q => ∃ p t b, ds = [.ref p, Rt t b] ∧ HasDice S p ∧ Rb t b ∧ ∀ vs : List D, ∀ x y z : Int, (∀ v ∈ vs, RtOk v) → Q (.lst vs) (Dice p x y z S)
abbrev sp__law_parts_right : FSp := fun ds S R Q => ∃ t b, ds = [Rt t b] ∧ Rb t b ∧ Q (.bl true) S
end LW
/-! ### promises: steps -/
namespace LW
open PySem DL PM
abbrev St (s : Ln) : D := .tup (s.map fun p => P p)
abbrev Lw (s : Ln) : D := .obj "Law" [St s]
abbrev Ks (s : Ln) : D := .obj "KnownStep" [St s]
/-- bits and lengths of the polys of a step -/
def SB (k l : Nat) (s : Ln) : Prop := ∀ p ∈ s, BdP k p ∧ p.length ≤ l
def isSt : D → Bool
  | .tup xs => xs.all isPl && (match xs.getLast? with
    | some (.tup []) => false
    | _ => true)
  | _ => false
def Ty3 (v : D) : Prop := Ty v ∧ ∀ xs, v = .tup xs → ∀ x ∈ xs, Ty2 x
/-- what is passed for a law -/
structure Pas (s : Ln) : Prop where
  n : NSt s
  ne : s ≠ []
  len : s.length ≤ 5
  pl : ∀ p ∈ s, p.length ≤ 13
abbrev sp_is_plain_step : FSp := fun ds S R Q => ∃ v, ds = [v] ∧ Ty3 v ∧ Q (.bl (isSt v)) S
abbrev sp_is_step : FSp := sp_is_plain_step
abbrev sp__law_st_is : FSp := sp_is_plain_step
abbrev sp_require_step : FSp := fun ds S R Q => ∃ s, ds = [St s] ∧ NSt s ∧ Q .non S
abbrev sp_stripped : FSp := fun ds S R Q => ∃ v, ∃ s : Ln, ds = [v] ∧ (res S v = .tup (s.map fun p => P p) ∨ res S v = .lst (s.map fun p => P p)) ∧ s.length ≤ 1000 ∧ Q (St (strm s)) S
abbrev sp__law_st : FSp := sp_stripped
abbrev sp_step_sum : FSp := fun ds S R Q => ∃ a b : Ln, ds = [St a, St b] ∧ a.length ≤ 500 ∧ b.length ≤ 500 ∧ (∀ p ∈ a, p.length ≤ 500) ∧ (∀ p ∈ b, p.length ≤ 500) ∧ Q (St (splus a b)) S
abbrev sp__law_st_plus : FSp := sp_step_sum
abbrev sp_step_plus : FSp := fun ds S R Q => ∃ a b : Ln, ds = [St a, St b] ∧ NSt a ∧ NSt b ∧ a.length ≤ 500 ∧ b.length ≤ 500 ∧ (∀ p ∈ a, p.length ≤ 500) ∧ (∀ p ∈ b, p.length ≤ 500) ∧ Q (St (splus a b)) S
abbrev sp_step_led : FSp := fun ds S R Q => ∃ p, ∃ s : Ln, ds = [P p, St s] ∧ SmP p ∧ s.length ≤ 500 ∧ (∀ q ∈ s, SmP q) ∧ Q (St (sled p s)) S
abbrev sp__law_st_by : FSp := sp_step_led
abbrev sp_step_by : FSp := fun ds S R Q => ∃ p, ∃ s : Ln, ds = [P p, St s] ∧ Nrm p ∧ NSt s ∧ SmP p ∧ s.length ≤ 500 ∧ (∀ q ∈ s, SmP q) ∧ Q (St (sled p s)) S
abbrev sp_step_moved : FSp := fun ds S R Q => ∃ s : Ln, ∃ m : Int, ds = [St s, .int m] ∧ SB 100 20 s ∧ m.natAbs ≤ 1000 ∧ s.length ≤ 500 ∧ Q (St (s.map (pmov m))) S
structure MulIn (ka la kb lb : Nat) (a b : Ln) : Prop where
  na : NSt a
  nb : NSt b
  sa : SB ka la a
  sb : SB kb lb b
  h1 : ka ≤ 3000
  h2 : kb ≤ 100
  h3 : la ≤ 20
  h4 : lb ≤ 20
  h5 : a.length ≤ 8
  h6 : b.length ≤ 8
structure MulOut (ka la kb lb : Nat) (a b t : Ln) : Prop where
  m : IsMul a b t
  s : SB (ka + kb + lb * 11 + 14) (la + lb - 1) t
  l : t.length ≤ a.length + b.length - 1
abbrev sp_step_product : FSp := fun ds S R Q => ∃ (a b : Ln) (ka la kb lb : Nat), ds = [St a, St b] ∧ MulIn ka la kb lb a b ∧ ∀ t, MulOut ka la kb lb a b t → Q (St t) S
abbrev sp_step_times : FSp := sp_step_product
abbrev sp__law_st_times : FSp := sp_step_product
abbrev sp_value_in : FSp := fun ds S R Q => ∃ p, ∃ x : Int, ds = [P p, .int x] ∧ BdP 2000 p ∧ p.length ≤ 60 ∧ Bd 20 x ∧ Q (.int (pei p x)) S
abbrev sp__law_pl_at : FSp := sp_value_in
/-! laws -/
abbrev sp_KnownStep_init : FSp := fun ds S R Q => ∃ p q v, ds = [.ref p, v] ∧ S p = some (.obj "KnownStep" q [none]) ∧ S q = some .dx ∧ Q .non (sup S p (.obj "KnownStep" q [some v]))
abbrev sp_Law_init : FSp := fun ds S R Q => ∃ p q x s, ds = [.ref p, x] ∧ (x = Ks s ∨ (x = St s ∧ Pas s)) ∧ S p = some (.obj "Law" q [none]) ∧ S q = some .dx ∧ Q .non (sup S p (.obj "Law" q [some (St s)]))
abbrev sp_made_law : FSp := fun ds S R Q => ∃ s : Ln, ds = [St s] ∧ Q (Lw s) S
abbrev sp_require_law : FSp := fun ds S R Q => ∃ s : Ln, ds = [Lw s] ∧ Q .non S
abbrev sp_is_passed_law : FSp := fun ds S R Q => ∃ s : Ln, ds = [St s] ∧ Pas s ∧ Q (.bl true) S
abbrev sp_Law_polys : FSp := fun ds S R Q => ∃ s : Ln, ds = [Lw s] ∧ Q (St s) S
abbrev sp_Law_order : FSp := fun ds S R Q => ∃ s : Ln, ds = [Lw s] ∧ Q (.int ((s.length : Int) - 1)) S
def mxl (s : Ln) : Int := s.foldl (fun m p => max m (p.length : Int)) 0
abbrev sp_Law_degree : FSp := fun ds S R Q => ∃ s : Ln, ds = [Lw s] ∧ s ≠ [] ∧ Q (.int (mxl s - 1)) S
abbrev sp_Law_len : FSp := fun ds S R Q => ∃ s : Ln, ds = [Lw s] ∧ s ≠ [] ∧ Q (.int ((s.length : Int) - 1)) S
abbrev sp_Law_eq : FSp := fun ds S R Q => ∃ s t : Ln, ds = [Lw s, Lw t] ∧ Q (.bl (decide (s = t))) S
abbrev sp_Law_ne : FSp := fun ds S R Q => ∃ s t : Ln, ds = [Lw s, Lw t] ∧ Q (.bl (!decide (s = t))) S
def lawS (s : Ln) : Str := Str.empty ++ ("law of order " : Str) ++ (toString ((s.length : Int) - 1) : Str) ++ (", degree " : Str) ++ (toString (mxl s - 1) : Str)
abbrev sp_Law_str : FSp := fun ds S R Q => ∃ s : Ln, ds = [Lw s] ∧ Pas s ∧ Q (.str (lawS s)) S
abbrev sp_Law_at : FSp := fun ds S R Q => ∃ s : Ln, ∃ x : Int, ds = [Lw s, .int x] ∧ 0 ≤ x ∧ x ≤ 100000 ∧ SB 2000 60 s ∧ s.length ≤ 500 ∧ Q (.tup (s.map fun p => .int (pei p x))) S
abbrev sp_Law_moved : FSp := fun ds S R Q => ∃ s : Ln, ∃ m : Int, ds = [Lw s, .int m] ∧ SB 100 20 s ∧ m.natAbs ≤ 40 ∧ s.length ≤ 500 ∧ Q (Lw (s.map (pmov m))) S
abbrev sp_Law_times : FSp := fun ds S R Q => ∃ (a b : Ln) (ka la kb lb : Nat), ds = [Lw a, Lw b] ∧ MulIn ka la kb lb a b ∧ ∀ t, MulOut ka la kb lb a b t → Q (Lw t) S
abbrev sp_Law_plus : FSp := fun ds S R Q => ∃ a b : Ln, ds = [Lw a, Lw b] ∧ splus a b ≠ [] ∧ a.length ≤ 500 ∧ b.length ≤ 500 ∧ (∀ p ∈ a, p.length ≤ 500) ∧ (∀ p ∈ b, p.length ≤ 500) ∧ Q (Lw (splus a b)) S
/-- bits of a broken number -/
def BR (k : Nat) (r : Rat) : Prop := Bd k r.num ∧ Bd k (r.den : Int)
def sq (nums : List Rat) (y : Int) : Rat := nums.getD y.toNat 0
def ledL (s : Ln) (nums : List Rat) : List Rat := (List.range (nums.length + 1 - s.length)).map fun x => act s (sq nums) (x : Nat)
structure LedIn (k l n : Nat) (s : Ln) (nums : List Rat) : Prop where
  sb : SB k l s
  nb : ∀ r ∈ nums, BR n r
  ne : s ≠ []
  le : s.length ≤ nums.length
  l20 : nums.length ≤ 20
  l60 : l ≤ 60
  k2 : k ≤ 2000
  bd : s.length * (k + l * 6 + n + 4) + n + k + l * 6 + 10 ≤ 3000
abbrev sp_sum_at : FSp := fun ds S R Q => ∃ (s : Ln) (nums : List Rat) (x k l n : Nat) (w : D), ds = [St s, w, .int x] ∧ (w = .lst (nums.map Fr) ∨ w = .tup (nums.map Fr)) ∧ LedIn k l n s nums ∧ x + s.length ≤ nums.length ∧ Q (Fr (act s (sq nums) (x : Nat))) S
abbrev sp_led_in : FSp := fun ds S R Q => ∃ (s : Ln) (nums : List Rat) (k l n : Nat) (w : D), ds = [St s, w] ∧ (w = .lst (nums.map Fr) ∨ w = .tup (nums.map Fr)) ∧ LedIn k l n s nums ∧ Q (.lst ((ledL s nums).map Fr)) S
abbrev sp__law_st_led : FSp := fun ds S R Q => ∃ (s : Ln) (nums : List Rat) (k l n : Nat), ds = [St s, .lst (nums.map Fr)] ∧ LedIn k l n s nums ∧ Q (.lst ((ledL s nums).map Fr)) S
abbrev sp_Law_led : FSp := fun ds S R Q => ∃ (s : Ln) (nums : List Rat) (k l n : Nat), ds = [Lw s, .tup (nums.map Fr)] ∧ LedIn k l n s nums ∧ Q (.tup ((ledL s nums).map Fr)) S
abbrev sp_broken_plus : FSp := sp__law_fr_plus
abbrev sp_broken_times : FSp := sp__law_fr_times
/-! lowest steps -/
structure LIn (s : Ln) : Prop where
  n : NSt s
  ne : s ≠ []
  sb : SB 1600 11 s
  len : s.length ≤ 8
def tpc (s : Ln) : Int := cf (cp s (s.length - 1)) ((cp s (s.length - 1)).length - 1)
structure LowS (s t : Ln) : Prop where
  L : LowL t
  n : NSt t
  p : Prp s t
  pos : 0 < tpc t
abbrev sp_content_of : FSp := fun ds S R Q => ∃ s : Ln, ∃ v, ds = [v] ∧ (v = St s ∨ v = .lst (s.map fun p => P p)) ∧ (∀ p ∈ s, p.length ≤ 1000) ∧ Q (.int (lcon s : Nat)) S
abbrev sp_common_of : FSp := fun ds S R Q => ∃ s : Ln, ∃ v, ds = [v] ∧ (v = St s ∨ v = .lst (s.map fun p => P p)) ∧ NrL s ∧ SB 1600 11 s ∧ s.length ≤ 100 ∧ Q (P (cgf [] s)) S
structure DX (s : Ln) (g : List Int) (N : Nat) (h t : Ln) : Prop where
  gn : Nrm g
  g0 : g ≠ []
  bg : BdP 2000 g
  lg : g.length ≤ 11
  N0 : N ≠ 0
  hl : h.length = s.length
  hn : NrL h
  e : ∀ i x, cv s i x = cv h i x * pei g x
  tf : t = h.map fun p => p.map fun c => c.fdiv (N : Int)
abbrev sp_divided : FSp := fun ds S R Q => ∃ (s h t : Ln) (g : List Int) (N : Nat), ds = [St s, P g, .int N] ∧ DX s g N h t ∧ NrL s ∧ SB 1600 11 s ∧ s.length ≤ 100 ∧ Q (.lst (t.map fun p => P p)) S
abbrev sp_lowest_step : FSp := fun ds S R Q => ∃ s : Ln, ds = [St s] ∧ LIn s ∧ ∀ t, LowS s t → Q (St t) S
abbrev sp__law_st_lowest : FSp := sp_lowest_step
abbrev sp_Law_lowest : FSp := fun ds S R Q => ∃ s : Ln, ds = [Lw s] ∧ LIn s ∧ ∀ t, LowS s t → Q (Lw t) S
/-- the first poly that is not nought -/
def fst1 (s : Ln) : List Int := (s.filter fun p => !p.isEmpty).headD []
structure LowF (s t : Ln) : Prop where
  L : LowL t
  p : Prp s t
  pos : 0 < cf (fst1 t) ((fst1 t).length - 1)
abbrev sp__law_fm_lowest : FSp := fun ds S R Q => ∃ s : Ln, ds = [St s] ∧ NrL s ∧ (∃ p ∈ s, p ≠ []) ∧ SB 1600 11 s ∧ s.length ≤ 20 ∧ ∀ t, LowF s t → Q (St t) S
/-! the law's own -/
abbrev sp__law_st_drawn : FSp := fun ds S R Q => ∃ p, ∃ o m : Nat, ds = [.ref p, .int o, .int m] ∧ HasDice S p ∧ o ≤ 6 ∧ m ≤ 6 ∧ ∀ s, ∀ a b c : Int, NSt s → s ≠ [] → s.length = o + 1 → SB 2 (m + 1) s → Q (St s) (Dice p a b c S)
abbrev sp__law_some_step : FSp := fun ds S R Q => ∃ p, ds = [.ref p] ∧ HasDice S p ∧ ∀ s, ∀ a b c : Int, NSt s → s.length ≤ 4 → SB 2 4 s → Q (St s) (Dice p a b c S)
abbrev sp__law_near_steps : FSp := fun ds S R Q => ∃ p s, ds = [p, St s] ∧ NSt s ∧ s.length ≤ 4 ∧ SB 2 4 s ∧ ∀ vs : List D, (∀ v ∈ vs, Ty3 v) → Q (.lst vs) S
abbrev sp__law_laws_right : FSp := fun ds S R Q => ∃ p a b, ds = [.ref p, St a, St b] ∧ HasDice S p ∧ (NSt a ∧ a ≠ [] ∧ a.length ≤ 4 ∧ SB 2 4 a) ∧ (NSt b ∧ b ≠ [] ∧ b.length ≤ 4 ∧ SB 2 4 b) ∧ ∀ x y z : Int, Q (.bl true) (Dice p x y z S)
end LW
/-! ### promises: slopes -/
namespace LW
open PySem DL PM
abbrev Sl (s : Ln) : D := .obj "Slope" [St s]
abbrev Kl (s : Ln) : D := .obj "KnownSlope" [St s]
def lnD : D → Nat
  | .tup xs => xs.length
  | _ => 0
/-- what is passed for a slope -/
def okSl (v : D) : Bool := isSt v && (decide (1 ≤ lnD v) && decide (lnD v ≤ 5))
abbrev sp_KnownSlope_init : FSp := fun ds S R Q => ∃ p q v, ds = [.ref p, v] ∧ S p = some (.obj "KnownSlope" q [none]) ∧ S q = some .dx ∧ Q .non (sup S p (.obj "KnownSlope" q [some v]))
abbrev sp_Slope_init : FSp := fun ds S R Q => ∃ p q x, ds = [.ref p, x] ∧ S p = some (.obj "Slope" q [none]) ∧ S q = some .dx ∧ ((∃ s, x = Kl s ∧ Q .non (sup S p (.obj "Slope" q [some (St s)]))) ∨
  (Ty3 x ∧ (okSl x = true → Q .non (sup S p (.obj "Slope" q [some x]))) ∧ (okSl x = false → R 0 .non S)))
abbrev sp_made_slope : FSp := fun ds S R Q => ∃ s : Ln, ds = [St s] ∧ Q (Sl s) S
abbrev sp_require_slope : FSp := fun ds S R Q => ∃ s : Ln, ds = [Sl s] ∧ Q .non S
abbrev sp_require_slopes : FSp := fun ds S R Q => ∃ a b : Ln, ds = [Sl a, Sl b] ∧ Q .non S
/-- lengths of a slope -/
def L5 (s : Ln) : Prop := s.length ≤ 500 ∧ ∀ p ∈ s, p.length ≤ 500
abbrev sp_slope_plus : FSp := fun ds S R Q => ∃ a b : Ln, ds = [Sl a, Sl b] ∧ L5 a ∧ L5 b ∧ Q (if splus a b = [] then .non else Sl (splus a b)) S
abbrev sp_derived_slope : FSp := fun ds S R Q => ∃ s : Ln, ds = [St s] ∧ NrL s ∧ (∀ p ∈ s, SmP p) ∧ s.length ≤ 100 ∧ Q (St (sder s)) S
abbrev sp__law_sl_ahead : FSp := sp_derived_slope
abbrev sp__law_pl_derived : FSp := fun ds S R Q => ∃ p, ds = [P p] ∧ Nrm p ∧ SmP p ∧ Q (P (pder p)) S
structure SmI (ka la kb lb : Nat) (a b : Ln) : Prop where
  nb : NrL b
  sa : SB ka la a
  sb : SB kb lb b
  h1 : ka ≤ 1000
  h2 : kb ≤ 1000
  h3 : la ≤ 16
  h4 : lb ≤ 16
  h5 : a.length ≤ 8
  h6 : b.length ≤ 8
abbrev sp_slope_product : FSp := fun ds S R Q => ∃ (a b : Ln) (ka la kb lb : Nat), ds = [St a, St b] ∧ SmI ka la kb lb a b ∧ Q (St (slm a b)) S
abbrev sp__law_sl_times : FSp := sp_slope_product
abbrev sp_slope_times : FSp := fun ds S R Q => ∃ (a b : Ln) (ka la kb lb : Nat), ds = [Sl a, Sl b] ∧ SmI ka la kb lb a b ∧ Q (Sl (slm a b)) S
abbrev sp_Slope_lowest : FSp := fun ds S R Q => ∃ s : Ln, ds = [Sl s] ∧ LIn s ∧ ∀ t, LowS s t → Q (Sl t) S
abbrev sp__law_sl_lowest : FSp := sp_lowest_step
abbrev sp_Slope_eq : FSp := fun ds S R Q => ∃ s : Ln, ∃ v, ds = [Sl s, v] ∧ ((∃ t, v = Sl t ∧ Q (.bl (decide (s = t))) S) ∨ (Ty v ∧ Q (.bl false) S))
abbrev sp_Slope_ne : FSp := fun ds S R Q => ∃ s t : Ln, ds = [Sl s, Sl t] ∧ Q (.bl (!decide (s = t))) S
abbrev sp_Slope_polys : FSp := fun ds S R Q => ∃ s : Ln, ds = [Sl s] ∧ Q (St s) S
abbrev sp_Slope_order : FSp := fun ds S R Q => ∃ s : Ln, ds = [Sl s] ∧ Q (.int ((s.length : Int) - 1)) S
def slopeS (s : Ln) : Str := Str.empty ++ ("slope of order " : Str) ++ (toString ((s.length : Int) - 1) : Str)
/-- a drawn slope -/
structure Dl (s : Ln) : Prop where
  n : NSt s
  e : s ≠ []
  len : s.length ≤ 3
  sb : SB 2 3 s
abbrev sp_Slope_str : FSp := fun ds S R Q => ∃ s : Ln, ds = [Sl s] ∧ s ≠ [] ∧ s.length ≤ 5 ∧ Q (.str (slopeS s)) S
abbrev sp__law_is : FSp := fun ds S R Q => ∃ s : Ln, ds = [Sl s, St s] ∧ Dl s ∧ Q (.bl true) S
abbrev sp__law_met : FSp := fun ds S R Q => ∃ v, ds = [v] ∧ Ty3 v ∧ Q (.bl (!okSl v)) S
abbrev sp__law_sl_drawn : FSp := fun ds S R Q => ∃ p, ∃ o m : Nat, ds = [.ref p, .int o, .int m] ∧ HasDice S p ∧ o ≤ 5 ∧ m ≤ 6 ∧ ∀ s, ∀ a b c : Int, NSt s → s ≠ [] → s.length ≤ o + 1 → SB 2 (m + 1) s → Q (St s) (Dice p a b c S)
abbrev sp__law_drawn_numbers : FSp := fun ds S R Q => ∃ p, ∃ n : Nat, ds = [.ref p, .int n] ∧ HasDice S p ∧ n ≤ 20 ∧ ∀ nums : List Rat, ∀ x y z : Int, nums.length = n → (∀ r ∈ nums, BR 3 r) → Q (.lst (nums.map Fr)) (Dice p x y z S)
/-- the numbers of a series, noughts ahead -/
def sqz (nums : List Rat) (y : Int) : Rat := if 0 ≤ y then nums.getD y.toNat 0 else 0
def ledD (s : Ln) (nums : List Rat) : List Rat := (List.range (nums.length + 1 - s.length)).map fun x => actD s (sqz nums) (x : Nat)
structure LdI (k l n : Nat) (s : Ln) (nums : List Rat) : Prop where
  sb : SB k l s
  nb : ∀ r ∈ nums, BR n r
  ne : s ≠ []
  le : s.length ≤ nums.length
  l20 : nums.length ≤ 20
  s8 : s.length ≤ 8
  l1 : 1 ≤ l
  n1 : 1 ≤ n
  bd : s.length * (l * (k + n + 5 * s.length + 6)) ≤ 2900
abbrev sp__law_sl_led : FSp := fun ds S R Q => ∃ (s : Ln) (nums : List Rat) (k l n : Nat), ds = [St s, .lst (nums.map Fr)] ∧ LdI k l n s nums ∧ Q (.lst ((ledD s nums).map Fr)) S
abbrev sp__law_right : FSp := fun ds S R Q => ∃ p, ds = [.ref p] ∧ HasDice S p ∧ ∀ x y z : Int, Q (.bl true) (Dice p x y z S)
end LW

namespace LW
open PySem DL PM
/-! ### promises, by number -/
def fnT : List FSp := [sp_is_integer, sp_is_plain_poly, sp_is_plain_step, sp_Slope_init, sp__law_met, sp__law_pl_times, sp__law_pl_by, sp__law_gcd, sp__law_fr, sp__law_fr_plus, sp__law_fr_times, sp__law_sl_led, sp__law_roll, sp__law_pick, sp__law_drawn_numbers, sp_KnownSlope_init, sp_made_slope, sp_stripped, sp_poly_in, sp_plus_in, sp_step_sum, sp_require_slope, sp_require_slopes, sp_slope_plus, sp__law_st, sp__law_st_by, sp__law_pl, sp__law_pl_plus, sp__law_st_plus, sp_derived_in, sp_derived_slope, sp_times_in, sp_step_led, sp_slope_product, sp_slope_times, sp__law_pl_derived, sp__law_sl_ahead, sp__law_sl_times, sp__law_content, sp__law_pl_parted, sp__law_pl_over, sp__law_pl_lowest, sp__law_pl_common, sp__law_fm_lowest, sp__law_sl_lowest, sp_Slope_eq, sp_Slope_order, sp_Slope_str, sp_Slope_polys, sp__law_is, sp__law_pl_drawn, sp__law_st_drawn, sp__law_sl_drawn, sp_Slope_ne, sp_by_in, sp_over_in, sp_minus_in, sp_common_share, sp_parted_in, sp_exact_in, sp_divided, sp_content_in, sp_content_of, sp_lowest_in, sp_common_in, sp_common_of, sp_lowest_step, sp_Slope_lowest, sp__law_right, sp__law_dice, sp_law]
def glT : List D := [(.tup []), (.int 5)]
def Gm : Gam := ⟨fun k => fnT.getD k fun _ _ _ _ => False, fun k => glT.getD k .non, cls, xcs⟩
theorem has_KnownSlope : Gm.has "KnownSlope" = true := by decide +kernel
theorem has_Slope : Gm.has "Slope" = true := by decide +kernel
theorem fn_is_integer : Gm.fn F.is_integer = sp_is_integer := rfl
theorem fn_is_plain_poly : Gm.fn F.is_plain_poly = sp_is_plain_poly := rfl
theorem fn_is_plain_step : Gm.fn F.is_plain_step = sp_is_plain_step := rfl
theorem fn_Slope_init : Gm.fn F.Slope_init = sp_Slope_init := rfl
theorem fn__law_met : Gm.fn F._law_met = sp__law_met := rfl
theorem fn__law_pl_times : Gm.fn F._law_pl_times = sp__law_pl_times := rfl
theorem fn__law_pl_by : Gm.fn F._law_pl_by = sp__law_pl_by := rfl
theorem fn__law_gcd : Gm.fn F._law_gcd = sp__law_gcd := rfl
theorem fn__law_fr : Gm.fn F._law_fr = sp__law_fr := rfl
theorem fn__law_fr_plus : Gm.fn F._law_fr_plus = sp__law_fr_plus := rfl
theorem fn__law_fr_times : Gm.fn F._law_fr_times = sp__law_fr_times := rfl
theorem fn__law_sl_led : Gm.fn F._law_sl_led = sp__law_sl_led := rfl
theorem fn__law_roll : Gm.fn F._law_roll = sp__law_roll := rfl
theorem fn__law_pick : Gm.fn F._law_pick = sp__law_pick := rfl
theorem fn__law_drawn_numbers : Gm.fn F._law_drawn_numbers = sp__law_drawn_numbers := rfl
theorem fn_KnownSlope_init : Gm.fn F.KnownSlope_init = sp_KnownSlope_init := rfl
theorem fn_made_slope : Gm.fn F.made_slope = sp_made_slope := rfl
theorem fn_stripped : Gm.fn F.stripped = sp_stripped := rfl
theorem fn_poly_in : Gm.fn F.poly_in = sp_poly_in := rfl
theorem fn_plus_in : Gm.fn F.plus_in = sp_plus_in := rfl
theorem fn_step_sum : Gm.fn F.step_sum = sp_step_sum := rfl
theorem fn_require_slope : Gm.fn F.require_slope = sp_require_slope := rfl
theorem fn_require_slopes : Gm.fn F.require_slopes = sp_require_slopes := rfl
theorem fn_slope_plus : Gm.fn F.slope_plus = sp_slope_plus := rfl
theorem fn__law_st : Gm.fn F._law_st = sp__law_st := rfl
theorem fn__law_st_by : Gm.fn F._law_st_by = sp__law_st_by := rfl
theorem fn__law_pl : Gm.fn F._law_pl = sp__law_pl := rfl
theorem fn__law_pl_plus : Gm.fn F._law_pl_plus = sp__law_pl_plus := rfl
theorem fn__law_st_plus : Gm.fn F._law_st_plus = sp__law_st_plus := rfl
theorem fn_derived_in : Gm.fn F.derived_in = sp_derived_in := rfl
theorem fn_derived_slope : Gm.fn F.derived_slope = sp_derived_slope := rfl
theorem fn_times_in : Gm.fn F.times_in = sp_times_in := rfl
theorem fn_step_led : Gm.fn F.step_led = sp_step_led := rfl
theorem fn_slope_product : Gm.fn F.slope_product = sp_slope_product := rfl
theorem fn_slope_times : Gm.fn F.slope_times = sp_slope_times := rfl
theorem fn__law_pl_derived : Gm.fn F._law_pl_derived = sp__law_pl_derived := rfl
theorem fn__law_sl_ahead : Gm.fn F._law_sl_ahead = sp__law_sl_ahead := rfl
theorem fn__law_sl_times : Gm.fn F._law_sl_times = sp__law_sl_times := rfl
theorem fn__law_content : Gm.fn F._law_content = sp__law_content := rfl
theorem fn__law_pl_parted : Gm.fn F._law_pl_parted = sp__law_pl_parted := rfl
theorem fn__law_pl_over : Gm.fn F._law_pl_over = sp__law_pl_over := rfl
theorem fn__law_pl_lowest : Gm.fn F._law_pl_lowest = sp__law_pl_lowest := rfl
theorem fn__law_pl_common : Gm.fn F._law_pl_common = sp__law_pl_common := rfl
theorem fn__law_fm_lowest : Gm.fn F._law_fm_lowest = sp__law_fm_lowest := rfl
theorem fn__law_sl_lowest : Gm.fn F._law_sl_lowest = sp__law_sl_lowest := rfl
theorem fn_Slope_eq : Gm.fn F.Slope_eq = sp_Slope_eq := rfl
theorem fn_Slope_order : Gm.fn F.Slope_order = sp_Slope_order := rfl
theorem fn_Slope_str : Gm.fn F.Slope_str = sp_Slope_str := rfl
theorem fn_Slope_polys : Gm.fn F.Slope_polys = sp_Slope_polys := rfl
theorem fn__law_is : Gm.fn F._law_is = sp__law_is := rfl
theorem fn__law_pl_drawn : Gm.fn F._law_pl_drawn = sp__law_pl_drawn := rfl
theorem fn__law_st_drawn : Gm.fn F._law_st_drawn = sp__law_st_drawn := rfl
theorem fn__law_sl_drawn : Gm.fn F._law_sl_drawn = sp__law_sl_drawn := rfl
theorem fn_Slope_ne : Gm.fn F.Slope_ne = sp_Slope_ne := rfl
theorem fn_by_in : Gm.fn F.by_in = sp_by_in := rfl
theorem fn_over_in : Gm.fn F.over_in = sp_over_in := rfl
theorem fn_minus_in : Gm.fn F.minus_in = sp_minus_in := rfl
theorem fn_common_share : Gm.fn F.common_share = sp_common_share := rfl
theorem fn_parted_in : Gm.fn F.parted_in = sp_parted_in := rfl
theorem fn_exact_in : Gm.fn F.exact_in = sp_exact_in := rfl
theorem fn_divided : Gm.fn F.divided = sp_divided := rfl
theorem fn_content_in : Gm.fn F.content_in = sp_content_in := rfl
theorem fn_content_of : Gm.fn F.content_of = sp_content_of := rfl
theorem fn_lowest_in : Gm.fn F.lowest_in = sp_lowest_in := rfl
theorem fn_common_in : Gm.fn F.common_in = sp_common_in := rfl
theorem fn_common_of : Gm.fn F.common_of = sp_common_of := rfl
theorem fn_lowest_step : Gm.fn F.lowest_step = sp_lowest_step := rfl
theorem fn_Slope_lowest : Gm.fn F.Slope_lowest = sp_Slope_lowest := rfl
theorem fn__law_right : Gm.fn F._law_right = sp__law_right := rfl
theorem fn__law_dice : Gm.fn F._law_dice = sp__law_dice := rfl
theorem fn_law : Gm.fn F.law = sp_law := rfl
theorem gl_NOUGHT : Gm.gl G.NOUGHT = (.tup []) := rfl
theorem gl_MAX_SLOPE : Gm.gl G.MAX_SLOPE = (.int 5) := rfl
local macro_rules | `(tactic| walk_at "wpx") => `(tactic| simp only [wpS, wpE, wpEs, wpFs, wpO, wpL, wpI, wpG, wpGs, wpTs, getV, setV, delV, delVs, parV, tgsLen, tstD, binD, cmpD, biD, res_i, res_b, res_s, res_n, res_t, res_l, res_c, res_ob, res_dc, res_sup, isCD,  seqD_t, seqD_l, seqD_c, seqD_sup, sup_same, sup_sup, pick_rev, at2_0, at2_1, at3_0, at3_1, at3_2, ix3_0, ix3_1, ix3_2, Option.some.injEq, exists_eq_left',  if_true, if_false, Bool.false_eq_true, List.length_cons, List.length_nil, decide_true, decide_false, Bool.not_true, Bool.not_false, true_and, and_true, fn_is_integer, fn_is_plain_poly, fn_is_plain_step, fn_Slope_init, fn__law_met, fn__law_pl_times, fn__law_pl_by, fn__law_gcd, fn__law_fr, fn__law_fr_plus, fn__law_fr_times, fn__law_sl_led, fn__law_roll, fn__law_pick, fn__law_drawn_numbers, fn_KnownSlope_init, fn_made_slope, fn_stripped, fn_poly_in, fn_plus_in, fn_step_sum, fn_require_slope, fn_require_slopes, fn_slope_plus, fn__law_st, fn__law_st_by, fn__law_pl, fn__law_pl_plus, fn__law_st_plus, fn_derived_in, fn_derived_slope, fn_times_in, fn_step_led, fn_slope_product, fn_slope_times, fn__law_pl_derived, fn__law_sl_ahead, fn__law_sl_times, fn__law_content, fn__law_pl_parted, fn__law_pl_over, fn__law_pl_lowest, fn__law_pl_common, fn__law_fm_lowest, fn__law_sl_lowest, fn_Slope_eq, fn_Slope_order, fn_Slope_str, fn_Slope_polys, fn__law_is, fn__law_pl_drawn, fn__law_st_drawn, fn__law_sl_drawn, fn_Slope_ne, fn_by_in, fn_over_in, fn_minus_in, fn_common_share, fn_parted_in, fn_exact_in, fn_divided, fn_content_in, fn_content_of, fn_lowest_in, fn_common_in, fn_common_of, fn_lowest_step, fn_Slope_lowest, fn__law_right, fn__law_dice, fn_law, has_KnownSlope, has_Slope, gl_NOUGHT, gl_MAX_SLOPE])
local macro_rules | `(tactic| walk_at "wpc") => `(tactic| ((try dsimp only); rw [wpB]; simp only [wpS, wpE, wpEs, wpFs, wpO, wpL, wpI, wpG, wpGs, wpTs, getV, setV, delV, delVs, parV, tgsLen, tstD, binD, cmpD, biD, res_i, res_b, res_s, res_n, res_t, res_l, res_c, res_ob, res_dc, res_sup, isCD,  seqD_t, seqD_l, seqD_c, seqD_sup, sup_same, sup_sup, pick_rev, at2_0, at2_1, at3_0, at3_1, at3_2, ix3_0, ix3_1, ix3_2, Option.some.injEq, exists_eq_left',  if_true, if_false, Bool.false_eq_true, List.length_cons, List.length_nil, decide_true, decide_false, Bool.not_true, Bool.not_false, true_and, and_true, fn_is_integer, fn_is_plain_poly, fn_is_plain_step, fn_Slope_init, fn__law_met, fn__law_pl_times, fn__law_pl_by, fn__law_gcd, fn__law_fr, fn__law_fr_plus, fn__law_fr_times, fn__law_sl_led, fn__law_roll, fn__law_pick, fn__law_drawn_numbers, fn_KnownSlope_init, fn_made_slope, fn_stripped, fn_poly_in, fn_plus_in, fn_step_sum, fn_require_slope, fn_require_slopes, fn_slope_plus, fn__law_st, fn__law_st_by, fn__law_pl, fn__law_pl_plus, fn__law_st_plus, fn_derived_in, fn_derived_slope, fn_times_in, fn_step_led, fn_slope_product, fn_slope_times, fn__law_pl_derived, fn__law_sl_ahead, fn__law_sl_times, fn__law_content, fn__law_pl_parted, fn__law_pl_over, fn__law_pl_lowest, fn__law_pl_common, fn__law_fm_lowest, fn__law_sl_lowest, fn_Slope_eq, fn_Slope_order, fn_Slope_str, fn_Slope_polys, fn__law_is, fn__law_pl_drawn, fn__law_st_drawn, fn__law_sl_drawn, fn_Slope_ne, fn_by_in, fn_over_in, fn_minus_in, fn_common_share, fn_parted_in, fn_exact_in, fn_divided, fn_content_in, fn_content_of, fn_lowest_in, fn_common_in, fn_common_of, fn_lowest_step, fn_Slope_lowest, fn__law_right, fn__law_dice, fn_law, has_KnownSlope, has_Slope, gl_NOUGHT, gl_MAX_SLOPE]))

theorem gcd_fmod (a b : Int) : Int.gcd b (a.fmod b) = Int.gcd a b := by
  have e : a.fmod b = a - (a.fdiv b) * b := by
    have := Int.fmod_add_mul_fdiv a b
    rw [Int.mul_comm b] at this
    omega
  rw [e, Int.gcd_comm b, Int.gcd_sub_mul_right_left]
theorem fmod_lt (a b : Int) (h : b ≠ 0) : (a.fmod b).natAbs < b.natAbs := by
  have h1 := Int.fmod_eq_emod (a := a) (b := b)
  have h2 := Int.emod_nonneg a h
  have h3 := Int.emod_lt a h
  rw [h1]
  split
  · omega
  · rename_i z
    have : a % b ≠ 0 := fun e => z (.inr (Int.dvd_of_emod_eq_zero e))
    omega
theorem sok_common_share : SpecOk Gm d_common_share := by
  rintro ds S R Q ⟨a, b, rfl, q⟩
  refine ⟨rfl, ?_⟩
  show wpB Gm b_common_share _ _ [some (.int a), some (.int b)] S
  unfold b_common_share
  walk_at "wpc"
  refine ⟨fun m ρ S' => ∃ x y : Int, m = y.natAbs ∧ ρ = [some (.int x), some (.int y)] ∧ S' = S ∧ Int.gcd x y = Int.gcd a b, ⟨_, a, b, rfl, rfl, rfl, rfl⟩, ?_⟩
  rintro m _ _ ⟨x, y, rfl, rfl, rfl, hg⟩
  walk_at "wpx"
  by_cases hy : y = 0
  · subst hy
    walk_at "wpc"
    refine rtq ?_
    have e : (if x < 0 then -x else x) = (Int.gcd a b : Int) := by
      rw [← hg, Int.gcd_zero_right]
      split <;> omega
    rw [e]; exact q
  · simp only [hy, decide_false, Bool.not_false, if_true]
    walk_at "wpc"
    exact ⟨hy, _, fmod_lt x y hy, y, x.fmod y, rfl, rfl, rfl, by rw [gcd_fmod]; exact hg⟩
theorem sok__law_gcd : SpecOk Gm d__law_gcd := sok_common_share
theorem sok_is_integer : SpecOk Gm d_is_integer := by
  rintro ds S R Q ⟨v, rfl, ⟨t, ht⟩, q⟩
  refine ⟨rfl, ?_⟩
  show wpB Gm b_is_integer _ _ [some v] S
  unfold b_is_integer
  walk_at "wpc"
  rw [res_ty ht]
  refine ⟨t, ht, by decide, ?_⟩
  cases v <;> cases ht <;> first | exact rtq q | (refine ⟨_, rfl, by decide, rtq q⟩)
theorem divs (t b : Int) (hb : b ≠ 0) : t.fdiv (if b > 0 then (Int.gcd t b : Int) else 0 - (Int.gcd t b : Int)) = (Rat.divInt t b).num ∧ b.fdiv (if b > 0 then (Int.gcd t b : Int) else 0 - (Int.gcd t b : Int)) = ((Rat.divInt t b).den : Int) := by
  have d1 : (Int.gcd t b : Int) ∣ t := Int.gcd_dvd_left ..
  have d2 : (Int.gcd t b : Int) ∣ b := Int.gcd_dvd_right ..
  rw [Rat.num_divInt, Rat.den_divInt, if_neg hb, Int.gcd_comm b t]
  by_cases h : b > 0
  · rw [if_pos h, Int.fdiv_eq_ediv_of_dvd d1, Int.fdiv_eq_ediv_of_dvd d2, Int.sign_eq_one_of_pos h, Int.one_mul]
    refine ⟨rfl, ?_⟩
    rw [Int.natCast_ediv, Int.natAbs_of_nonneg (by omega)]
  · have hn : b < 0 := by omega
    have e : 0 - (Int.gcd t b : Int) = -(Int.gcd t b : Int) := by omega
    rw [if_neg h, e, Int.fdiv_eq_ediv_of_dvd (Int.neg_dvd.mpr d1), Int.fdiv_eq_ediv_of_dvd (Int.neg_dvd.mpr d2), Int.sign_eq_neg_one_of_neg hn, Int.ediv_neg, Int.ediv_neg]
    refine ⟨?_, ?_⟩
    · rw [Int.neg_mul, Int.one_mul, Int.neg_ediv_of_dvd d1]
    · have e2 : (b.natAbs : Int) = -b := by omega
      rw [Int.natCast_ediv, e2, Int.neg_ediv_of_dvd d2]
theorem noPy {x y : Int} : PyOk x y := trivial
theorem sok__law_fr : SpecOk Gm d__law_fr := by
  rintro ds S R Q ⟨t, b, rfl, hb, hs, q⟩
  refine ⟨rfl, ?_⟩
  show wpB Gm b__law_fr _ _ [some (.int t), some (.int b), none] S
  unfold b__law_fr
  walk_at "wpc"
  refine ⟨t, b, rfl, ?_⟩
  have hg : (Int.gcd t b) ≠ 0 := fun e => hb (Int.gcd_eq_zero_iff.mp e).2
  have hle : (Int.gcd t b) ≤ b.natAbs := Nat.le_of_dvd (by omega) (Int.natAbs_dvd_natAbs.mpr (Int.gcd_dvd_right t b))
  obtain ⟨e1, e2⟩ := divs t b hb
  walk_at "wpc"
  by_cases h : 0 < b
  · simp only [h, decide_true, if_true] at e1 e2 ⊢
    walk_at "wpc"
    refine ⟨by omega, noPy, by omega, noPy, by decide, ?_⟩
    rw [e1, e2]
    exact rtq q
  · simp only [h, decide_false, Bool.false_eq_true, if_false] at e1 e2 ⊢
    walk_at "wpc"
    refine ⟨by omega, noPy, by omega, noPy, by decide, ?_⟩
    rw [e1, e2]
    exact rtq q

theorem sok__law_fr_plus : SpecOk Gm d__law_fr_plus := by
  rintro ds S R Q ⟨r, s, rfl, hr, hs, q⟩
  refine ⟨rfl, ?_⟩
  show wpB Gm b__law_fr_plus _ _ [some (.tup [.int r.num, .int (r.den : Int)]), some (.tup [.int s.num, .int (s.den : Int)])] S
  unfold b__law_fr_plus
  walk_at "wpc"
  refine ⟨mulOk hr.1 hs.2 (by decide) (by decide), mulOk hs.1 hr.2 (by decide) (by decide), mulOk hr.2 hs.2 (by decide) (by decide), _, _, rfl, ?_, ?_, ?_⟩
  · exact Int.mul_ne_zero (Int.natCast_ne_zero.mpr r.den_nz) (Int.natCast_ne_zero.mpr s.den_nz)
  · exact (Bd.mul hr.2 hs.2).mono (by decide)
  · have e : Rat.divInt (r.num * s.den + s.num * r.den) (r.den * s.den) = r + s := by
      rw [← Rat.divInt_add_divInt _ _ (Int.natCast_ne_zero.mpr r.den_nz) (Int.natCast_ne_zero.mpr s.den_nz), Rat.num_divInt_den, Rat.num_divInt_den]
    rw [e]
    exact rtq q
theorem sok__law_fr_times : SpecOk Gm d__law_fr_times := by
  rintro ds S R Q ⟨r, s, rfl, hr, hs, q⟩
  refine ⟨rfl, ?_⟩
  show wpB Gm b__law_fr_times _ _ [some (.tup [.int r.num, .int (r.den : Int)]), some (.tup [.int s.num, .int (s.den : Int)])] S
  unfold b__law_fr_times
  walk_at "wpc"
  refine ⟨mulOk hr.1 hs.1 (by decide) (by decide), mulOk hr.2 hs.2 (by decide) (by decide), _, _, rfl, ?_, ?_, ?_⟩
  · exact Int.mul_ne_zero (Int.natCast_ne_zero.mpr r.den_nz) (Int.natCast_ne_zero.mpr s.den_nz)
  · exact (Bd.mul hr.2 hs.2).mono (by decide)
  · have e : Rat.divInt (r.num * s.num) (r.den * s.den) = r * s := by
      rw [← Rat.divInt_mul_divInt, Rat.num_divInt_den, Rat.num_divInt_den]
    rw [e]
    exact rtq q
theorem dI_len (p : List Int) : (dI p).length = p.length := List.length_map ..
theorem dI_get {p : List Int} {i : Nat} (h : i < p.length) : (dI p)[i]? = some (.int (cf p i)) := by
  rw [List.getElem?_map, List.getElem?_eq_getElem h, cf_lt h]; rfl
theorem dI_take (p : List Int) (m : Nat) : (dI p).take m = dI (p.take m) := (List.map_take ..).symm
theorem dI_at {p : List Int} {i : Nat} (h : i < p.length) : atD (dI p) (i : Int) = some (.int (cf p i)) := at_nat (dI_get h)
theorem take_succ_cf {p : List Int} {i : Nat} (h : i < p.length) : p.take (i + 1) = p.take i ++ [cf p i] := by
  rw [List.take_succ, List.getElem?_eq_getElem h, cf_lt h]; rfl
theorem sok_poly_in : SpecOk Gm d_poly_in := by
  rintro ds S R Q ⟨v, p, rfl, hv, hp, q⟩
  refine ⟨rfl, ?_⟩
  show wpB Gm b_poly_in _ _ [some v, none] S
  unfold b_poly_in
  rcases hv with e | e
  all_goals
    walk_at "wpc"
    simp only [e]
    rw [dI_len]
    walk_at "wpc"
    refine ⟨fun m ρ S' => ρ = [some v, some (.int m)] ∧ S' = S ∧ m ≤ p.length ∧ trim (p.take m) = trim p, ⟨p.length, rfl, rfl, Nat.le_refl _, by rw [List.take_length]⟩, ?_⟩
    rintro m _ _ ⟨rfl, rfl, hm, ht⟩
    walk_at "wpx"
    simp only [e]
    cases m with
    | zero =>
      rw [List.take_zero] at ht
      rw [if_neg (by simp)]
      walk_at "wpc"
      simp only [e]
      rw [← ht] at q
      have hl : 0 ≤ (dI p).length := Nat.zero_le _
      have hc := cut_to hl
      rw [List.take_zero] at hc
      rw [show ((0 : Nat) : Int) = (0 : Int) from rfl] at hc ⊢
      rw [hc]
      exact rtq q
    | succ m =>
      have e1 : ((m + 1 : Nat) : Int) - 1 = (m : Int) := by omega
      have hat : atD (dI p) (((m + 1 : Nat) : Int) - 1) = some (.int (cf p m)) := by rw [e1]; exact dI_at (by omega)
      rw [if_pos (by simp), hat]
      walk_at "wpx"
      by_cases h : cf p m = 0
      · simp only [h, decide_true, if_true]
        walk_at "wpc"
        refine ⟨_, _, rfl, rfl, m, by omega, ?_, rfl, by omega, ?_⟩
        · rw [e1]
        · rw [take_succ_cf (by omega), trim_snoc, if_pos h] at ht; exact ht
      · simp only [h, decide_false, Bool.false_eq_true, if_false]
        rw [take_succ_cf (by omega), trim_snoc, if_neg h, ← take_succ_cf (by omega)] at ht
        walk_at "wpc"
        simp only [e]
        have hl : m + 1 ≤ (dI p).length := by rw [dI_len]; exact hm
        rw [cut_to hl, dI_take, ht]
        exact rtq q

theorem dI_map (f : Int → Int) (p : List Int) : dI (p.map f) = p.map fun c => D.int (f c) := by
  show List.map _ (List.map _ _) = _
  rw [List.map_map]
  rfl
theorem dI_cons (c : Int) (l : List Int) : dI (c :: l) = .int c :: dI l := rfl
theorem it_l (p : List Int) : IT 1 (.lst (dI p)) := fun d hd => by obtain ⟨c, _, e⟩ := List.mem_map.mp hd; subst e; trivial
theorem it_t (p : List Int) : IT 1 (.tup (dI p)) := fun d hd => by obtain ⟨c, _, e⟩ := List.mem_map.mp hd; subst e; trivial
theorem dI_nil {p : List Int} (h : dI p = []) : p = [] := List.map_eq_nil_iff.mp h
theorem sok__law_pl : SpecOk Gm d__law_pl := by
  rintro ds S R Q ⟨v, p, rfl, hv, hp, q⟩
  refine ⟨rfl, ?_⟩
  show wpB Gm b__law_pl _ _ [some v, none] S
  unfold b__law_pl
  rcases hv with e | e
  all_goals
    walk_at "wpc"
    simp only [e]
    walk_at "wpc"
    refine ⟨fun m ρ S' => ∃ l, m = l.length ∧ ρ = [some v, some (.lst (dI l))] ∧ S' = S ∧ trim l = trim p ∧ l.length ≤ 1000, ⟨_, p, rfl, rfl, rfl, rfl, hp⟩, ?_⟩
    rintro m _ _ ⟨l, rfl, rfl, rfl, ht, hl⟩
    walk_at "wpx"
    refine ⟨by decide, ?_⟩
    refine eqD_it (n := 1) (m := 1) (it_l l) (fun _ h => nomatch h) (by decide) (by decide) (fun z => ?_) (fun z => ?_)
    · have hl0 : l = [] := dI_nil (D.lst.inj z)
      subst hl0
      walk_at "wpx"
      walk_at "wpc"
      rw [← ht] at q
      exact rtq q
    · walk_at "wpx"
      have hne : l ≠ [] := fun h => z (by rw [h]; rfl)
      obtain ⟨k, c, rfl⟩ : ∃ k c, l = k ++ [c] := ⟨_, _, (List.dropLast_concat_getLast hne).symm⟩
      have hlast : atD (dI (k ++ [c])) (-1) = some (.int c) := at_last (by simp)
      have hdrop : cutD (dI (k ++ [c])) none (some (-1)) = dI k := by rw [cut_last]; simp
      have hlen : (k ++ [c]).length = k.length + 1 := by simp
      rw [hlast]
      walk_at "wpx"
      rw [trim_snoc] at ht
      by_cases h : c = 0
      · simp only [h, decide_true, if_true] at ht ⊢
        walk_at "wpc"
        rw [h] at hdrop
        rw [hdrop]
        exact ⟨k.length, by rw [← h, hlen]; omega, k, rfl, rfl, rfl, ht, by omega⟩
      · rw [if_neg h] at ht
        simp only [h, decide_false, Bool.false_eq_true, if_false]
        walk_at "wpc"
        rw [← ht] at q
        exact rtq q
theorem sok_content_in : SpecOk Gm d_content_in := by
  rintro ds S R Q ⟨p, rfl, hp, q⟩
  refine ⟨rfl, ?_⟩
  show wpB Gm b_content_in _ _ [some (P p), none, none] S
  unfold b_content_in
  walk_at "wpc"
  walk_at "wpc"
  refine forL_ind (fun rest ρ S' => ∃ (r : List Int) (g : Nat) (x : Option D), rest = dI r ∧ ρ = [some (P p), some (.int g), x] ∧ S' = S ∧ r.foldl (fun g c => Int.gcd (g : Int) c) g = pcon p) ?_ ?_ _ _ _ ⟨p, 0, none, rfl, rfl, rfl, rfl⟩
  · rintro ρ S' ⟨r, g, x, e, rfl, rfl, h⟩
    have hr : r = [] := dI_nil e.symm
    subst hr
    refine ⟨trivial, ?_⟩
    walk_at "wpc"
    rw [← h] at q
    exact rtq q
  · rintro d rest ρ S' N ⟨r, g, x, e, rfl, rfl, h⟩ hN
    cases r with
    | nil => cases e
    | cons c r =>
      cases e
      refine ⟨trivial, ?_⟩
      walk_at "wpc"
      refine ⟨_, _, rfl, ?_⟩
      dsimp only
      rw [wpB]
      exact hN _ _ ⟨r, Int.gcd g c, some (.int c), rfl, rfl, rfl, h⟩
theorem sok__law_content : SpecOk Gm d__law_content := sok_content_in
theorem sok_over_in : SpecOk Gm d_over_in := by
  rintro ds S R Q ⟨p, n, rfl, hn, hp, q⟩
  refine ⟨rfl, ?_⟩
  show wpB Gm b_over_in _ _ [some (P p), some (.int n), none] S
  unfold b_over_in
  walk_at "wpc"
  refine compL_mapG (α := Int) D.int (fun c => .int (c.fdiv n)) trivial p [] (fun c hc N hN => ?_) ?_
  · walk_at "wpx"
    exact ⟨hn, noPy, hN⟩
  · show RtQ Q (.tup ([] ++ _)) S
    have e : dI (p.map fun c => c.fdiv n) = p.map fun c => D.int (c.fdiv n) := dI_map _ _
    rw [List.nil_append, ← e]
    exact rtq q
theorem sok_by_in : SpecOk Gm d_by_in := by
  rintro ds S R Q ⟨k, p, rfl, hk, hp, q⟩
  refine ⟨rfl, ?_⟩
  show wpB Gm b_by_in _ _ [some (.int k), some (P p), none] S
  unfold b_by_in
  walk_at "wpc"
  unfold pby at q
  by_cases h : k = 0
  · rw [if_pos h] at q
    simp only [h, decide_true, Bool.not_true, Bool.false_eq_true, if_false]
    exact rtq q
  · rw [if_neg h] at q
    simp only [h, decide_false, Bool.not_false, if_true]
    refine compL_mapG (α := Int) D.int (fun c => .int (k * c)) trivial p [] (fun c hc N hN => ?_) ?_
    · walk_at "wpx"
      exact ⟨mulOk hk (hp.1 c hc) (by decide) (by decide), hN⟩
    · show RtQ Q (.tup ([] ++ _)) S
      have e : dI (p.map (k * ·)) = p.map fun c => D.int (k * c) := dI_map _ _
      rw [List.nil_append, ← e]
      exact rtq q
theorem sok__law_pl_by : SpecOk Gm d__law_pl_by := by
  rintro ds S R Q ⟨k, p, rfl, hk, hp, q⟩
  refine ⟨rfl, ?_⟩
  show wpB Gm b__law_pl_by _ _ [some (.int k), some (P p), none] S
  unfold b__law_pl_by
  walk_at "wpc"
  unfold pby at q
  by_cases h : k = 0
  · rw [if_pos h] at q
    simp only [h, decide_true, Bool.not_true, Bool.false_eq_true, if_false]
    exact ⟨by decide, rtq q⟩
  · rw [if_neg h] at q
    simp only [h, decide_false, Bool.not_false, if_true]
    refine compL_mapG (α := Int) D.int (fun c => .int (k * c)) trivial p [] (fun c hc N hN => ?_) ?_
    · walk_at "wpx"
      exact ⟨mulOk hk (hp.1 c hc) (by decide) (by decide), hN⟩
    · show RtQ Q (.tup ([] ++ _)) S
      have e : dI (p.map (k * ·)) = p.map fun c => D.int (k * c) := dI_map _ _
      rw [List.nil_append, ← e]
      exact rtq q
theorem sok_derived_in : SpecOk Gm d_derived_in := by
  rintro ds S R Q ⟨p, rfl, hp, q⟩
  refine ⟨rfl, ?_⟩
  show wpB Gm b_derived_in _ _ [some (P p), none, none] S
  unfold b_derived_in
  walk_at "wpc"
  rw [enumD_map D.int 0 p]
  have hb : ∀ x ∈ num 0 p, x.1 < p.length ∧ x.2 ∈ p := by
    have : ∀ (l : List Int) (n : Nat), ∀ x ∈ num n l, x.1 < n + l.length ∧ x.2 ∈ l := by
      intro l
      induction l with
      | nil => intro n x h; cases h
      | cons c l ih =>
        intro n x h
        rw [num] at h
        rcases List.mem_cons.mp h with e | h
        · subst e; exact ⟨by simp, List.mem_cons_self⟩
        · obtain ⟨h1, h2⟩ := ih (n + 1) x h
          exact ⟨by simp; omega, List.mem_cons_of_mem _ h2⟩
    intro x hx
    have := this p 0 x hx
    simpa using this
  refine compL_mapG (α := Nat × Int) (fun x => .tup [.int x.1, .int x.2]) (fun x => .int (x.1 * x.2)) trivial _ [] (fun x hx N hN => ?_) ?_
  · walk_at "wpx"
    obtain ⟨h1, h2⟩ := hb x hx
    have hk : (x.1 : Int).natAbs < 2 ^ 60 := by have := hp.2; omega
    exact ⟨mulOk hk (hp.1 _ h2) (by decide) (by decide), hN⟩
  · show RtQ Q (.tup (cutD ([] ++ _) (some 1) none)) S
    have e : ([] ++ (num 0 p).map fun x => D.int (x.1 * x.2)) = dI ((List.range p.length).map fun (i : Nat) => (i : Int) * cf p i) := by
      have : ∀ (l : List Int) (n : Nat), ((num n l).map fun x => D.int (x.1 * x.2)) = dI ((List.range l.length).map fun (i : Nat) => ((n + i : Nat) : Int) * cf l i) := by
        intro l
        induction l with
        | nil => intro n; rfl
        | cons c l ih =>
          intro n
          rw [num, List.map_cons, ih (n + 1), List.length_cons, List.range_succ_eq_map, List.map_cons, dI_cons, List.map_map]
          congr 2
          apply List.map_congr_left
          intro i hi
          show ((n + 1 + i : Nat) : Int) * cf l i = ((n + (i + 1) : Nat) : Int) * cf (c :: l) (i + 1)
          rw [cf_cons_succ]
          congr 2
          omega
      have h0 := this p 0
      simp only [Nat.zero_add] at h0
      exact h0
    rw [e]
    have hl : ∀ l : List Int, cutD (dI l) (some 1) none = dI (l.drop 1) := fun l => by
      cases l with
      | nil => rfl
      | cons a l => 
        have := cut_from (xs := dI (a :: l)) (m := 1) (by simp)
        rw [show ((1 : Nat) : Int) = (1 : Int) from rfl] at this
        rw [this]
        exact (List.map_drop ..).symm
    rw [hl]
    have e2 : ((List.range p.length).map fun (i : Nat) => (i : Int) * cf p i).drop 1 = pder p := by
      unfold pder
      cases h : p.length with
      | zero => rfl
      | succ n =>
        rw [List.range_succ_eq_map, List.map_cons, List.drop_succ_cons, List.drop_zero, List.map_map]
        apply List.map_congr_left
        intro i hi
        show ((i + 1 : Nat) : Int) * cf p (i + 1) = _
        rw [Int.natCast_add]; rfl
    rw [e2]
    exact rtq q

theorem rep0 (a : Nat) : (List.replicate a [D.int 0]).flatten = dI (List.replicate a 0) := by
  induction a with
  | zero => rfl
  | succ a ih => rw [List.replicate_succ, List.flatten_cons, ih, List.replicate_succ, dI_cons]; rfl
theorem cf_rep0 (a n : Nat) : cf (List.replicate a 0) n = 0 := by
  by_cases h : n < a
  · rw [cf_lt (by simpa using h)]; simp
  · rw [cf_ge (by simpa using h)]
theorem drop_cf {p : List Int} {i : Nat} (h : i < p.length) : p.drop i = cf p i :: p.drop (i + 1) := by
  rw [List.drop_eq_getElem_cons h, cf_lt h]
theorem dI_set (F : List Int) (k : Nat) (x : Int) : (dI F).set k (.int x) = dI (F.set k x) := by
  show (List.map _ F).set k _ = List.map _ _
  rw [List.map_set]
theorem cf_set {F : List Int} {k n : Nat} {x : Int} (h : k < F.length) : cf (F.set k x) n = if n = k then x else cf F n := by
  by_cases hn : n < F.length
  · rw [cf_lt (by simpa using hn), List.getElem_set]
    by_cases e : k = n
    · rw [if_pos e, if_pos e.symm]
    · rw [if_neg e, if_neg (fun z => e z.symm), cf_lt hn]
  · rw [cf_ge (by simpa using hn), cf_ge (by omega), if_neg (by omega)]
def frow (p q : List Int) (i j n : Nat) : Int := sumN i (fun k => if k ≤ n then cf p k * cf q (n - k) else 0) + if i ≤ n ∧ n - i < j then cf p i * cf q (n - i) else 0
theorem frow_next (p q : List Int) (i n : Nat) : frow p q i q.length n = frow p q (i + 1) 0 n := by
  unfold frow
  rw [sumN, if_neg (c := i + 1 ≤ n ∧ n - (i + 1) < 0) (by omega)]
  by_cases h : i ≤ n
  · rw [if_pos h]
    by_cases l : n - i < q.length
    · rw [if_pos ⟨h, l⟩]; omega
    · rw [if_neg (fun z => l z.2), cf_ge (p := q) (by omega)]; omega
  · rw [if_neg (fun z => h z.1), if_neg h]; omega
theorem frow_step (p q : List Int) (i j n : Nat) : frow p q i (j + 1) n = if n = i + j then frow p q i j (i + j) + cf p i * cf q j else frow p q i j n := by
  unfold frow
  by_cases e : n = i + j
  · subst e
    rw [if_pos rfl, if_pos ⟨by omega, by omega⟩, if_neg (c := i ≤ i + j ∧ i + j - i < j) (by omega)]
    have : i + j - i = j := by omega
    rw [this]; omega
  · rw [if_neg e]
    by_cases c : i ≤ n ∧ n - i < j
    · rw [if_pos c, if_pos ⟨c.1, by omega⟩]
    · rw [if_neg c, if_neg (by omega)]
theorem frow_end (p q : List Int) (n : Nat) : frow p q p.length 0 n = conv p q n := by
  unfold frow conv
  rw [if_neg (by omega), Int.add_zero]
  have a : sumN (max p.length (n + 1)) (fun k => if k ≤ n then cf p k * cf q (n - k) else 0) = sumN p.length fun k => if k ≤ n then cf p k * cf q (n - k) else 0 := sumN_more (by omega) fun k h1 h2 => by
    rw [cf_ge h1, Int.zero_mul]; split <;> rfl
  have b : sumN (max p.length (n + 1)) (fun k => if k ≤ n then cf p k * cf q (n - k) else 0) = sumN (n + 1) fun k => if k ≤ n then cf p k * cf q (n - k) else 0 := sumN_more (by omega) fun k h1 h2 => by
    rw [if_neg (by omega)]
  rw [← a, b]
  exact sumN_congr fun k hk => if_pos (by omega)
theorem trim_ext {p q : List Int} (h : ∀ i, cf p i = cf q i) : trim p = trim q := ext (nrm_trim p) (nrm_trim q) fun i => by rw [cf_trim, cf_trim, h]
theorem cf_pad (p : List Int) (a i : Nat) : cf (p ++ List.replicate a 0) i = cf p i := by
  induction a with
  | zero => rw [List.replicate_zero, List.append_nil]
  | succ a ih => rw [List.replicate_succ', ← List.append_assoc, cf_append_zero, ih]
theorem cf_zip {L M : List Int} (h : L.length = M.length) (i : Nat) : cf ((L.zip M).map fun x => x.1 + x.2) i = cf L i + cf M i := by
  by_cases l : i < L.length
  · rw [cf_lt (by simp; omega), cf_lt l, cf_lt (by omega)]; simp
  · rw [cf_ge (by simp; omega), cf_ge (by omega), cf_ge (by omega)]; rfl
theorem sok_plus_in : SpecOk Gm d_plus_in := by
  rintro ds S R Q ⟨p, q, rfl, hp, hq, h⟩
  refine ⟨rfl, ?_⟩
  show wpB Gm b_plus_in _ _ [some (P p), some (P q), none, none, none, none, none] S
  unfold b_plus_in
  walk_at "wpc"
  rw [dI_len, dI_len]
  refine ⟨_, _, rfl, rfl, ?_⟩
  generalize hm : (if (q.length : Int) > (p.length : Int) then (q.length : Int) else (p.length : Int)) = m
  have m1 : (p.length : Int) ≤ m := by rw [← hm]; split <;> omega
  have m2 : (q.length : Int) ≤ m := by rw [← hm]; split <;> omega
  have m3 : m ≤ 500 := by rw [← hm]; split <;> omega
  walk_at "wpc"
  rw [dI_len, dI_len]
  refine ⟨by decide, by omega, by omega, by rw [sizeLine_eq]; omega, ?_⟩
  rw [rep0, List.append_nil]
  have c1 : dI p ++ dI (List.replicate (m - p.length).toNat 0) = dI (p ++ List.replicate (m - p.length).toNat 0) := (List.map_append ..).symm
  have c2 : dI q ++ dI (List.replicate (m - q.length).toNat 0) = dI (q ++ List.replicate (m - q.length).toNat 0) := (List.map_append ..).symm
  rw [c1]
  refine ⟨by rw [dI_len, sizeLine_eq]; simp; omega, by decide, by omega, by omega, by rw [sizeLine_eq]; omega, ?_⟩
  rw [rep0, List.append_nil, c2]
  refine ⟨by rw [dI_len, sizeLine_eq]; simp; omega, ?_⟩
  walk_at "wpc"
  rw [zipD_map D.int D.int]
  refine compL_mapG (α := Int × Int) (fun (x : Int × Int) => .tup [.int x.1, .int x.2]) (fun (x : Int × Int) => .int (x.1 + x.2)) trivial _ [] (fun x hx N hN => ?_) ?_
  · walk_at "wpx"
    exact hN
  · have hl : (p ++ List.replicate (m - p.length).toNat 0).length = (q ++ List.replicate (m - q.length).toNat 0).length := by simp; omega
    refine ⟨_, ((p ++ List.replicate (m - p.length).toNat 0).zip (q ++ List.replicate (m - q.length).toNat 0)).map fun (x : Int × Int) => x.1 + x.2, rfl, .inr ?_, ?_, ?_⟩
    · show D.lst _ = D.lst (List.map _ (List.map _ _))
      rw [List.map_map]; rfl
    · simp; omega
    · have e : trim (((p ++ List.replicate (m - p.length).toNat 0).zip (q ++ List.replicate (m - q.length).toNat 0)).map fun (x : Int × Int) => x.1 + x.2) = pplus p q := by
        unfold pplus
        refine trim_ext fun i => ?_
        rw [cf_zip hl, cf_pad, cf_pad, cf_map_range]
        split
        · rfl
        · rw [cf_ge (p := p) (by omega), cf_ge (p := q) (by omega)]; rfl
      rw [e]
      exact rtq h
theorem sok_times_in : SpecOk Gm d_times_in := by
  rintro ds S R Q ⟨p, q, rfl, hp, hq, h⟩
  refine ⟨rfl, ?_⟩
  show wpB Gm b_times_in _ _ [some (P p), some (P q), none, none, none, none, none] S
  unfold b_times_in
  walk_at "wpc"
  refine eqD_it (n := 1) (m := 1) (it_t p) (fun _ h => nomatch h) (by decide) (by decide) (fun z => ?_) (fun z => ?_)
  · have e : p = [] := dI_nil (D.tup.inj z)
    subst e
    walk_at "wpx"
    exact rtq h
  walk_at "wpx"
  refine eqD_it (n := 1) (m := 1) (it_t q) (fun _ h => nomatch h) (by decide) (by decide) (fun z2 => ?_) (fun z2 => ?_)
  · have e : q = [] := dI_nil (D.tup.inj z2)
    subst e
    have e2 : pmul p [] = [] := by unfold pmul; rw [if_pos (.inr rfl)]
    rw [e2] at h
    walk_at "wpx"
    exact rtq h
  have n1 : p ≠ [] := fun e => z (by rw [e]; rfl)
  have n2 : q ≠ [] := fun e => z2 (by rw [e]; rfl)
  have l1 : 0 < p.length := List.length_pos_iff.mpr n1
  have l2 : 0 < q.length := List.length_pos_iff.mpr n2
  walk_at "wpx"
  rw [wpB]
  walk_at "wpc"
  rw [dI_len, dI_len]
  have a1 := hp.2
  have a2 := hq.2
  refine ⟨by decide, by omega, by omega, by rw [sizeLine_eq]; omega, fun r hr => ?_⟩
  have er : (List.replicate ((p.length : Int) + (q.length : Int) - 1).toNat [D.int 0]).flatten = dI (List.replicate (p.length + q.length - 1) 0) := by
    rw [rep0]; congr 2; omega
  rw [er]
  walk_at "wpc"
  refine forL_ind (fun rest ρ S' => ∃ i F x y z u, i ≤ p.length ∧ rest = enumD i (dI (p.drop i)) ∧ ρ = [some (P p), some (P q), some (.ref r), x, y, z, u] ∧ S' = sup S r (.lst (dI F)) ∧ F.length = p.length + q.length - 1 ∧ ∀ n, n < p.length + q.length - 1 → cf F n = frow p q i 0 n) ?_ ?_ _ _ _ ⟨0, _, _, _, _, _, Nat.zero_le _, rfl, rfl, rfl, by simp, fun n hn => by rw [cf_rep0]; simp [frow, sumN]⟩
  · rintro ρ S' ⟨i, F, x, y, z, u, hi, er, rfl, rfl, hF, hf⟩
    have hi2 : i = p.length := by
      cases hd : p.drop i with
      | nil => have := List.drop_eq_nil_iff.mp hd; omega
      | cons c l => rw [hd] at er; cases er
    subst hi2
    refine ⟨trivial, ?_⟩
    walk_at "wpc"
    refine rtq_sup hr ?_
    have e : F = pmul p q := by
      unfold pmul
      rw [if_neg (fun z => z.elim n1 n2)]
      refine List.ext_getElem (by simp [hF]) fun n h1 h2 => ?_
      have := hf n (by omega)
      rw [cf_lt h1] at this
      rw [this, frow_end]
      simp
    rw [e]
    exact h
  · rintro d rest ρ S' N ⟨i, F, x, y, z, u, hi, er, rfl, rfl, hF, hf⟩ hN
    cases hd : p.drop i with
    | nil => rw [hd] at er; cases er
    | cons c l =>
      have hi2 : i < p.length := by
        have := congrArg List.length hd
        rw [List.length_drop, List.length_cons] at this
        omega
      rw [drop_cf hi2] at hd
      obtain ⟨rfl, rfl⟩ := List.cons.inj hd
      rw [drop_cf hi2] at er
      cases er
      refine ⟨trivial, ?_⟩
      walk_at "wpx"
      walk_at "wpc"
      refine forL_ind (fun rest ρ S' => ∃ j F z u, j ≤ q.length ∧ rest = enumD j (dI (q.drop j)) ∧ ρ = [some (P p), some (P q), some (.ref r), some (.int i), some (.int (cf p i)), z, u] ∧ S' = sup S r (.lst (dI F)) ∧ F.length = p.length + q.length - 1 ∧ ∀ n, n < p.length + q.length - 1 → cf F n = frow p q i j n) ?_ ?_ _ _ _ ⟨0, F, _, _, Nat.zero_le _, rfl, rfl, rfl, hF, hf⟩
      · rintro ρ S' ⟨j, F, z, u, hj, er, rfl, rfl, hF, hf⟩
        have hj2 : j = q.length := by
          cases hd : q.drop j with
          | nil => have := List.drop_eq_nil_iff.mp hd; omega
          | cons c l => rw [hd] at er; cases er
        subst hj2
        refine ⟨trivial, ?_⟩
        try dsimp only
        rw [wpB]
        exact hN _ _ ⟨i + 1, F, _, _, _, _, hi2, rfl, rfl, rfl, hF, fun n hn => by rw [hf n hn, frow_next]⟩
      · rintro d rest ρ S' N' ⟨j, F, z, u, hj, er, rfl, rfl, hF, hf⟩ hN'
        cases hd : q.drop j with
        | nil => rw [hd] at er; cases er
        | cons c l =>
          have hj2 : j < q.length := by
            have := congrArg List.length hd
            rw [List.length_drop, List.length_cons] at this
            omega
          rw [drop_cf hj2] at hd
          obtain ⟨rfl, rfl⟩ := List.cons.inj hd
          rw [drop_cf hj2] at er
          cases er
          refine ⟨trivial, ?_⟩
          have eij : (i : Int) + (j : Int) = ((i + j : Nat) : Int) := by omega
          walk_at "wpx"
          walk_at "wpc"
          rw [eij, dI_at (by omega)]
          walk_at "wpx"
          refine ⟨mulOk (hp.1.cf i) (hq.1.cf j) (by decide) (by decide), r, dI F, _, i + j, rfl, rfl, sup_same, ix_nat (by rw [dI_len]; omega), ?_⟩
          rw [dI_set]
          simp only [sup_sup]
          rw [wpB]
          refine hN' _ _ ⟨j + 1, _, _, _, hj2, rfl, rfl, rfl, by rw [List.length_set]; exact hF, fun n hn => ?_⟩
          rw [cf_set (by omega), frow_step]
          by_cases e : n = i + j
          · rw [if_pos e, if_pos e, hf _ (by omega)]
          · rw [if_neg e, if_neg e, hf n hn]
theorem sok__law_pl_times : SpecOk Gm d__law_pl_times := by
  rintro ds S R Q ⟨p, q, rfl, hp, hq, h⟩
  refine ⟨rfl, ?_⟩
  show wpB Gm b__law_pl_times _ _ [some (P p), some (P q), none, none, none, none, none] S
  unfold b__law_pl_times
  walk_at "wpc"
  refine ⟨by decide, ?_⟩
  refine eqD_it (n := 1) (m := 1) (it_t p) (fun _ h => nomatch h) (by decide) (by decide) (fun z => ?_) (fun z => ?_)
  · have e : p = [] := dI_nil (D.tup.inj z)
    subst e
    walk_at "wpx"
    refine ⟨by decide, ?_⟩
    exact rtq h
  walk_at "wpx"
  refine ⟨by decide, ?_⟩
  refine eqD_it (n := 1) (m := 1) (it_t q) (fun _ h => nomatch h) (by decide) (by decide) (fun z2 => ?_) (fun z2 => ?_)
  · have e : q = [] := dI_nil (D.tup.inj z2)
    subst e
    have e2 : pmul p [] = [] := by unfold pmul; rw [if_pos (.inr rfl)]
    rw [e2] at h
    walk_at "wpx"
    refine ⟨by decide, ?_⟩
    exact rtq h
  have n1 : p ≠ [] := fun e => z (by rw [e]; rfl)
  have n2 : q ≠ [] := fun e => z2 (by rw [e]; rfl)
  have l1 : 0 < p.length := List.length_pos_iff.mpr n1
  have l2 : 0 < q.length := List.length_pos_iff.mpr n2
  walk_at "wpx"
  rw [wpB]
  walk_at "wpc"
  rw [dI_len, dI_len]
  have a1 := hp.2
  have a2 := hq.2
  refine ⟨by decide, by omega, by omega, by rw [sizeLine_eq]; omega, fun r hr => ?_⟩
  have er : (List.replicate ((p.length : Int) + (q.length : Int) - 1).toNat [D.int 0]).flatten = dI (List.replicate (p.length + q.length - 1) 0) := by
    rw [rep0]; congr 2; omega
  rw [er]
  walk_at "wpc"
  refine forL_ind (fun rest ρ S' => ∃ i F x y z u, i ≤ p.length ∧ rest = enumD i (dI (p.drop i)) ∧ ρ = [some (P p), some (P q), some (.ref r), x, y, z, u] ∧ S' = sup S r (.lst (dI F)) ∧ F.length = p.length + q.length - 1 ∧ ∀ n, n < p.length + q.length - 1 → cf F n = frow p q i 0 n) ?_ ?_ _ _ _ ⟨0, _, _, _, _, _, Nat.zero_le _, rfl, rfl, rfl, by simp, fun n hn => by rw [cf_rep0]; simp [frow, sumN]⟩
  · rintro ρ S' ⟨i, F, x, y, z, u, hi, er, rfl, rfl, hF, hf⟩
    have hi2 : i = p.length := by
      cases hd : p.drop i with
      | nil => have := List.drop_eq_nil_iff.mp hd; omega
      | cons c l => rw [hd] at er; cases er
    subst hi2
    refine ⟨trivial, ?_⟩
    walk_at "wpc"
    refine rtq_sup hr ?_
    have e : F = pmul p q := by
      unfold pmul
      rw [if_neg (fun z => z.elim n1 n2)]
      refine List.ext_getElem (by simp [hF]) fun n h1 h2 => ?_
      have := hf n (by omega)
      rw [cf_lt h1] at this
      rw [this, frow_end]
      simp
    rw [e]
    exact h
  · rintro d rest ρ S' N ⟨i, F, x, y, z, u, hi, er, rfl, rfl, hF, hf⟩ hN
    cases hd : p.drop i with
    | nil => rw [hd] at er; cases er
    | cons c l =>
      have hi2 : i < p.length := by
        have := congrArg List.length hd
        rw [List.length_drop, List.length_cons] at this
        omega
      rw [drop_cf hi2] at hd
      obtain ⟨rfl, rfl⟩ := List.cons.inj hd
      rw [drop_cf hi2] at er
      cases er
      refine ⟨trivial, ?_⟩
      walk_at "wpx"
      walk_at "wpc"
      refine forL_ind (fun rest ρ S' => ∃ j F z u, j ≤ q.length ∧ rest = enumD j (dI (q.drop j)) ∧ ρ = [some (P p), some (P q), some (.ref r), some (.int i), some (.int (cf p i)), z, u] ∧ S' = sup S r (.lst (dI F)) ∧ F.length = p.length + q.length - 1 ∧ ∀ n, n < p.length + q.length - 1 → cf F n = frow p q i j n) ?_ ?_ _ _ _ ⟨0, F, _, _, Nat.zero_le _, rfl, rfl, rfl, hF, hf⟩
      · rintro ρ S' ⟨j, F, z, u, hj, er, rfl, rfl, hF, hf⟩
        have hj2 : j = q.length := by
          cases hd : q.drop j with
          | nil => have := List.drop_eq_nil_iff.mp hd; omega
          | cons c l => rw [hd] at er; cases er
        subst hj2
        refine ⟨trivial, ?_⟩
        try dsimp only
        rw [wpB]
        exact hN _ _ ⟨i + 1, F, _, _, _, _, hi2, rfl, rfl, rfl, hF, fun n hn => by rw [hf n hn, frow_next]⟩
      · rintro d rest ρ S' N' ⟨j, F, z, u, hj, er, rfl, rfl, hF, hf⟩ hN'
        cases hd : q.drop j with
        | nil => rw [hd] at er; cases er
        | cons c l =>
          have hj2 : j < q.length := by
            have := congrArg List.length hd
            rw [List.length_drop, List.length_cons] at this
            omega
          rw [drop_cf hj2] at hd
          obtain ⟨rfl, rfl⟩ := List.cons.inj hd
          rw [drop_cf hj2] at er
          cases er
          refine ⟨trivial, ?_⟩
          have eij : (i : Int) + (j : Int) = ((i + j : Nat) : Int) := by omega
          walk_at "wpx"
          walk_at "wpc"
          rw [eij, dI_at (by omega)]
          walk_at "wpx"
          refine ⟨mulOk (hp.1.cf i) (hq.1.cf j) (by decide) (by decide), r, dI F, _, i + j, rfl, rfl, sup_same, ix_nat (by rw [dI_len]; omega), ?_⟩
          rw [dI_set]
          simp only [sup_sup]
          rw [wpB]
          refine hN' _ _ ⟨j + 1, _, _, _, hj2, rfl, rfl, rfl, by rw [List.length_set]; exact hF, fun n hn => ?_⟩
          rw [cf_set (by omega), frow_step]
          by_cases e : n = i + j
          · rw [if_pos e, if_pos e, hf _ (by omega)]
          · rw [if_neg e, if_neg e, hf n hn]

theorem sok__law_pl_plus : SpecOk Gm d__law_pl_plus := by
  rintro ds S R Q ⟨p, q, rfl, hp, hq, h⟩
  refine ⟨rfl, ?_⟩
  show wpB Gm b__law_pl_plus _ _ [some (P p), some (P q), none, none, none, none] S
  unfold b__law_pl_plus
  walk_at "wpc"
  rw [dI_len, dI_len]
  refine ⟨by decide, _, _, rfl, rfl, ?_⟩
  generalize hm : (if (q.length : Int) > (p.length : Int) then (q.length : Int) else (p.length : Int)) = m
  have m1 : (p.length : Int) ≤ m := by rw [← hm]; split <;> omega
  have m2 : (q.length : Int) ≤ m := by rw [← hm]; split <;> omega
  have m3 : m ≤ 500 := by rw [← hm]; split <;> omega
  have m4 : m.toNat = max p.length q.length := by rw [← hm]; split <;> omega
  refine ⟨by omega, by omega, by rw [sizeLine_eq]; omega, fun r hr => ?_⟩
  rw [rep0]
  walk_at "wpc"
  refine ⟨by decide, ?_⟩
  refine forL_ind (fun rest ρ S' => ∃ F x y z, ρ = [some (P p), some (P q), some (.ref r), x, y, z] ∧ S' = sup S r (.lst (dI F)) ∧ F.length = m.toNat ∧ ((rest = [P p, P q] ∧ ∀ n, cf F n = 0) ∨ (rest = [P q] ∧ ∀ n, cf F n = cf p n) ∨ (rest = [] ∧ ∀ n, cf F n = cf p n + cf q n))) ?_ ?_ _ _ _ ⟨_, _, _, _, rfl, rfl, by simp, .inl ⟨rfl, fun n => cf_rep0 _ n⟩⟩
  · rintro ρ S' ⟨F, x, y, z, rfl, rfl, hF, (⟨e, _⟩ | ⟨e, _⟩ | ⟨_, hf⟩)⟩
    · cases e
    · cases e
    · refine ⟨trivial, ?_⟩
      walk_at "wpc"
      refine ⟨_, F, rfl, .inr res_sup, by omega, ?_⟩
      refine rtq_sup hr ?_
      have e : trim F = pplus p q := by
        unfold pplus
        refine trim_ext fun i => ?_
        rw [hf, cf_map_range]
        split
        · rfl
        · rw [cf_ge (p := p) (by omega), cf_ge (p := q) (by omega)]; rfl
      rw [e]
      exact h
  · rintro d rest ρ S' N ⟨F, x, y, z, rfl, rfl, hF, hr2⟩ hN
    obtain ⟨g, G, rfl, hg, hG, hgo⟩ : ∃ (g : List Int) (G : Nat → Int), d = P g ∧ g.length ≤ m.toNat ∧ (∀ n, cf F n = G n) ∧ ∀ (F' : List Int) (x y z : Option D), F'.length = m.toNat → (∀ n, cf F' n = G n + cf g n) → N [some (P p), some (P q), some (.ref r), x, y, z] (sup S r (.lst (dI F'))) := by
      rcases hr2 with ⟨e, hf⟩ | ⟨e, hf⟩ | ⟨e, _⟩
      · cases e
        exact ⟨p, fun _ => 0, rfl, by omega, hf, fun F' x y z hl hc => hN _ _ ⟨F', x, y, z, rfl, rfl, hl, .inr (.inl ⟨rfl, fun n => by rw [hc n]; exact Int.zero_add _⟩)⟩⟩
      · cases e
        exact ⟨q, cf p, rfl, by omega, hf, fun F' x y z hl hc => hN _ _ ⟨F', x, y, z, rfl, rfl, hl, .inr (.inr ⟨rfl, hc⟩)⟩⟩
      · cases e
    refine ⟨trivial, ?_⟩
    walk_at "wpc"
    refine forL_ind (fun rest ρ S' => ∃ i F y z, i ≤ g.length ∧ rest = enumD i (dI (g.drop i)) ∧ ρ = [some (P p), some (P q), some (.ref r), some (P g), y, z] ∧ S' = sup S r (.lst (dI F)) ∧ F.length = m.toNat ∧ ∀ n, cf F n = G n + if n < i then cf g n else 0) ?_ ?_ _ _ _ ⟨0, F, _, _, Nat.zero_le _, rfl, rfl, rfl, hF, fun n => by rw [hG n, if_neg (by omega)]; omega⟩
    · rintro ρ S' ⟨i, F, y, z, hi, er, rfl, rfl, hF, hf⟩
      have hi2 : i = g.length := by
        cases hd : g.drop i with
        | nil => have := List.drop_eq_nil_iff.mp hd; omega
        | cons c l => rw [hd] at er; cases er
      subst hi2
      refine ⟨trivial, ?_⟩
      try dsimp only
      rw [wpB]
      refine hgo F _ _ _ hF fun n => ?_
      rw [hf n]
      split
      · rfl
      · rw [cf_ge (p := g) (by omega)]
    · rintro d rest ρ S' N' ⟨i, F, y, z, hi, er, rfl, rfl, hF, hf⟩ hN'
      cases hd : g.drop i with
      | nil => rw [hd] at er; cases er
      | cons c l =>
        have hi2 : i < g.length := by
          have := congrArg List.length hd
          rw [List.length_drop, List.length_cons] at this
          omega
        rw [drop_cf hi2] at hd
        obtain ⟨rfl, rfl⟩ := List.cons.inj hd
        rw [drop_cf hi2] at er
        cases er
        refine ⟨trivial, ?_⟩
        walk_at "wpx"
        walk_at "wpc"
        rw [dI_at (by omega)]
        walk_at "wpx"
        refine ⟨r, dI F, _, i, rfl, rfl, sup_same, ix_nat (by rw [dI_len]; omega), ?_⟩
        rw [dI_set]
        simp only [sup_sup]
        rw [wpB]
        refine hN' _ _ ⟨i + 1, _, _, _, hi2, rfl, rfl, rfl, by rw [List.length_set]; exact hF, fun n => ?_⟩
        rw [cf_set (by omega)]
        by_cases e : n = i
        · rw [if_pos e, if_pos (by omega), hf i, if_neg (by omega), e]; omega
        · rw [if_neg e, hf n]
          by_cases l : n < i
          · rw [if_pos l, if_pos (by omega)]
          · rw [if_neg l, if_neg (by omega)]
theorem top_at {p : List Int} (h : p ≠ []) : atD (dI p) (-1) = some (.int (cf p (p.length - 1))) := by
  have hl : 0 < p.length := List.length_pos_iff.mpr h
  refine at_last ?_
  rw [List.getLast?_eq_getElem?, dI_len, dI_get (by omega)]
theorem pcon_pos {p : List Int} (hn : Nrm p) (h : p ≠ []) : pcon p ≠ 0 := fun e => by
  have hl : 0 < p.length := List.length_pos_iff.mpr h
  have := pcon_zero e _ (List.getElem_mem (show p.length - 1 < p.length by omega))
  rw [← cf_lt (by omega)] at this
  exact nrm_top hn h this
theorem pcon_sm {p : List Int} (hn : Nrm p) (h : p ≠ []) (hp : BdP 60000000 p) : pcon p < 2 ^ 60000000 := by
  have hl : 0 < p.length := List.length_pos_iff.mpr h
  have m := List.getElem_mem (show p.length - 1 < p.length by omega)
  have z := nrm_top hn h
  rw [cf_lt (by omega)] at z
  exact Nat.lt_of_le_of_lt (pcon_le m z) (hp _ m)
theorem sok_lowest_in : SpecOk Gm d_lowest_in := by
  rintro ds S R Q ⟨p, rfl, hn, hp, h⟩
  refine ⟨rfl, ?_⟩
  show wpB Gm b_lowest_in _ _ [some (P p), none] S
  unfold b_lowest_in
  walk_at "wpc"
  refine eqD_it (n := 1) (m := 1) (it_t p) (fun _ h => nomatch h) (by decide) (by decide) (fun z => ?_) (fun z => ?_)
  · have e : p = [] := dI_nil (D.tup.inj z)
    subst e
    walk_at "wpx"
    exact rtq h
  have n1 : p ≠ [] := fun e => z (by rw [e]; rfl)
  walk_at "wpx"
  rw [wpB]
  walk_at "wpc"
  refine ⟨p, rfl, by have := hp.2; omega, ?_⟩
  walk_at "wpc"
  rw [top_at n1]
  walk_at "wpx"
  have s1 := pcon_sm hn n1 hp.1
  have s2 := pcon_pos hn n1
  unfold plow at h
  rw [if_neg n1] at h
  by_cases c : 0 < cf p (p.length - 1)
  · rw [if_pos c] at h
    simp only [c, decide_true, if_true]
    exact ⟨p, _, rfl, by omega, by have := hp.2; omega, rtq h⟩
  · rw [if_neg c] at h
    simp only [c, decide_false, Bool.false_eq_true, if_false]
    exact ⟨p, _, rfl, by omega, by have := hp.2; omega, rtq h⟩
theorem sok__law_pl_lowest : SpecOk Gm d__law_pl_lowest := by
  rintro ds S R Q ⟨p, rfl, hn, hp, h⟩
  refine ⟨rfl, ?_⟩
  show wpB Gm b__law_pl_lowest _ _ [some (P p), none, none] S
  unfold b__law_pl_lowest
  walk_at "wpc"
  refine ⟨p, rfl, by have := hp.2; omega, ?_⟩
  walk_at "wpc"
  by_cases n1 : p = []
  · subst n1
    have e : ((pcon [] : Nat) : Int) = 0 := rfl
    simp only [e, decide_true, if_true]
    walk_at "wpc"
    exact ⟨by decide, rtq h⟩
  have s1 := pcon_sm hn n1 hp.1
  have s2 := pcon_pos hn n1
  have s4 : ¬ ((pcon p : Int) = 0) := by omega
  simp only [s4, decide_false, Bool.false_eq_true, if_false]
  rw [wpB]
  walk_at "wpc"
  rw [top_at n1]
  walk_at "wpx"
  unfold plow at h
  rw [if_neg n1] at h
  by_cases c : 0 < cf p (p.length - 1)
  · rw [if_pos c] at h
    simp only [c, decide_true, if_true]
    walk_at "wpc"
    refine compL_mapG (α := Int) D.int (fun x => .int (x.fdiv (pcon p : Int))) trivial p [] (fun x hx N hN => ?_) ?_
    · walk_at "wpx"
      exact ⟨by omega, noPy, hN⟩
    · show RtQ Q (.tup ([] ++ _)) S
      have e : dI (p.map fun x => x.fdiv (pcon p : Int)) = p.map fun x => D.int (x.fdiv (pcon p : Int)) := dI_map _ _
      rw [List.nil_append, ← e]
      exact rtq h
  · rw [if_neg c] at h
    simp only [c, decide_false, Bool.false_eq_true, if_false]
    walk_at "wpc"
    refine compL_mapG (α := Int) D.int (fun x => .int (x.fdiv (0 - (pcon p : Int)))) trivial p [] (fun x hx N hN => ?_) ?_
    · walk_at "wpx"
      exact ⟨by omega, noPy, hN⟩
    · show RtQ Q (.tup ([] ++ _)) S
      have e : dI (p.map fun x => x.fdiv (0 - (pcon p : Int))) = p.map fun x => D.int (x.fdiv (0 - (pcon p : Int))) := dI_map _ _
      rw [List.nil_append, ← e]
      exact rtq h

theorem fr_zero : Fr 0 = .tup [.int 0, .int 1] := rfl
theorem fr_int (c : Int) : Fr (c : Rat) = .tup [.int c, .int 1] := rfl
theorem bd_pe {s : List Int} {r : Rat} (hs : BdP 300 s) (hl : s.length ≤ 20) (h1 : Bd 10 r.num) (h2 : Bd 10 (r.den : Int)) : SmF (pe s r) ∧ SmF (pe s r * r) := by
  have hd : (0 : Int) < (r.den : Int) := by have := r.den_nz; omega
  have e := hv_val r.num hd s
  rw [Rat.num_divInt_den] at e
  obtain ⟨b1, b2⟩ := bd_hv h1 h2 hs
  have e2 : pe s r * r = Rat.divInt ((hv r.num r.den s).1 * r.den * r.num) ((hv r.num r.den s).2 * r.den) := by
    rw [← Rat.divInt_mul_divInt, e, Rat.num_divInt_den]
  refine ⟨?_, ?_⟩
  · rw [← e]
    exact ⟨(bd_num (b1.mul h2)).mono (by omega), (bd_den b2 (by omega)).mono (by omega)⟩
  · rw [e2]
    exact ⟨(bd_num ((b1.mul h2).mul h1)).mono (by omega), (bd_den (b2.mul h2) (by omega)).mono (by omega)⟩

theorem all_dI : ∀ {xs : List D}, xs.all isI = true → ∃ p, xs = dI p
  | [], _ => ⟨[], rfl⟩
  | x :: xs, h => by
    rw [List.all_cons, Bool.and_eq_true] at h
    obtain ⟨p, rfl⟩ := all_dI h.2
    cases x <;> first | exact ⟨_ :: p, rfl⟩ | cases h.1
theorem dI_all (p : List Int) : (dI p).all isI = true := by
  induction p with
  | nil => rfl
  | cons c p ih => rw [dI_cons, List.all_cons, ih]; rfl
theorem isPl_dI (p : List Int) : isPl (.tup (dI p)) = (match p.getLast? with | some 0 => false | _ => true) := by
  show ((dI p).all isI && (match (dI p).getLast? with | some (.int 0) => false | _ => true)) = _
  rw [dI_all, Bool.true_and]
  have e : (dI p).getLast? = p.getLast?.map D.int := List.getLast?_map ..
  rw [e]
  cases p.getLast? with
  | none => rfl
  | some c =>
    show (match some (D.int c) with | some (.int 0) => false | _ => true) = (match some c with | some 0 => false | _ => true)
    by_cases h : c = 0
    · subst h; rfl
    · have a : (match some (D.int c) with | some (.int 0) => false | _ => true) = true := by
        split
        · rename_i z; exact absurd (D.int.inj (Option.some.inj z)) h
        · rfl
      have b : (match some c with | some 0 => false | _ => true) = true := by
        split
        · rename_i z; exact absurd (Option.some.inj z) h
        · rfl
      rw [a, b]
theorem isPl_nrm {p : List Int} (h : Nrm p) : isPl (P p) = true := by
  rw [isPl_dI]
  split
  · rename_i e; exact absurd rfl (h 0 e)
  · rfl
theorem ty2_P (p : List Int) : Ty2 (P p) := ⟨⟨_, rfl⟩, fun xs e x hx => by cases e; obtain ⟨c, _, rfl⟩ := List.mem_map.mp hx; exact ⟨_, rfl⟩⟩
theorem sok_is_plain_poly : SpecOk Gm d_is_plain_poly := by
  rintro ds S R Q ⟨v, rfl, ⟨⟨t, ht⟩, hx⟩, h⟩
  refine ⟨rfl, ?_⟩
  show wpB Gm b_is_plain_poly _ _ [some v, none] S
  unfold b_is_plain_poly
  walk_at "wpc"
  rw [res_ty ht]
  refine ⟨t, ht, by decide, ?_⟩
  have other : isiB t "tuple" = false → isPl v = false → (if (!isiB t "tuple") = true then wpB Gm (Bl.cons (Sm.ret (.cst (.bl false))) .nil) { nx := fun _ S => RtQ Q .non S, rt := RtQ Q } (fun k x _ S => RtQ (R k) x S) [some v, none] S else False) := fun e1 e2 => by
    rw [e1, Bool.not_false, if_pos rfl]
    walk_at "wpc"
    rw [e2] at h
    exact rtq h
  cases v with
  | tup xs =>
    cases ht
    have e1 : isiB "tuple" "tuple" = true := rfl
    rw [e1, Bool.not_true, if_neg Bool.false_ne_true]
    walk_at "wpx"
    refine compL_map (fun d => .bl (isI d)) trivial xs [] (fun d hd N hN => ?_) ?_
    · walk_at "wpx"
      exact ⟨d, rfl, hx xs rfl d hd, hN⟩
    · refine ⟨xs.map isI, by rw [List.nil_append, List.map_map]; rfl, ?_⟩
      have ea : (xs.map isI).all id = xs.all isI := by rw [List.all_map]; rfl
      rw [ea]
      by_cases hall : xs.all isI = true
      · obtain ⟨p, rfl⟩ := all_dI hall
        rw [dI_all, Bool.not_true, if_neg Bool.false_ne_true]
        try dsimp only
        rw [wpB]
        walk_at "wpc"
        refine ⟨by decide, ?_⟩
        refine eqD_it (n := 1) (m := 1) (it_t p) (fun _ h => nomatch h) (by decide) (by decide) (fun z => ?_) (fun z => ?_)
        · have e : p = [] := dI_nil (D.tup.inj z)
          subst e
          walk_at "wpx"
          exact rtq h
        · have n1 : p ≠ [] := fun e => z (by rw [e]; rfl)
          walk_at "wpx"
          rw [top_at n1]
          walk_at "wpx"
          have hl : 0 < p.length := List.length_pos_iff.mpr n1
          have e3 : p.getLast? = some (cf p (p.length - 1)) := by rw [List.getLast?_eq_getElem?, List.getElem?_eq_getElem (by omega), cf_lt (by omega)]
          have e2 : isPl (.tup (dI p)) = !decide (cf p (p.length - 1) = 0) := by
            rw [isPl_dI, e3]
            by_cases z : cf p (p.length - 1) = 0
            · rw [z]; rfl
            · rw [decide_eq_false z]
              split
              · rename_i w; exact absurd (Option.some.inj w) z
              · rfl
          rw [← e2]
          exact rtq h
      · have hf : xs.all isI = false := by simpa using hall
        rw [hf, Bool.not_false, if_pos rfl]
        walk_at "wpc"
        have e2 : isPl (.tup xs) = false := by
          show (xs.all isI && _) = false
          rw [hf, Bool.false_and]
        rw [e2] at h
        exact rtq h
  | ref a => cases ht
  | ty a => cases ht
  | scr a => cases ht
  | non => cases ht; exact other rfl rfl
  | bl a => cases ht; exact other rfl rfl
  | int a => cases ht; exact other rfl rfl
  | str a => cases ht; exact other rfl rfl
  | lst a => cases ht; exact other rfl rfl
  | obj c a => cases ht
  | dct => cases ht; exact other rfl rfl

theorem sup_self {S : Sto} {p : Addr} {o : DO} (h : S p = some o) : sup S p o = S := by
  funext a
  unfold sup
  split
  · rename_i e; rw [e, h]
  · rfl
theorem eqD_same {n : Nat} {x : D} {k : Bool → Prop} (h : IT n x) (hn : n ≤ 64) (q : k true) : eqD x x k := eqD_it h h hn hn (fun _ => q) fun z => absurd rfl z
theorem fmod_rng (a t : Int) (h : 0 < t) : 0 ≤ a.fmod t ∧ a.fmod t < t := ⟨Int.fmod_nonneg_of_pos a h, Int.fmod_lt_of_pos a h⟩
theorem sok__law_dice : SpecOk Gm d__law_dice := by
  rintro ds S R Q ⟨ns, i, rfl, q⟩
  refine ⟨rfl, ?_⟩
  show wpB Gm b__law_dice _ _ [some (.scr ns), some (.int i), none, none, none] S
  unfold b__law_dice
  walk_at "wpc"
  by_cases h : (i : Int) < (ns.length : Int)
  · simp only [h, decide_true, if_true]
    refine ⟨ns[i]'(by omega), L2.atI_nat (List.getElem?_eq_getElem (by omega)), ?_⟩
    generalize ns[i]'(by omega) = c
    walk_at "wpc"
    refine ⟨⟨by decide, by decide +kernel⟩, ⟨by decide, by decide +kernel⟩, by decide +kernel, ?_⟩
    generalize Int.fmod _ _ = g
    walk_at "wpc"
    refine ⟨by decide, .of_right (by decide), .of_left (by decide), .of_left (by decide), ?_⟩
    walk_at "wpc"
    refine ⟨⟨by decide, by decide +kernel⟩, _, _, rfl, rfl, by decide, fun p hp => ?_⟩
    exact rtq (q p _ _ _ hp)
  · simp only [h, decide_false, Bool.false_eq_true, if_false]
    refine ⟨.of_left (by decide), ?_⟩
    generalize 137 * (i : Int) + 41 = c
    walk_at "wpc"
    refine ⟨⟨by decide, by decide +kernel⟩, ⟨by decide, by decide +kernel⟩, by decide +kernel, ?_⟩
    generalize Int.fmod _ _ = g
    walk_at "wpc"
    refine ⟨by decide, .of_right (by decide), .of_left (by decide), .of_left (by decide), ?_⟩
    walk_at "wpc"
    refine ⟨⟨by decide, by decide +kernel⟩, _, _, rfl, rfl, by decide, fun p hp => ?_⟩
    exact rtq (q p _ _ _ hp)
theorem sok__law_roll : SpecOk Gm d__law_roll := by
  rintro ds S R Q ⟨p, t, rfl, ⟨a, b, c, hS⟩, ht, ht2, q⟩
  refine ⟨rfl, ?_⟩
  show wpB Gm b__law_roll _ _ [some (.ref p), some (.int t), none, none, none] S
  unfold b__law_roll
  rw [← sup_self hS]
  have hpy : t.natAbs < 2 ^ 9000 := Nat.lt_of_lt_of_le (show t.natAbs < 2 ^ 30 by omega) (Nat.pow_le_pow_right (by decide) (by decide))
  walk_at "wpc"
  by_cases h : 0 < a
  · simp only [h, decide_true, if_true]
    walk_at "wpc"
    refine ⟨by omega, ?_⟩
    walk_at "wpc"
    refine ⟨by omega, noPy, _, _, _, 0, rfl, rfl, sup_same, rfl, ?_⟩
    simp only [sup_sup, List.set_cons_zero]
    walk_at "wpc"
    obtain ⟨r1, r2⟩ := fmod_rng a t ht
    exact rtq (q _ _ _ _ r1 r2)
  · simp only [h, decide_false, Bool.false_eq_true, if_false]
    rw [wpB]
    walk_at "wpc"
    refine ⟨_, _, _, 2, rfl, rfl, sup_same, rfl, ?_⟩
    simp only [sup_sup, List.set_cons_succ, List.set_cons_zero]
    walk_at "wpc"
    refine ⟨.of_left (by decide), by decide, ?_⟩
    obtain ⟨o1, o2⟩ := fmod_rng (b + 49979693 * (c + 1)) 2305843009213693951 (by decide)
    revert o1 o2
    generalize Int.fmod _ _ = o
    intro o1 o2
    walk_at "wpc"
    have ho : o.natAbs < 2 ^ 61 := by omega
    refine ⟨mulOk ho ho (by decide) (by decide), .of_left (by decide), by decide, .of_right (by decide), ?_⟩
    walk_at "wpc"
    refine ⟨by decide, noPy, by omega, ?_⟩
    obtain ⟨r1, r2⟩ := fmod_rng ((Int.fmod (o * o + 131 * (c + 1)) 2305843009213693921 * 32452867 + o).fdiv 65599) t ht
    exact rtq (q _ _ _ _ r1 r2)
theorem sok__law_pick : SpecOk Gm d__law_pick := by
  rintro ds S R Q ⟨p, xs, rfl, hS, hne, hl, q⟩
  refine ⟨rfl, ?_⟩
  show wpB Gm b__law_pick _ _ [some (.ref p), some (.lst xs)] S
  unfold b__law_pick
  walk_at "wpc"
  have hp : 0 < xs.length := List.length_pos_iff.mpr hne
  refine ⟨p, _, rfl, hS, by omega, by omega, fun r a b c h0 h1 => ?_⟩
  obtain ⟨n, rfl⟩ : ∃ n : Nat, r = n := ⟨r.toNat, by omega⟩
  walk_at "wpx"
  have hn : n < xs.length := by omega
  exact ⟨xs[n], at_nat (List.getElem?_eq_getElem hn), rtq (q _ (List.getElem_mem hn) a b c)⟩
theorem dI7 : ([D.int 0, .int 1, .int 1, .int (-1), .int 2, .int (-2), .int 3] : List D) = dI [0, 1, 1, -1, 2, -2, 3] := rfl
theorem nrm_snoc {l : List Int} {c : Int} (h : c ≠ 0) : Nrm (l ++ [c]) := fun d hd => by
  rw [List.getLast?_append, List.getLast?_singleton] at hd
  simp at hd
  rw [← hd]; exact h
theorem sok__law_pl_drawn : SpecOk Gm d__law_pl_drawn := by
  rintro ds S R Q ⟨p, m, rfl, hS, hm, q⟩
  refine ⟨rfl, ?_⟩
  show wpB Gm b__law_pl_drawn _ _ [some (.ref p), some (.int m), none, none] S
  unfold b__law_pl_drawn
  walk_at "wpc"
  refine ⟨p, _, rfl, hS, by omega, by omega, fun r a b c h0 h1 => ?_⟩
  refine ⟨r, rfl, by omega, by omega, ?_⟩
  refine compL_ind (fun rest S' acc => ∃ a b c l, S' = Dice p a b c S ∧ acc = dI l ∧ BdP 2 l ∧ l.length + rest.length = r.toNat) ?_ ?_ _ _ _ ⟨a, b, c, [], rfl, rfl, fun _ h => (nomatch h), by rw [rangeD_len]; simp⟩
  · rintro S' acc ⟨a, b, c, l, rfl, rfl, hb, hl⟩
    refine ⟨trivial, ?_⟩
    walk_at "wpc"
    refine ⟨by decide, p, _, rfl, ⟨_, _, _, sup_same⟩, by simp, by simp, fun x hx a b c => ?_⟩
    obtain ⟨y, rfl, hy, hy2⟩ : ∃ y : Int, x = .int y ∧ y ≠ 0 ∧ Bd 2 y := by
      simp only [List.mem_cons, List.not_mem_nil, or_false] at hx
      rcases hx with rfl | rfl | rfl | rfl | rfl
      · exact ⟨1, rfl, by decide, by unfold Bd; decide⟩
      · exact ⟨1, rfl, by decide, by unfold Bd; decide⟩
      · exact ⟨-1, rfl, by decide, by unfold Bd; decide⟩
      · exact ⟨2, rfl, by decide, by unfold Bd; decide⟩
      · exact ⟨-3, rfl, by decide, by unfold Bd; decide⟩
    walk_at "wpx"
    have hl2 : l.length ≤ m := by simp at hl; omega
    refine ⟨by decide, by rw [dI_len, sizeLine_eq]; omega, ?_⟩
    have e : dI l ++ [D.int y] = dI (l ++ [y]) := by
      show _ = List.map _ _
      rw [List.map_append]; rfl
    rw [e]
    refine rtq (q _ a b c (nrm_snoc hy) (fun z hz => ?_) (by simp; omega) (by simp))
    rcases List.mem_append.mp hz with h | h
    · exact hb z h
    · rw [List.mem_singleton.mp h]; exact hy2
  · rintro d rest S' acc N ⟨a, b, c, l, rfl, rfl, hb, hl⟩ hN
    refine ⟨trivial, ?_⟩
    walk_at "wpx"
    refine ⟨by decide, p, _, rfl, ⟨_, _, _, sup_same⟩, by simp, by simp, fun x hx a b c => ?_⟩
    obtain ⟨y, rfl, hy2⟩ : ∃ y : Int, x = .int y ∧ Bd 2 y := by
      simp only [List.mem_cons, List.not_mem_nil, or_false] at hx
      rcases hx with rfl | rfl | rfl | rfl | rfl | rfl | rfl
      · exact ⟨0, rfl, by unfold Bd; decide⟩
      · exact ⟨1, rfl, by unfold Bd; decide⟩
      · exact ⟨1, rfl, by unfold Bd; decide⟩
      · exact ⟨-1, rfl, by unfold Bd; decide⟩
      · exact ⟨2, rfl, by unfold Bd; decide⟩
      · exact ⟨-2, rfl, by unfold Bd; decide⟩
      · exact ⟨3, rfl, by unfold Bd; decide⟩
    have e : dI l ++ [D.int y] = dI (l ++ [y]) := by
      show _ = List.map _ _
      rw [List.map_append]; rfl
    refine hN _ _ ⟨a, b, c, l ++ [y], ?_, e, fun z hz => ?_, by simp at hl ⊢; omega⟩
    · simp only [sup_sup]
    · rcases List.mem_append.mp hz with h | h
      · exact hb z h
      · rw [List.mem_singleton.mp h]; exact hy2
theorem nrm_pby {k : Int} {p : List Int} (h : Nrm p) : Nrm (pby k p) := by
  unfold pby
  split
  · exact nrm_nil
  · rename_i hk
    refine nrm_of_top fun ne => ?_
    have hp : p ≠ [] := fun e => ne (by rw [e]; rfl)
    rw [List.length_map, cf_map _ (Int.mul_zero k)]
    exact Int.mul_ne_zero hk (nrm_top h hp)
theorem pby_len (k : Int) (p : List Int) : (pby k p).length ≤ p.length := by
  unfold pby
  split
  · exact Nat.zero_le _
  · rw [List.length_map]; exact Nat.le_refl _

theorem it_P (p : List Int) : IT 1 (P p) := it_t p
theorem it_St (s : Ln) : IT 2 (St s) := fun d hd => by obtain ⟨p, _, e⟩ := List.mem_map.mp hd; subst e; exact it_t p
theorem it_Sl (s : Ln) : IT 2 (.lst (s.map fun p => P p)) := fun d hd => by obtain ⟨p, _, e⟩ := List.mem_map.mp hd; subst e; exact it_t p
theorem P_inj {p q : List Int} (h : P p = P q) : p = q := by
  have h := D.tup.inj h
  have : ∀ p q : List Int, dI p = dI q → p = q := by
    intro p
    induction p with
    | nil => intro q h; cases q with
      | nil => rfl
      | cons _ _ => cases h
    | cons c p ih => intro q h; cases q with
      | nil => cases h
      | cons e q =>
        obtain ⟨h1, h2⟩ := List.cons.inj h
        rw [D.int.inj h1, ih q h2]
  exact this p q h
theorem mapP_inj : ∀ {s t : Ln}, (s.map fun p => P p) = (t.map fun p => P p) → s = t
  | [], [], _ => rfl
  | [], _ :: _, h => by cases h
  | _ :: _, [], h => by cases h
  | p :: s, q :: t, h => by
    obtain ⟨h1, h2⟩ := List.cons.inj h
    rw [P_inj h1, mapP_inj h2]
theorem St_inj {s t : Ln} (h : St s = St t) : s = t := mapP_inj (D.tup.inj h)
theorem mapP_nil {s : Ln} (h : (s.map fun p => P p) = []) : s = [] := List.map_eq_nil_iff.mp h
/-- == with a nought poly -/
theorem eqP_nil {p : List Int} {k : Bool → Prop} (h : k (decide (p = []))) : eqD (P p) (.tup []) k := by
  refine eqD_it (n := 1) (m := 1) (it_t p) (fun _ h => nomatch h) (by decide) (by decide) (fun z => ?_) (fun z => ?_)
  · have e : p = [] := dI_nil (D.tup.inj z)
    rw [decide_eq_true e] at h; exact h
  · rw [decide_eq_false fun e => z (by rw [e]; rfl)] at h; exact h
theorem eqP {p q : List Int} {k : Bool → Prop} (h : k (decide (p = q))) : eqD (P p) (P q) k := by
  refine eqD_it (n := 1) (m := 1) (it_t p) (it_t q) (by decide) (by decide) (fun z => ?_) (fun z => ?_)
  · rw [decide_eq_true (P_inj z)] at h; exact h
  · rw [decide_eq_false fun e => z (by rw [e])] at h; exact h
theorem eqSt {s t : Ln} {k : Bool → Prop} (h : k (decide (s = t))) : eqD (St s) (St t) k := by
  refine eqD_it (n := 2) (m := 2) (it_St s) (it_St t) (by decide) (by decide) (fun z => ?_) (fun z => ?_)
  · rw [decide_eq_true (St_inj z)] at h; exact h
  · rw [decide_eq_false fun e => z (by rw [e])] at h; exact h
theorem eqSt_nil {s : Ln} {k : Bool → Prop} (h : k (decide (s = []))) : eqD (St s) (.tup []) k := eqSt (t := []) h
theorem eqSl_nil {s : Ln} {k : Bool → Prop} (h : k (decide (s = []))) : eqD (.lst (s.map fun p => P p)) (.lst []) k := by
  refine eqD_it (n := 2) (m := 1) (it_Sl s) (fun _ h => nomatch h) (by decide) (by decide) (fun z => ?_) (fun z => ?_)
  · rw [decide_eq_true (mapP_nil (D.lst.inj z))] at h; exact h
  · rw [decide_eq_false fun e => z (by rw [e]; rfl)] at h; exact h
theorem len_St {s : Ln} : (s.map fun p => P p).length = s.length := List.length_map ..
theorem at_St {s : Ln} {i : Nat} (h : i < s.length) : atD (s.map fun p => P p) (i : Int) = some (P (cp s i)) := by
  unfold atD L2.atI
  rw [len_St, ix_nat h]
  show (s.map fun p => P p)[i]? = _
  rw [List.getElem?_map, List.getElem?_eq_getElem h, cp_lt h]; rfl
theorem last_St {s : Ln} (h : s ≠ []) : atD (s.map fun p => P p) (-1) = some (P (cp s (s.length - 1))) := by
  have l := List.length_pos_iff.mpr h
  obtain ⟨k, c, rfl⟩ : ∃ k c, s = k ++ [c] := ⟨_, _, (List.dropLast_concat_getLast h).symm⟩
  rw [List.map_append, cp_snoc]
  simp only [List.map_cons, List.map_nil, List.length_append, List.length_cons, List.length_nil, Nat.add_sub_cancel, Nat.lt_irrefl, if_false, Nat.zero_add, if_true]
  unfold atD L2.atI
  have e : L2.ixN ((k.map fun p => P p) ++ [P c]).length (-1) = some k.length := by
    unfold L2.ixN
    simp
    omega
  rw [e]
  show ((k.map fun p => P p) ++ [P c])[k.length]? = _
  rw [List.getElem?_append_right (by simp)]
  simp
theorem is_plP (p : List Int) : isPl (P p) = true ↔ Nrm p := by
  have ai : (dI p).all isI = true := by
    rw [List.all_eq_true]; intro d hd; obtain ⟨c, _, e⟩ := List.mem_map.mp hd; subst e; rfl
  show ((dI p).all isI && _) = true ↔ _
  rw [ai, Bool.true_and]
  unfold Nrm
  rw [show (dI p).getLast? = p.getLast?.map D.int from List.getLast?_map ..]
  cases e : p.getLast? with
  | none => exact ⟨fun _ c h => (nomatch h), fun _ => rfl⟩
  | some c =>
    simp only [Option.map_some]
    constructor
    · intro h d hd
      cases hd
      intro z
      rw [z] at h; cases h
    · intro h
      have := h c rfl
      split
      · rename_i z; cases z; exact absurd rfl this
      · rfl
theorem isSt_St (s : Ln) (h : NrL s) : isSt (St s) = true ↔ NSt s := by
  have ai : (s.map fun p => P p).all isPl = true := by
    rw [List.all_eq_true]; intro d hd; obtain ⟨p, hp, e⟩ := List.mem_map.mp hd; subst e; exact (is_plP p).mpr (h p hp)
  show ((s.map fun p => P p).all isPl && _) = true ↔ _
  rw [ai, Bool.true_and, show (s.map fun p => P p).getLast? = s.getLast?.map (fun p => P p) from List.getLast?_map ..]
  constructor
  · intro z
    refine ⟨h, fun ne e => ?_⟩
    rw [List.getLast?_eq_getElem?, List.getElem?_eq_getElem (by have := List.length_pos_iff.mpr ne; omega)] at z
    rw [cp_lt (by have := List.length_pos_iff.mpr ne; omega)] at e
    rw [e] at z
    cases z
  · intro N
    by_cases ne : s = []
    · rw [ne]; rfl
    · have := N.top ne
      have l := List.length_pos_iff.mpr ne
      rw [List.getLast?_eq_getElem?, List.getElem?_eq_getElem (by omega)]
      rw [cp_lt (by omega)] at this
      simp only [Option.map_some]
      split
      · rename_i z
        have := Option.some.inj z
        exact absurd (dI_nil (D.tup.inj this)) ‹_›
      · rfl

theorem plP {d : D} (h : isPl d = true) : ∃ p, d = P p ∧ Nrm p := by
  cases d with
  | tup ys =>
    have h1 : ys.all isI = true := by
      have : (ys.all isI && _) = true := h
      exact (Bool.and_eq_true_iff.mp this).1
    obtain ⟨p, rfl⟩ := all_dI h1
    exact ⟨p, rfl, (is_plP p).mp h⟩
  | _ => cases h
theorem all_P : ∀ {xs : List D}, xs.all isPl = true → ∃ s : Ln, NrL s ∧ xs = s.map fun p => P p
  | [], _ => ⟨[], (fun _ h => nomatch h), rfl⟩
  | x :: xs, h => by
    rw [List.all_cons, Bool.and_eq_true] at h
    obtain ⟨p, rfl, hp⟩ := plP h.1
    obtain ⟨s, hs, rfl⟩ := all_P h.2
    exact ⟨p :: s, fun q hq => by
      rcases List.mem_cons.mp hq with e | e
      · rw [e]; exact hp
      · exact hs q e, rfl⟩
theorem isSt_no {xs : List D} (h : xs.all isPl = false) : isSt (.tup xs) = false := by
  show (xs.all isPl && _) = false
  rw [h, Bool.false_and]
theorem isSt_dec {s : Ln} (h : NrL s) (ne : s ≠ []) : isSt (St s) = !decide (cp s (s.length - 1) = []) := by
  by_cases e : cp s (s.length - 1) = []
  · rw [decide_eq_true e]
    exact Bool.eq_false_iff.mpr fun z => ((isSt_St s h).mp z).top ne e
  · rw [decide_eq_false e]
    exact (isSt_St s h).mpr ⟨h, fun _ => e⟩
theorem sok_is_plain_step : SpecOk Gm d_is_plain_step := by
  rintro ds S R Q ⟨v, rfl, ⟨⟨t, ht⟩, hx⟩, h⟩
  refine ⟨rfl, ?_⟩
  show wpB Gm b_is_plain_step _ _ [some v, none] S
  unfold b_is_plain_step
  walk_at "wpc"
  rw [res_ty ht]
  refine ⟨t, ht, by decide, ?_⟩
  have other : isiB t "tuple" = false → isSt v = false → (if (!isiB t "tuple") = true then wpB Gm (Bl.cons (Sm.ret (.cst (.bl false))) .nil) { nx := fun _ S => RtQ Q .non S, rt := RtQ Q } (fun k x _ S => RtQ (R k) x S) [some v, none] S else False) := fun e1 e2 => by
    rw [e1, Bool.not_false, if_pos rfl]
    walk_at "wpc"
    rw [e2] at h
    exact rtq h
  cases v with
  | tup xs =>
    cases ht
    have e1 : isiB "tuple" "tuple" = true := rfl
    rw [e1, Bool.not_true, if_neg Bool.false_ne_true]
    walk_at "wpx"
    refine compL_map (fun d => .bl (isPl d)) trivial xs [] (fun d hd N hN => ?_) ?_
    · walk_at "wpx"
      exact ⟨d, rfl, hx xs rfl d hd, hN⟩
    · refine ⟨xs.map isPl, by rw [List.nil_append, List.map_map]; rfl, ?_⟩
      have ea : (xs.map isPl).all id = xs.all isPl := by rw [List.all_map]; rfl
      rw [ea]
      by_cases hall : xs.all isPl = true
      · obtain ⟨s, hs, rfl⟩ := all_P hall
        rw [hall, Bool.not_true, if_neg Bool.false_ne_true]
        try dsimp only
        rw [wpB]
        walk_at "wpc"
        refine ⟨by decide, eqSt_nil ?_⟩
        by_cases ne : s = []
        · subst ne
          walk_at "wpx"
          exact rtq h
        · rw [decide_eq_false ne]
          walk_at "wpx"
          rw [last_St ne]
          walk_at "wpx"
          refine eqP_nil ?_
          rw [isSt_dec hs ne] at h
          exact rtq h
      · have hf : xs.all isPl = false := by simpa using hall
        rw [hf, Bool.not_false, if_pos rfl]
        walk_at "wpc"
        rw [isSt_no hf] at h
        exact rtq h
  | ref a => cases ht
  | ty a => cases ht
  | scr a => cases ht
  | non => cases ht; exact other rfl rfl
  | bl a => cases ht; exact other rfl rfl
  | int a => cases ht; exact other rfl rfl
  | str a => cases ht; exact other rfl rfl
  | lst a => cases ht; exact other rfl rfl
  | obj c a => cases ht
  | dct => cases ht; exact other rfl rfl
theorem ty_P (p : List Int) : Ty2 (P p) := ⟨⟨_, rfl⟩, fun xs e x hx => by cases e; obtain ⟨c, _, e⟩ := List.mem_map.mp hx; subst e; exact ⟨_, rfl⟩⟩
theorem ty_St (s : Ln) : Ty3 (St s) := ⟨⟨_, rfl⟩, fun xs e x hx => by cases e; obtain ⟨c, _, e⟩ := List.mem_map.mp hx; subst e; exact ty_P c⟩
def nzp : Nat → Ln → List Int
  | _, [] => []
  | n, p :: s => if p = [] then nzp (n + 1) s else (n : Int) :: nzp (n + 1) s
theorem nzp_app : ∀ (s t : Ln) (n : Nat), nzp n (s ++ t) = nzp n s ++ nzp (n + s.length) t
  | [], t, n => rfl
  | p :: s, t, n => by
    rw [List.cons_append, nzp, nzp, nzp_app s t (n + 1), List.length_cons, show n + 1 + s.length = n + (s.length + 1) by omega]
    split <;> rfl
/-- where the last one stands tells the step -/
theorem nzp_strm (s : Ln) : (nzp 0 s = [] ∧ strm s = []) ∨ ∃ k : Nat, k < s.length ∧ (nzp 0 s).getLast? = some (k : Int) ∧ strm s = s.take (k + 1) := by
  refine lsnoc_ind (P := fun s => (nzp 0 s = [] ∧ strm s = []) ∨ ∃ k : Nat, k < s.length ∧ (nzp 0 s).getLast? = some (k : Int) ∧ strm s = s.take (k + 1)) (.inl ⟨rfl, rfl⟩) (fun s p ih => ?_) s
  rw [nzp_app, strm_snoc, Nat.zero_add]
  by_cases h : p = []
  · rw [if_pos h]
    have e : nzp s.length [p] = [] := by rw [nzp, if_pos h]; rfl
    rw [e, List.append_nil]
    rcases ih with ⟨h1, h2⟩ | ⟨k, h1, h2, h3⟩
    · exact .inl ⟨h1, h2⟩
    · refine .inr ⟨k, by rw [List.length_append]; omega, h2, ?_⟩
      rw [h3, List.take_append_of_le_length (by omega)]
  · rw [if_neg h]
    refine .inr ⟨s.length, by simp, ?_, ?_⟩
    · have e : nzp s.length [p] = [(s.length : Int)] := by rw [nzp, if_neg h]; rfl
      rw [e]; simp
    · rw [List.take_of_length_le (by simp)]
theorem enumP (n : Nat) (s : Ln) : enumD n (s.map fun p => P p) = (num n s).map fun x => .tup [.int x.1, P x.2] := enumD_map _ n s
/-- the list of places -/
theorem comp_nzp {ρ : DL.Env} {S : Sto} {bd : D → DL.Env → Sto → (DL.Env → Sto → Prop) → Prop} {tw : DL.Env → Sto → (Bool → Sto → Prop) → Prop} {ew : DL.Env → Sto → QD → Prop} {B : List D → Prop} {C : Sto → Prop} {K : List D → Sto → Prop} (hC : C S) (hB : ∀ a, B a) :
    ∀ (s : Ln) (n : Nat) (acc : List D), (∀ (m : Nat) (p : List Int) (N1 : D → Sto → Prop) (N2 : Sto → Prop), (p = [] → N2 S) → (p ≠ [] → N1 (.int m) S) → bd (.tup [.int m, P p]) ρ S fun ρ' S1 => tw ρ' S1 fun b S2 => if b = true then ew ρ' S2 N1 else N2 S2) → K (acc ++ dI (nzp n s)) S → compL bd tw ew B C K ρ (enumD n (s.map fun p => P p)) S acc
  | [], n, acc, h, q => ⟨hC, by rw [nzp] at q; simpa using q⟩
  | p :: s, n, acc, h, q => ⟨hC, by
    refine h n p _ _ (fun e => ?_) fun e => ?_
    · exact comp_nzp hC hB s (n + 1) acc h (by rw [nzp, if_pos e] at q; exact q)
    · refine ⟨hB _, comp_nzp hC hB s (n + 1) _ h ?_⟩
      rw [nzp, if_neg e] at q
      rw [List.append_assoc]; exact q⟩
theorem cutSt {s : Ln} {k : Nat} (h : k < s.length) : cutD (s.map fun p => P p) none (some ((k : Int) + 1)) = (s.take (k + 1)).map fun p => P p := by
  unfold cutD
  have e1 : HT.sIx (s.map fun p => P p).length 0 none = 0 := rfl
  have e2 : HT.sIx (s.map fun p => P p).length (s.map fun p => P p).length (some ((k : Int) + 1)) = k + 1 := by
    rw [len_St]
    unfold HT.sIx
    simp only []
    split <;> omega
  rw [e1, e2, List.drop_zero, Nat.sub_zero, List.map_take]
theorem sok_stripped : SpecOk Gm d_stripped := by
  rintro ds S R Q ⟨v, s, rfl, hv, hl, h⟩
  refine ⟨rfl, ?_⟩
  show wpB Gm b_stripped _ _ [some v, none, none, none] S
  unfold b_stripped
  walk_at "wpc"
  have sq : ∀ k : List D → (Sto → Prop) → Prop, (∀ C : Sto → Prop, C S → k (s.map fun p => P p) C) → seqD S v k := fun k hk => by
    rcases hv with e | e
    · cases v with
      | tup xs => have e := D.tup.inj e; subst e; exact hk _ trivial
      | ref a =>
        unfold res at e
        simp only at e
        split at e <;> cases e
      | _ => cases e
    · cases v with
      | lst xs => have e := D.lst.inj e; subst e; exact hk _ trivial
      | ref a =>
        unfold res at e
        unfold seqD
        simp only at e ⊢
        split at e
        · rename_i ds q
          cases e
          exact hk _ q
        · cases e
      | _ => cases e
  refine sq _ fun C hC => ?_
  refine comp_nzp hC (fun _ => trivial) s 0 [] (fun m p N1 N2 h1 h2 => ?_) ?_
  · walk_at "wpx"
    refine eqP_nil ?_
    by_cases e : p = []
    · rw [decide_eq_true e]; exact h1 e
    · rw [decide_eq_false e]; exact h2 e
  · rw [List.nil_append]
    walk_at "wpc"
    refine ⟨by decide, ?_⟩
    refine eqD_it (n := 1) (m := 1) (it_l _) (fun _ h => nomatch h) (by decide) (by decide) (fun z => ?_) (fun z => ?_)
    · have e := dI_nil (D.lst.inj z)
      rcases nzp_strm s with ⟨_, e2⟩ | ⟨k, _, e2, _⟩
      · rw [e2] at h
        walk_at "wpx"
        exact ⟨by decide, rtq h⟩
      · rw [e] at e2; cases e2
    · have ne : nzp 0 s ≠ [] := fun e => z (by rw [e]; rfl)
      rcases nzp_strm s with ⟨e2, _⟩ | ⟨k, k1, k2, k3⟩
      · exact absurd e2 ne
      · walk_at "wpx"
        have e4 : atD (dI (nzp 0 s)) (-1) = some (.int (k : Int)) := by
          rw [top_at ne]
          rw [List.getLast?_eq_getElem?] at k2
          have hl2 : (nzp 0 s).length - 1 < (nzp 0 s).length := by have := List.length_pos_iff.mpr ne; omega
          rw [List.getElem?_eq_getElem hl2] at k2
          rw [cf_lt hl2, Option.some.inj k2]
        rw [k3] at h
        rcases hv with e | e
        all_goals
          simp only [e]
          rw [e4]
          walk_at "wpx"
          rw [cutSt k1]
          exact rtq h

theorem cut_lastSt {s : Ln} : cutD (s.map fun p => P p) none (some (-1)) = s.dropLast.map fun p => P p := by
  rw [cut_last, ← List.map_dropLast]
theorem sok__law_st : SpecOk Gm d__law_st := by
  rintro ds S R Q ⟨v, p, rfl, hv, hp, q⟩
  refine ⟨rfl, ?_⟩
  show wpB Gm b__law_st _ _ [some v, none] S
  unfold b__law_st
  rcases hv with e | e
  all_goals
    walk_at "wpc"
    simp only [e]
    walk_at "wpc"
    refine ⟨fun m ρ S' => ∃ l : Ln, m = l.length ∧ ρ = [some v, some (.lst (l.map fun p => P p))] ∧ S' = S ∧ strm l = strm p ∧ l.length ≤ 1000, ⟨_, p, rfl, rfl, rfl, rfl, hp⟩, ?_⟩
    rintro m _ _ ⟨l, rfl, rfl, rfl, ht, hl⟩
    walk_at "wpx"
    refine ⟨by decide, eqSl_nil ?_⟩
    by_cases hne : l = []
    · subst hne
      walk_at "wpx"
      walk_at "wpc"
      rw [← ht] at q
      exact rtq q
    · rw [decide_eq_false hne]
      walk_at "wpx"
      rw [last_St hne]
      walk_at "wpx"
      refine ⟨by decide, eqP_nil ?_⟩
      obtain ⟨k, c, rfl⟩ : ∃ k c, l = k ++ [c] := ⟨_, _, (List.dropLast_concat_getLast hne).symm⟩
      have hlen : (k ++ [c]).length = k.length + 1 := by simp
      rw [strm_snoc] at ht
      have ec : cp (k ++ [c]) ((k ++ [c]).length - 1) = c := by rw [cp_snoc]; simp
      rw [ec]
      by_cases h : c = []
      · rw [decide_eq_true h, if_pos rfl]
        rw [if_pos h] at ht
        walk_at "wpc"
        rw [cut_lastSt, List.dropLast_concat]
        exact ⟨k.length, by rw [hlen]; omega, k, rfl, rfl, rfl, ht, by omega⟩
      · rw [decide_eq_false h, if_neg Bool.false_ne_true]
        rw [if_neg h] at ht
        walk_at "wpc"
        rw [← ht] at q
        exact rtq q
theorem pad_eq {s : Ln} {n : Nat} (h : s.length ≤ n) : (s.map fun p => P p) ++ (List.replicate (n - s.length) [D.tup []]).flatten = (List.range n).map fun i => P (cp s i) := by
  have e : (List.replicate (n - s.length) [D.tup []]).flatten = List.replicate (n - s.length) (D.tup []) := by
    have : ∀ k : Nat, (List.replicate k [D.tup []]).flatten = List.replicate k (D.tup []) := by
      intro k
      induction k with
      | zero => rfl
      | succ k ih => rw [List.replicate_succ, List.flatten_cons, ih, List.replicate_succ]; rfl
    exact this _
  rw [e]
  refine List.ext_getElem (by simp; omega) fun i h1 h2 => ?_
  simp only [List.length_append, List.length_map, List.length_replicate] at h1
  by_cases hi : i < s.length
  · rw [List.getElem_append_left (by simpa using hi)]
    simp only [List.getElem_map, List.getElem_range]
    rw [cp_lt hi]
  · rw [List.getElem_append_right (by simpa using hi)]
    simp only [List.getElem_map, List.getElem_range, List.getElem_replicate]
    rw [cp_ge (by omega)]; rfl
theorem flat1 (k : Nat) : (List.replicate k [D.tup []]).flatten.length = k := by
  rw [PyProof.Rows.lm_len_rep_flat]; simp
theorem zipD_same {α : Type} (g h : α → D) : ∀ l : List α, zipD (l.map g) (l.map h) = l.map fun x => .tup [g x, h x]
  | [] => rfl
  | a :: l => by
    have := zipD_same g h l
    unfold zipD at this ⊢
    rw [List.map_cons, List.map_cons, List.zipWith_cons_cons, this, List.map_cons]
theorem cp_len {s : Ln} {l : Nat} (h : ∀ p ∈ s, p.length ≤ l) (i : Nat) : (cp s i).length ≤ l := by
  rcases Nat.lt_or_ge i s.length with q | q
  · exact h _ (cp_mem q)
  · rw [cp_ge q]; exact Nat.zero_le _
theorem mapP_range (n : Nat) (f : Nat → List Int) : (List.range n).map (fun i => P (f i)) = (((List.range n).map f).map fun p => P p) := by rw [List.map_map]; rfl
theorem sok_step_sum : SpecOk Gm d_step_sum := by
  rintro ds S R Q ⟨a, b, rfl, ha, hb, pa, pb, h⟩
  refine ⟨rfl, ?_⟩
  show wpB Gm b_step_sum _ _ [some (St a), some (St b), none, none, none, none, none] S
  unfold b_step_sum
  walk_at "wpc"
  rw [len_St, len_St]
  refine ⟨_, _, rfl, rfl, ?_⟩
  have hm : (if (b.length : Int) > (a.length : Int) then (b.length : Int) else (a.length : Int)) = ((max a.length b.length : Nat) : Int) := by split <;> omega
  rw [hm]
  walk_at "wpc"
  rw [len_St, len_St]
  have ha2 : a.length ≤ max a.length b.length := Nat.le_max_left _ _
  have hb2 : b.length ≤ max a.length b.length := Nat.le_max_right _ _
  refine ⟨by decide, by omega, by omega, by rw [sizeLine_eq]; omega, ?_⟩
  rw [List.append_nil, show (((max a.length b.length : Nat) : Int) - (a.length : Int)).toNat = max a.length b.length - a.length by omega, pad_eq ha2]
  refine ⟨by rw [List.length_map, List.length_range, sizeLine_eq]; omega, by decide, by omega, by omega, by rw [sizeLine_eq]; omega, ?_⟩
  rw [List.append_nil, show (((max a.length b.length : Nat) : Int) - (b.length : Int)).toNat = max a.length b.length - b.length by omega, pad_eq hb2]
  refine ⟨by rw [List.length_map, List.length_range, sizeLine_eq]; omega, ?_⟩
  walk_at "wpc"
  rw [zipD_same]
  refine compL_mapG (fun i => .tup [P (cp a i), P (cp b i)]) (fun i => P (pplus (cp a i) (cp b i))) trivial _ [] (fun i hi N hN => ?_) ?_
  · walk_at "wpx"
    exact ⟨cp a i, cp b i, rfl, cp_len pa i, cp_len pb i, hN⟩
  · try walk_at "wpx"
    refine ⟨_, (List.range (max a.length b.length)).map fun i => pplus (cp a i) (cp b i), rfl, .inr ?_, ?_, rtq h⟩
    · rw [List.nil_append, ← mapP_range]; rfl
    · rw [List.length_map, List.length_range]; omega
theorem sok__law_st_plus : SpecOk Gm d__law_st_plus := by
  rintro ds S R Q ⟨a, b, rfl, ha, hb, pa, pb, h⟩
  refine ⟨rfl, ?_⟩
  show wpB Gm b__law_st_plus _ _ [some (St a), some (St b), none, none, none, none, none] S
  unfold b__law_st_plus
  walk_at "wpc"
  rw [len_St, len_St]
  refine ⟨_, _, rfl, rfl, ?_⟩
  have hm : (if (b.length : Int) > (a.length : Int) then (b.length : Int) else (a.length : Int)) = ((max a.length b.length : Nat) : Int) := by split <;> omega
  rw [hm]
  walk_at "wpc"
  rw [len_St, len_St]
  have ha2 : a.length ≤ max a.length b.length := Nat.le_max_left _ _
  have hb2 : b.length ≤ max a.length b.length := Nat.le_max_right _ _
  refine ⟨by decide, by decide, by omega, by omega, by rw [sizeLine_eq]; omega, ?_⟩
  rw [show (((max a.length b.length : Nat) : Int) - (a.length : Int)).toNat = max a.length b.length - a.length by omega, pad_eq ha2]
  refine ⟨by rw [flat1, sizeLine_eq]; omega, by decide, by decide, by omega, by omega, by rw [sizeLine_eq]; omega, ?_⟩
  rw [show (((max a.length b.length : Nat) : Int) - (b.length : Int)).toNat = max a.length b.length - b.length by omega, pad_eq hb2]
  refine ⟨by rw [flat1, sizeLine_eq]; omega, ?_⟩
  walk_at "wpc"
  rw [zipD_same]
  refine compL_mapG (fun i => .tup [P (cp a i), P (cp b i)]) (fun i => P (pplus (cp a i) (cp b i))) trivial _ [] (fun i hi N hN => ?_) ?_
  · walk_at "wpx"
    exact ⟨cp a i, cp b i, rfl, cp_len pa i, cp_len pb i, hN⟩
  · try walk_at "wpx"
    refine ⟨_, (List.range (max a.length b.length)).map fun i => pplus (cp a i) (cp b i), rfl, .inr ?_, ?_, rtq h⟩
    · rw [List.nil_append, ← mapP_range]; rfl
    · rw [List.length_map, List.length_range]; omega
theorem sok_step_led : SpecOk Gm d_step_led := by
  rintro ds S R Q ⟨p, s, rfl, hp, hl, hs, h⟩
  refine ⟨rfl, ?_⟩
  show wpB Gm b_step_led _ _ [some (P p), some (St s), none] S
  unfold b_step_led
  walk_at "wpc"
  refine compL_mapG (fun q => P q) (fun q => P (pmul p q)) trivial s [] (fun q hq N hN => ?_) ?_
  · walk_at "wpx"
    exact ⟨p, q, rfl, hp, hs q hq, hN⟩
  · try walk_at "wpx"
    refine ⟨_, s.map (pmul p), rfl, .inr ?_, by rw [List.length_map]; omega, rtq h⟩
    rw [List.nil_append, List.map_map]; rfl
theorem sok__law_st_by : SpecOk Gm d__law_st_by := by
  rintro ds S R Q ⟨p, s, rfl, hp, hl, hs, h⟩
  refine ⟨rfl, ?_⟩
  show wpB Gm b__law_st_by _ _ [some (P p), some (St s), none] S
  unfold b__law_st_by
  walk_at "wpc"
  refine compL_mapG (fun q => P q) (fun q => P (pmul p q)) trivial s [] (fun q hq N hN => ?_) ?_
  · walk_at "wpx"
    exact ⟨p, q, rfl, hp, hs q hq, hN⟩
  · try walk_at "wpx"
    refine ⟨_, s.map (pmul p), rfl, .inr ?_, by rw [List.length_map]; omega, rtq h⟩
    rw [List.nil_append, List.map_map]; rfl

theorem pei_moved (m x : Int) : ∀ p : List Int, pei (pmov m p) x = pei p (x + m)
  | [] => rfl
  | c :: p => by
    rw [pmov, pei_pplus, pei_pmul, pei_moved m x p, pei_cons]
    rw [pei_trim, pei_trim]
    simp only [pei_cons, pei_nil]
    grind
def srow (a b : Ln) (i j n : Nat) (x : Int) : Int := sumN i (fun k => if k ≤ n then cv a k x * cv b (n - k) (x + (k : Nat)) else 0) + if i ≤ n ∧ n - i < j then cv a i x * cv b (n - i) (x + (i : Nat)) else 0
theorem srow_next (a b : Ln) (i n : Nat) (x : Int) : srow a b i b.length n x = srow a b (i + 1) 0 n x := by
  unfold srow
  rw [sumN, if_neg (c := i + 1 ≤ n ∧ n - (i + 1) < 0) (by omega)]
  by_cases h : i ≤ n
  · rw [if_pos h]
    by_cases l : n - i < b.length
    · rw [if_pos ⟨h, l⟩]; omega
    · rw [if_neg (fun z => l z.2), cv_ge (s := b) (by omega)]; omega
  · rw [if_neg (fun z => h z.1), if_neg h]; omega
theorem srow_step (a b : Ln) (i j n : Nat) (x : Int) : srow a b i (j + 1) n x = if n = i + j then srow a b i j (i + j) x + cv a i x * cv b j (x + (i : Nat)) else srow a b i j n x := by
  unfold srow
  by_cases e : n = i + j
  · subst e
    rw [if_pos rfl, if_pos ⟨by omega, by omega⟩, if_neg (c := i ≤ i + j ∧ i + j - i < j) (by omega)]
    have : i + j - i = j := by omega
    rw [this]; omega
  · rw [if_neg e]
    by_cases c : i ≤ n ∧ n - i < j
    · rw [if_pos c, if_pos ⟨c.1, by omega⟩]
    · rw [if_neg c, if_neg (by omega)]
theorem srow_end (a b : Ln) (n : Nat) (x : Int) : srow a b a.length 0 n x = mulv a b n x := by
  unfold srow mulv
  rw [if_neg (by omega), Int.add_zero]
  have h1 : sumN (max a.length (n + 1)) (fun k => if k ≤ n then cv a k x * cv b (n - k) (x + (k : Nat)) else 0) = sumN a.length fun k => if k ≤ n then cv a k x * cv b (n - k) (x + (k : Nat)) else 0 := sumN_more (by omega) fun k h1 h2 => by
    rw [cv_ge h1, Int.zero_mul]; split <;> rfl
  have h2 : sumN (max a.length (n + 1)) (fun k => if k ≤ n then cv a k x * cv b (n - k) (x + (k : Nat)) else 0) = sumN (n + 1) fun k => if k ≤ n then cv a k x * cv b (n - k) (x + (k : Nat)) else 0 := sumN_more (by omega) fun k h1 h2 => by
    rw [if_neg (by omega)]
  rw [← h1, h2]
  exact sumN_congr fun k hk => if_pos (by omega)
theorem drop_cp {s : Ln} {i : Nat} (h : i < s.length) : s.drop i = cp s i :: s.drop (i + 1) := by
  rw [List.drop_eq_getElem_cons h, cp_lt h]
theorem mapP_set (F : Ln) (k : Nat) (p : List Int) : (F.map fun p => P p).set k (P p) = (F.set k p).map fun p => P p := by rw [List.map_set]
theorem cp_set {F : Ln} {k n : Nat} {p : List Int} (h : k < F.length) : cp (F.set k p) n = if n = k then p else cp F n := by
  by_cases hn : n < F.length
  · rw [cp_lt (by simpa using hn), List.getElem_set]
    by_cases e : k = n
    · rw [if_pos e, if_pos e.symm]
    · rw [if_neg e, if_neg (fun z => e z.symm), cp_lt hn]
  · rw [cp_ge (by simpa using hn), cp_ge (by omega), if_neg (by omega)]
theorem rep0P (k : Nat) : (List.replicate k [D.tup []]).flatten = (List.replicate k ([] : List Int)).map fun p => P p := by
  induction k with
  | zero => rfl
  | succ k ih => rw [List.replicate_succ, List.flatten_cons, ih, List.replicate_succ, List.map_cons]; rfl
theorem cp_rep (k n : Nat) : cp (List.replicate k ([] : List Int)) n = [] := by
  rcases Nat.lt_or_ge n k with h | h
  · rw [cp_lt (by simpa using h)]; simp
  · exact cp_ge (by simpa using h)
/-- a product's part: bits, lengths -/
theorem part_bd {ka la kb lb i : Nat} {p q : List Int} (h1 : BdP ka p) (h2 : p.length ≤ la) (h3 : BdP kb q) (h4 : q.length ≤ lb) (hi : i < 8) (l1 : la ≤ 20) (l2 : lb ≤ 20) :
    (BdP (kb + lb * 11) (pmov (i : Nat) q) ∧ (pmov (i : Nat) q).length ≤ lb) ∧ BdP (ka + kb + lb * 11 + 6) (pmul p (pmov (i : Nat) q)) ∧ (pmul p (pmov (i : Nat) q)).length ≤ la + lb - 1 := by
  have bi : Bd 3 ((i : Nat) : Int) := by unfold Bd; show ((i : Nat) : Int).natAbs < 8; omega
  obtain ⟨m1, m2⟩ := bd_pmov bi (by decide) h3 (by omega)
  have m3 : BdP (kb + lb * 11) (pmov (i : Nat) q) := m1.mono (by have := Nat.mul_le_mul_right 11 h4; omega)
  have m4 := bd_pmul (m := 6) h1 m3 (by show _ ≤ 64; omega)
  have m5 := pmul_len1 p (pmov (i : Nat) q)
  exact ⟨⟨m3, by omega⟩, m4.mono (by omega), by omega⟩
theorem SB.cp {k l : Nat} {s : Ln} (h : SB k l s) (i : Nat) : BdP k (PM.cp s i) ∧ (PM.cp s i).length ≤ l := by
  rcases Nat.lt_or_ge i s.length with q | q
  · exact h _ (cp_mem q)
  · rw [cp_ge q]; exact ⟨fun _ h => (nomatch h), Nat.zero_le _⟩
theorem SB.mono {k l k' l' : Nat} {s : Ln} (h : SB k l s) (hk : k ≤ k') (hl : l ≤ l') : SB k' l' s := fun p hp => ⟨(h p hp).1.mono hk, Nat.le_trans (h p hp).2 hl⟩
theorem SB.of {k l : Nat} {s : Ln} (h : ∀ i, i < s.length → BdP k (PM.cp s i) ∧ (PM.cp s i).length ≤ l) : SB k l s := fun p hp => by
  obtain ⟨i, hi, e⟩ := List.mem_iff_getElem.mp hp
  have := h i hi
  rwa [cp_lt hi, e] at this
theorem SB.strm {k l : Nat} {s : Ln} (h : SB k l s) : SB k l (PM.strm s) := fun p hp => h p (strm_mem hp)
theorem NrL.of {s : Ln} (h : ∀ i, i < s.length → Nrm (PM.cp s i)) : NrL s := fun p hp => by
  obtain ⟨i, hi, e⟩ := List.mem_iff_getElem.mp hp
  have := h i hi
  rwa [cp_lt hi, e] at this

theorem splus_len (a b : Ln) : (splus a b).length ≤ max a.length b.length := by
  unfold splus
  exact Nat.le_trans (strm_len _) (by rw [List.length_map, List.length_range]; exact Nat.le_refl _)
theorem splus_sb {k k' l : Nat} {a b : Ln} (ha : SB k l a) (hb : SB k' l b) (h : k' ≤ k) : SB (k + 1) l (splus a b) := by
  unfold splus
  refine SB.strm fun p hp => ?_
  obtain ⟨i, _, e⟩ := List.mem_map.mp hp
  subst e
  have := pplus_len (cp a i) (cp b i)
  have h1 := (ha.cp i).2
  have h2 := (hb.cp i).2
  exact ⟨bd_pplus (ha.cp i).1 ((hb.cp i).1.mono h), by omega⟩
theorem mapP_app (s t : Ln) : (s.map fun p => P p) ++ (t.map fun p => P p) = (s ++ t).map fun p => P p := (List.map_append ..).symm
/-- a row of the law's own way -/
def lrow (a b : Ln) (i : Nat) : Ln := List.replicate i ([] : List Int) ++ b.map fun q => pmul (cp a i) (pmov (i : Nat) q)
theorem cp_app (s t : Ln) (n : Nat) : cp (s ++ t) n = if n < s.length then cp s n else cp t (n - s.length) := by
  unfold cp
  simp only [List.getD_eq_getElem?_getD]
  by_cases h : n < s.length
  · rw [if_pos h, List.getElem?_append_left h]
  · rw [if_neg h, List.getElem?_append_right (by omega)]
theorem pmov_nil (m : Int) : pmov m [] = [] := rfl
theorem cv_lrow (a b : Ln) (i n : Nat) (x : Int) : cv (lrow a b i) n x = if i ≤ n then cv a i x * cv b (n - i) (x + (i : Nat)) else 0 := by
  unfold lrow cv
  rw [cp_app, List.length_replicate]
  by_cases h : n < i
  · rw [if_pos h, if_neg (by omega), cp_rep, pei_nil]
  · rw [if_neg h, if_pos (by omega), cp_map (fun q => pmul (cp a i) (pmov (i : Nat) q)) (by rw [pmov_nil, pmul_nil_r]), pei_pmul, pei_moved]

theorem new_end {S : Sto} {p q : Addr} {a b : DO} (hp : S p = none) (hq : S q = none) : sdel (sdel (sup (sup S q a) p b) p) q = S := by
  funext x
  unfold sdel sup
  by_cases h1 : x = q
  · rw [if_pos h1, h1, hq]
  · rw [if_neg h1]
    by_cases h2 : x = p
    · rw [if_pos h2, h2, hp]
    · rw [if_neg h2, if_neg h2, if_neg h1]
theorem new_std {F : FSp} {c : String} {n : Nat} {ds : List D} {S : Sto} {R : XD} {Q : QD} (fs : List D) (hF : ∀ (p q : Addr) (S' : Sto) (Q' : QD), S' p = some (.obj c q (List.replicate n none)) → S' q = some .dx → Q' .non (sup S' p (.obj c q (fs.map some))) → F (.ref p :: ds) S' R Q') (h : Q (.obj c fs) S) :
    ∀ p q, S p = none → S q = none → q ≠ p → F (.ref p :: ds) (sup (sup S q .dx) p (.obj c q (List.replicate n none))) R fun v S2 => v = .non ∧ ∃ fs, S2 p = some (.obj c q (fs.map some)) ∧ S2 q = some .dx ∧ Q (.obj c fs) (sdel (sdel S2 p) q) := fun p q hp hq ne => by
  refine hF p q _ _ sup_same (by rw [sup_ne ne, sup_same]) ⟨rfl, fs, sup_same, by rw [sup_ne ne, sup_ne ne, sup_same], ?_⟩
  rw [sup_sup, new_end hp hq]
  exact h

theorem g1 {x : D} : ([x] : List D)[0]? = some x := rfl
theorem fold_max (s : Ln) : ∀ a : Int, a ≤ s.foldl (fun m p => max m (p.length : Int)) a ∧ (∀ p ∈ s, (p.length : Int) ≤ s.foldl (fun m p => max m (p.length : Int)) a) ∧ ∀ u : Int, a ≤ u → (∀ p ∈ s, (p.length : Int) ≤ u) → s.foldl (fun m p => max m (p.length : Int)) a ≤ u := by
  induction s with
  | nil => intro a; exact ⟨Int.le_refl _, (fun _ h => nomatch h), fun u h _ => h⟩
  | cons p s ih =>
    intro a
    rw [List.foldl_cons]
    obtain ⟨h1, h2, h3⟩ := ih (max a (p.length : Int))
    refine ⟨by omega, fun q hq => ?_, fun u h h' => h3 u (by have := h' p List.mem_cons_self; omega) fun q hq => h' q (List.mem_cons_of_mem _ hq)⟩
    rcases List.mem_cons.mp hq with e | e
    · rw [e]; omega
    · exact h2 q e
theorem mxl_of {s : Ln} {m : Int} (h : m ∈ s.map fun p => (p.length : Int)) (hm : ∀ y ∈ s.map fun p => (p.length : Int), y ≤ m) : m = mxl s := by
  obtain ⟨h1, h2, h3⟩ := fold_max s 0
  obtain ⟨p, hp, e⟩ := List.mem_map.mp h
  have a := h2 p hp
  have b := h3 m (by omega) fun q hq => hm _ (List.mem_map_of_mem hq)
  unfold mxl
  omega
theorem mxl_le {s : Ln} {l : Nat} (h : ∀ p ∈ s, p.length ≤ l) : mxl s ≤ l := (fold_max s 0).2.2 l (by omega) fun p hp => by have := h p hp; omega
theorem mxl_ge (s : Ln) : 0 ≤ mxl s := (fold_max s 0).1
theorem lens_eq (s : Ln) : s.map (fun p => D.int (p.length : Int)) = (s.map fun p => (p.length : Int)).map D.int := by rw [List.map_map]; rfl
theorem cut1 {s : Ln} : (cutD (s.map fun p => P p) (some 1) none).length = s.length - 1 := by
  unfold cutD
  have e1 : HT.sIx (s.map fun p => P p).length (s.map fun p => P p).length none = (s.map fun p => P p).length := rfl
  have e2 : HT.sIx (s.map fun p => P p).length 0 (some 1) = min 1 s.length := by
    rw [len_St]
    unfold HT.sIx
    simp only []
    split <;> omega
  rw [e1, e2, List.length_take, List.length_drop, len_St]
  omega
theorem short (i : Int) (h1 : -20 ≤ i) (h2 : i ≤ 200) : (toString i : Str).length ≤ 10 := by
  have e : ∀ n : Fin 221, (Str.ofString (toString ((n.val : Int) - 20))).length ≤ 10 := by decide +kernel
  have := e ⟨(i + 20).toNat, by omega⟩
  rw [show (((⟨(i + 20).toNat, by omega⟩ : Fin 221).val : Nat) : Int) - 20 = i by show ((i + 20).toNat : Int) - 20 = i; omega] at this
  exact this

def dropB : Nat → Bl → Bl
  | 0, b => b
  | n + 1, .cons _ r => dropB n r
  | _ + 1, .nil => .nil
theorem sok_minus_in : SpecOk Gm d_minus_in := by
  rintro ds S R Q ⟨p, q, rfl, hp, hq, h⟩
  refine ⟨rfl, ?_⟩
  show wpB Gm b_minus_in _ _ [some (P p), some (P q)] S
  unfold b_minus_in
  walk_at "wpc"
  refine ⟨-1, q, rfl, Nat.one_lt_two_pow (by decide), hq, ?_⟩
  exact ⟨p, _, rfl, hp, Nat.le_trans (pby_len' _ _) (by have := hq.2; omega), rtq h⟩
theorem bd_mono {k m : Nat} {c : Int} (h : Bd k c) : BdP k (mono m c) := fun d hd => by
  unfold mono at hd
  rcases List.mem_append.mp hd with z | z
  · rw [(List.mem_replicate.mp z).2]; exact bd_zero
  · rw [List.mem_singleton.mp z]; exact h
theorem bdp_of {k : Nat} {p : List Int} (h : ∀ i, Bd k (cf p i)) : BdP k p := fun c hc => by
  obtain ⟨i, hi, e⟩ := List.mem_iff_getElem.mp hc
  have := h i
  rw [cf_lt hi, e] at this
  exact this
/-- the numbers of one step of the division -/
theorem step_num {c e : Int} (he : e ≠ 0) : let s := if e > 0 then (Int.gcd c e : Int) else 0 - (Int.gcd c e : Int)
    s ≠ 0 ∧ s.natAbs ≤ e.natAbs ∧ 0 < e.fdiv s ∧ (e.fdiv s).natAbs ≤ e.natAbs ∧ (c.fdiv s).natAbs ≤ c.natAbs ∧ e.fdiv s * c = c.fdiv s * e := by
  intro s
  have g0 : 0 < Int.gcd c e := Int.gcd_pos_of_ne_zero_right _ he
  have d1 : (Int.gcd c e : Int) ∣ c := Int.gcd_dvd_left ..
  have d2 : (Int.gcd c e : Int) ∣ e := Int.gcd_dvd_right ..
  have sa : s.natAbs = Int.gcd c e := by
    have e1 : s = if e > 0 then (Int.gcd c e : Int) else 0 - (Int.gcd c e : Int) := rfl
    rw [e1]
    split
    · exact Int.natAbs_natCast _
    · rw [Int.zero_sub, Int.natAbs_neg]; exact Int.natAbs_natCast _
  have s1 : s ∣ c := by rw [← Int.natAbs_dvd, sa]; exact d1
  have s2 : s ∣ e := by rw [← Int.natAbs_dvd, sa]; exact d2
  have hs : s ≠ 0 := by omega
  obtain ⟨x, hx⟩ := s1
  obtain ⟨y, hy⟩ := s2
  have f1 : c.fdiv s = x := by rw [hx]; exact Int.mul_fdiv_cancel_left x hs
  have f2 : e.fdiv s = y := by rw [hy]; exact Int.mul_fdiv_cancel_left y hs
  have le : ∀ {z w : Int}, z = s * w → w.natAbs ≤ z.natAbs := fun {z w} h => by
    rw [h, Int.natAbs_mul]
    exact Nat.le_mul_of_pos_left _ (by omega)
  refine ⟨hs, ?_, ?_, ?_, ?_, ?_⟩
  · have : e.natAbs = s.natAbs * y.natAbs := by rw [hy, Int.natAbs_mul]
    have y0 : y.natAbs ≠ 0 := fun z => by rw [z] at this; omega
    rw [this]; exact Nat.le_mul_of_pos_right _ (by omega)
  · rw [f2]
    have sg : s = if e > 0 then (Int.gcd c e : Int) else 0 - (Int.gcd c e : Int) := rfl
    by_cases p : e > 0
    · rw [if_pos p] at sg
      have : 0 < s * y := by rw [← hy]; exact p
      exact Int.not_le.mp fun z => by have := Int.mul_le_mul_of_nonneg_left z (show 0 ≤ s by omega); omega
    · rw [if_neg p] at sg
      have h1 : s * y < 0 := by rw [← hy]; omega
      have h2 : 0 < (-s) * y := by rw [Int.neg_mul]; omega
      exact Int.not_le.mp fun z => by have := Int.mul_le_mul_of_nonneg_left z (show 0 ≤ -s by omega); omega
  · rw [f2]; exact le hy
  · rw [f1]; exact le hx
  · rw [f1, f2, hx, hy]; grind

theorem rep1_flat : ∀ m : Nat, (List.replicate m [D.int 0]).flatten = dI (List.replicate m 0)
  | 0 => rfl
  | m + 1 => by rw [List.replicate_succ, List.flatten_cons, rep1_flat m]; rfl
theorem mono_dI (m : Nat) (c : Int) : dI (List.replicate m 0) ++ [D.int c] = dI (mono m c) := by
  unfold mono
  show _ = List.map _ (_ ++ _)
  rw [List.map_append]; rfl
theorem xb_step {a b j : Nat} : a + (j + 1) * (b + 1) = (b + (a + j * (b + 1))) + 1 := by rw [Nat.add_mul]; omega
theorem bd_step {K b : Nat} {r d : List Int} {by' s : Int} {m : Nat} (hr : BdP K r) (hd : BdP b d) (h1 : Bd b by') (h2 : Bd K s) : BdP (b + K + 1) (pplus (pby by' r) (pby (-1) (pmul (mono m s) d))) := bdp_of fun i => by
  rw [cf_pplus, cf_pby, cf_pby, cf_pmul, conv_mono]
  refine Bd.add (h1.mul (hr.cf i)) ?_
  split
  · have e : -1 * (s * cf d (i - m)) = -(s * cf d (i - m)) := by omega
    rw [e]
    exact ((h2.mul (hd.cf _)).mono (by omega)).neg
  · exact bd_zero
theorem bd_mm {K b : Nat} {d : List Int} {s : Int} {m : Nat} (hd : BdP b d) (h2 : Bd K s) : BdP (K + b) (pmul (mono m s) d) := bdp_of fun i => by
  rw [cf_pmul, conv_mono]
  split
  · exact h2.mul (hd.cf _)
  · exact bd_zero
theorem top_pmul {p q : List Int} (hp : p ≠ []) (hq : q ≠ []) : cf (pmul p q) ((pmul p q).length - 1) = cf p (p.length - 1) * cf q (q.length - 1) := by
  have l1 := List.length_pos_iff.mpr hp
  have l2 := List.length_pos_iff.mpr hq
  rw [cf_pmul, pmul_length hp hq]
  unfold conv
  rw [sumN_one (k := p.length - 1) (by omega) fun i hi ne => by
    by_cases l : p.length ≤ i
    · rw [cf_ge l, Int.zero_mul]
    · rw [cf_ge (p := q) (by omega), Int.mul_zero]]
  congr 2
  omega
theorem step_one {c e w : Int} (he : e ≠ 0) (h : c = w * e) : e.fdiv (if e > 0 then (Int.gcd c e : Int) else 0 - (Int.gcd c e : Int)) = 1 := by
  have g : Int.gcd c e = e.natAbs := by
    rw [h]
    exact Int.gcd_mul_left_left ..
  have : (if e > 0 then (Int.gcd c e : Int) else 0 - (Int.gcd c e : Int)) = e := by rw [g]; split <;> omega
  rw [this]
  exact Int.fdiv_self he
/-- a whole multiple stays one -/
def Whl (r d : List Int) : Prop := ∃ w, Nrm w ∧ ∀ x, pei r x = pei w x * pei d x
theorem whl_top {r d : List Int} (hr : Nrm r) (hd : Nrm d) (ne : d ≠ []) (n1 : r ≠ []) (h : Whl r d) : ∃ w, cf r (r.length - 1) = w * cf d (d.length - 1) := by
  obtain ⟨w, nw, e⟩ := h
  have er : r = pmul w d := pei_inj hr (nrm_pmul nw hd) fun x => by rw [e, pei_pmul]
  have w0 : w ≠ [] := fun z => n1 (by rw [er, z]; unfold pmul; rw [if_pos (.inl rfl)])
  rw [er, top_pmul w0 ne]
  exact ⟨_, rfl⟩
theorem whl_step {r d : List Int} (h : Whl r d) (m : Nat) (st : Int) : Whl (pplus (pby 1 r) (pby (-1) (pmul (mono m st) d))) d := by
  obtain ⟨w, nw, e⟩ := h
  refine ⟨pplus w (pby (-1) (mono m st)), nrm_pplus _ _, fun x => ?_⟩
  rw [pei_pplus, pei_pplus, pei_pby, pei_pby, pei_pby, pei_pmul, e]; grind
theorem sok_parted_in : SpecOk Gm d_parted_in := by
  rintro ds S R Q ⟨p, d, a, b, rfl, I, h⟩
  refine ⟨rfl, ?_⟩
  obtain ⟨np, nd, ne, lp, ld, bp, bd, hx⟩ := I
  have ld0 : 0 < d.length := List.length_pos_iff.mpr ne
  have top := nrm_top nd ne
  show wpB Gm b_parted_in _ _ [some (P p), some (P d), none, none, none, none, none, none, none] S
  unfold b_parted_in
  walk_at "wpc"
  rw [top_at ne]
  walk_at "wpx"
  walk_at "wpc"
  refine ⟨by decide, ?_⟩
  try walk_at "wpc"
  refine ⟨fun m ρ S' => ∃ j t q r x y z, m = r.length ∧ ρ = [some (P p), some (P d), some (.int t), some (P q), some (P r), some (.int (cf d (d.length - 1))), x, y, z] ∧ S' = S ∧
    0 < t ∧ Nrm q ∧ Nrm r ∧ (∀ n, t * pei p n = pei q n * pei d n + pei r n) ∧ j + r.length ≤ p.length ∧ j ≤ p.length + 1 - d.length ∧ Bd (j * (b + 1) + 1) t ∧ BdP (a + j * (b + 1)) q ∧ BdP (a + j * (b + 1)) r ∧ q.length ≤ p.length ∧ (Whl p d → t = 1 ∧ Whl r d),
    ⟨_, 0, 1, [], p, _, _, _, rfl, rfl, rfl, by decide, nrm_nil, np, fun n => by rw [pei_nil]; omega, by omega, by omega, by show (1 : Nat) < 2 ^ _; exact Nat.one_lt_two_pow (by omega), fun c hc => (nomatch hc), by rw [Nat.zero_mul]; exact bp, Nat.zero_le _, fun w => ⟨rfl, w⟩⟩, ?_⟩
  rintro m _ _ ⟨j, t, q, r, x, y, z, rfl, rfl, rfl, ht, hq, hr, he, hj, hj2, b1, b2, b3, l1, hwh⟩
  walk_at "wpx"
  rw [dI_len, dI_len]
  by_cases hl : d.length ≤ r.length
  · have c1 : (d.length : Int) ≤ (r.length : Int) := by omega
    simp only [c1, decide_true, if_true]
    have n1 : r ≠ [] := fun e => by rw [e, List.length_nil] at hl; omega
    have jx : j + 1 ≤ p.length + 1 - d.length := by omega
    have jb : (j + 1) * (b + 1) ≤ (p.length + 1 - d.length) * (b + 1) := Nat.mul_le_mul_right _ jx
    have es := xb_step (a := a) (b := b) (j := j)
    unfold xb at hx
    obtain ⟨s1, s2, s3, s4, s5, s6⟩ := step_num (c := cf r (r.length - 1)) top
    have bt : Bd b (cf d (d.length - 1)) := bd.cf _
    have bc : Bd (a + j * (b + 1)) (cf r (r.length - 1)) := b3.cf _
    walk_at "wpc"
    rw [top_at n1]
    walk_at "wpx"
    refine ⟨_, _, rfl, ?_⟩
    walk_at "wpc"
    generalize hs : (if cf d (d.length - 1) > 0 then (Int.gcd (cf r (r.length - 1)) (cf d (d.length - 1)) : Int) else 0 - (Int.gcd (cf r (r.length - 1)) (cf d (d.length - 1)) : Int)) = s at *
    by_cases cp : 0 < cf d (d.length - 1)
    case' pos => rw [if_pos cp] at hs; simp only [cp, decide_true, if_true]
    case' neg => rw [if_neg cp] at hs; simp only [cp, decide_false, Bool.false_eq_true, if_false]
    all_goals
      rw [hs]
      walk_at "wpc"
      rw [dI_len, dI_len, top_at n1]
      walk_at "wpx"
      have hm : ((r.length : Int) - (d.length : Int)).toNat = r.length - d.length := by omega
      rw [hm, rep1_flat, dI_len, mono_dI]
      refine ⟨s1, noPy, by decide, by omega, by omega, by rw [sizeLine_eq]; omega, s1, noPy, by decide, by rw [sizeLine_eq, List.length_replicate]; omega, ?_⟩
      have q1 : Bd b ((cf d (d.length - 1)).fdiv s) := Nat.lt_of_le_of_lt s4 bt
      have q2 : Bd (a + j * (b + 1)) ((cf r (r.length - 1)).fdiv s) := Nat.lt_of_le_of_lt s5 bc
      have one : Whl p d → (cf d (d.length - 1)).fdiv s = 1 := fun w => by
        obtain ⟨w, ew⟩ := whl_top hr nd ne n1 (hwh w).2
        have so := step_one top ew
        first
          | (rw [if_pos cp] at so; rw [hs] at so; exact so)
          | (rw [if_neg cp] at so; rw [hs] at so; exact so)
      generalize hby : (cf d (d.length - 1)).fdiv s = by' at *
      generalize hst : (cf r (r.length - 1)).fdiv s = st at *
      have rne : mono (r.length - d.length) st ≠ [] := fun e => by have := mono_len (r.length - d.length) st; rw [e] at this; cases this
      walk_at "wpc"
      refine ⟨mulOk b1 q1 (by omega) (by omega), by', q, rfl, q1.mono (by omega), ⟨b2.mono (by omega), by omega⟩, ?_⟩
      refine ⟨_, _, rfl, Nat.le_trans (pby_len' _ _) (by omega), by rw [mono_len]; omega, ?_⟩
      walk_at "wpc"
      refine ⟨by', r, rfl, q1.mono (by omega), ⟨b3.mono (by omega), by omega⟩, _, _, rfl, ⟨(bd_mono q2).mono (by omega), by rw [mono_len]; omega⟩, ⟨bd.mono (by omega), by omega⟩, ?_⟩
      refine ⟨_, _, rfl, Nat.le_trans (pby_len' _ _) (by omega), ⟨?_, ?_⟩, ?_⟩
      · exact (bd_mm bd q2).mono (by omega)
      · rw [pmul_length rne ne, mono_len]; omega
      try dsimp only
      try rw [wpB]
      have sl := step_len hr nd ne hl s6
      refine ⟨_, sl, j + 1, t * by', _, _, _, _, _, rfl, rfl, rfl, Int.mul_pos ht s3, nrm_pplus _ _, nrm_pplus _ _, pdv_step he _, by omega, jx, ?_, ?_, ?_, ?_, fun w => ?_⟩
      · exact (b1.mul q1).mono (by rw [Nat.add_mul]; omega)
      · rw [es]
        exact bd_pplus ((bd_pby b2 q1)) ((bd_mono q2).mono (by omega))
      · rw [es]
        exact bd_step b3 bd q1 q2
      · have := pplus_len (pby by' q) (mono (r.length - d.length) st)
        have := pby_len' by' q
        rw [mono_len] at *
        omega
      · have o := one w
        subst o
        exact ⟨by rw [(hwh w).1, Int.mul_one], whl_step (hwh w).2 _ _⟩
  · have c1 : ¬ (d.length : Int) ≤ (r.length : Int) := by omega
    simp only [c1, decide_false, Bool.false_eq_true, if_false]
    walk_at "wpc"
    have jb : j * (b + 1) ≤ (p.length + 1 - d.length) * (b + 1) := Nat.mul_le_mul_right _ hj2
    refine ⟨by decide, rtq (h t q r ⟨ht, ⟨by omega, hq, hr, by omega, he⟩, b1.mono ?_, b2.mono ?_, b3.mono ?_, l1⟩ fun w => (hwh w).1)⟩ <;> unfold xb <;> omega

theorem lp_gcd {t : Int} (ht : 0 < t) (r : List Int) : (Int.gcd t (pcon r) : Int) ≠ 0 := by
  have := Int.gcd_pos_of_ne_zero_left (pcon r : Int) (show t ≠ 0 by omega)
  omega
theorem lp_le {t : Int} {k : Nat} (ht : 0 < t) (b : Bd k t) (r : List Int) : Bd k (Int.gcd t (pcon r) : Int) := by
  have h := Int.gcd_dvd_left (a := t) (b := (pcon r : Int))
  have := Int.le_of_dvd ht h
  unfold Bd at *
  omega
theorem plow_nilIff (r : List Int) : plow r = [] ↔ r = [] := ⟨fun e => by
  have := plow_len r
  rw [e] at this
  exact List.eq_nil_of_length_eq_zero this.symm, fun e => by rw [e]; rfl⟩
theorem prem_nil {d : List Int} (nd : Nrm d) (ne : d ≠ []) : prem [] d = [] := by
  have : Pdv [] d 1 [] [] := ⟨by decide, nrm_nil, nrm_nil, List.length_pos_iff.mpr ne, fun n => by rw [pei_nil]; omega⟩
  rw [prem_of nd this]; rfl

theorem lpD_uniq {t t' : Int} {r r' : List Int} (ht : 0 < t) (ht' : 0 < t') (h : pby t' r = pby t r') : lpD t r = lpD t' r' := by
  have c := congrArg pcon h
  rw [pcon_pby, pcon_pby] at c
  have g1 := lp_gcd ht r
  have g2 := lp_gcd ht' r'
  have eg : t'.natAbs * Int.gcd t (pcon r) = t.natAbs * Int.gcd t' (pcon r') := by
    have a1 : Int.gcd (t' * t) (t' * (pcon r : Int)) = t'.natAbs * Int.gcd t (pcon r) := Int.gcd_mul_left ..
    have a2 : Int.gcd (t * t') (t * (pcon r' : Int)) = t.natAbs * Int.gcd t' (pcon r') := Int.gcd_mul_left ..
    have e1 : t' * (pcon r : Int) = t * (pcon r' : Int) := by
      have : ((t'.natAbs * pcon r : Nat) : Int) = ((t.natAbs * pcon r' : Nat) : Int) := by rw [c]
      rw [Int.natCast_mul, Int.natCast_mul, Int.natAbs_of_nonneg (by omega), Int.natAbs_of_nonneg (by omega)] at this
      exact this
    rw [← a1, ← a2, e1, Int.mul_comm t' t]
  have eg2 : t' * (Int.gcd t (pcon r) : Int) = t * (Int.gcd t' (pcon r') : Int) := by
    have : ((t'.natAbs * Int.gcd t (pcon r) : Nat) : Int) = ((t.natAbs * Int.gcd t' (pcon r') : Nat) : Int) := by rw [eg]
    rw [Int.natCast_mul, Int.natCast_mul, Int.natAbs_of_nonneg (by omega), Int.natAbs_of_nonneg (by omega)] at this
    exact this
  have d1 : (Int.gcd t (pcon r) : Int) ∣ t := Int.gcd_dvd_left ..
  have d2 : (Int.gcd t' (pcon r') : Int) ∣ t' := Int.gcd_dvd_left ..
  have dc1 : ∀ i, (Int.gcd t (pcon r) : Int) ∣ cf r i := fun i => by
    by_cases l : i < r.length
    · exact Int.dvd_trans (Int.gcd_dvd_right ..) ((pcon_dvd r 0).2 _ (by rw [cf_lt l]; exact List.getElem_mem _))
    · rw [cf_ge (by omega)]; exact Int.dvd_zero _
  have dc2 : ∀ i, (Int.gcd t' (pcon r') : Int) ∣ cf r' i := fun i => by
    by_cases l : i < r'.length
    · exact Int.dvd_trans (Int.gcd_dvd_right ..) ((pcon_dvd r' 0).2 _ (by rw [cf_lt l]; exact List.getElem_mem _))
    · rw [cf_ge (by omega)]; exact Int.dvd_zero _
  have cc : ∀ i, t' * cf r i = t * cf r' i := fun i => by
    have := congrArg (fun z => cf z i) h
    simpa only [cf_pby] using this
  have ln : r.length = r'.length := by
    have := congrArg List.length h
    rwa [pby_length (by omega), pby_length (by omega)] at this
  unfold lpD
  generalize (Int.gcd t (pcon r) : Int) = g at *
  generalize (Int.gcd t' (pcon r') : Int) = g' at *
  have e1 : t.fdiv g = t'.fdiv g' := by
    obtain ⟨x, hx⟩ := d1
    obtain ⟨y, hy⟩ := d2
    rw [hx, hy, Int.mul_fdiv_cancel_left x g1, Int.mul_fdiv_cancel_left y g2]
    rw [hx, hy] at eg2
    exact Int.eq_of_mul_eq_mul_left (Int.mul_ne_zero g1 g2) (by grind)
  have e2 : (r.map fun c => c.fdiv g) = (r'.map fun c => c.fdiv g') := by
    refine List.ext_getElem (by rw [List.length_map, List.length_map, ln]) fun i h1 h2 => ?_
    rw [List.length_map] at h1 h2
    rw [List.getElem_map, List.getElem_map]
    have c1 := cc i
    obtain ⟨x, hx⟩ := dc1 i
    obtain ⟨y, hy⟩ := dc2 i
    rw [cf_lt h1] at hx c1
    rw [cf_lt h2] at hy c1
    rw [hx, hy, Int.mul_fdiv_cancel_left x g1, Int.mul_fdiv_cancel_left y g2]
    rw [hx, hy] at c1
    refine Int.eq_of_mul_eq_mul_left (Int.mul_ne_zero (show t' ≠ 0 by omega) g1) ?_
    rw [Int.mul_assoc, c1, ← Int.mul_assoc, ← eg2]
  rw [e1, e2]
theorem bd_plow {k : Nat} {p : List Int} (hn : Nrm p) (h : BdP k p) : BdP k (plow p) := bdp_of fun i => by
  by_cases e : p = []
  · subst e; rw [plow_nil, cf_nil]; exact bd_zero
  · have z := cf_plow p i
    have s := psh_ne hn e
    have b := h.cf i
    rw [← z] at b
    unfold Bd at *
    rw [Int.natAbs_mul] at b
    exact Nat.lt_of_le_of_lt (Nat.le_mul_of_pos_left _ (by omega)) b
theorem gOk_step {n m a l b : Nat} (h : gOk n m a l b = true) (hl : l ≠ 0) : xb a b m l ≤ 50000000 ∧ m ≤ 20 ∧ l ≤ 20 ∧ ∀ k, k < l → gOk (n - 1) l b k (xb a b m l) = true := by
  cases n with
  | zero => rw [gOk] at h; exact absurd (by simpa using h) hl
  | succ n =>
    rw [gOk] at h
    simp only [Bool.or_eq_true, beq_iff_eq, hl, false_or, Bool.and_eq_true, decide_eq_true_eq, List.all_eq_true, List.mem_range] at h
    exact ⟨h.1.1.1, h.1.1.2, h.1.2, h.2⟩
theorem sok_common_in : SpecOk Gm d_common_in := by
  rintro ds S R Q ⟨p, q, a, b, rfl, np, nq, sp, sq, bp, bq, gk, h⟩
  refine ⟨rfl, ?_⟩
  show wpB Gm b_common_in _ _ [some (P p), some (P q)] S
  unfold b_common_in
  walk_at "wpc"
  refine ⟨p, rfl, np, sp, q, rfl, nq, sq, ?_⟩
  walk_at "wpc"
  refine ⟨fun m ρ S' => ∃ x y a b n, m = y.length ∧ ρ = [some (P x), some (P y)] ∧ S' = S ∧ Nrm x ∧ Nrm y ∧ BdP a x ∧ BdP b y ∧ gOk n x.length a y.length b = true ∧ pgcd x y = pgcd (plow p) (plow q),
    ⟨_, plow p, plow q, a, b, _, rfl, rfl, rfl, nrm_plow np, nrm_plow nq, bd_plow np bp, bd_plow nq bq, by rw [plow_len, plow_len]; exact gk, rfl⟩, ?_⟩
  rintro m _ _ ⟨x, y, a, b, n, rfl, rfl, rfl, nx, ny, bx, bY, gk, hg⟩
  walk_at "wpx"
  refine eqD_it (n := 1) (m := 1) (it_t y) (fun _ h => nomatch h) (by decide) (by decide) (fun z => ?_) (fun z => ?_)
  · have e : y = [] := dI_nil (D.tup.inj z)
    subst e
    walk_at "wpx"
    walk_at "wpc"
    rw [← hg, pgcd_nil] at h
    exact rtq h
  · have e : ¬ y = [] := fun e => z (by rw [e]; rfl)
    have l0 : 0 < y.length := List.length_pos_iff.mpr e
    obtain ⟨g1, g2, g3, g4⟩ := gOk_step gk (by omega)
    walk_at "wpx"
    walk_at "wpc"
    refine ⟨x, y, a, b, rfl, ⟨nx, ny, e, g2, g3, bx, bY, g1⟩, fun t q r B _ => ?_⟩
    walk_at "wpx"
    refine ⟨r, rfl, B.dv.hr, ⟨B.br.mono (by omega), by have := B.dv.hl; omega⟩, ?_⟩
    try dsimp only
    try rw [wpB]
    refine ⟨_, by rw [plow_len]; exact B.dv.hl, y, plow r, _, _, _, rfl, rfl, rfl, ny, nrm_plow B.dv.hr, bY, bd_plow B.dv.hr B.br, by rw [plow_len]; exact g4 _ B.dv.hl, ?_⟩
    rw [← hg, pgcd_step nx ny e, prem_of ny B.dv]

theorem sok__law_pl_common : SpecOk Gm d__law_pl_common := by
  rintro ds S R Q ⟨p, q, a, b, rfl, np, nq, sp, sq, bp, bq, gk, h⟩
  refine ⟨rfl, ?_⟩
  show wpB Gm b__law_pl_common _ _ [some (P p), some (P q), none, none] S
  unfold b__law_pl_common
  walk_at "wpc"
  refine ⟨p, rfl, np, sp, q, rfl, nq, sq, ?_⟩
  walk_at "wpc"
  refine ⟨fun m ρ S' => ∃ x y a b n, m = y.length ∧ ρ = [some (P p), some (P q), some (P x), some (P y)] ∧ S' = S ∧ Nrm x ∧ Nrm y ∧ BdP a x ∧ BdP b y ∧ gOk n x.length a y.length b = true ∧ pgcd x y = pgcd (plow p) (plow q),
    ⟨_, plow p, plow q, a, b, _, rfl, rfl, rfl, nrm_plow np, nrm_plow nq, bd_plow np bp, bd_plow nq bq, by rw [plow_len, plow_len]; exact gk, rfl⟩, ?_⟩
  rintro m _ _ ⟨x, y, a, b, n, rfl, rfl, rfl, nx, ny, bx, bY, gk, hg⟩
  walk_at "wpx"
  refine ⟨by decide, eqD_it (n := 1) (m := 1) (it_t y) (fun _ h => nomatch h) (by decide) (by decide) (fun z => ?_) (fun z => ?_)⟩
  · have e : y = [] := dI_nil (D.tup.inj z)
    subst e
    walk_at "wpx"
    walk_at "wpc"
    rw [← hg, pgcd_nil] at h
    exact rtq h
  · have e : ¬ y = [] := fun e => z (by rw [e]; rfl)
    have l0 : 0 < y.length := List.length_pos_iff.mpr e
    obtain ⟨g1, g2, g3, g4⟩ := gOk_step gk (by omega)
    walk_at "wpx"
    walk_at "wpc"
    refine ⟨x, y, a, b, rfl, ⟨nx, ny, e, g2, g3, bx, bY, g1⟩, fun t q r B _ => ?_⟩
    walk_at "wpx"
    refine ⟨r, rfl, B.dv.hr, ⟨B.br.mono (by omega), by have := B.dv.hl; omega⟩, ?_⟩
    try dsimp only
    try rw [wpB]
    refine ⟨_, by rw [plow_len]; exact B.dv.hl, y, plow r, _, _, _, rfl, rfl, rfl, ny, nrm_plow B.dv.hr, bY, bd_plow B.dv.hr B.br, by rw [plow_len]; exact g4 _ B.dv.hl, ?_⟩
    rw [← hg, pgcd_step nx ny e, prem_of ny B.dv]
theorem sok__law_pl_over : SpecOk Gm d__law_pl_over := by
  rintro ds S R Q ⟨p, d, a, b, rfl, I, h⟩
  refine ⟨rfl, ?_⟩
  have hx := I.xb
  show wpB Gm b__law_pl_over _ _ [some (P p), some (P d), none, none, none, none] S
  unfold b__law_pl_over
  walk_at "wpc"
  refine ⟨p, d, a, b, rfl, I, fun t q r B _ => ?_⟩
  have lr : q.length ≤ 1000 := by have := B.lq; have := I.lp; omega
  have bt := (B.bt.mono (show _ ≤ 60000000 by omega))
  have g0 := lp_gcd B.pos q
  have gb := lp_le B.pos bt q
  have ec : cutD [D.int t, P q, P r] none (some 2) = [D.int t, P q] := rfl
  walk_at "wpx"
  try rw [ec]
  walk_at "wpx"
  walk_at "wpc"
  refine ⟨q, rfl, lr, _, _, rfl, ?_⟩
  walk_at "wpc"
  refine ⟨g0, noPy, ?_⟩
  refine compL_mapG (α := Int) D.int (fun c => .int (c.fdiv (Int.gcd t (pcon q) : Int))) trivial q [] (fun c hc N hN => ?_) ?_
  · walk_at "wpx"
    exact ⟨g0, noPy, hN⟩
  · try refine ⟨by decide, ?_⟩
    have e : dI (q.map fun c => c.fdiv (Int.gcd t (pcon q) : Int)) = q.map fun c => D.int (c.fdiv (Int.gcd t (pcon q) : Int)) := dI_map _ _
    have := h t q r B
    unfold lpD at this
    rw [List.nil_append, ← e]
    exact rtq this

/-- k - 1, .., 0 -/
def dn : Nat → List D
  | 0 => []
  | k + 1 => .int k :: dn k
theorem range_dn : ∀ k : Nat, rangeD ((k : Int) - 1) (-1) k = dn k
  | 0 => rfl
  | k + 1 => by
    have ih := range_dn k
    unfold rangeD at ih ⊢
    rw [List.range_succ_eq_map, List.map_cons, List.map_map, dn, ← ih]
    congr 1
    · congr 1; omega
    · refine List.map_congr_left fun i _ => ?_
      show D.int _ = D.int _
      congr 1
      show ((k + 1 : Nat) : Int) - 1 + ((i + 1 : Nat) : Int) * -1 = _
      omega
theorem range_dn' {m l : Nat} (hl : 0 < l) : rangeD ((m : Int) - (l : Int)) (-1) ((m : Int) - (l : Int) - -1).toNat = dn (m + 1 - l) := by
  by_cases h : l ≤ m + 1
  · have e : ((m : Int) - (l : Int) - -1).toNat = m + 1 - l := by omega
    rw [e, ← range_dn]
    congr 1; omega
  · have e : ((m : Int) - (l : Int) - -1).toNat = 0 := by omega
    have e2 : m + 1 - l = 0 := by omega
    rw [e, e2]; rfl
theorem dI_mulr (c : Int) (p : List Int) : (p.map fun x => D.int (x * c)) = dI (p.map fun x => x * c) := by
  show _ = List.map _ (List.map _ _)
  rw [List.map_map]; rfl
theorem trim_len_cf {L : List Int} {n : Nat} (h : ∀ i, n ≤ i → cf L i = 0) : (trim L).length ≤ n := by
  by_cases e : trim L = []
  · rw [e]; exact Nat.zero_le _
  · have t := nrm_top (nrm_trim L) e
    rw [cf_trim] at t
    by_cases l : n ≤ (trim L).length - 1
    · exact absurd (h _ l) t
    · omega
theorem sub_set {S S2 : Sto} {p : Addr} {o : DO} (h : S p = none) (sb : Sub S S2) : Sub S (sup S2 p o) := fun a u e => by
  by_cases q : a = p
  · rw [q, h] at e; cases e
  · rw [sup_ne q]; exact sb a u e
theorem parted_fin {p d L F : List Int} {a b N j : Nat} {T s : Int} (hs : s = 1 ∨ s = -1) (hp : 0 < s * T) (ld0 : 0 < d.length) (hN : p.length + 1 - d.length = N) (hj : j ≤ N) (b1 : Bd (j * (b + 1) + 1) T) (b2 : BdP (a + j * (b + 1)) L) (b3 : BdP (a + j * (b + 1)) F)
    (l2 : F.length = N) (hz : ∀ i, 0 + d.length - 1 ≤ i → cf L i = 0) (he : ∀ n, T * pei p n = pei F n * pei d n + pei L n) : PdB a b p d (s * T) (trim (F.map fun c => s * c)) (trim (L.map fun c => s * c)) := by
  have jb : j * (b + 1) ≤ N * (b + 1) := Nat.mul_le_mul_right _ hj
  have na : ∀ x : Int, (s * x).natAbs = x.natAbs := fun x => by rcases hs with rfl | rfl <;> omega
  have bm : ∀ {k : Nat} {q : List Int}, BdP k q → BdP k (trim (q.map fun c => s * c)) := fun {k q} h => bd_trim fun c hc => by
    obtain ⟨x, hx, rfl⟩ := List.mem_map.mp hc
    show Int.natAbs _ < _
    rw [na]; exact h x hx
  have hx : xb a b p.length d.length = a + N * (b + 1) := by unfold xb; rw [hN]
  refine ⟨hp, ⟨by omega, nrm_trim _, nrm_trim _, ?_, fun n => ?_⟩, ?_, ?_, ?_, ?_⟩
  · have := trim_len_cf (L := L.map fun c => s * c) (n := d.length - 1) fun i hi => by
      rw [cf_map (fun c => s * c) (Int.mul_zero _), hz i (by omega), Int.mul_zero]
    omega
  · rw [pei_trim, pei_trim, pei_map, pei_map, Int.mul_assoc, he n, Int.mul_add, Int.mul_assoc]
  · show Int.natAbs _ < _
    rw [na]
    exact b1.mono (by omega)
  · exact (bm b3).mono (by omega)
  · exact (bm b2).mono (by omega)
  · have := trim_len (F.map fun c => s * c)
    rw [List.length_map] at this
    omega
theorem sok__law_pl_parted : SpecOk Gm d__law_pl_parted := by
  rintro ds S R Q ⟨p, d, a, b, rfl, I, h⟩
  refine ⟨rfl, ?_⟩
  obtain ⟨np, nd, ne, lp, ld, bp, bd, hx⟩ := I
  have ld0 : 0 < d.length := List.length_pos_iff.mpr ne
  have top := nrm_top nd ne
  show wpB Gm b__law_pl_parted _ _ [some (P p), some (P d), none, none, none, none, none, none, none, none] S
  unfold b__law_pl_parted
  walk_at "wpc"
  rw [dI_len, dI_len]
  refine fun l hl => ⟨by decide, _, _, rfl, rfl, ?_⟩
  have hN : (if (p.length : Int) - (d.length : Int) + 1 > 0 then (p.length : Int) - (d.length : Int) + 1 else 0) = ((p.length + 1 - d.length : Nat) : Int) := by split <;> omega
  rw [hN]
  refine ⟨by omega, by omega, by rw [sizeLine_eq]; omega, fun f hf => ?_⟩
  have lf : f ≠ l := fun e => by rw [e, sup_same] at hf; cases hf
  have hf0 : S f = none := by rw [← hf, sup_ne lf]
  have er : (List.replicate ((p.length + 1 - d.length : Nat) : Int).toNat [D.int 0]).flatten = dI (List.replicate (p.length + 1 - d.length) 0) := by rw [rep0]; congr 2
  rw [er]
  walk_at "wpc"
  rw [dI_len, dI_len]
  refine ⟨_, _, _, _, rfl, rfl, rfl, L2.RgC.neg (by omega) (by omega) (by decide) (by decide), by rw [sizeLine_eq]; omega, ?_⟩
  rw [range_dn' ld0]
  unfold xb at hx
  generalize hNN : p.length + 1 - d.length = N at *
  have lN : N ≤ p.length := by omega
  refine forL_ind (fun rest ρ S' => ∃ k j T L F x5 x6 x7 x8 l f, rest = dn k ∧ k + j = N ∧ ρ = [some (P p), some (P d), some (.ref l), some (.int T), some (.ref f), x5, x6, x7, x8, none] ∧ S' l = some (.lst (dI L)) ∧ S' f = some (.lst (dI F)) ∧ l ≠ f ∧ S l = none ∧ S f = none ∧ Sub S S' ∧
      T ≠ 0 ∧ Bd (j * (b + 1) + 1) T ∧ BdP (a + j * (b + 1)) L ∧ BdP (a + j * (b + 1)) F ∧ L.length = p.length ∧ F.length = N ∧ (∀ i, k + d.length - 1 ≤ i → cf L i = 0) ∧ (∀ n, T * pei p n = pei F n * pei d n + pei L n) ∧ lpR d k (T, L, F) = lpR d N (1, p, List.replicate N 0)) ?_ ?_ _ _ _
      ⟨N, 0, 1, p, List.replicate N 0, _, _, _, _, l, f, rfl, rfl, rfl, ?_, sup_same, fun e => lf e.symm, hl, hf0, ?_, by decide, ?_, ?_, ?_, rfl, by simp, ?_, ?_, rfl⟩
  rotate_left 2
  · rw [sup_ne (fun e => lf e.symm), sup_same]
  · exact (sub_sup hl).trans (sub_sup hf)
  · show (1 : Nat) < 2 ^ _; exact Nat.one_lt_two_pow (by omega)
  · rw [Nat.zero_mul]; exact bp
  · intro c hc; rw [(List.mem_replicate.mp hc).2]; exact bd_zero
  · intro i hi; exact cf_ge (by omega)
  · intro n; rw [pei_zero n _ (cf_rep0 N)]; omega
  · rintro ρ S' ⟨k, j, T, L, F, x5, x6, x7, x8, l, f, hk, hj, rfl, hL, hF, hlf, hSl, hSf, sb, hT, b1, b2, b3, l1, l2, hz, he, hr⟩
    have k0 : k = 0 := by cases k with | zero => rfl | succ k => cases hk
    subst k0
    refine ⟨trivial, ?_⟩
    walk_at "wpc"
    have bs : ∀ s : Int, s = 1 ∨ s = -1 → Bd 1 s := fun s hs => by rcases hs with rfl | rfl <;> (unfold Bd; decide)
    have jb : j * (b + 1) ≤ N * (b + 1) := Nat.mul_le_mul_right _ (by omega)
    by_cases cp : 0 < T
    · simp only [cp, decide_true, if_true]
      have fin := parted_fin (s := 1) (.inl rfl) (by omega) ld0 hNN (show j ≤ N by omega) b1 b2 b3 l2 hz he
      have bs := bs (1) (.inl rfl)
      walk_at "wpc"
      refine ⟨mulOk bs b1 (by decide) (by omega), ?_⟩
      simp only [seqD_of hF]
      refine compL_mapG D.int (fun c => .int (1 * c)) hF F [] (fun c hc N hN => ?_) ?_
      · walk_at "wpx"
        exact ⟨mulOk bs (b3 c hc) (by decide) (by omega), hN⟩
      refine ⟨_, _, rfl, .inr (by rw [List.nil_append, res_l, ← dI_map]), by rw [List.length_map]; omega, ?_⟩
      simp only [seqD_of hL]
      refine compL_mapG D.int (fun c => .int (1 * c)) hL L [] (fun c hc N hN => ?_) ?_
      · walk_at "wpx"
        exact ⟨mulOk bs (b2 c hc) (by decide) (by omega), hN⟩
      refine ⟨_, _, rfl, .inr (by rw [List.nil_append, res_l, ← dI_map]), by rw [List.length_map]; omega, by decide, ?_⟩
      refine ⟨S, sb, h _ _ _ fin ?_⟩
      unfold lprt
      rw [hNN, ← hr]
      show _ = lprE (T, L, F)
      unfold lprE lsg
      rw [if_pos cp]
    · simp only [cp, decide_false, Bool.false_eq_true, if_false]
      have fin := parted_fin (s := -1) (.inr rfl) (by omega) ld0 hNN (show j ≤ N by omega) b1 b2 b3 l2 hz he
      have bs := bs (-1) (.inr rfl)
      walk_at "wpc"
      refine ⟨mulOk bs b1 (by decide) (by omega), ?_⟩
      simp only [seqD_of hF]
      refine compL_mapG D.int (fun c => .int (-1 * c)) hF F [] (fun c hc N hN => ?_) ?_
      · walk_at "wpx"
        exact ⟨mulOk bs (b3 c hc) (by decide) (by omega), hN⟩
      refine ⟨_, _, rfl, .inr (by rw [List.nil_append, res_l, ← dI_map]), by rw [List.length_map]; omega, ?_⟩
      simp only [seqD_of hL]
      refine compL_mapG D.int (fun c => .int (-1 * c)) hL L [] (fun c hc N hN => ?_) ?_
      · walk_at "wpx"
        exact ⟨mulOk bs (b2 c hc) (by decide) (by omega), hN⟩
      refine ⟨_, _, rfl, .inr (by rw [List.nil_append, res_l, ← dI_map]), by rw [List.length_map]; omega, by decide, ?_⟩
      refine ⟨S, sb, h _ _ _ fin ?_⟩
      unfold lprt
      rw [hNN, ← hr]
      show _ = lprE (T, L, F)
      unfold lprE lsg
      rw [if_neg cp]
  · rintro dd rest ρ S' N' ⟨k, j, T, L, F, x5, x6, x7, x8, l, f, hk, hj, rfl, hL, hF, hlf, hSl, hSf, sb, hT, b1, b2, b3, l1, l2, hz, he, hr⟩ hN'
    cases k with
    | zero => cases hk
    | succ k =>
    obtain ⟨rfl, rfl⟩ := List.cons.inj hk
    refine ⟨trivial, ?_⟩
    walk_at "wpc"
    simp only [res_of hL]
    have eij : (k : Int) + ((dI d).length : Int) - 1 = ((k + d.length - 1 : Nat) : Int) := by rw [dI_len]; omega
    rw [eij, dI_at (by omega)]
    walk_at "wpx"
    walk_at "wpc"
    by_cases cz : cf L (k + d.length - 1) = 0
    · simp only [cz, decide_true, Bool.not_true, Bool.false_eq_true, if_false]
      try dsimp only
      try rw [wpB]
      try rw [wpB]
      have bx := b1
      refine hN' _ _ ⟨k, j + 1, T, L, F, _, _, _, _, l, f, rfl, by omega, rfl, hL, hF, hlf, hSl, hSf, sb, hT, b1.mono ?_, b2.mono ?_, b3.mono ?_, l1, l2, fun i hi => ?_, he, ?_⟩
      · rw [Nat.add_mul]; omega
      · rw [Nat.add_mul]; omega
      · rw [Nat.add_mul]; omega
      · by_cases e : i = k + d.length - 1
        · rw [e]; exact cz
        · exact hz i (by omega)
      · rw [← hr, lpR]
        unfold lpS
        rw [if_pos cz]
    · rw [decide_eq_false cz, Bool.not_false, if_pos rfl]
      walk_at "wpc"
      simp only [seqD_of hL]
      have btop : Bd b (cf d (d.length - 1)) := bd.cf _
      have jb : (j + 1) * (b + 1) ≤ N * (b + 1) := Nat.mul_le_mul_right _ (by omega)
      have js : (j + 1) * (b + 1) = j * (b + 1) + (b + 1) := by rw [Nat.add_mul, Nat.one_mul]
      refine compL_mapG D.int (fun c => .int (c * cf d (d.length - 1))) hL L [] (fun c hc N hN => ?_) ?_
      · walk_at "wpx"
        rw [top_at ne]
        walk_at "wpx"
        exact ⟨mulOk (b2 c hc) btop (by omega) (by omega), hN⟩
      rw [top_at ne, List.nil_append, dI_mulr]
      refine fun l' hl' => ?_
      walk_at "wpx"
      refine ⟨mulOk b1 btop (by omega) (by omega), ?_⟩
      walk_at "wpc"
      have n1 : f ≠ l' := fun e => by rw [← e, hF] at hl'; cases hl'
      have hF1 : sup S' l' (.lst (dI (L.map fun x => x * cf d (d.length - 1)))) f = some (.lst (dI F)) := by rw [sup_ne n1]; exact hF
      simp only [seqD_of hF1]
      refine compL_mapG D.int (fun c => .int (c * cf d (d.length - 1))) hF1 F [] (fun c hc N hN => ?_) ?_
      · walk_at "wpx"
        rw [top_at ne]
        walk_at "wpx"
        exact ⟨mulOk (b3 c hc) btop (by omega) (by omega), hN⟩
      rw [List.nil_append, dI_mulr]
      refine fun f' hf' => ?_
      have n2 : l' ≠ f' := fun e => by rw [← e, sup_same] at hf'; cases hf'
      have hl0 : S l' = none := by
        cases q : S l' with
        | none => rfl
        | some o => rw [sb _ _ q] at hl'; cases hl'
      have hf0' : S f' = none := by
        rw [sup_ne (fun e => n2 e.symm)] at hf'
        cases q : S f' with
        | none => rfl
        | some o => rw [sb _ _ q] at hf'; cases hf'
      walk_at "wpc"
      generalize htp : cf d (d.length - 1) = tp at *
      generalize hla : cf L (k + d.length - 1) = la at *
      have bla : Bd (a + j * (b + 1)) la := by rw [← hla]; exact b2.cf _
      rw [dI_at (by rw [List.length_map]; omega)]
      walk_at "wpx"
      refine ⟨_, _, _, k, rfl, rfl, sup_same, ix_nat (by rw [dI_len, List.length_map]; omega), ?_⟩
      rw [dI_set]
      simp only [sup_sup]
      have cF : ∀ n, cf ((F.map fun x => x * tp).set k (cf (F.map fun x => x * tp) k + la)) n = cf (pplus (pby tp F) (mono k la)) n := fun n => by
        rw [cf_set (by rw [List.length_map]; omega), cf_pplus, cf_pby, cf_mono, cf_map (fun x => x * tp) (Int.zero_mul _), cf_map (fun x => x * tp) (Int.zero_mul _)]
        by_cases e : n = k
        · rw [if_pos e, if_pos e, e, Int.mul_comm]
        · rw [if_neg e, if_neg e, Int.mul_comm]; omega
      have lF : ((F.map fun x => x * tp).set k (cf (F.map fun x => x * tp) k + la)).length = N := by rw [List.length_set, List.length_map]; exact l2
      generalize ((F.map fun x => x * tp).set k (cf (F.map fun x => x * tp) k + la)) = F2 at *
      have cL : ∀ n, cf (L.map fun x => x * tp) n = tp * cf L n := fun n => by rw [cf_map (fun x => x * tp) (Int.zero_mul _), Int.mul_comm]
      have lL : (L.map fun x => x * tp).length = p.length := by rw [List.length_map]; exact l1
      generalize (L.map fun x => x * tp) = L1 at *
      generalize (F.map fun x => x * tp) = F1 at *
      walk_at "wpc"
      refine forL_ind (fun rest ρ S2 => ∃ i L2 x7 x8, i ≤ d.length ∧ rest = enumD i (dI (d.drop i)) ∧ ρ = [some (P p), some (P d), some (.ref l'), some (.int (T * tp)), some (.ref f'), some (.int k), some (.int la), x7, x8, none] ∧ S2 l' = some (.lst (dI L2)) ∧ S2 f' = some (.lst (dI F2)) ∧ Sub S S2 ∧
        L2.length = p.length ∧ ∀ n, cf L2 n = tp * cf L n - if k ≤ n ∧ n - k < i then la * cf d (n - k) else 0) ?_ ?_ _ _ _ ⟨0, L1, _, _, Nat.zero_le _, rfl, rfl, ?_, sup_same, sub_set hf0' (sub_set hl0 sb), lL, fun n => by rw [cL, if_neg (by omega)]; omega⟩
      rotate_left 2
      · rw [sup_ne n2, sup_same]
      · rintro ρ S2 ⟨i, L2, x7, x8, hi, er, rfl, h1, h2, h3, h4, h5⟩
        have hi2 : i = d.length := by
          cases hd : d.drop i with
          | nil => have := List.drop_eq_nil_iff.mp hd; omega
          | cons c l => rw [hd] at er; cases er
        subst hi2
        have cL2 : ∀ n, cf L2 n = cf (pplus (pby tp L) (pby (-1) (pmul (mono k la) d))) n := fun n => by
          rw [h5, cf_pplus, cf_pby, cf_pby, cf_pmul, conv_mono]
          by_cases e : k ≤ n
          · by_cases e2 : n - k < d.length
            · rw [if_pos ⟨e, e2⟩, if_pos e]; omega
            · rw [if_neg (fun z => e2 z.2), if_pos e, cf_ge (p := d) (by omega), Int.mul_zero]; omega
          · rw [if_neg (fun z => e z.1), if_neg e]; omega
        refine ⟨trivial, ?_⟩
        try dsimp only
        try rw [wpB]
        try rw [wpB]
        refine hN' _ _ ⟨k, j + 1, T * tp, L2, F2, _, _, _, _, l', f', rfl, by omega, rfl, h1, h2, n2, hl0, hf0', h3, Int.mul_ne_zero hT top, ?_, ?_, ?_, h4, lF, fun i hi => ?_, fun n => ?_, ?_⟩
        · exact (b1.mul btop).mono (by omega)
        · exact bdp_of fun i => by rw [cL2]; exact ((bd_step b2 bd btop bla).cf i).mono (by omega)
        · exact bdp_of fun i => by rw [cF]; exact ((bd_pplus (bd_pby b3 btop) ((bd_mono bla).mono (show _ ≤ b + (a + j * (b + 1)) by omega))).cf i).mono (by omega)
        · rw [h5]
          by_cases e : i = k + d.length - 1
          · subst e
            rw [if_pos (by omega), hla]
            have : k + d.length - 1 - k = d.length - 1 := by omega
            rw [this, htp, Int.mul_comm]; omega
          · rw [hz i (by omega), if_neg (by omega)]; omega
        · rw [pei_ext n _ _ cL2, pei_ext n _ _ cF]
          exact pdv_step he k n
        · rw [← hr, lpR]
          unfold lpS
          rw [if_neg (by show ¬ cf L _ = 0; rw [hla]; exact cz)]
          show _ = lpR d k (T * cf d (d.length - 1), _, _)
          rw [htp]
          have eL : L2 = (List.range L.length).map fun n => tp * cf L n - if k ≤ n ∧ n - k < d.length then la * cf d (n - k) else 0 := by
            refine List.ext_getElem (by rw [List.length_map, List.length_range, h4, l1]) fun n g1 g2 => ?_
            rw [List.getElem_map, List.getElem_range, ← h5, cf_lt g1]
          have eF : F2 = (List.range F.length).map fun n => tp * cf F n + if n = k then la else 0 := by
            refine List.ext_getElem (by rw [List.length_map, List.length_range, lF, l2]) fun n g1 g2 => ?_
            rw [List.getElem_map, List.getElem_range, ← cf_lt g1, cF, cf_pplus, cf_pby, cf_mono]
          rw [eL, eF, ← hla]
      · rintro dd rest ρ S2 N2 ⟨i, L2, x7, x8, hi, er, rfl, h1, h2, h3, h4, h5⟩ hN2
        cases hd : d.drop i with
        | nil => rw [hd] at er; cases er
        | cons c l =>
          have hi2 : i < d.length := by
            have := congrArg List.length hd
            rw [List.length_drop, List.length_cons] at this
            omega
          rw [drop_cf hi2] at hd
          obtain ⟨rfl, rfl⟩ := List.cons.inj hd
          rw [drop_cf hi2] at er
          cases er
          refine ⟨trivial, ?_⟩
          have eki : (k : Int) + (i : Int) = ((k + i : Nat) : Int) := by omega
          walk_at "wpx"
          walk_at "wpc"
          simp only [res_of h1]
          rw [eki, dI_at (by omega)]
          walk_at "wpx"
          refine ⟨mulOk bla (bd.cf i) (by omega) (by omega), l', dI L2, _, k + i, rfl, rfl, h1, ix_nat (by rw [dI_len]; omega), ?_⟩
          rw [dI_set]
          rw [wpB]
          refine hN2 _ _ ⟨i + 1, _, _, _, hi2, rfl, rfl, sup_same, by rw [sup_ne (fun e => n2 e.symm)]; exact h2, sub_set hl0 h3, by rw [List.length_set]; exact h4, fun n => ?_⟩
          rw [cf_set (by omega)]
          by_cases e : n = k + i
          · have : n - k = i := by omega
            rw [if_pos e, if_pos (by omega), h5, if_neg (by omega), e, show k + i - k = i by omega]; omega
          · rw [if_neg e, h5]
            by_cases l : k ≤ n ∧ n - k < i
            · rw [if_pos l, if_pos (by omega)]
            · rw [if_neg l, if_neg (by omega)]

theorem gOk_13 : ∀ m, m ≤ 13 → ∀ l, l ≤ 13 → gOk (l + 1) m 610 l 610 = true := by decide +kernel

theorem sok_exact_in : SpecOk Gm d_exact_in := by
  rintro ds S R Q ⟨p, d, s, a, b, rfl, I, ns, e, h⟩
  refine ⟨rfl, ?_⟩
  show wpB Gm b_exact_in _ _ [some (P p), some (P d)] S
  unfold b_exact_in
  walk_at "wpc"
  refine eqD_it (n := 1) (m := 1) (it_t p) (fun _ h => nomatch h) (by decide) (by decide) (fun z => ?_) (fun z => ?_)
  · have e0 : p = [] := dI_nil (D.tup.inj z)
    subst e0
    have : s = [] := by
      have : pmul s d = [] := pei_inj (nrm_pmul ns I.nd) nrm_nil fun x => by rw [pei_pmul, ← e]
      exact (pmul_zero this).resolve_right I.ne
    subst this
    walk_at "wpx"
    exact rtq h
  · walk_at "wpx"
    refine ⟨p, d, a, b, rfl, I, fun t q r B one => ?_⟩
    walk_at "wpx"
    have t1 := one ⟨s, ns, e⟩
    subst t1
    have D : Pdv p d 1 s [] := ⟨by decide, ns, nrm_nil, List.length_pos_iff.mpr I.ne, fun n => by rw [pei_nil, e]; omega⟩
    have u := (Pdv.uniq I.nd B.dv D).1
    have eq : q = s := pei_inj B.dv.hq ns fun x => by
      have := congrArg (fun l => pei l x) u
      simp only [pei_pby] at this
      omega
    rw [eq]
    exact rtq h
/-- bounds of the common one -/
theorem gf_pd {T B g h1 h2 : List Int} (I : RI T B) (z : T ≠ []) (F : GF T B g h1 h2) : PdIn 610 1100 T g ∧ PdIn 610 1100 B g := by
  have key : ∀ {A s : List Int}, Nrm A → A ≠ [] → BdP 610 A → A.length ≤ 13 → Nrm s → (∀ x, pei A x = pei s x * pei g x) → PdIn 610 1100 A g := fun {A s} nA zA bA lA ns e => by
    have eA : A = pmul s g := pei_inj nA (nrm_pmul ns F.ng) fun x => by rw [e, pei_pmul]
    have s0 : s ≠ [] := fun q => zA (by rw [eA, q]; unfold pmul; rw [if_pos (.inl rfl)])
    have sl := List.length_pos_iff.mpr s0
    have lg : g.length ≤ A.length := by rw [eA, pmul_length s0 F.ge]; omega
    have bg : BdP (610 + 13 * (2 * 5 + 4)) g := bd_fac (L := 13) (k := 5) (by decide) (pei_ne nA zA) bA lA (by omega) e
    refine ⟨nA, F.ng, F.ge, by omega, by omega, bA, bg.mono (by decide), ?_⟩
    unfold xb
    have : (A.length + 1 - g.length) * (1100 + 1) ≤ 14 * 1101 := Nat.mul_le_mul (by omega) (by decide)
    omega
  exact ⟨key I.nT z I.bT I.lT F.n1 F.e1, key I.nB I.ne I.bB I.lB F.n2 F.e2⟩

theorem lpD_whole {T g h q r : List Int} {a b : Nat} {t : Int} (nh : Nrm h) (ng : Nrm g) (ge : g ≠ []) (e : ∀ x, pei T x = pei h x * pei g x) (B : PdB a b T g t q r) : lpD t q = .tup [.int 1, P h] := by
  have D : Pdv T g 1 h [] := ⟨by decide, nh, nrm_nil, List.length_pos_iff.mpr ge, fun n => by rw [pei_nil, e]; omega⟩
  rw [lpD_uniq B.pos (by decide) (Pdv.uniq ng B.dv D).1]
  unfold lpD
  have g1 : Int.gcd 1 (pcon h) = 1 := Int.one_gcd ..
  rw [g1]
  have : (h.map fun c => c.fdiv ((1 : Nat) : Int)) = h := by
    show (h.map fun c => c.fdiv (1 : Int)) = h
    rw [List.map_congr_left (g := id) fun c _ => Int.fdiv_one c, List.map_id]
  rw [this]
  rfl
theorem pby_one {p : List Int} (np : Nrm p) : pby 1 p = p := pei_inj (nrm_pby' np) np fun x => by rw [pei_pby, Int.one_mul]
theorem gf_len {T B g h1 h2 : List Int} (I : RI T B) (z : T ≠ []) (F : GF T B g h1 h2) : (BdP 1100 h1 ∧ h1.length ≤ 13) ∧ BdP 1100 h2 ∧ h2.length ≤ 13 := by
  have a1 := I.lT
  have a2 := I.lB
  have e1 : T = pmul h1 g := pei_inj I.nT (nrm_pmul F.n1 F.ng) fun x => by rw [F.e1, pei_pmul]
  have e2 : B = pmul h2 g := pei_inj I.nB (nrm_pmul F.n2 F.ng) fun x => by rw [F.e2, pei_pmul]
  have q : h1 ≠ [] := fun q => z (by rw [e1, q]; unfold pmul; rw [if_pos (.inl rfl)])
  have gl := List.length_pos_iff.mpr F.ge
  have l2 := congrArg List.length e2
  rw [pmul_length F.ne F.ge] at l2
  have l1 := congrArg List.length e1
  rw [pmul_length q F.ge] at l1
  have f1 : BdP (610 + 13 * (2 * 5 + 4)) h1 := bd_fac (L := 13) (k := 5) (s := g) (by decide) (pei_ne I.nT z) I.bT I.lT (by omega) fun x => by rw [F.e1, Int.mul_comm]
  have f2 : BdP (610 + 13 * (2 * 5 + 4)) h2 := bd_fac (L := 13) (k := 5) (s := g) (by decide) (pei_ne I.nB I.ne) I.bB I.lB (by omega) fun x => by rw [F.e2, Int.mul_comm]
  exact ⟨⟨f1.mono (by decide), by omega⟩, f2.mono (by decide), by omega⟩

theorem gOk_11 : ∀ m, m ≤ 11 → ∀ l, l ≤ 11 → gOk (l + 1) m 2000 l 2000 = true := by decide +kernel
theorem cg_all {l : Ln} (n : NrL l) : CG [] l (cgf [] l) := cg_ex l [] n nrm_nil fun h => absurd rfl h
theorem fac_bd {k : Nat} {p q g : List Int} (np : Nrm p) (nq : Nrm q) (ng : Nrm g) (pe : p ≠ []) (bp : BdP k p) (lp : p.length ≤ 11) (e : ∀ x, pei p x = pei q x * pei g x) : BdP (k + 154) g ∧ g.length ≤ 11 := by
  have e1 : p = pmul q g := pei_inj np (nrm_pmul nq ng) fun x => by rw [e, pei_pmul]
  have q0 : q ≠ [] := fun z => pe (by rw [e1, z]; unfold pmul; rw [if_pos (.inl rfl)])
  have g0 : g ≠ [] := fun z => pe (by rw [e1, z, pmul_nil_r])
  have lq := List.length_pos_iff.mpr q0
  have le := congrArg List.length e1
  rw [pmul_length q0 g0] at le
  have lg : g.length ≤ 11 := by omega
  exact ⟨(bd_fac (L := 11) (k := 5) (by decide) (pei_ne np pe) bp lp lg e).mono (by omega), lg⟩
theorem cg_bd {l : Ln} (n : NrL l) (sb : SB 1600 11 l) : BdP 2000 (cgf [] l) ∧ (cgf [] l).length ≤ 11 := by
  have C := cg_all n
  by_cases g0 : cgf [] l = []
  · rw [g0]; exact ⟨fun _ h => (nomatch h), by decide⟩
  by_cases ex : ∃ p ∈ l, p ≠ []
  · obtain ⟨p, hp, pe⟩ := ex
    obtain ⟨q, nq, eq⟩ := dvs_fac (C.con g0) (C.d p hp)
    obtain ⟨h1, h2⟩ := fac_bd (n p hp) nq C.n pe (sb p hp).1 (sb p hp).2 eq
    exact ⟨h1.mono (by decide), h2⟩
  · exfalso
    apply g0
    obtain ⟨c, u0, us, c0, hb⟩ := C.bz
    refine pei_inj C.n nrm_nil fun x => ?_
    have h := hb x
    have z : sumN l.length (fun i => pei (us i) x * cv l i x) = 0 := sumN_zero fun i hi => by
      have : cp l i = [] := Classical.byContradiction fun z => ex ⟨_, cp_mem hi, z⟩
      unfold cv
      rw [this, pei_nil, Int.mul_zero]
    rw [z, pei_nil, Int.mul_zero, Int.add_zero] at h
    rw [pei_nil]
    exact (Int.mul_eq_zero.mp h).resolve_left c0
theorem cgf_snoc (g : List Int) (l : Ln) (p : List Int) : cgf g (l ++ [p]) = pgcd (plow (cgf g l)) (plow p) := by unfold cgf; rw [List.foldl_append]; rfl
theorem seq_St {S : Sto} {v : D} {s : Ln} {k : List D → (Sto → Prop) → Prop} (hv : v = St s ∨ v = .lst (s.map fun p => P p)) (h : k (s.map fun p => P p) fun _ => True) : seqD S v k := by
  rcases hv with e | e <;> subst e <;> exact h
theorem sok_common_of : SpecOk Gm d_common_of := by
  rintro ds S R Q ⟨s, v, rfl, hv, ns, sb, hl, q⟩
  refine ⟨rfl, ?_⟩
  show wpB Gm b_common_of _ _ [some v, none, none] S
  unfold b_common_of
  walk_at "wpc"
  walk_at "wpc"
  refine seq_St hv ?_
  refine forL_ind (fun rest ρ S' => ∃ (l r : Ln) (x : Option D), s = l ++ r ∧ rest = r.map (fun p => P p) ∧ ρ = [some v, some (P (cgf [] l)), x] ∧ S' = S) ?_ ?_ _ _ _ ⟨[], s, none, rfl, rfl, rfl, rfl⟩
  · rintro ρ S' ⟨l, r, x, es, e, rfl, rfl⟩
    have hr : r = [] := List.map_eq_nil_iff.mp e.symm
    subst hr
    rw [List.append_nil] at es
    subst es
    refine ⟨trivial, ?_⟩
    walk_at "wpc"
    exact rtq q
  · rintro d rest ρ S' N ⟨l, r, x, es, e, rfl, rfl⟩ hN
    cases r with
    | nil => cases e
    | cons c r =>
      cases e
      refine ⟨trivial, ?_⟩
      have nl : NrL l := fun p hp => ns p (by rw [es]; exact List.mem_append_left _ hp)
      have sl : SB 1600 11 l := fun p hp => sb p (by rw [es]; exact List.mem_append_left _ hp)
      have mc : c ∈ s := by rw [es]; exact List.mem_append_right _ List.mem_cons_self
      obtain ⟨b1, b2⟩ := cg_bd nl sl
      obtain ⟨c1, c2⟩ := sb c mc
      walk_at "wpc"
      refine ⟨cgf [] l, c, 2000, 2000, rfl, (cg_all nl).n, ns c mc, ⟨b1.mono (by decide), by omega⟩, ⟨c1.mono (by decide), by omega⟩, b1, c1.mono (by decide), gOk_11 _ b2 _ c2, ?_⟩
      dsimp only
      rw [wpB]
      exact hN _ _ ⟨l ++ [c], r, _, by rw [es]; simp, rfl, by rw [cgf_snoc], rfl⟩
theorem sok_content_of : SpecOk Gm d_content_of := by
  rintro ds S R Q ⟨ps, v, rfl, hv, hp, q⟩
  refine ⟨rfl, ?_⟩
  show wpB Gm b_content_of _ _ [some v, none, none] S
  unfold b_content_of
  walk_at "wpc"
  walk_at "wpc"
  refine seq_St hv ?_
  refine forL_ind (fun rest ρ S' => ∃ (r : List (List Int)) (g : Nat) (x : Option D), rest = r.map (fun p => P p) ∧ (∀ p ∈ r, p.length ≤ 1000) ∧ ρ = [some v, some (.int g), x] ∧ S' = S ∧ r.foldl (fun g p => Int.gcd (g : Int) (pcon p)) g = lcon ps) ?_ ?_ _ _ _ ⟨ps, 0, none, rfl, hp, rfl, rfl, rfl⟩
  · rintro ρ S' ⟨r, g, x, e, hp, rfl, rfl, h⟩
    have hr : r = [] := List.map_eq_nil_iff.mp e.symm
    subst hr
    refine ⟨trivial, ?_⟩
    walk_at "wpc"
    rw [← h] at q
    exact rtq q
  · rintro d rest ρ S' N ⟨r, g, x, e, hp, rfl, rfl, h⟩ hN
    cases r with
    | nil => cases e
    | cons c r =>
      cases e
      refine ⟨trivial, ?_⟩
      walk_at "wpc"
      refine ⟨c, rfl, hp c (.head _), _, _, rfl, ?_⟩
      dsimp only
      rw [wpB]
      exact hN _ _ ⟨r, Int.gcd g (pcon c), some (P c), rfl, fun p hp' => hp p (.tail _ hp'), rfl, rfl, h⟩
/-- bounds for what divides all, and the rests -/
theorem lx_pd {s h t : Ln} {g : List Int} {N : Nat} (X : LX s g N h t) (n : NrL s) (sb : SB 1600 11 s) (ne : ∃ i, cp s i ≠ []) : ∀ i, PdIn 1600 2000 (cp s i) g := by
  obtain ⟨i0, hi0⟩ := ne
  obtain ⟨b1, b2⟩ := fac_bd (n.cp i0) (X.hn.cp i0) X.gn hi0 (sb.cp i0).1 (sb.cp i0).2 fun x => X.e i0 x
  intro i
  obtain ⟨c1, c2⟩ := sb.cp i
  refine ⟨n.cp i, X.gn, X.g0, by omega, by omega, c1, b1.mono (by decide), ?_⟩
  unfold xb
  have : ((cp s i).length + 1 - g.length) * (2000 + 1) ≤ 12 * 2001 := Nat.mul_le_mul (by omega) (by decide)
  omega
theorem lx_h {s h t : Ln} {g : List Int} {N : Nat} (X : LX s g N h t) (n : NrL s) (sb : SB 1600 11 s) (i : Nat) : BdP 1754 (cp h i) ∧ (cp h i).length ≤ 11 := by
  by_cases e : cp s i = []
  · have : cp h i = [] := by
      have : pmul (cp h i) g = [] := pei_inj (nrm_pmul (X.hn.cp i) X.gn) nrm_nil fun x => by
        have h1 := X.e i x
        unfold cv at h1
        rw [pei_pmul, ← h1, e]
      exact (pmul_zero this).resolve_right X.g0
    rw [this]; exact ⟨fun _ h => (nomatch h), by decide⟩
  · exact fac_bd (n.cp i) X.gn (X.hn.cp i) e (sb.cp i).1 (sb.cp i).2 fun x => by rw [Int.mul_comm]; exact X.e i x
theorem lx_cp {s h t : Ln} {g : List Int} {N : Nat} (X : LX s g N h t) (i : Nat) : cp t i = (cp h i).map fun c => c.fdiv (N : Int) := by
  conv => lhs; rw [X.tf]
  exact cp_map (fun p : List Int => p.map fun c => c.fdiv (N : Int)) rfl h i
theorem take_succ_cp {s : Ln} {i : Nat} (h : i < s.length) : s.take (i + 1) = s.take i ++ [cp s i] := by
  rw [List.take_succ, List.getElem?_eq_getElem h, cp_lt h]; rfl
theorem del_new {S : Sto} {p : Addr} {o : DO} (h : S p = none) : sdel (sup S p o) p = S := by
  funext x
  unfold sdel sup
  by_cases e : x = p
  · rw [if_pos e, e, h]
  · rw [if_neg e, if_neg e]
theorem dx_pd {s h t : Ln} {g : List Int} {N : Nat} (X : DX s g N h t) (n : NrL s) (sb : SB 1600 11 s) : ∀ i, PdIn 1600 2000 (cp s i) g := by
  intro i
  obtain ⟨c1, c2⟩ := sb.cp i
  have := X.lg
  refine ⟨n.cp i, X.gn, X.g0, by omega, by omega, c1, X.bg, ?_⟩
  unfold xb
  have : ((cp s i).length + 1 - g.length) * (2000 + 1) ≤ 12 * 2001 := Nat.mul_le_mul (by omega) (by decide)
  omega
theorem lx_dx {s h t : Ln} {g : List Int} {N : Nat} (X : LX s g N h t) (n : NrL s) (sb : SB 1600 11 s) (ne : ∃ i, cp s i ≠ []) : DX s g N h t := by
  obtain ⟨i0, hi0⟩ := ne
  obtain ⟨b1, b2⟩ := fac_bd (n.cp i0) (X.hn.cp i0) X.gn hi0 (sb.cp i0).1 (sb.cp i0).2 fun x => X.e i0 x
  exact ⟨X.gn, X.g0, b1.mono (by decide), b2, X.N0, X.hl, X.hn, X.e, X.tf⟩
theorem dx_h {s h t : Ln} {g : List Int} {N : Nat} (X : DX s g N h t) (n : NrL s) (sb : SB 1600 11 s) (i : Nat) : BdP 1754 (cp h i) ∧ (cp h i).length ≤ 11 := by
  by_cases e : cp s i = []
  · have : cp h i = [] := by
      have : pmul (cp h i) g = [] := pei_inj (nrm_pmul (X.hn.cp i) X.gn) nrm_nil fun x => by
        have h1 := X.e i x
        unfold cv at h1
        rw [pei_pmul, ← h1, e]
      exact (pmul_zero this).resolve_right X.g0
    rw [this]; exact ⟨fun _ h => (nomatch h), by decide⟩
  · exact fac_bd (n.cp i) X.gn (X.hn.cp i) e (sb.cp i).1 (sb.cp i).2 fun x => by rw [Int.mul_comm]; exact X.e i x
theorem dx_cp {s h t : Ln} {g : List Int} {N : Nat} (X : DX s g N h t) (i : Nat) : cp t i = (cp h i).map fun c => c.fdiv (N : Int) := by
  conv => lhs; rw [X.tf]
  exact cp_map (fun p : List Int => p.map fun c => c.fdiv (N : Int)) rfl h i
theorem sok_divided : SpecOk Gm d_divided := by
  rintro ds S R Q ⟨s, h, t, g, N, rfl, X, n, sb, hl, q⟩
  refine ⟨rfl, ?_⟩
  show wpB Gm b_divided _ _ [some (St s), some (P g), some (.int N), none, none] S
  unfold b_divided
  walk_at "wpc"
  refine ⟨by decide, fun r hr => ?_⟩
  walk_at "wpc"
  have l1 := X.hl
  have l2 : t.length = s.length := by rw [X.tf, List.length_map, X.hl]
  refine forL_ind (fun rest ρ S' => ∃ (i : Nat) (x : Option D), i ≤ s.length ∧ rest = (s.drop i).map (fun p => P p) ∧ ρ = [some (St s), some (P g), some (.int N), some (.ref r), x] ∧ S' = sup S r (.lst ((t.take i).map fun p => P p))) ?_ ?_ _ _ _ ⟨0, none, Nat.zero_le _, rfl, rfl, rfl⟩
  · rintro ρ S' ⟨i, x, hi, e, rfl, rfl⟩
    have hi2 : i = s.length := by
      have := List.drop_eq_nil_iff.mp (List.map_eq_nil_iff.mp e.symm)
      omega
    subst hi2
    refine ⟨trivial, ?_⟩
    rw [← l2, List.take_length]
    walk_at "wpc"
    exact ⟨r, _, rfl, sup_same, by rw [del_new hr]; exact rtq q⟩
  · rintro d rest ρ S' M ⟨i, x, hi, e, rfl, rfl⟩ hM
    cases hd : s.drop i with
    | nil => rw [hd] at e; cases e
    | cons c l =>
      have hi2 : i < s.length := by
        have := congrArg List.length hd
        rw [List.length_drop, List.length_cons] at this
        omega
      rw [drop_cp hi2] at hd
      obtain ⟨rfl, rfl⟩ := List.cons.inj hd
      rw [drop_cp hi2] at e
      cases e
      refine ⟨trivial, ?_⟩
      walk_at "wpc"
      refine ⟨r, rfl, ⟨_, sup_same⟩, cp s i, g, cp h i, 1600, 2000, rfl, dx_pd X n sb i, X.hn.cp i, fun x => X.e i x, ?_⟩
      refine ⟨cp h i, N, rfl, by have := X.N0; omega, Nat.le_trans (dx_h X n sb i).2 (by decide), ?_⟩
      refine ⟨_, sup_same, by rw [len_St, List.length_take]; exact Nat.lt_of_le_of_lt (Nat.min_le_left _ _) (by rw [sizeLine_eq]; omega), ?_⟩
      rw [sup_sup, wpB]
      refine hM _ _ ⟨i + 1, _, hi2, rfl, rfl, ?_⟩
      rw [take_succ_cp (by omega), List.map_append, dx_cp X]; rfl
theorem lx_s {s h t : Ln} {g : List Int} {N : Nat} (X : LX s g N h t) (hs : NSt s) (ne : s ≠ []) : NSt t := by
  refine ⟨X.L.n, fun _ e => ?_⟩
  rw [X.tl] at e
  exact hs.top ne ((Prp.nil hs.n X.L.n X.prp _).mpr e)
theorem nst_neg {t : Ln} (h : NSt t) : NSt (t.map (pby (-1))) := by
  refine ⟨fun p hp => ?_, fun ne e => ?_⟩
  · obtain ⟨q, hq, e⟩ := List.mem_map.mp hp
    rw [← e]; exact nrm_pby' (h.n q hq)
  · rw [List.length_map, cp_map (pby (-1)) (by decide)] at e
    have e2 := pby_length (k := -1) (p := cp t (t.length - 1)) (by decide)
    rw [e] at e2
    exact h.top (fun z => ne (by rw [z]; rfl)) (List.eq_nil_of_length_eq_zero e2.symm)
theorem tpc_neg (t : Ln) : tpc (t.map (pby (-1))) = -tpc t := by
  unfold tpc
  rw [List.length_map, cp_map (pby (-1)) (by decide), (pby_top (by decide)).2]; omega
theorem tpc_ne {t : Ln} (h : NSt t) (ne : t ≠ []) : tpc t ≠ 0 := nrm_top (h.n.cp _) (h.top ne)
theorem lowS_uniq {s t t' : Ln} (h : LowS s t) (h' : LowS s t') : t = t' := by
  have P := h.p.symm.trans h'.p
  refine nst_ext_v h.n h'.n (low_pos h.L h'.L P (t.length - 1) h.pos ?_)
  have := h'.pos
  unfold tpc at this
  rwa [← P.1] at this
theorem bd_over {k : Nat} {g : Int} {p : List Int} (hg : g ≠ 0) (h : ∀ i, g ∣ cf p i) (b : BdP k p) : BdP k (p.map fun c => c.fdiv g) := bdp_of fun i => by
  have hc : g * cf (p.map fun c => c.fdiv g) i = cf p i := by
    rw [cf_map (fun c => c.fdiv g) (Int.zero_fdiv _), Int.fdiv_eq_ediv_of_dvd (h i)]
    exact Int.mul_ediv_cancel' (h i)
  have z := b.cf i
  rw [← hc] at z
  unfold Bd at *
  rw [Int.natAbs_mul] at z
  exact Nat.lt_of_le_of_lt (Nat.le_mul_of_pos_left _ (by omega)) z
theorem lx_t {s h t : Ln} {g : List Int} {N : Nat} (X : LX s g N h t) (n : NrL s) (sb : SB 1600 11 s) (i : Nat) : BdP 1754 (cp t i) ∧ (cp t i).length ≤ 11 := by
  obtain ⟨h1, h2⟩ := lx_h X n sb i
  have N0 : (N : Int) ≠ 0 := by have := X.N0; omega
  rw [lx_cp X]
  refine ⟨bd_over N0 (fun j => ?_) h1, by rw [List.length_map]; exact h2⟩
  rw [X.ht, cf_pby]
  exact Int.dvd_mul_right _ _
theorem sok_lowest_step : SpecOk Gm d_lowest_step := by
  rintro ds S R Q ⟨s, rfl, I, q⟩
  refine ⟨rfl, ?_⟩
  show wpB Gm b_lowest_step _ _ [some (St s), none, none, none, none] S
  unfold b_lowest_step
  have l0 := List.length_pos_iff.mpr I.ne
  have top := I.n.top I.ne
  have sl := I.len
  obtain ⟨h, t, X⟩ := lowl_ex I.n.n ⟨_, top⟩
  walk_at "wpc"
  refine ⟨s, _, rfl, .inl rfl, I.n.n, I.sb, by omega, ?_⟩
  refine ⟨s, _, rfl, .inl rfl, fun p hp => Nat.le_trans (I.sb p hp).2 (by decide), ?_⟩
  walk_at "wpc"
  refine ⟨s, h, t, _, _, rfl, lx_dx X I.n.n I.sb ⟨_, top⟩, I.n.n, I.sb, by omega, ?_⟩
  have nt := lx_s X I.n I.ne
  have tl := X.tl
  have te : t ≠ [] := fun z => by rw [z] at tl; simp at tl; omega
  have ntop := nt.top te
  walk_at "wpc"
  rw [last_St te]
  walk_at "wpx"
  rw [top_at ntop]
  walk_at "wpx"
  by_cases c : 0 < tpc t
  · have c' := c
    unfold tpc at c'
    rw [decide_eq_true c', if_pos rfl]
    exact rtq (q t ⟨X.L, nt, X.prp, c⟩)
  · have c' := c
    unfold tpc at c'
    rw [decide_eq_false c', if_neg Bool.false_ne_true]
    refine compL_mapG (fun p => P p) (fun p => P (pby (-1) p)) trivial t [] (fun p hp M hM => ?_) ?_
    · obtain ⟨i, hi, e⟩ := List.mem_iff_getElem.mp hp
      obtain ⟨b1, b2⟩ := lx_t X I.n.n I.sb i
      rw [cp_lt hi, e] at b1 b2
      walk_at "wpx"
      exact ⟨_, p, rfl, Bd.mono (k := 1) (by unfold Bd; decide) (by decide), ⟨b1.mono (by decide), by omega⟩, hM⟩
    · rw [List.nil_append]
      have := q (t.map (pby (-1))) ⟨X.L.neg, nst_neg nt, X.prp.neg, by rw [tpc_neg]; have := tpc_ne nt te; omega⟩
      have e : St (t.map (pby (-1))) = D.tup (t.map fun p => P (pby (-1) p)) := by
        show D.tup _ = _
        rw [List.map_map]; rfl
      rw [e] at this
      try walk_at "wpx"
      exact rtq this

theorem comp_fil {ρ : DL.Env} {S : Sto} {bd : D → DL.Env → Sto → (DL.Env → Sto → Prop) → Prop} {tw : DL.Env → Sto → (Bool → Sto → Prop) → Prop} {ew : DL.Env → Sto → QD → Prop} {B : List D → Prop} {C : Sto → Prop} {K : List D → Sto → Prop} (hC : C S) (hB : ∀ a, B a) :
    ∀ (s : Ln) (acc : List D), (∀ (p : List Int) (N1 : D → Sto → Prop) (N2 : Sto → Prop), (p = [] → N2 S) → (p ≠ [] → N1 (P p) S) → bd (P p) ρ S fun ρ' S1 => tw ρ' S1 fun b S2 => if b = true then ew ρ' S2 N1 else N2 S2) → K (acc ++ (s.filter fun p => !p.isEmpty).map fun p => P p) S → compL bd tw ew B C K ρ (s.map fun p => P p) S acc
  | [], acc, h, q => ⟨hC, by simpa using q⟩
  | p :: s, acc, h, q => ⟨hC, by
    refine h p _ _ (fun e => ?_) fun e => ?_
    · refine comp_fil hC hB s acc h ?_
      subst e
      exact q
    · refine ⟨hB _, comp_fil hC hB s _ h ?_⟩
      have e' : (!p.isEmpty) = true := by simpa using e
      rw [List.filter_cons, if_pos e'] at q
      rw [List.append_assoc]; exact q⟩
theorem mapP_idx (s : Ln) : (s.map fun p => P p) = (List.range s.length).map fun i => P (cp s i) := by
  refine List.ext_getElem (by simp) fun i h1 h2 => ?_
  simp only [List.getElem_map, List.getElem_range]
  rw [cp_lt (by simpa using h1)]
theorem fst1_map {s : Ln} (f : List Int → List Int) (hf : ∀ p, f p = [] ↔ p = []) : fst1 (s.map f) = f (fst1 s) := by
  unfold fst1
  induction s with
  | nil => exact ((hf []).mpr rfl).symm
  | cons p s ih =>
    rw [List.map_cons, List.filter_cons, List.filter_cons]
    by_cases e : p = []
    · have e' : f p = [] := (hf p).mpr e
      rw [e', e]; exact ih
    · have e' : f p ≠ [] := fun z => e ((hf p).mp z)
      have h1 : (!p.isEmpty) = true := by simpa using e
      have h2 : (!(f p).isEmpty) = true := by simpa using e'
      rw [if_pos h1, if_pos h2]; rfl
theorem fst1_ne {s : Ln} (h : ∃ p ∈ s, p ≠ []) : ∃ r, (s.filter fun p => !p.isEmpty) = fst1 s :: r ∧ fst1 s ≠ [] ∧ fst1 s ∈ s := by
  obtain ⟨p, hp, e⟩ := h
  have hm : p ∈ s.filter fun p => !p.isEmpty := List.mem_filter.mpr ⟨hp, by simpa using e⟩
  unfold fst1
  cases hf : s.filter fun p => !p.isEmpty with
  | nil => rw [hf] at hm; cases hm
  | cons a r =>
    have ha : a ∈ s.filter fun p => !p.isEmpty := by rw [hf]; exact List.mem_cons_self
    have := List.mem_filter.mp ha
    exact ⟨r, rfl, by simpa using this.2, this.1⟩
theorem fdiv_neg {c : Int} {N : Nat} (hN : N ≠ 0) (h : (N : Int) ∣ c) : c.fdiv (0 - (N : Int)) = -(c.fdiv (N : Int)) := by
  obtain ⟨k, rfl⟩ := h
  have n0 : (N : Int) ≠ 0 := by omega
  rw [Int.fdiv_eq_ediv_of_dvd (Int.dvd_mul_right _ _), Int.fdiv_eq_ediv_of_dvd ⟨-k, by grind⟩, Int.mul_ediv_cancel_left _ n0, show (N : Int) * k = (0 - (N : Int)) * (-k) by grind, Int.mul_ediv_cancel_left _ (by omega)]
theorem sok__law_fm_lowest : SpecOk Gm d__law_fm_lowest := by
  rintro ds S R Q ⟨s, rfl, n, ne, sb, sl, q⟩
  refine ⟨rfl, ?_⟩
  show wpB Gm b__law_fm_lowest _ _ [some (St s), none, none, none, none, none, none, none, none, none] S
  unfold b__law_fm_lowest
  have nei : ∃ i, cp s i ≠ [] := by
    obtain ⟨p, hp, e⟩ := ne
    obtain ⟨i, hi, e2⟩ := List.mem_iff_getElem.mp hp
    exact ⟨i, by rw [cp_lt hi, e2]; exact e⟩
  obtain ⟨h, t, X⟩ := lowl_ex n nei
  have hl := X.hl
  walk_at "wpc"
  refine ⟨by decide, ?_⟩
  walk_at "wpc"
  refine forL_ind (fun rest ρ S' => ∃ (l r : Ln) (x : Option D), s = l ++ r ∧ rest = r.map (fun p => P p) ∧ ρ = [some (St s), some (P (cgf [] l)), x, none, none, none, none, none, none, none] ∧ S' = S) ?_ ?_ _ _ _ ⟨[], s, none, rfl, rfl, rfl, rfl⟩
  · rintro ρ S' ⟨l, r, x, es, e, rfl, rfl⟩
    have hr : r = [] := List.map_eq_nil_iff.mp e.symm
    subst hr
    rw [List.append_nil] at es
    subst es
    refine ⟨trivial, ?_⟩
    walk_at "wpc"
    refine ⟨by decide, eqP_nil ?_⟩
    rw [decide_eq_false X.g0]
    walk_at "wpx"
    rw [wpB]
    walk_at "wpc"
    rw [mapP_idx]
    refine compL_mapG (fun i => P (cp s i)) (fun i => .tup [.int 1, P (cp h i)]) trivial (List.range s.length) [] (fun i hi M hM => ?_) ?_
    · have hi2 : i < s.length := List.mem_range.mp hi
      walk_at "wpx"
      refine ⟨by decide, eqP_nil ?_⟩
      by_cases e0 : cp s i = []
      · rw [decide_eq_true e0]
        walk_at "wpx"
        have : cp h i = [] := by
          have : pmul (cp h i) (cgf [] s) = [] := pei_inj (nrm_pmul (X.hn.cp i) X.gn) nrm_nil fun x => by
            have h1 := X.e i x
            unfold cv at h1
            rw [pei_pmul, ← h1, e0]
          exact (pmul_zero this).resolve_right X.g0
        rw [this] at hM
        exact ⟨by decide, by decide, hM⟩
      · rw [decide_eq_false e0]
        walk_at "wpx"
        refine ⟨cp s i, cgf [] s, 1600, 2000, rfl, lx_pd X n sb nei i, fun t q r B => ?_⟩
        rw [lpD_whole (X.hn.cp i) X.gn X.g0 (fun x => X.e i x) B]
        exact hM
    · rw [List.nil_append]
      walk_at "wpc"
      walk_at "wpc"
      refine forL_ind (fun rest ρ S1 => ∃ (l : List Nat) (x y : Option D), rest = l.map (fun i => D.tup [.int 1, P (cp h i)]) ∧ ρ = [some (St s), some (P (cgf [] s)), x, some (.lst ((List.range s.length).map fun i => D.tup [.int 1, P (cp h i)])), some (.int 1), y, none, none, none, none] ∧ S1 = S') ?_ ?_ _ _ _ ⟨List.range s.length, _, _, rfl, rfl, rfl⟩
      · rintro ρ S1 ⟨l, x, y, e, rfl, rfl⟩
        refine ⟨trivial, ?_⟩
        walk_at "wpc"
        refine compL_mapG (fun i => .tup [.int 1, P (cp h i)]) (fun i => P (cp h i)) trivial (List.range s.length) [] (fun i hi M hM => ?_) ?_
        · walk_at "wpx"
          obtain ⟨h1, h2⟩ := lx_h X n sb i
          refine ⟨by decide, noPy, _, cp h i, rfl, Bd.mono (k := 1) (by unfold Bd; decide) (by decide), ⟨h1.mono (by decide), by omega⟩, ?_⟩
          rw [show Int.fdiv 1 1 = 1 from rfl, pby_one (X.hn.cp i)]
          exact hM
        · rw [List.nil_append, ← hl, ← mapP_idx]
          walk_at "wpc"
          walk_at "wpc"
          have h13 : ∀ p ∈ h, p.length ≤ 11 := fun p hp => by
            obtain ⟨i, hi, e⟩ := List.mem_iff_getElem.mp hp
            have := (lx_h X n sb i).2
            rwa [cp_lt hi, e] at this
          refine forL_ind (fun rest ρ S2 => ∃ (r : List (List Int)) (g : Nat) (x : Option D), rest = r.map (fun p => P p) ∧ (∀ p ∈ r, p.length ≤ 11) ∧ ρ = [some (St s), some (P (cgf [] s)), x, some (.lst ((List.range h.length).map fun i => D.tup [.int 1, P (cp h i)])), some (.int 1), y, some (.lst (h.map fun p => P p)), some (.int g), none, none] ∧ S2 = S1 ∧ r.foldl (fun g p => Int.gcd (g : Int) (pcon p)) g = lcon h) ?_ ?_ _ _ _ ⟨h, 0, _, rfl, h13, rfl, rfl, rfl⟩
          · rintro ρ S2 ⟨r, g, x, e, hp, rfl, rfl, hg⟩
            have hr : r = [] := List.map_eq_nil_iff.mp e.symm
            subst hr
            have hg : g = lcon h := hg
            rw [X.hc] at hg
            subst hg
            refine ⟨trivial, ?_⟩
            walk_at "wpc"
            refine comp_fil trivial (fun _ => trivial) h [] (fun p N1 N2 h1 h2 => ?_) ?_
            · walk_at "wpx"
              refine ⟨by decide, eqP_nil ?_⟩
              by_cases e : p = []
              · rw [decide_eq_true e]; exact h1 e
              · rw [decide_eq_false e]; exact h2 e
            · rw [List.nil_append]
              have hne : ∃ p ∈ h, p ≠ [] := by
                obtain ⟨i, hi⟩ := nei
                have hc : cp h i ≠ [] := fun e => hi (pei_inj (n.cp i) nrm_nil fun x => by
                  have := X.e i x
                  unfold cv at this
                  rw [this, e, pei_nil, Int.zero_mul])
                rcases Nat.lt_or_ge i h.length with w | w
                · exact ⟨_, cp_mem w, hc⟩
                · exact absurd (cp_ge w) hc
              obtain ⟨fr, f1, f2, f3⟩ := fst1_ne hne
              rw [f1, List.map_cons]
              refine ⟨P (fst1 h), at_nat (i := 0) rfl, ?_⟩
              walk_at "wpc"
              rw [top_at f2]
              walk_at "wpx"
              have N0 : (lcon s : Int) ≠ 0 := by have := X.N0; omega
              have Np : 0 < (lcon s : Int) := by omega
              have hE : h = t.map (pby (lcon s)) := List.ext_getElem (by rw [List.length_map, X.tl, hl]) fun i h1 h2 => by
                have := X.ht i
                rw [cp_lt h1, cp_lt (by simpa using h2)] at this
                rw [this, List.getElem_map]
              have pz : ∀ (k : Int), k ≠ 0 → ∀ p, pby k p = [] ↔ p = [] := fun k hk p => ⟨fun e => by
                have := pby_length (k := k) (p := p) hk
                rw [e] at this
                exact List.eq_nil_of_length_eq_zero this.symm, fun e => by rw [e]; unfold pby; split <;> rfl⟩
              have eF : fst1 h = pby (lcon s) (fst1 t) := by
                conv => lhs; rw [hE]
                exact fst1_map _ (pz _ N0)
              have tne : ∃ p ∈ t, p ≠ [] := by
                obtain ⟨p, hp, e⟩ := hne
                rw [hE] at hp
                obtain ⟨p', hp', e'⟩ := List.mem_map.mp hp
                exact ⟨p', hp', fun z => e (by rw [← e']; exact (pz _ N0 p').mpr z)⟩
              obtain ⟨_, _, t2, t3⟩ := fst1_ne tne
              have ttop := nrm_top (X.L.n _ t3) t2
              have eT : cf (fst1 h) ((fst1 h).length - 1) = (lcon s : Int) * cf (fst1 t) ((fst1 t).length - 1) := by rw [eF]; exact (pby_top N0).2
              by_cases c : 0 < cf (fst1 h) ((fst1 h).length - 1)
              · rw [decide_eq_true c, if_pos rfl]
                walk_at "wpc"
                refine compL_mapG (fun p => P p) (fun p => P (p.map fun c => c.fdiv (lcon s : Int))) trivial h [] (fun p hp M hM => ?_) ?_
                · walk_at "wpx"
                  refine compL_mapG D.int (fun c => .int (c.fdiv (lcon s : Int))) trivial p [] (fun c hc N hN => ?_) ?_
                  · walk_at "wpx"
                    exact ⟨N0, noPy, hN⟩
                  · rw [List.nil_append, ← dI_map]
                    try walk_at "wpx"
                    exact hM
                · rw [List.nil_append]
                  try walk_at "wpx"
                  have e : St t = .tup (h.map fun p => P (p.map fun c => c.fdiv (lcon s : Int))) := by
                    rw [X.tf]
                    show D.tup _ = _
                    rw [List.map_map]; rfl
                  have := q t ⟨X.L, X.prp, by
                    rw [eT] at c
                    refine Int.lt_of_not_ge fun z => ?_
                    have := Int.mul_le_mul_of_nonneg_left z (Int.le_of_lt Np)
                    omega⟩
                  rw [e] at this
                  exact rtq this
              · rw [decide_eq_false c, if_neg Bool.false_ne_true]
                walk_at "wpc"
                refine compL_mapG (fun p => P p) (fun p => P (p.map fun c => c.fdiv (0 - (lcon s : Int)))) trivial h [] (fun p hp M hM => ?_) ?_
                · walk_at "wpx"
                  refine compL_mapG D.int (fun c => .int (c.fdiv (0 - (lcon s : Int)))) trivial p [] (fun c hc N hN => ?_) ?_
                  · walk_at "wpx"
                    exact ⟨by omega, noPy, hN⟩
                  · rw [List.nil_append, ← dI_map]
                    try walk_at "wpx"
                    exact hM
                · rw [List.nil_append]
                  try walk_at "wpx"
                  have e : St (t.map (pby (-1))) = .tup (h.map fun p => P (p.map fun c => c.fdiv (0 - (lcon s : Int)))) := by
                    rw [X.tf]
                    show D.tup _ = _
                    rw [List.map_map, List.map_map]
                    refine congrArg D.tup (List.map_congr_left fun p hp => ?_)
                    show P (pby (-1) (p.map fun c => c.fdiv (lcon s : Int))) = _
                    have e1 : pby (-1) (p.map fun c => c.fdiv (lcon s : Int)) = p.map fun c => c.fdiv (0 - (lcon s : Int)) := by
                      unfold pby
                      rw [if_neg (by decide), List.map_map]
                      refine List.map_congr_left fun c hc => ?_
                      show -1 * c.fdiv (lcon s : Int) = _
                      have dv : (lcon s : Int) ∣ c := by
                        obtain ⟨j, hj, e⟩ := List.mem_iff_getElem.mp hc
                        have h1 := (lcon_dvd h 0).2 p hp
                        have h2 : (lcon h : Int) ∣ cf p j := Int.dvd_trans (Int.natCast_dvd_natCast.mpr h1) (pcon_dvd_cf _ _)
                        rw [X.hc, cf_lt hj, e] at h2
                        exact h2
                      rw [fdiv_neg X.N0 dv]; omega
                    rw [e1]
                  have := q (t.map (pby (-1))) ⟨X.L.neg, X.prp.neg, by
                    rw [fst1_map _ (pz (-1) (by decide)), (pby_top (by decide)).2]
                    rw [eT] at c
                    have : ¬ 0 < cf (fst1 t) ((fst1 t).length - 1) := fun z => c (Int.mul_pos Np z)
                    omega⟩
                  rw [e] at this
                  exact rtq this
          · rintro d rest ρ S2 N ⟨r, g, x, e, hp, rfl, rfl, hg⟩ hN
            cases r with
            | nil => cases e
            | cons c r =>
              cases e
              refine ⟨trivial, ?_⟩
              walk_at "wpc"
              refine ⟨c, rfl, Nat.le_trans (hp c (.head _)) (by decide), _, _, rfl, ?_⟩
              dsimp only
              rw [wpB]
              exact hN _ _ ⟨r, Int.gcd g (pcon c), some (P c), rfl, fun p hp' => hp p (.tail _ hp'), rfl, rfl, hg⟩
      · rintro d rest ρ S1 N ⟨l, x, y, e, rfl, rfl⟩ hN
        cases l with
        | nil => cases e
        | cons i l =>
          cases e
          refine ⟨trivial, ?_⟩
          walk_at "wpx"
          walk_at "wpc"
          refine ⟨.of_left (by decide), 1, 1, rfl, ?_⟩
          rw [show Int.gcd 1 1 = 1 from rfl]
          walk_at "wpx"
          refine ⟨by decide, noPy, ?_⟩
          try dsimp only
          rw [wpB]
          exact hN _ _ ⟨l, _, _, rfl, rfl, rfl⟩
  · rintro d rest ρ S' N ⟨l, r, x, es, e, rfl, rfl⟩ hN
    cases r with
    | nil => cases e
    | cons c r =>
      cases e
      refine ⟨trivial, ?_⟩
      have nl : NrL l := fun p hp => n p (by rw [es]; exact List.mem_append_left _ hp)
      have sl : SB 1600 11 l := fun p hp => sb p (by rw [es]; exact List.mem_append_left _ hp)
      have mc : c ∈ s := by rw [es]; exact List.mem_append_right _ List.mem_cons_self
      obtain ⟨b1, b2⟩ := cg_bd nl sl
      obtain ⟨c1, c2⟩ := sb c mc
      walk_at "wpc"
      refine ⟨by decide, eqP_nil ?_⟩
      by_cases g0 : cgf [] l = []
      · rw [decide_eq_true g0]
        walk_at "wpx"
        refine ⟨c, rfl, n c mc, ⟨c1.mono (by decide), by omega⟩, ?_⟩
        try dsimp only
        rw [wpB]
        refine hN _ _ ⟨l ++ [c], r, some (P c), by rw [es]; simp, rfl, ?_, rfl⟩
        rw [cgf_snoc, g0, plow_nil, pgcd_nil_left (nrm_plow (n c mc))]
      · rw [decide_eq_false g0]
        walk_at "wpx"
        refine ⟨cgf [] l, c, 2000, 2000, rfl, (cg_all nl).n, n c mc, ⟨b1.mono (by decide), by omega⟩, ⟨c1.mono (by decide), by omega⟩, b1, c1.mono (by decide), gOk_11 _ b2 _ c2, ?_⟩
        try dsimp only
        rw [wpB]
        exact hN _ _ ⟨l ++ [c], r, _, by rw [es]; simp, rfl, by rw [cgf_snoc], rfl⟩
theorem cpr0 {s : Ln} (h : s ≠ []) : cp s.reverse 0 = cp s (s.length - 1) := by
  rw [cp_rev (List.length_pos_iff.mpr h)]; rfl
theorem fst1_0 {s : Ln} (h : cp s 0 ≠ []) : fst1 s = cp s 0 := by
  cases s with
  | nil => exact absurd rfl h
  | cons p s =>
    have e : (!p.isEmpty) = true := by simpa using (show p ≠ [] from h)
    unfold fst1
    rw [List.filter_cons, if_pos e]; rfl
theorem pick_revP (s : Ln) : (s.map fun p => P p).reverse = s.reverse.map fun p => P p := List.map_reverse.symm

theorem br_mul {k l : Nat} {r s : Rat} (h : BR k r) (h' : BR l s) (hk : 1 ≤ k) : BR (k + l) (r * s) := by
  have e : r * s = Rat.divInt (r.num * s.num) (r.den * s.den) := by rw [← Rat.divInt_mul_divInt, Rat.num_divInt_den, Rat.num_divInt_den]
  rw [e]
  exact ⟨bd_num (h.1.mul h'.1), bd_den (h.2.mul h'.2) (by omega)⟩
theorem br_add {k l : Nat} {r s : Rat} (h : BR k r) (h' : BR l s) (hk : 1 ≤ k) : BR (k + l + 1) (r + s) := by
  have e : r + s = Rat.divInt (r.num * s.den + s.num * r.den) (r.den * s.den) := by
    rw [← Rat.divInt_add_divInt _ _ (Int.natCast_ne_zero.mpr r.den_nz) (Int.natCast_ne_zero.mpr s.den_nz), Rat.num_divInt_den, Rat.num_divInt_den]
  rw [e]
  refine ⟨bd_num (Bd.add (h.1.mul h'.2) ?_), bd_den ((h.2.mul h'.2).mono (by omega)) (by omega)⟩
  have := h'.1.mul h.2
  rwa [Nat.add_comm] at this
theorem BR.mono {k l : Nat} {r : Rat} (h : BR k r) (hl : k ≤ l) : BR l r := ⟨h.1.mono hl, h.2.mono hl⟩
theorem br_sum {f : Nat → Rat} {U : Nat} (hU : 1 ≤ U) : ∀ n : Nat, (∀ i, i < n → BR U (f i)) → BR (1 + n * (U + 1)) (sumQ n f)
  | 0, _ => by
    rw [sumQ]
    exact BR.mono (k := 1) ⟨by unfold Bd; decide, by unfold Bd; decide⟩ (by omega)
  | n + 1, h => by
    rw [sumQ]
    refine (br_add (br_sum hU n fun i hi => h i (by omega)) (h n (by omega)) (by omega)).mono ?_
    rw [Nat.add_mul]; omega
theorem BR.sm {k : Nat} {r : Rat} (h : BR k r) (hk : k ≤ 3000) : SmF r := ⟨h.1.mono hk, h.2.mono hk⟩
theorem at_Fr {nums : List Rat} {n : Nat} (h : n < nums.length) : atD (nums.map Fr) (n : Int) = some (Fr (sq nums (n : Int))) := by
  refine at_nat ?_
  rw [List.getElem?_map, List.getElem?_eq_getElem h]
  unfold sq
  rw [Int.toNat_natCast, List.getD_eq_getElem?_getD, List.getElem?_eq_getElem h]; rfl
theorem sq_br {n : Nat} {nums : List Rat} (h : ∀ r ∈ nums, BR n r) (h1 : 1 ≤ n) (y : Int) : BR n (sq nums y) := by
  unfold sq
  rw [List.getD_eq_getElem?_getD]
  rcases Nat.lt_or_ge y.toNat nums.length with q | q
  · rw [List.getElem?_eq_getElem q]; exact h _ (List.getElem_mem q)
  · rw [List.getElem?_eq_none q]
    exact BR.mono (k := 1) ⟨by unfold Bd; decide, by unfold Bd; decide⟩ h1
theorem LedIn.n1 {k l n : Nat} {s : Ln} {nums : List Rat} (h : LedIn k l n s nums) : 1 ≤ n := by
  have l1 := List.length_pos_iff.mpr h.ne
  have l2 := h.le
  have hm : nums[0] ∈ nums := List.getElem_mem (by omega)
  have := (h.nb _ hm).2
  unfold Bd at this
  have dp := (nums[0]).den_pos
  rcases Nat.eq_zero_or_pos n with e | e
  · rw [e] at this
    have : ((nums[0]).den : Int).natAbs < 1 := this
    omega
  · exact e
/-- a part of a sum -/
theorem part_br {k l n : Nat} {s : Ln} {nums : List Rat} (h : LedIn k l n s nums) {x : Nat} (hx : x ≤ 20) (i : Nat) : Bd (k + l * 6) (cv s i x) ∧ BR (k + l * 6 + n + 1) ((cv s i (x : Nat) : Rat) * sq nums ((x : Nat) + (i : Nat))) := by
  obtain ⟨c1, c2⟩ := h.sb.cp i
  have bx : Bd 5 (x : Int) := by unfold Bd; show ((x : Nat) : Int).natAbs < 32; omega
  have b1 : Bd (k + l * 6) (cv s i x) := (bd_pei bx c1).mono (by have := Nat.mul_le_mul_right 6 c2; omega)
  have b2 : BR (k + l * 6 + 1) (cv s i x : Rat) := ⟨b1.mono (by omega), Bd.mono (k := 1) (show Bd 1 (1 : Int) by unfold Bd; decide) (by omega)⟩
  exact ⟨b1, (br_mul b2 (sq_br h.nb h.n1 _) (by omega)).mono (by omega)⟩
theorem led_br {k l n : Nat} {s : Ln} {nums : List Rat} (h : LedIn k l n s nums) {x : Nat} (hx : x ≤ 20) : BR (1 + s.length * (k + l * 6 + n + 2)) (act s (sq nums) (x : Nat)) := br_sum (by omega) _ fun i _ => (part_br h hx i).2
theorem range_ints (n : Nat) : rangeD 0 1 n = (List.range n).map fun i => D.int (i : Nat) := by
  unfold rangeD
  refine List.map_congr_left fun i _ => ?_
  rw [Int.mul_one, Int.zero_add]

theorem sok__law_st_drawn : SpecOk Gm d__law_st_drawn := by
  rintro ds S R Q ⟨p, o, m, rfl, hS, ho, hm, q⟩
  refine ⟨rfl, ?_⟩
  show wpB Gm b__law_st_drawn _ _ [some (.ref p), some (.int o), some (.int m), none, none] S
  unfold b__law_st_drawn
  walk_at "wpc"
  refine ⟨_, rfl, by omega, by omega, ?_⟩
  rw [Int.toNat_natCast, range_ints]
  refine compL_ind (fun rest S' acc => ∃ a b c, ∃ l : Ln, S' = Dice p a b c S ∧ acc = (l.map fun p => P p) ∧ NrL l ∧ SB 2 (m + 1) l ∧ l.length + rest.length = o) ?_ ?_ _ _ _ ?_
  · rintro S' acc ⟨a, b, c, l, rfl, rfl, nl, sl, hl⟩
    refine ⟨trivial, ?_⟩
    have hl : l.length = o := by simpa using hl
    walk_at "wpc"
    refine ⟨p, m, rfl, ⟨_, _, _, sup_same⟩, by omega, fun g a b c ng bg lg eg => ?_⟩
    walk_at "wpx"
    refine ⟨by decide, by rw [len_St, sizeLine_eq]; omega, ?_⟩
    have e : (l.map fun p => P p) ++ [P g] = (l ++ [g]).map fun p => P p := by rw [List.map_append]; rfl
    simp only [e, sup_sup]
    refine rtq (q _ a b c ⟨fun p hp => ?_, fun _ => ?_⟩ (by simp) (by simp [hl]) fun p hp => ?_)
    · rcases List.mem_append.mp hp with h | h
      · exact nl p h
      · rw [List.mem_singleton.mp h]; exact ng
    · rw [cp_snoc]; simpa using eg
    · rcases List.mem_append.mp hp with h | h
      · exact sl p h
      · rw [List.mem_singleton.mp h]; exact ⟨bg, lg⟩
  · rintro d rest S' acc N ⟨a, b, c, l, rfl, rfl, nl, sl, hl⟩ hN
    refine ⟨trivial, ?_⟩
    walk_at "wpx"
    refine ⟨p, 4, rfl, ⟨_, _, _, sup_same⟩, by decide, by decide, fun r a b c h0 h1 => ?_⟩
    walk_at "wpx"
    have hr : l.length + 1 + rest.length = o := by rw [List.length_cons] at hl; omega
    by_cases z : 0 < r
    · rw [decide_eq_true z, if_pos rfl]
      refine ⟨p, m, rfl, ⟨_, _, _, sup_same⟩, by omega, fun g a b c ng bg lg eg => ?_⟩
      simp only [sup_sup]
      refine hN _ _ ⟨a, b, c, l ++ [g], rfl, by rw [List.map_append]; rfl, fun p hp => ?_, fun p hp => ?_, by simp; omega⟩
      · rcases List.mem_append.mp hp with h | h
        · exact nl p h
        · rw [List.mem_singleton.mp h]; exact ng
      · rcases List.mem_append.mp hp with h | h
        · exact sl p h
        · rw [List.mem_singleton.mp h]; exact ⟨bg, lg⟩
    · rw [decide_eq_false z, if_neg Bool.false_ne_true]
      refine ⟨by decide, ?_⟩
      try simp only [sup_sup]
      refine hN _ _ ⟨a, b, c, l ++ [[]], rfl, by rw [List.map_append]; rfl, fun p hp => ?_, fun p hp => ?_, by simp; omega⟩
      · rcases List.mem_append.mp hp with h | h
        · exact nl p h
        · rw [List.mem_singleton.mp h]; exact nrm_nil
      · rcases List.mem_append.mp hp with h | h
        · exact sl p h
        · rw [List.mem_singleton.mp h]; exact ⟨fun _ h => (nomatch h), Nat.zero_le _⟩
  · obtain ⟨a, b, c, e⟩ := hS
    exact ⟨a, b, c, [], (sup_self e).symm, rfl, (fun _ h => nomatch h), (fun _ h => nomatch h), by simp⟩
theorem t3_no {v : D} (h : Ty v) (n : ∀ xs, v ≠ .tup xs) : Ty3 v := ⟨h, fun xs e => absurd e (n xs)⟩
theorem t3_tup {xs : List D} (h : ∀ x ∈ xs, Ty2 x) : Ty3 (.tup xs) := ⟨⟨_, rfl⟩, fun ys e x hx => by cases e; exact h x hx⟩
theorem t2_no {v : D} (h : Ty v) (n : ∀ xs, v ≠ .tup xs) : Ty2 v := ⟨h, fun xs e => absurd e (n xs)⟩
theorem t2_tup {xs : List D} (h : ∀ x ∈ xs, Ty x) : Ty2 (.tup xs) := ⟨⟨_, rfl⟩, fun ys e x hx => by cases e; exact h x hx⟩
theorem t3_St (s : Ln) : ∀ x ∈ s.map (fun p => P p), Ty2 x := fun x hx => by obtain ⟨p, _, e⟩ := List.mem_map.mp hx; subst e; exact ty_P p
theorem t3_app {xs ys : List D} (h : ∀ x ∈ xs, Ty2 x) (h' : ∀ x ∈ ys, Ty2 x) : Ty3 (.tup (xs ++ ys)) := t3_tup fun x hx => (List.mem_append.mp hx).elim (h x) (h' x)
theorem mem_cut {xs : List D} {lo hi : Option Int} {x : D} (h : x ∈ cutD xs lo hi) : x ∈ xs := List.mem_of_mem_drop (List.mem_of_mem_take h)
theorem len_cut {xs : List D} {lo hi : Option Int} : (cutD xs lo hi).length ≤ xs.length := by
  unfold cutD
  rw [List.length_take, List.length_drop]; omega

theorem eqD_bl {x : Bool} {k : Bool → Prop} (q : k true) : eqD (.bl x) (.bl x) k := by
  refine ⟨_, _, rfl, rfl, by cases x <;> decide, by cases x <;> decide, ?_⟩
  have : PyData.eqv (PyData.bool x) (PyData.bool x) = true := by cases x <;> decide
  first
  | exact this ▸ q
  | (cases x <;> exact q)
theorem cv_nil (i : Nat) (x : Int) : cv [] i x = 0 := cv_ge (Nat.zero_le _) x
theorem mul_nil {a b t : Ln} (h : IsMul a b t) (z : a = [] ∨ b = []) : t = [] := nst_ext_v h.n nst_nil fun n x => by
  rw [h.v, cv_nil]
  unfold mulv
  refine sumN_zero fun i _ => ?_
  rcases z with z | z
  · rw [z, cv_nil]; omega
  · rw [z, cv_nil]; omega
theorem mul_len {a b t : Ln} (na : NSt a) (nb : NSt b) (h : IsMul a b t) (ea : a ≠ []) (eb : b ≠ []) (hl : t.length ≤ a.length + b.length - 1) : t.length = a.length + b.length - 1 := by
  have l1 := List.length_pos_iff.mpr ea
  have l2 := List.length_pos_iff.mpr eb
  rcases Nat.lt_or_ge (a.length + b.length - 2) t.length with q | q
  · omega
  exfalso
  have key : ∀ x, cv a (a.length - 1) x * cv b (b.length - 1) (x + ((a.length - 1 : Nat) : Int)) = 0 := fun x => by
    have e := h.v (a.length + b.length - 2) x
    rw [cv_ge q] at e
    unfold mulv at e
    rw [sumN_one (k := a.length - 1) (by omega) fun i hi ne => by
      rcases Nat.lt_or_ge i a.length with w | w
      · rw [cv_ge (s := b) (by omega)]; omega
      · rw [cv_ge (s := a) w]; omega] at e
    rw [show a.length + b.length - 2 - (a.length - 1) = b.length - 1 by omega] at e
    exact e.symm
  have z : pmul (cp a (a.length - 1)) (pmov ((a.length - 1 : Nat) : Int) (cp b (b.length - 1))) = [] := pei_inj (nrm_pmul (na.n.cp _) (nrm_pmov _ _)) nrm_nil fun x => by
    rw [pei_pmul, pei_moved, pei_nil]
    exact key x
  rcases pmul_zero z with w | w
  · exact na.top ea w
  · refine nb.top eb (pei_inj (nb.n.cp _) nrm_nil fun x => ?_)
    have := pei_moved ((a.length - 1 : Nat) : Int) (x - ((a.length - 1 : Nat) : Int)) (cp b (b.length - 1))
    rw [w, show x - ((a.length - 1 : Nat) : Int) + ((a.length - 1 : Nat) : Int) = x by omega] at this
    rw [← this, pei_nil, pei_nil]
theorem led_all {a b t : Ln} {nums : List Rat} (h : IsMul a b t) (ea : a ≠ []) (eb : b ≠ []) (hl : t.length = a.length + b.length - 1) : ledL a (ledL b nums) = ledL t nums := by
  have l1 := List.length_pos_iff.mpr ea
  have l2 := List.length_pos_iff.mpr eb
  have len : (ledL b nums).length = nums.length + 1 - b.length := by unfold ledL; simp
  have sqe : ∀ y : Nat, y < nums.length + 1 - b.length → sq (ledL b nums) (y : Nat) = act b (sq nums) (y : Nat) := fun y hy => by
    unfold sq
    rw [Int.toNat_natCast, List.getD_eq_getElem?_getD, List.getElem?_eq_getElem (by omega)]
    unfold ledL
    simp only [List.getElem_map, List.getElem_range, Option.getD_some]
    rfl
  have e : nums.length + 1 - b.length + 1 - a.length = nums.length + 1 - t.length := by omega
  unfold ledL at len ⊢
  rw [List.length_map, List.length_range, e]
  refine List.map_congr_left fun x hx => ?_
  have hx := List.mem_range.mp hx
  rw [act_mul h]
  show act a _ _ = act a _ _
  unfold act
  refine sumQ_congr fun i hi => ?_
  have := sqe (x + i) (by omega)
  rw [show ((x : Nat) : Int) + ((i : Nat) : Int) = ((x + i : Nat) : Int) by omega]
  unfold ledL act at this
  rw [this]
theorem sled_nil (s : Ln) (hs : NrL s) : sled [] s = [] := nst_ext_v (nst_sled nrm_nil hs) nst_nil fun i x => by
  rw [cv_sled, cv_nil, pei_nil, Int.zero_mul]
theorem sled_len {p : List Int} {s : Ln} (np : Nrm p) (pe : p ≠ []) (hs : NSt s) : (sled p s).length = s.length := by
  by_cases e : s = []
  · rw [e]; rfl
  have l := List.length_pos_iff.mpr e
  have h1 : (sled p s).length ≤ s.length := Nat.le_trans (strm_len _) (by rw [List.length_map]; exact Nat.le_refl _)
  rcases Nat.lt_or_ge (s.length - 1) (sled p s).length with q | q
  · omega
  exfalso
  have : pmul p (cp s (s.length - 1)) = [] := pei_inj (nrm_pmul np (hs.n.cp _)) nrm_nil fun x => by
    have := cv_sled p s (s.length - 1) x
    rw [cv_ge q] at this
    rw [pei_pmul, pei_nil]
    exact this.symm
  rcases pmul_zero this with w | w
  · exact pe w
  · exact hs.top e w
theorem sled_prp {p : List Int} {s : Ln} (np : Nrm p) (pe : p ≠ []) (hs : NSt s) : Prp (sled p s) s := ⟨sled_len np pe hs, [1], p, fun c h => by cases h; decide, np, by simp, pe, fun i x => by
  rw [cv_sled, pei_cons, pei_nil]; grind⟩
theorem lowS_prp {s s' t t' : Ln} (h : LowS s t) (h' : LowS s' t') (e : Prp s s') : t = t' := lowS_uniq h ⟨h'.L, h'.n, e.trans h'.p, h'.pos⟩
theorem sled_sb {p : List Int} {s : Ln} (bp : BdP 2 p) (lp : p.length ≤ 3) (hb : SB 2 4 s) : SB 7 7 (sled p s) := SB.strm fun q hq => by
  obtain ⟨r, hr, e⟩ := List.mem_map.mp hq
  subst e
  obtain ⟨b1, b2⟩ := hb r hr
  exact ⟨bd_pmul (m := 3) bp b1 (by show _ ≤ 8; omega), Nat.le_trans (pmul_len _ _) (by omega)⟩
/-- drawn steps -/
structure Dw (s : Ln) : Prop where
  n : NSt s
  len : s.length ≤ 4
  sb : SB 2 4 s
theorem Dw.pas {s : Ln} (h : Dw s) (e : s ≠ []) : Pas s := ⟨h.n, e, Nat.le_trans h.len (by decide), fun p hp => Nat.le_trans (h.sb p hp).2 (by decide)⟩
theorem Dw.lin {s : Ln} (h : Dw s) (e : s ≠ []) : LIn s := ⟨h.n, e, h.sb.mono (by decide) (by decide), Nat.le_trans h.len (by decide)⟩
theorem Dw.l500 {s : Ln} (h : Dw s) : s.length ≤ 500 ∧ ∀ p ∈ s, p.length ≤ 500 := ⟨Nat.le_trans h.len (by decide), fun p hp => Nat.le_trans (h.sb p hp).2 (by decide)⟩
theorem Dw.mul {a b : Ln} (h : Dw a) (g : Dw b) : MulIn 2 4 2 4 a b := ⟨h.n, g.n, h.sb, g.sb, by decide, by decide, by decide, by decide, Nat.le_trans h.len (by decide), Nat.le_trans g.len (by decide)⟩
theorem out_len {ka la kb lb : Nat} {a b t : Ln} (T : MulOut ka la kb lb a b t) (h : a.length + b.length ≤ 9) : t.length ≤ 8 := by
  have := T.l
  omega
theorem ps_sb {a b : Ln} (h : Dw a) (g : Dw b) : SB 3 4 (splus a b) ∧ (splus a b).length ≤ 4 := by
  have := splus_len a b
  have h1 := h.len
  have h2 := g.len
  exact ⟨splus_sb h.sb g.sb (by decide), by omega⟩

theorem eqD_str {x : Str} {k : Bool → Prop} (h : PyData.strOk x = true) (q : k true) : eqD (.str x) (.str x) k := by
  refine ⟨.str x, .str x, rfl, rfl, ?_, ?_, ?_⟩
  · show (PyData.canLay0 (.str x) && decide (PyData.depth (.str x) ≤ 64)) = true
    simp only [PyData.canLay0, h, PyData.depth, Bool.true_and]; rfl
  · show (PyData.canLay0 (.str x) && decide (PyData.depth (.str x) ≤ 64)) = true
    simp only [PyData.canLay0, h, PyData.depth, Bool.true_and]; rfl
  · have : PyData.eqv (.str x) (.str x) = true := by simp [PyData.eqv]
    rw [this]; exact q
theorem str_ok2 : ∀ i : Fin 6, ∀ j : Fin 20, PyData.strOk (Str.empty ++ Str.ofString "law of order " ++ Str.ofString (toString ((i.val : Int))) ++ Str.ofString ", degree " ++ Str.ofString (toString ((j.val : Int) - 1))) = true := by decide +kernel
theorem law_str {s : Ln} (hs : Pas s) : ((s.length : Int) - 1).natAbs.log2 < 1920 ∧ (mxl s - 1).natAbs.log2 < 1920 ∧ (toString ((s.length : Int) - 1) : Str).length ≤ 10 ∧ (toString (mxl s - 1) : Str).length ≤ 10 ∧ PyData.strOk (lawS s) = true ∧ lawS s = Str.ofString "law of order " ++ (toString ((s.length : Int) - 1) : Str) ++ Str.ofString ", degree " ++ (toString (mxl s - 1) : Str) := by
  have l1 := List.length_pos_iff.mpr hs.ne
  have l2 := hs.len
  have m1 := mxl_ge s
  have m2 := mxl_le hs.pl
  have big : ∀ i : Int, -20 ≤ i → i ≤ 200 → i.natAbs.log2 < 1920 := fun i _ _ => by
    have : i.natAbs.log2 ≤ i.natAbs := Nat.log2_le_self _
    omega
  refine ⟨big _ (by omega) (by omega), big _ (by omega) (by omega), short _ (by omega) (by omega), short _ (by omega) (by omega), ?_, ?_⟩
  · have := str_ok2 ⟨s.length - 1, by omega⟩ ⟨(mxl s).toNat, by omega⟩
    have e1 : (((⟨s.length - 1, by omega⟩ : Fin 6).val : Nat) : Int) = (s.length : Int) - 1 := by show ((s.length - 1 : Nat) : Int) = _; omega
    have e2 : (((⟨(mxl s).toNat, by omega⟩ : Fin 20).val : Nat) : Int) = mxl s := by show ((mxl s).toNat : Int) = _; omega
    rw [e1, e2] at this
    exact this
  · unfold lawS
    rw [Str.empty_append]

theorem sok_KnownSlope_init : SpecOk Gm d_KnownSlope_init := by
  rintro ds S R Q ⟨p, q, v, rfl, hp, hq, h⟩
  refine ⟨rfl, ?_⟩
  show wpB Gm b_KnownSlope_init _ _ [some (.ref p), some v] S
  unfold b_KnownSlope_init
  walk_at "wpc"
  refine ⟨p, q, [none], rfl, hp, hq, by decide, ?_⟩
  rw [wpB]
  exact rtq h
theorem lnD_of {v : D} (h : isSt v = true) : ∃ s : Ln, v = St s ∧ lnD v = s.length ∧ NSt s := by
  cases v with
  | tup xs =>
    have h1 : xs.all isPl = true := by
      have : (xs.all isPl && _) = true := h
      exact (Bool.and_eq_true_iff.mp this).1
    obtain ⟨s, hs, rfl⟩ := all_P h1
    exact ⟨s, rfl, List.length_map .., (isSt_St s hs).mp h⟩
  | _ => cases h
def elseB : Bl → Bl
  | .cons (.ife _ _ e) _ => e
  | b => b
theorem sok_Slope_init : SpecOk Gm d_Slope_init := by
  rintro ds S R Q ⟨p, q, x, rfl, hp, hq, h⟩
  refine ⟨rfl, ?_⟩
  show wpB Gm b_Slope_init _ _ [some (.ref p), some x] S
  unfold b_Slope_init
  walk_at "wpc"
  rcases h with ⟨s, rfl, h⟩ | ⟨ht, h1, h2⟩
  · walk_at "wpx"
    refine ⟨rfl, ?_⟩
    walk_at "wpx"
    try refine ⟨trivial, ?_⟩
    refine ⟨p, q, [none], rfl, hp, hq, by decide, ?_⟩
    rw [wpB]
    try dsimp only
    rw [wpB]
    exact rtq h
  · obtain ⟨⟨t, ht1⟩, ht2⟩ := ht
    have fin : wpB Gm (elseB b_Slope_init) { nx := wpB Gm Bl.nil { nx := fun x S => RtQ Q D.non S, rt := RtQ Q } fun k x x_1 S => RtQ (R k) x S, rt := RtQ Q } (fun k x x_1 S => RtQ (R k) x S) [some (D.ref p), some x] S := by
      unfold b_Slope_init elseB
      walk_at "wpc"
      refine ⟨x, rfl, ⟨⟨t, ht1⟩, ht2⟩, ?_⟩
      cases hst : isSt x with
      | false =>
        walk_at "wpx"
        have e : okSl x = false := by unfold okSl; rw [hst]; rfl
        rw [wpB]
        walk_at "wpx"
        exact ⟨S, .refl, h2 e⟩
      | true =>
        walk_at "wpx"
        obtain ⟨s, rfl, l, n⟩ := lnD_of hst
        try walk_at "wpx"
        rw [len_St]
        have e : okSl (St s) = (decide (1 ≤ s.length) && decide (s.length ≤ 5)) := by unfold okSl; rw [hst, l, Bool.true_and]
        by_cases c1 : 1 ≤ s.length
        · rw [decide_eq_true (show (1 : Int) ≤ (s.length : Int) by omega)]
          walk_at "wpx"
          by_cases c2 : s.length ≤ 5
          · rw [decide_eq_true (show (s.length : Int) ≤ 5 by omega)]
            walk_at "wpx"
            rw [wpB]
            walk_at "wpc"
            rw [decide_eq_true c1, decide_eq_true c2] at e
            refine ⟨p, q, [none], rfl, hp, hq, by decide, ?_⟩
            rw [wpB]
            try dsimp only
            rw [wpB]
            exact rtq (h1 e)
          · rw [decide_eq_false (show ¬ (s.length : Int) ≤ 5 by omega)]
            walk_at "wpx"
            rw [wpB]
            walk_at "wpx"
            rw [decide_eq_false c2, Bool.and_false] at e
            exact ⟨S, .refl, h2 e⟩
        · rw [decide_eq_false (show ¬ (1 : Int) ≤ (s.length : Int) by omega)]
          walk_at "wpx"
          rw [wpB]
          walk_at "wpx"
          rw [decide_eq_false c1, Bool.false_and] at e
          exact ⟨S, .refl, h2 e⟩
    rw [res_ty ht1]
    cases x <;> first | exact ⟨_, rfl, fin⟩ | cases ht1
theorem sok_made_slope : SpecOk Gm d_made_slope := by
  rintro ds S R Q ⟨s, rfl, h⟩
  refine ⟨rfl, ?_⟩
  show wpB Gm b_made_slope _ _ [some (St s)] S
  unfold b_made_slope
  walk_at "wpc"
  intro p q hp hq ne
  refine ⟨p, q, _, rfl, sup_same, (by rw [sup_ne ne, sup_same]), rfl, [St s], sup_same, (by rw [sup_ne ne, sup_ne ne, sup_same]), ?_⟩
  rw [sup_sup, new_end hp hq]
  intro p q hp hq ne
  refine ⟨p, q, _, rfl, sup_same, (by rw [sup_ne ne, sup_same]), .inl ⟨s, rfl, rfl, [St s], sup_same, (by rw [sup_ne ne, sup_ne ne, sup_same]), ?_⟩⟩
  rw [sup_sup, new_end hp hq]
  exact rtq h
theorem sok_Slope_polys : SpecOk Gm d_Slope_polys := by
  rintro ds S R Q ⟨s, rfl, h⟩
  refine ⟨rfl, ?_⟩
  show wpB Gm b_Slope_polys _ _ [some (Sl s)] S
  unfold b_Slope_polys
  walk_at "wpc"
  exact rtq h
theorem sok_Slope_order : SpecOk Gm d_Slope_order := by
  rintro ds S R Q ⟨s, rfl, h⟩
  refine ⟨rfl, ?_⟩
  show wpB Gm b_Slope_order _ _ [some (Sl s)] S
  unfold b_Slope_order
  walk_at "wpc"
  rw [g1]
  walk_at "wpx"
  rw [len_St]
  exact rtq h
theorem sok_Slope_eq : SpecOk Gm d_Slope_eq := by
  rintro ds S R Q ⟨s, v, rfl, h⟩
  refine ⟨rfl, ?_⟩
  show wpB Gm b_Slope_eq _ _ [some (Sl s), some v] S
  unfold b_Slope_eq
  walk_at "wpc"
  rcases h with ⟨t, rfl, h⟩ | ⟨⟨t, ht⟩, h⟩
  · walk_at "wpx"
    try rw [if_pos (show ("Slope" == "Slope") = true by decide)]
    try rw [g1, g1]
    walk_at "wpx"
    refine eqSt ?_
    exact rtq h
  · have fin : RtQ Q (.bl false) S := rtq h
    rw [res_ty ht]
    cases v <;> first | exact ⟨_, rfl, fin⟩ | cases ht
theorem sok_Slope_ne : SpecOk Gm d_Slope_ne := by
  rintro ds S R Q ⟨s, t, rfl, h⟩
  refine ⟨rfl, ?_⟩
  show wpB Gm b_Slope_ne _ _ [some (Sl s), some (Sl t)] S
  unfold b_Slope_ne
  walk_at "wpc"
  exact .inl ⟨⟨_, rfl⟩, .inl ⟨_, rfl⟩, s, _, rfl, .inl ⟨t, rfl, rtq h⟩⟩
theorem sok_Slope_str : SpecOk Gm d_Slope_str := by
  rintro ds S R Q ⟨s, rfl, hs, hl, h⟩
  refine ⟨rfl, ?_⟩
  show wpB Gm b_Slope_str _ _ [some (Sl s)] S
  unfold b_Slope_str
  walk_at "wpc"
  have l1 := List.length_pos_iff.mpr hs
  have z1 := short ((s.length : Int) - 1) (by omega) (by omega)
  have c0 : Str.empty.length = 0 := by decide +kernel
  have c1 : (Str.ofString "slope of order ").length = 15 := by decide +kernel
  have big : ∀ i : Int, -20 ≤ i → i ≤ 200 → i.natAbs.log2 < 1920 := fun i _ _ => by
    have : i.natAbs.log2 ≤ i.natAbs := Nat.log2_le_self _
    omega
  refine ⟨by rw [c1]; decide, by rw [Str.length_append, c0, c1]; decide, ⟨_, rfl⟩, s, rfl, ?_⟩
  walk_at "wpx"
  refine ⟨big _ (by omega) (by omega), by rw [Str.length_append, Str.length_append, c0, c1, sizeLine_eq]; omega, ?_⟩
  exact rtq h
theorem sok_require_slope : SpecOk Gm d_require_slope := by
  rintro ds S R Q ⟨s, rfl, h⟩
  refine ⟨rfl, ?_⟩
  show wpB Gm b_require_slope _ _ [some (Sl s)] S
  unfold b_require_slope
  walk_at "wpc"
  rw [if_neg (by decide)]
  rw [wpB]
  try dsimp only
  rw [wpB]
  exact rtq h
theorem sok_require_slopes : SpecOk Gm d_require_slopes := by
  rintro ds S R Q ⟨a, b, rfl, h⟩
  refine ⟨rfl, ?_⟩
  show wpB Gm b_require_slopes _ _ [some (Sl a), some (Sl b)] S
  unfold b_require_slopes
  walk_at "wpc"
  refine ⟨a, rfl, ?_⟩
  walk_at "wpc"
  refine ⟨b, rfl, ?_⟩
  try dsimp only
  rw [wpB]
  exact rtq h
theorem sok_slope_plus : SpecOk Gm d_slope_plus := by
  rintro ds S R Q ⟨a, b, rfl, ha, hb, h⟩
  refine ⟨rfl, ?_⟩
  show wpB Gm b_slope_plus _ _ [some (Sl a), some (Sl b), none] S
  unfold b_slope_plus
  walk_at "wpc"
  refine ⟨a, b, rfl, ?_⟩
  walk_at "wpc"
  rw [g1, g1]
  refine ⟨a, b, rfl, ha.1, hb.1, ha.2, hb.2, ?_⟩
  walk_at "wpc"
  refine ⟨by decide, eqSt_nil ?_⟩
  by_cases e : splus a b = []
  · rw [decide_eq_true e]
    walk_at "wpx"
    rw [if_pos e] at h
    exact rtq h
  · rw [decide_eq_false e]
    walk_at "wpx"
    rw [if_neg e] at h
    exact ⟨_, rfl, rtq h⟩
theorem sok_slope_times : SpecOk Gm d_slope_times := by
  rintro ds S R Q ⟨a, b, ka, la, kb, lb, rfl, I, h⟩
  refine ⟨rfl, ?_⟩
  show wpB Gm b_slope_times _ _ [some (Sl a), some (Sl b)] S
  unfold b_slope_times
  walk_at "wpc"
  refine ⟨a, b, rfl, ?_⟩
  walk_at "wpc"
  rw [g1, g1]
  exact ⟨a, b, ka, la, kb, lb, rfl, I, _, rfl, rtq h⟩
theorem sok_Slope_lowest : SpecOk Gm d_Slope_lowest := by
  rintro ds S R Q ⟨s, rfl, I, h⟩
  refine ⟨rfl, ?_⟩
  show wpB Gm b_Slope_lowest _ _ [some (Sl s)] S
  unfold b_Slope_lowest
  walk_at "wpc"
  rw [g1]
  exact ⟨s, rfl, I, fun t T => ⟨t, rfl, rtq (h t T)⟩⟩

theorem sder_sb {k l : Nat} {s : Ln} (h : SB k l s) (hl : l ≤ 16) : SB (k + 5) l (sder s) := by
  unfold sder
  have hd : SB (k + 4) l (strm (s.map pder)) := SB.strm fun p hp => by
    obtain ⟨q, hq, rfl⟩ := List.mem_map.mp hp
    obtain ⟨h1, h2⟩ := h q hq
    have lp : (pder q).length ≤ q.length := by unfold pder; simp
    refine ⟨fun c hc => ?_, by omega⟩
    obtain ⟨i, hi, e⟩ := List.mem_iff_getElem.mp hc
    have : c = cf (pder q) i := by rw [cf_lt hi, e]
    rw [this, cf_pder]
    have lq : (pder q).length = q.length - 1 := by unfold pder; simp
    have b1 : Bd 4 ((i : Int) + 1) := by unfold Bd; show ((i : Int) + 1).natAbs < 16; omega
    have b2 : Bd k (cf q (i + 1)) := by
      rw [cf_lt (by omega)]; exact h1 _ (List.getElem_mem _)
    have := b1.mul b2
    rwa [Nat.add_comm] at this
  refine splus_sb (k := k + 4) hd (k' := k) ?_ (by omega)
  split
  · exact fun _ h => (nomatch h)
  · intro p hp
    rcases List.mem_cons.mp hp with e | e
    · rw [e]; exact ⟨fun _ h => (nomatch h), Nat.zero_le _⟩
    · exact h p e
theorem sled_sbG {p : List Int} {s : Ln} {k l k' l' : Nat} (bp : BdP k p) (lp : p.length ≤ l) (hb : SB k' l' s) (hl : l ≤ 16) (hl' : l' ≤ 16) : SB (k + k' + 5) (l + l' - 1) (sled p s) := SB.strm fun q hq => by
  obtain ⟨r, hr, rfl⟩ := List.mem_map.mp hq
  obtain ⟨b1, b2⟩ := hb r hr
  have m5 := pmul_len1 p r
  exact ⟨bd_pmul (m := 5) bp b1 (by show _ ≤ 32; omega), by omega⟩
theorem sled_ln (p : List Int) (s : Ln) : (sled p s).length ≤ s.length := by
  unfold sled
  exact Nat.le_trans (strm_len _) (by rw [List.length_map]; exact Nat.le_refl _)
/-- bits and lengths of products -/
theorem slmG_sb {ka la la' : Nat} : ∀ (a F h : Ln) (k kf : Nat), SB ka la a → la ≤ 16 → SB k la' h → la' ≤ 16 → SB kf (la + la' - 1) F → ka + (k + a.length * 5) + 5 ≤ kf → SB (kf + a.length) (la + la' - 1) (slmG F h a) ∧ (slmG F h a).length ≤ max F.length (h.length + a.length - 1)
  | [], F, h, k, kf, _, _, _, _, hF, _ => ⟨hF, Nat.le_max_left _ _⟩
  | p :: a, F, h, k, kf, ha, hla, hh, hl', hF, hk => by
    rw [slmG]
    rw [List.length_cons] at hk ⊢
    have hs := sled_sbG (ha p List.mem_cons_self).1 (ha p List.mem_cons_self).2 hh hla hl'
    have hF' := splus_sb (k := kf) hF hs (by omega)
    obtain ⟨r1, r2⟩ := slmG_sb a (splus F (sled p h)) (sder h) (k + 5) (kf + 1) (fun q hq => ha q (List.mem_cons_of_mem _ hq)) hla (sder_sb hh hl') hl' hF' (by omega)
    refine ⟨r1.mono (by omega) (Nat.le_refl _), Nat.le_trans r2 ?_⟩
    have l1 := splus_len F (sled p h)
    have l2 := sled_ln p h
    have l3 := sder_len h
    omega
theorem slm_sb {ka la kb lb : Nat} {a b : Ln} (I : SmI ka la kb lb a b) : SB (ka + kb + 53) (la + lb - 1) (slm a b) ∧ (slm a b).length ≤ a.length + b.length - 1 := by
  have h5 := I.h5
  obtain ⟨h1, h2⟩ := slmG_sb a [] b kb (ka + kb + 45) I.sa I.h3 I.sb I.h4 (fun _ h => (nomatch h)) (by omega)
  exact ⟨h1.mono (by omega) (Nat.le_refl _), Nat.le_trans h2 (by simp; omega)⟩
theorem SB.smp {k l : Nat} {s : Ln} (h : SB k l s) (hk : k ≤ 60000000) (hl : l ≤ 60) : ∀ p ∈ s, SmP p := fun p hp => ⟨(h p hp).1.mono hk, Nat.le_trans (h p hp).2 hl⟩
theorem SB.l5 {k l : Nat} {s : Ln} (h : SB k l s) (hl : l ≤ 500) : ∀ p ∈ s, p.length ≤ 500 := fun p hp => Nat.le_trans (h p hp).2 hl
theorem sok_derived_slope : SpecOk Gm d_derived_slope := by
  rintro ds S R Q ⟨s, rfl, n, hs, hl, h⟩
  refine ⟨rfl, ?_⟩
  show wpB Gm b_derived_slope _ _ [some (St s), none, none] S
  unfold b_derived_slope
  have l1 : ∀ p ∈ strm (s.map pder), p.length ≤ 500 := fun p hp => by
    obtain ⟨q, hq, rfl⟩ := List.mem_map.mp (strm_mem hp)
    have lp : (pder q).length ≤ q.length := by unfold pder; simp
    have := (hs q hq).2
    omega
  have l2 : (strm (s.map pder)).length ≤ 500 := Nat.le_trans (strm_len _) (by rw [List.length_map]; omega)
  walk_at "wpc"
  refine compL_mapG (fun q => P q) (fun q => P (pder q)) trivial s [] (fun q hq N hN => ?_) ?_
  · walk_at "wpx"
    exact ⟨q, rfl, hs q hq, hN⟩
  · rw [List.nil_append]
    walk_at "wpc"
    refine ⟨_, s.map pder, rfl, .inr (by rw [List.map_map]; rfl), by rw [List.length_map]; omega, ?_⟩
    refine ⟨by decide, eqSt_nil ?_⟩
    by_cases e : s = []
    · rw [decide_eq_true e]
      walk_at "wpx"
      unfold sder at h
      rw [if_pos e] at h
      exact ⟨by decide, strm (s.map pder), [], rfl, l2, by decide, l1, (fun _ h => nomatch h), rtq h⟩
    · rw [decide_eq_false e]
      walk_at "wpx"
      unfold sder at h
      rw [if_neg e] at h
      rw [List.append_nil]
      refine ⟨by rw [len_St, sizeLine_eq]; omega, strm (s.map pder), [] :: s, rfl, l2, by rw [List.length_cons]; omega, l1, fun p hp => ?_, rtq h⟩
      rcases List.mem_cons.mp hp with e | e
      · rw [e]; decide
      · exact Nat.le_trans (hs p e).2 (by decide)
theorem sok_slope_product : SpecOk Gm d_slope_product := by
  rintro ds S R Q ⟨a, b, ka, la, kb, lb, rfl, I, h⟩
  refine ⟨rfl, ?_⟩
  show wpB Gm b_slope_product _ _ [some (St a), some (St b), none, none, none] S
  unfold b_slope_product
  have h5 := I.h5
  have h6 := I.h6
  have h1 := I.h1
  have h2 := I.h2
  have h3 := I.h3
  have h4 := I.h4
  walk_at "wpc"
  refine ⟨by decide, ?_⟩
  walk_at "wpc"
  refine forL_ind (fun rest ρ S' => ∃ (r F g : Ln) (x : Option D) (k kf : Nat), rest = r.map (fun p => P p) ∧ ρ = [some (St a), some (St b), some (St F), some (St g), x] ∧ S' = S ∧ slm a b = slmG F g r ∧ SB ka la r ∧ r.length ≤ 8 ∧ NrL g ∧ SB k lb g ∧ k + r.length * 5 ≤ kb + 40 ∧ SB kf (la + lb - 1) F ∧ kf + r.length ≤ ka + kb + 53 ∧ ka + (k + r.length * 5) + 5 ≤ kf ∧ F.length ≤ 16 + (8 - r.length) ∧ g.length + r.length ≤ 16) ?_ ?_ _ _ _ ⟨a, [], b, _, kb, ka + kb + 45, rfl, rfl, rfl, rfl, I.sa, h5, I.nb, I.sb, by omega, (fun _ h => nomatch h), by omega, by omega, by simp, by omega⟩
  · rintro ρ S' ⟨r, F, g, x, k, kf, e, rfl, rfl, es, _⟩
    have hr : r = [] := List.map_eq_nil_iff.mp e.symm
    subst hr
    refine ⟨trivial, ?_⟩
    walk_at "wpc"
    rw [es] at h
    exact rtq h
  · rintro d rest ρ S' N ⟨r, F, g, x, k, kf, e, rfl, rfl, es, sr, lr, ng, sg, hk, sF, hkf, hk3, lF, lg⟩ hN
    cases r with
    | nil => cases e
    | cons p r =>
      cases e
      rw [List.length_cons] at lr hk hkf lF lg hk3
      obtain ⟨p1, p2⟩ := sr p List.mem_cons_self
      have ss := sled_sbG p1 p2 sg h3 h4
      have ls := sled_ln p g
      refine ⟨trivial, ?_⟩
      walk_at "wpx"
      walk_at "wpc"
      refine ⟨p, g, rfl, ⟨p1.mono (by omega), by omega⟩, by omega, sg.smp (by omega) (by omega), ?_⟩
      refine ⟨F, sled p g, rfl, by omega, by omega, sF.l5 (by omega), ss.l5 (by omega), ?_⟩
      walk_at "wpc"
      refine ⟨g, rfl, ng, sg.smp (by omega) (by omega), by omega, ?_⟩
      try dsimp only
      rw [wpB]
      have l1 := splus_len F (sled p g)
      have l3 := sder_len g
      exact hN _ _ ⟨r, splus F (sled p g), sder g, _, k + 5, kf + 1, rfl, rfl, rfl, es, fun q hq => sr q (List.mem_cons_of_mem _ hq), by omega, (nst_sder g).n, sder_sb sg h4, by omega, splus_sb (k := kf) sF ss (by omega), by omega, by omega, by omega, by omega⟩

theorem sok__law_pl_derived : SpecOk Gm d__law_pl_derived := by
  rintro ds S R Q ⟨p, rfl, np, hp, q⟩
  refine ⟨rfl, ?_⟩
  show wpB Gm b__law_pl_derived _ _ [some (P p), none, none] S
  unfold b__law_pl_derived
  walk_at "wpc"
  rw [enumD_map D.int 0 p]
  have hb : ∀ (l : List Int) (n : Nat), ∀ x ∈ num n l, x.1 < n + l.length ∧ x.2 ∈ l := by
    intro l
    induction l with
    | nil => intro n x h; cases h
    | cons c l ih =>
      intro n x h
      rw [num] at h
      rcases List.mem_cons.mp h with e | h
      · subst e; exact ⟨by simp, List.mem_cons_self⟩
      · obtain ⟨h1, h2⟩ := ih (n + 1) x h
        exact ⟨by simp; omega, List.mem_cons_of_mem _ h2⟩
  refine compL_mapG (α := Nat × Int) (fun x => .tup [.int x.1, .int x.2]) (fun x => .int (x.1 * x.2)) trivial _ [] (fun x hx N hN => ?_) ?_
  · walk_at "wpx"
    obtain ⟨h1, h2⟩ := hb p 0 x hx
    have hk : (x.1 : Int).natAbs < 2 ^ 60 := by have := hp.2; omega
    exact ⟨mulOk hk (hp.1 _ h2) (by decide) (by decide), hN⟩
  · have e : ([] ++ (num 0 p).map fun x => D.int (x.1 * x.2)) = dI ((List.range p.length).map fun (i : Nat) => (i : Int) * cf p i) := by
      have : ∀ (l : List Int) (n : Nat), ((num n l).map fun x => D.int (x.1 * x.2)) = dI ((List.range l.length).map fun (i : Nat) => ((n + i : Nat) : Int) * cf l i) := by
        intro l
        induction l with
        | nil => intro n; rfl
        | cons c l ih =>
          intro n
          rw [num, List.map_cons, ih (n + 1), List.length_cons, List.range_succ_eq_map, List.map_cons, dI_cons, List.map_map]
          congr 2
          apply List.map_congr_left
          intro i hi
          show ((n + 1 + i : Nat) : Int) * cf l i = ((n + (i + 1) : Nat) : Int) * cf (c :: l) (i + 1)
          rw [cf_cons_succ]
          congr 2; omega
      have := this p 0
      simpa using this
    rw [e]
    have e2 : cutD (dI ((List.range p.length).map fun (i : Nat) => (i : Int) * cf p i)) (some 1) none = dI (pder p) := by
      by_cases z : p = []
      · subst z; rfl
      · have l := List.length_pos_iff.mpr z
        have := cut_from (xs := dI ((List.range p.length).map fun (i : Nat) => (i : Int) * cf p i)) (m := 1) (by simp; omega)
        rw [show ((1 : Nat) : Int) = 1 from rfl] at this
        rw [this]
        unfold pder
        rw [← List.map_drop]
        congr 1
        refine List.ext_getElem (by simp) fun i h1 h2 => ?_
        simp only [List.getElem_drop, List.getElem_map, List.getElem_range]
        rw [Nat.add_comm 1 i]
        congr 1
    rw [e2]
    try walk_at "wpx"
    refine ⟨_, pder p, rfl, .inr rfl, ?_, ?_⟩
    · have lp : (pder p).length ≤ p.length := by unfold pder; simp
      have := hp.2
      omega
    · rw [trim_of_nrm (nrm_pder np)]
      exact rtq q
theorem sok__law_sl_ahead : SpecOk Gm d__law_sl_ahead := by
  rintro ds S R Q ⟨s, rfl, n, hs, hl, h⟩
  refine ⟨rfl, ?_⟩
  show wpB Gm b__law_sl_ahead _ _ [some (St s), none, none, none] S
  unfold b__law_sl_ahead
  walk_at "wpc"
  refine compL_mapG (fun q => P q) (fun q => P (pder q)) trivial s [] (fun q hq N hN => ?_) ?_
  · walk_at "wpx"
    exact ⟨q, rfl, n q hq, hs q hq, hN⟩
  · rw [List.nil_append]
    try walk_at "wpx"
    refine ⟨by decide, by decide, by rw [List.length_map, sizeLine_eq]; omega, ?_⟩
    have e1 : (s.map fun q => P (pder q)) ++ [.tup []] = (s.map pder ++ [[]]).map fun p => P p := by
      rw [List.map_append, List.map_map]; rfl
    rw [e1]
    walk_at "wpc"
    have ll : (s.map pder ++ [[]]).length = s.length + 1 := by simp
    rw [len_St, ll]
    refine ⟨_, rfl, by omega, by omega, ?_⟩
    rw [show (((s.length + 1 : Nat) : Int)).toNat = s.length + 1 by omega, range_ints]
    have cpL : ∀ i, cp (s.map pder ++ [[]]) i = pder (cp s i) := fun i => by
      rw [cp_app, List.length_map]
      split
      · rw [cp_map pder rfl]
      · rw [cp_ge (s := s) (by omega)]
        rcases Nat.eq_zero_or_pos (i - s.length) with z | z
        · rw [z]; rfl
        · rw [cp_ge (by show 1 ≤ _; omega)]; rfl
    have pl : ∀ i, (cp s i).length ≤ 60 := fun i => by
      rcases Nat.lt_or_ge i s.length with w | w
      · exact (hs _ (cp_mem w)).2
      · rw [cp_ge w]; decide
    refine compL_mapG (fun i => D.int (i : Nat)) (fun i => P (pplus (pder (cp s i)) (cp ([] :: s) i))) trivial (List.range (s.length + 1)) [] (fun i hi M hM => ?_) ?_
    · have hi2 : i < s.length + 1 := List.mem_range.mp hi
      walk_at "wpx"
      rw [at_St (by rw [ll]; exact hi2), cpL]
      walk_at "wpx"
      have lp : (pder (cp s i)).length ≤ (cp s i).length := by unfold pder; simp
      have p1 := pl i
      by_cases i0 : i = 0
      · rw [decide_eq_false (show ¬ (0 : Int) < (i : Int) by omega)]
        walk_at "wpx"
        rw [cp_nil_cons, if_pos i0] at hM
        exact ⟨by decide, _, [], rfl, by omega, by decide, hM⟩
      · rw [decide_eq_true (show (0 : Int) < (i : Int) by omega)]
        walk_at "wpx"
        rw [show (i : Int) - 1 = ((i - 1 : Nat) : Int) by omega, at_St (by omega)]
        walk_at "wpx"
        rw [cp_nil_cons, if_neg i0] at hM
        have p2 := pl (i - 1)
        exact ⟨_, cp s (i - 1), rfl, by omega, by omega, hM⟩
    · rw [List.nil_append]
      try walk_at "wpx"
      refine ⟨_, (List.range (s.length + 1)).map fun i => pplus (pder (cp s i)) (cp ([] :: s) i), rfl, .inr (by rw [List.map_map]; rfl), by simp; omega, ?_⟩
      have e2 : strm ((List.range (s.length + 1)).map fun i => pplus (pder (cp s i)) (cp ([] :: s) i)) = sder s := by
        refine nst_ext (nst_strm fun p hp => ?_) (nst_sder s) fun i => ?_
        · obtain ⟨i, _, e⟩ := List.mem_map.mp hp
          subst e; exact nrm_pplus _ _
        · rw [cp_strm, cp_map_range, cp_sder]
          split
          · rfl
          · rw [cp_ge (s := s) (by omega), cp_ge (s := [] :: s) (by simp; omega)]; rfl
      rw [e2]
      exact rtq h
theorem sok__law_sl_times : SpecOk Gm d__law_sl_times := by
  rintro ds S R Q ⟨a, b, ka, la, kb, lb, rfl, I, h⟩
  refine ⟨rfl, ?_⟩
  show wpB Gm b__law_sl_times _ _ [some (St a), some (St b), none, none, none] S
  unfold b__law_sl_times
  have h5 := I.h5
  have h6 := I.h6
  have h1 := I.h1
  have h2 := I.h2
  have h3 := I.h3
  have h4 := I.h4
  walk_at "wpc"
  refine ⟨by decide, ?_⟩
  walk_at "wpc"
  refine forL_ind (fun rest ρ S' => ∃ (r F g : Ln) (x : Option D) (k kf : Nat), rest = r.map (fun p => P p) ∧ ρ = [some (St a), some (St b), some (St F), some (St g), x] ∧ S' = S ∧ slm a b = slmG F g r ∧ SB ka la r ∧ r.length ≤ 8 ∧ NrL g ∧ SB k lb g ∧ k + r.length * 5 ≤ kb + 40 ∧ SB kf (la + lb - 1) F ∧ kf + r.length ≤ ka + kb + 53 ∧ ka + (k + r.length * 5) + 5 ≤ kf ∧ F.length ≤ 16 + (8 - r.length) ∧ g.length + r.length ≤ 16) ?_ ?_ _ _ _ ⟨a, [], b, _, kb, ka + kb + 45, rfl, rfl, rfl, rfl, I.sa, h5, I.nb, I.sb, by omega, (fun _ h => nomatch h), by omega, by omega, by simp, by omega⟩
  · rintro ρ S' ⟨r, F, g, x, k, kf, e, rfl, rfl, es, _⟩
    have hr : r = [] := List.map_eq_nil_iff.mp e.symm
    subst hr
    refine ⟨trivial, ?_⟩
    walk_at "wpc"
    rw [es] at h
    exact rtq h
  · rintro d rest ρ S' N ⟨r, F, g, x, k, kf, e, rfl, rfl, es, sr, lr, ng, sg, hk, sF, hkf, hk3, lF, lg⟩ hN
    cases r with
    | nil => cases e
    | cons p r =>
      cases e
      rw [List.length_cons] at lr hk hkf lF lg hk3
      obtain ⟨p1, p2⟩ := sr p List.mem_cons_self
      have ss := sled_sbG p1 p2 sg h3 h4
      have ls := sled_ln p g
      refine ⟨trivial, ?_⟩
      walk_at "wpx"
      walk_at "wpc"
      refine ⟨p, g, rfl, ⟨p1.mono (by omega), by omega⟩, by omega, sg.smp (by omega) (by omega), ?_⟩
      refine ⟨F, sled p g, rfl, by omega, by omega, sF.l5 (by omega), ss.l5 (by omega), ?_⟩
      refine ⟨g, rfl, ng, sg.smp (by omega) (by omega), by omega, ?_⟩
      try walk_at "wpx"
      try dsimp only
      rw [wpB]
      have l1 := splus_len F (sled p g)
      have l3 := sder_len g
      exact hN _ _ ⟨r, splus F (sled p g), sder g, _, k + 5, kf + 1, rfl, rfl, rfl, es, fun q hq => sr q (List.mem_cons_of_mem _ hq), by omega, (nst_sder g).n, sder_sb sg h4, by omega, splus_sb (k := kf) sF ss (by omega), by omega, by omega, by omega, by omega⟩
theorem sok__law_sl_drawn : SpecOk Gm d__law_sl_drawn := by
  rintro ds S R Q ⟨p, o, m, rfl, hS, ho, hm, q⟩
  refine ⟨rfl, ?_⟩
  show wpB Gm b__law_sl_drawn _ _ [some (.ref p), some (.int o), some (.int m)] S
  unfold b__law_sl_drawn
  walk_at "wpc"
  refine ⟨p, (o : Int) + 1, rfl, hS, by omega, by omega, fun r x y z r0 r1 => ?_⟩
  obtain ⟨r, rfl⟩ := Int.eq_ofNat_of_zero_le r0
  refine ⟨p, r, m, rfl, ⟨_, _, _, sup_same⟩, by omega, hm, fun s x y z ns es ls sb => ?_⟩
  simp only [sup_sup]
  exact rtq (q s x y z ns es (by omega) sb)
theorem sok__law_sl_lowest : SpecOk Gm d__law_sl_lowest := by
  rintro ds S R Q ⟨s, rfl, I, q⟩
  refine ⟨rfl, ?_⟩
  show wpB Gm b__law_sl_lowest _ _ [some (St s)] S
  unfold b__law_sl_lowest
  have l0 := List.length_pos_iff.mpr I.ne
  have top := I.n.top I.ne
  have sl := I.len
  walk_at "wpc"
  rw [pick_revP]
  have r0 : cp s.reverse 0 ≠ [] := by rw [cpr0 I.ne]; exact top
  refine ⟨by decide, by decide, s.reverse, rfl, I.n.n.rev, ⟨_, List.mem_reverse.mpr (cp_mem (i := s.length - 1) (by omega)), top⟩, fun p hp => I.sb p (List.mem_reverse.mp hp), by rw [List.length_reverse]; omega, fun t T => ?_⟩
  try walk_at "wpx"
  rw [pick_revP]
  have c0 : cp t 0 ≠ [] := fun z => r0 ((Prp.nil I.n.n.rev T.L.n T.p 0).mpr z)
  have tl := T.p.1
  rw [List.length_reverse] at tl
  have te : t ≠ [] := fun z => by rw [z, List.length_nil] at tl; omega
  have tp := List.length_pos_iff.mpr te
  have pp : Prp s t.reverse := by have := T.p.rev; rwa [List.reverse_reverse] at this
  have lt : cp t.reverse (t.reverse.length - 1) = cp t 0 := by
    rw [List.length_reverse, cp_rev (by omega), show t.length - 1 - (t.length - 1) = 0 by omega]
  refine ⟨by decide, by decide, rtq (q t.reverse ⟨T.L.rev, ⟨T.L.n.rev, fun _ => by rw [lt]; exact c0⟩, pp, ?_⟩)⟩
  unfold tpc
  rw [lt]
  have := T.pos
  rwa [fst1_0 c0] at this
theorem sok__law_drawn_numbers : SpecOk Gm d__law_drawn_numbers := by
  rintro ds S R Q ⟨p, n, rfl, hS, hn, q⟩
  refine ⟨rfl, ?_⟩
  show wpB Gm b__law_drawn_numbers _ _ [some (.ref p), some (.int n), none] S
  unfold b__law_drawn_numbers
  obtain ⟨x0, y0, z0, h0⟩ := hS
  walk_at "wpc"
  refine ⟨_, rfl, by omega, by omega, ?_⟩
  rw [Int.toNat_natCast]
  refine compL_ind (fun rest S' acc => (S' = S ∨ ∃ x y z, S' = Dice p x y z S) ∧ ∃ nums : List Rat, acc = nums.map Fr ∧ (∀ r ∈ nums, BR 3 r) ∧ nums.length + rest.length = n) ?_ ?_ _ _ _ ⟨.inl rfl, [], rfl, (fun _ h => nomatch h), by rw [rangeD_len]; simp⟩
  · rintro S' acc ⟨hS', nums, rfl, nb3, l9⟩
    refine ⟨trivial, ?_⟩
    have l9 : nums.length = n := by simpa using l9
    try walk_at "wpx"
    rcases hS' with e | ⟨x, y, z, e⟩
    · have e2 : Dice p x0 y0 z0 S = S' := by
        rw [e]
        funext a
        show sup S p _ a = S a
        unfold sup
        by_cases w : a = p
        · rw [if_pos w, w, h0]
        · rw [if_neg w]
      rw [← e2]
      exact rtq (q nums x0 y0 z0 l9 nb3)
    · rw [e]
      exact rtq (q nums x y z l9 nb3)
  · rintro d rest S' acc N ⟨hS', nums, rfl, nb3, l9⟩ hN
    have hd : HasDice S' p := by
      rcases hS' with e | ⟨x, y, z, e⟩
      · rw [e]; exact ⟨x0, y0, z0, h0⟩
      · rw [e]; exact ⟨_, _, _, sup_same⟩
    refine ⟨trivial, ?_⟩
    walk_at "wpx"
    refine ⟨p, 9, rfl, hd, by decide, by decide, fun r x y z r0 r1 => ?_⟩
    walk_at "wpx"
    refine ⟨by decide, p, _, rfl, ⟨_, _, _, sup_same⟩, by decide, by decide, fun v hv x y z => ?_⟩
    simp only [List.mem_cons, List.not_mem_nil, or_false] at hv
    obtain ⟨c, rfl, c1, c2⟩ : ∃ c : Int, v = .int c ∧ 1 ≤ c ∧ c ≤ 3 := by
      rcases hv with rfl | rfl | rfl | rfl | rfl
      · exact ⟨1, rfl, by omega, by omega⟩
      · exact ⟨1, rfl, by omega, by omega⟩
      · exact ⟨1, rfl, by omega, by omega⟩
      · exact ⟨2, rfl, by omega, by omega⟩
      · exact ⟨3, rfl, by omega, by omega⟩
    walk_at "wpx"
    have b3 : Bd 3 c := by unfold Bd; show c.natAbs < 8; omega
    refine ⟨_, _, rfl, by omega, b3.mono (by decide), ?_⟩
    simp only [sup_sup]
    have eD : ∃ x' y' z', Dice p x y z S' = Dice p x' y' z' S := by
      rcases hS' with e | ⟨x1, y1, z1, e⟩
      · rw [e]; exact ⟨_, _, _, rfl⟩
      · rw [e]; exact ⟨x, y, z, sup_sup⟩
    obtain ⟨x', y', z', e'⟩ := eD
    replace e' : sup S' p (.lst [.int x, .int y, .int z]) = Dice p x' y' z' S := e'
    rw [e']
    refine hN _ _ ⟨.inr ⟨x', y', z', rfl⟩, nums ++ [Rat.divInt (r - 4) c], by rw [List.map_append]; rfl, fun w hw => ?_, by simp at l9 ⊢; omega⟩
    rcases List.mem_append.mp hw with h | h
    · exact nb3 w h
    · rw [List.mem_singleton.mp h]
      exact ⟨bd_num (by unfold Bd; show (r - 4).natAbs < 8; omega), bd_den b3 (by decide)⟩
theorem sok__law_met : SpecOk Gm d__law_met := by
  rintro ds S R Q ⟨v, rfl, hv, h⟩
  refine ⟨rfl, ?_⟩
  show wpB Gm b__law_met _ _ [some v] S
  unfold b__law_met
  walk_at "wpc"
  try walk_at "wpc"
  intro p q hp hq ne
  have sb : Sub S (sup (sup S q .dx) p (.obj "Slope" q [none])) := (sub_sup hq).trans (sub_sup (by rw [sup_ne (Ne.symm ne)]; exact hp))
  refine ⟨p, q, _, rfl, sup_same, (by rw [sup_ne ne, sup_same]), .inr ⟨hv, fun e => ?_, fun e => ?_⟩⟩
  · refine ⟨rfl, [v], sup_same, (by rw [sup_ne ne, sup_ne ne, sup_same]), ?_⟩
    rw [sup_sup, new_end hp hq]
    walk_at "wpc"
    rw [e] at h
    exact rtq h
  · simp only [List.lookup]
    rw [e] at h
    exact ⟨S, sb, h⟩

theorem sqz_nat {nums : List Rat} {n : Nat} : sqz nums (n : Int) = sq nums (n : Int) := by
  unfold sqz sq
  rw [if_pos (by omega)]
theorem sqz_neg {nums : List Rat} {y : Int} (h : y < 0) : sqz nums y = 0 := by
  unfold sqz
  rw [if_neg (by omega)]
theorem sqz_br {n : Nat} {nums : List Rat} (h : ∀ r ∈ nums, BR n r) (h1 : 1 ≤ n) (y : Int) : BR n (sqz nums y) := by
  rcases Decidable.em (y < 0) with q | q
  · rw [sqz_neg q]
    exact BR.mono (k := 1) ⟨by unfold Bd; decide, by unfold Bd; decide⟩ h1
  · obtain ⟨m, rfl⟩ := Int.eq_ofNat_of_zero_le (show 0 ≤ y by omega)
    show BR n (sqz nums (m : Int))
    rw [sqz_nat]
    exact sq_br h h1 _
/-- a part of a sum -/
def tm (s : Ln) (nums : List Rat) (x k i : Nat) : Rat := (cf (cp s k) i : Rat) * drN k (sqz nums) ((x : Int) - (i : Nat))
theorem tm_zero {s : Ln} {nums : List Rat} {x k i : Nat} (h : cf (cp s k) i = 0 ∨ x < i) : tm s nums x k i = 0 := by
  unfold tm
  rcases h with h | h
  · rw [h]; simp
  · rw [drN_at]
    rcases Decidable.em ((x : Int) - (i : Nat) + (k : Nat) < 0) with q | q
    · rw [sqz_neg q]; simp
    · obtain ⟨m, e⟩ := Int.eq_ofNat_of_zero_le (show 0 ≤ (x : Int) - (i : Nat) + (k : Nat) by omega)
      have e : (x : Int) - (i : Nat) + (k : Nat) = (m : Int) := e
      rw [e, fall_zero (by omega)]; simp
theorem tm_eq {s : Ln} {nums : List Rat} {x k i y : Nat} (h : x = i + y) : tm s nums x k i = ((cf (cp s k) i * rise (y : Nat) k : Int) : Rat) * sq nums ((y + k : Nat) : Int) := by
  unfold tm
  have e : (x : Int) - (i : Nat) = (y : Int) := by omega
  rw [drN_at, e, fall_rise, show (y : Int) + (k : Nat) = ((y + k : Nat) : Int) by omega, sqz_nat, Rat.intCast_mul]
  grind
theorem rise_bd {y : Nat} (hy : y ≤ 20) : ∀ k : Nat, k ≤ 8 → Bd (5 * k + 1) (rise (y : Nat) k)
  | 0, _ => by show (1 : Int).natAbs < 2 ^ 1; decide
  | k + 1, hk => by
    rw [rise]
    have b : Bd 5 ((y : Int) + ((k + 1 : Nat) : Int)) := by unfold Bd; show ((y : Int) + ((k + 1 : Nat) : Int)).natAbs < 32; omega
    exact ((rise_bd hy k (by omega)).mul b).mono (by omega)
theorem cf_bd {k l : Nat} {s : Ln} (h : SB k l s) (j i : Nat) : Bd k (cf (cp s j) i) := by
  rcases Nat.lt_or_ge i (cp s j).length with w | w
  · rw [cf_lt w]
    exact (h.cp j).1 _ (List.getElem_mem w)
  · rw [cf_ge w]; unfold Bd; show 0 < 2 ^ k; exact Nat.pow_pos (by decide)
theorem tm_br {s : Ln} {nums : List Rat} {k l n : Nat} (I : LdI k l n s nums) {x j i : Nat} (hx : x ≤ 20) (hj : j < s.length) : BR (k + n + 5 * s.length) (tm s nums x j i) := by
  have h8 := I.s8
  rcases Nat.lt_or_ge x i with w | w
  · rw [tm_zero (.inr w)]
    exact BR.mono (k := 1) ⟨by unfold Bd; decide, by unfold Bd; decide⟩ (by omega)
  · rw [tm_eq (y := x - i) (by omega)]
    have b := (cf_bd I.sb j i).mul (rise_bd (y := x - i) (by omega) j (by omega))
    have b2 : BR (k + 5 * s.length) ((cf (cp s j) i * rise ((x - i : Nat) : Int) j : Int) : Rat) := ⟨b.mono (by omega), Bd.mono (k := 1) (show Bd 1 (1 : Int) by unfold Bd; decide) (by omega)⟩
    exact (br_mul b2 (sq_br I.nb I.n1 _) (by omega)).mono (by omega)
/-- what the turns add up -/
def tS (s : Ln) (nums : List Rat) (x k i : Nat) : Rat := (sumQ k fun j => pac (cp s j) (drN j (sqz nums)) (x : Nat)) + sumQ i fun i => tm s nums x k i
theorem pac_tm (s : Ln) (nums : List Rat) (x j : Nat) : pac (cp s j) (drN j (sqz nums)) (x : Nat) = sumQ (cp s j).length fun i => tm s nums x j i := rfl
theorem tS_next (s : Ln) (nums : List Rat) (x k : Nat) : tS s nums x k (cp s k).length = tS s nums x (k + 1) 0 := by
  unfold tS
  have h := pac_tm s nums x k
  simp only [sumQ]
  rw [h]
  grind
theorem tS_step (s : Ln) (nums : List Rat) (x k i : Nat) : tS s nums x k (i + 1) = tS s nums x k i + tm s nums x k i := by
  unfold tS
  rw [sumQ]; grind
theorem pac_br {s : Ln} {nums : List Rat} {k l n : Nat} (I : LdI k l n s nums) {x j : Nat} (hx : x ≤ 20) (hj : j < s.length) : BR (1 + l * (k + n + 5 * s.length + 1)) (pac (cp s j) (drN j (sqz nums)) (x : Nat)) := by
  rw [pac_tm]
  refine (br_sum (by omega) _ fun i _ => tm_br I hx hj).mono ?_
  have := Nat.mul_le_mul_right (k + n + 5 * s.length + 1) (I.sb.cp j).2
  omega
theorem ld_sum {k l n j L : Nat} (hl : 1 ≤ l) (hj : j ≤ L) : j * (1 + l * (k + n + 5 * L + 1) + 1) ≤ j * (l * (k + n + 5 * L + 6)) := by
  refine Nat.mul_le_mul_left _ ?_
  rw [show l * (k + n + 5 * L + 6) = l * (k + n + 5 * L + 1) + l * 5 by rw [← Nat.mul_add]]
  omega
theorem tS_br {s : Ln} {nums : List Rat} {k l n : Nat} (I : LdI k l n s nums) {x j i : Nat} (hx : x ≤ 20) (hj : j < s.length) (hi : i ≤ l) : BR 2990 (tS s nums x j i) := by
  have hb := I.bd
  have hl := I.l1
  unfold tS
  have r2 : BR (1 + j * (1 + l * (k + n + 5 * s.length + 1) + 1)) (sumQ j fun j => pac (cp s j) (drN j (sqz nums)) (x : Nat)) := br_sum (U := 1 + l * (k + n + 5 * s.length + 1)) (by omega) j fun i hi => pac_br I hx (by omega)
  have r3 : BR (1 + i * (k + n + 5 * s.length + 1)) (sumQ i fun i => tm s nums x j i) := br_sum (U := k + n + 5 * s.length) (by omega) i fun i' hi' => tm_br I (x := x) (j := j) (i := i') hx hj
  refine (br_add r2 r3 (by omega)).mono ?_
  have e1 : i * (k + n + 5 * s.length + 1) ≤ l * (k + n + 5 * s.length + 1) := Nat.mul_le_mul_right _ hi
  have e2 : (j + 1) * (l * (k + n + 5 * s.length + 6)) ≤ s.length * (l * (k + n + 5 * s.length + 6)) := Nat.mul_le_mul_right _ hj
  rw [Nat.add_mul] at e2
  have e3 := ld_sum (k := k) (n := n) hl (Nat.le_of_lt hj)
  rw [show 1 * (l * (k + n + 5 * s.length + 6)) = l * (k + n + 5 * s.length + 1) + l * 5 by rw [Nat.one_mul, ← Nat.mul_add]] at e2
  omega
theorem led_brD {s : Ln} {nums : List Rat} {k l n : Nat} (I : LdI k l n s nums) : ∀ r ∈ ledD s nums, BR (3 + s.length * (l * (k + n + 5 * s.length + 6))) r := fun r hr => by
  unfold ledD at hr
  obtain ⟨x, hx, rfl⟩ := List.mem_map.mp hr
  have hx := List.mem_range.mp hx
  have h20 := I.l20
  have hl := I.l1
  have l0 := List.length_pos_iff.mpr I.ne
  refine (br_sum (U := 1 + l * (k + n + 5 * s.length + 1)) (by omega) s.length fun i hi => pac_br I (x := x) (by omega) hi).mono ?_
  have e3 := ld_sum (k := k) (n := n) hl (Nat.le_refl s.length)
  omega
theorem range1_ints (k : Nat) : rangeD 1 1 k = (List.range k).map fun i => D.int ((i : Nat) + 1 : Int) := by
  unfold rangeD
  refine List.map_congr_left fun i _ => ?_
  congr 1; omega
theorem sok__law_sl_led : SpecOk Gm d__law_sl_led := by
  rintro ds S R Q ⟨s, nums, k, l, n, rfl, I, q⟩
  refine ⟨rfl, ?_⟩
  show wpB Gm b__law_sl_led _ _ [some (St s), some (.lst (nums.map Fr)), none, none, none, none, none, none, none, none, none, none, none] S
  unfold b__law_sl_led
  have h20 := I.l20
  have hle := I.le
  have h8 := I.s8
  have l0 := List.length_pos_iff.mpr I.ne
  have e1 : ((nums.length : Int) - (s.length : Int) + 1).toNat = nums.length + 1 - s.length := by omega
  walk_at "wpc"
  refine ⟨by decide, fun r hr => ?_⟩
  walk_at "wpc"
  rw [len_St, List.length_map]
  refine ⟨_, rfl, by omega, by omega, ?_⟩
  rw [e1, range_ints]
  refine forL_ind (fun rest ρ S' => ∃ (m : Nat) (a b c d e f g h i : Option D), m ≤ nums.length + 1 - s.length ∧ rest = ((List.range (nums.length + 1 - s.length)).drop m).map (fun i => D.int (i : Nat)) ∧ ρ = [some (St s), some (.lst (nums.map Fr)), some (.int ((nums.length : Int) - (s.length : Int) + 1)), some (.ref r), a, b, c, d, e, f, g, h, i] ∧ S' = sup S r (.lst ((List.range m).map fun x => Fr (actD s (sqz nums) (x : Nat))))) ?_ ?_ _ _ _ ⟨0, _, _, _, _, _, _, _, _, _, Nat.zero_le _, rfl, rfl, rfl⟩
  · rintro ρ S' ⟨m, a, b, c, d, e, f, g, h, i, hm, er, rfl, rfl⟩
    have hm2 : m = nums.length + 1 - s.length := by
      have := List.drop_eq_nil_iff.mp (List.map_eq_nil_iff.mp er.symm)
      rw [List.length_range] at this
      omega
    subst hm2
    refine ⟨trivial, ?_⟩
    walk_at "wpc"
    unfold ledD at q
    rw [List.map_map] at q
    exact ⟨r, _, rfl, sup_same, by rw [del_new hr]; exact rtq q⟩
  · rintro d rest ρ S' N ⟨x, a, b, c, d', e, f, g, h, i, hm, er, rfl, rfl⟩ hN
    have hx : x < nums.length + 1 - s.length := by
      rcases Nat.lt_or_ge x (nums.length + 1 - s.length) with z | z
      · exact z
      · rw [List.drop_eq_nil_of_le (by rw [List.length_range]; exact z)] at er; cases er
    rw [List.drop_eq_getElem_cons (by rw [List.length_range]; exact hx), List.getElem_range] at er
    cases er
    refine ⟨trivial, ?_⟩
    walk_at "wpx"
    walk_at "wpc"
    refine ⟨by decide, ?_⟩
    walk_at "wpc"
    refine forL_ind (fun rest ρ S' => ∃ (j : Nat) (a b c d e f g : Option D), j ≤ s.length ∧ rest = enumD j ((s.drop j).map fun p => P p) ∧ ρ = [some (St s), some (.lst (nums.map Fr)), some (.int ((nums.length : Int) - (s.length : Int) + 1)), some (.ref r), some (.int x), some (Fr (tS s nums x j 0)), a, b, c, d, e, f, g] ∧ S' = sup S r (.lst ((List.range x).map fun x => Fr (actD s (sqz nums) (x : Nat))))) ?_ ?_ _ _ _ ⟨0, _, _, _, _, _, _, _, Nat.zero_le _, rfl, by rw [show tS s nums x 0 0 = 0 from by unfold tS; simp only [sumQ]; exact Rat.add_zero _]; rfl, rfl⟩
    · rintro ρ S' ⟨j, a, b, c, d, e, f, g, hi, er, rfl, rfl⟩
      have hi2 : j = s.length := by
        cases hd : s.drop j with
        | nil => have := List.drop_eq_nil_iff.mp hd; omega
        | cons c l => rw [hd] at er; cases er
      subst hi2
      refine ⟨trivial, ?_⟩
      walk_at "wpc"
      refine ⟨r, rfl, ⟨_, sup_same⟩, _, sup_same, by rw [List.length_map, List.length_range, sizeLine_eq]; omega, ?_⟩
      rw [sup_sup, wpB]
      refine hN _ _ ⟨x + 1, _, _, _, _, _, _, _, _, _, hx, rfl, rfl, ?_⟩
      have eT : tS s nums x s.length 0 = actD s (sqz nums) (x : Nat) := by
        unfold tS actD
        show _ + (0 : Rat) = _
        grind
      rw [List.range_succ, List.map_append, eT]; rfl
    · rintro d rest ρ S' N' ⟨j, a, b, c, d', e, f, g, hi, er, rfl, rfl⟩ hN'
      cases hd : s.drop j with
      | nil => rw [hd] at er; cases er
      | cons c l' =>
        have hj : j < s.length := by
          have := congrArg List.length hd
          rw [List.length_drop, List.length_cons] at this
          omega
        rw [drop_cp hj] at hd
        obtain ⟨rfl, rfl⟩ := List.cons.inj hd
        rw [drop_cp hj] at er
        cases er
        refine ⟨trivial, ?_⟩
        walk_at "wpx"
        walk_at "wpc"
        refine forL_ind (fun rest ρ S' => ∃ (i : Nat) (c d e f g : Option D), i ≤ (cp s j).length ∧ rest = enumD i (((cp s j).drop i).map D.int) ∧ ρ = [some (St s), some (.lst (nums.map Fr)), some (.int ((nums.length : Int) - (s.length : Int) + 1)), some (.ref r), some (.int x), some (Fr (tS s nums x j i)), some (.int j), some (P (cp s j)), c, d, e, f, g] ∧ S' = sup S r (.lst ((List.range x).map fun x => Fr (actD s (sqz nums) (x : Nat))))) ?_ ?_ _ _ _ ⟨0, _, _, _, _, _, Nat.zero_le _, rfl, rfl, rfl⟩
        · rintro ρ S' ⟨i, c, d, e, f, g, hi, er, rfl, rfl⟩
          have hi2 : i = (cp s j).length := by
            cases hd : (cp s j).drop i with
            | nil => have := List.drop_eq_nil_iff.mp hd; omega
            | cons c l => rw [hd] at er; cases er
          subst hi2
          refine ⟨trivial, ?_⟩
          try dsimp only
          rw [wpB]
          exact hN' _ _ ⟨j + 1, _, _, _, _, _, _, _, hj, rfl, by rw [tS_next], rfl⟩
        · rintro d rest ρ S' N2 ⟨i, c, d', e, f, g, hi, er, rfl, rfl⟩ hN2
          cases hd : (cp s j).drop i with
          | nil => rw [hd] at er; cases er
          | cons cc l' =>
            have hi2 : i < (cp s j).length := by
              have := congrArg List.length hd
              rw [List.length_drop, List.length_cons] at this
              omega
            have hd0 := hd
            rw [List.drop_eq_getElem_cons hi2, ← cf_lt hi2] at hd
            obtain ⟨rfl, rfl⟩ := List.cons.inj hd
            rw [hd0] at er
            cases er
            have hil : i ≤ l := Nat.le_trans (Nat.le_of_lt hi2) (I.sb.cp j).2
            refine ⟨trivial, ?_⟩
            walk_at "wpx"
            walk_at "wpc"
            walk_at "wpc"
            have skip : tm s nums x j i = 0 → N2 [some (St s), some (.lst (nums.map Fr)), some (.int ((nums.length : Int) - (s.length : Int) + 1)), some (.ref r), some (.int x), some (Fr (tS s nums x j i)), some (.int j), some (P (cp s j)), some (.int i), some (.int (cf (cp s j) i)), some (.int ((x : Int) - (i : Int))), f, g] (sup S r (.lst ((List.range x).map fun x => Fr (actD s (sqz nums) (x : Nat))))) := fun z => by
              have this := hN2 [some (St s), some (.lst (nums.map Fr)), some (.int ((nums.length : Int) - (s.length : Int) + 1)), some (.ref r), some (.int x), some (Fr (tS s nums x j (i + 1))), some (.int j), some (P (cp s j)), some (.int i), some (.int (cf (cp s j) i)), some (.int ((x : Int) - (i : Int))), f, g] (sup S r (.lst ((List.range x).map fun x => Fr (actD s (sqz nums) (x : Nat))))) ⟨i + 1, _, _, _, _, _, hi2, rfl, rfl, rfl⟩
              rw [tS_step, z, Rat.add_zero] at this
              exact this
            by_cases c0 : cf (cp s j) i = 0
            · rw [decide_eq_true c0]
              walk_at "wpx"
              rw [wpB]
              try dsimp only
              rw [wpB]
              exact skip (tm_zero (.inl c0))
            rw [decide_eq_false c0]
            walk_at "wpx"
            by_cases cx : (0 : Int) ≤ (x : Int) - (i : Int)
            · rw [decide_eq_true cx]
              walk_at "wpx"
              walk_at "wpc"
              obtain ⟨y, hy⟩ : ∃ y : Nat, x = i + y := ⟨x - i, by omega⟩
              have ey : (x : Int) - (i : Int) = (y : Int) := by omega
              rw [ey]
              walk_at "wpc"
              refine ⟨_, _, rfl, rfl, by omega, by omega, ?_⟩
              rw [show ((j : Int) + 1 - 1).toNat = j by omega, range1_ints]
              refine forL_ind (fun rest ρ S' => ∃ (t : Nat) (g : Option D), t ≤ j ∧ rest = ((List.range j).drop t).map (fun i => D.int ((i : Nat) + 1 : Int)) ∧ ρ = [some (St s), some (.lst (nums.map Fr)), some (.int ((nums.length : Int) - (s.length : Int) + 1)), some (.ref r), some (.int x), some (Fr (tS s nums x j i)), some (.int j), some (P (cp s j)), some (.int i), some (.int (cf (cp s j) i)), some (.int y), some (.int (cf (cp s j) i * rise (y : Nat) t)), g] ∧ S' = sup S r (.lst ((List.range x).map fun x => Fr (actD s (sqz nums) (x : Nat))))) ?_ ?_ _ _ _ ⟨0, _, Nat.zero_le _, rfl, by rw [rise, Int.mul_one], rfl⟩
              · rintro ρ S' ⟨t, g, ht, er, rfl, rfl⟩
                have ht2 : t = j := by
                  have := List.drop_eq_nil_iff.mp (List.map_eq_nil_iff.mp er.symm)
                  rw [List.length_range] at this
                  omega
                subst ht2
                refine ⟨trivial, ?_⟩
                walk_at "wpc"
                refine ⟨by decide, ?_⟩
                rw [show (y : Int) + (t : Int) = ((y + t : Nat) : Int) by omega, at_Fr (by omega)]
                walk_at "wpx"
                have b := (cf_bd I.sb t i).mul (rise_bd (y := y) (by omega) t (by omega))
                have hbd := I.bd
                have k1 : k + n + 5 * s.length + 6 ≤ 2900 := by
                  have h1 : 1 * (l * (k + n + 5 * s.length + 6)) ≤ s.length * (l * (k + n + 5 * s.length + 6)) := Nat.mul_le_mul_right _ l0
                  have h2 : 1 * (k + n + 5 * s.length + 6) ≤ l * (k + n + 5 * s.length + 6) := Nat.mul_le_mul_right _ I.l1
                  omega
                have b2 : BR (k + 42) ((cf (cp s t) i * rise (y : Nat) t : Int) : Rat) := ⟨b.mono (by omega), Bd.mono (k := 1) (show Bd 1 (1 : Int) by unfold Bd; decide) (by omega)⟩
                have b3 := tm_br I (x := x) (j := t) (i := i) (by omega) hj
                refine ⟨((cf (cp s t) i * rise (y : Nat) t : Int) : Rat), _, rfl, b2.sm (by omega), (sq_br I.nb I.n1 _).sm (by omega), ?_⟩
                rw [← tm_eq hy]
                refine ⟨_, _, rfl, (tS_br I (by omega) hj hil).sm (by decide), b3.sm (by omega), ?_⟩
                rw [← tS_step]
                try dsimp only
                rw [wpB]
                try dsimp only
                rw [wpB]
                exact hN2 _ _ ⟨i + 1, _, _, _, _, _, hi2, rfl, rfl, rfl⟩
              · rintro d rest ρ S' N3 ⟨t, g, ht, er, rfl, rfl⟩ hN3
                have htj : t < j := by
                  rcases Nat.lt_or_ge t j with z | z
                  · exact z
                  · rw [List.drop_eq_nil_of_le (by rw [List.length_range]; exact z)] at er; cases er
                rw [List.drop_eq_getElem_cons (by rw [List.length_range]; exact htj), List.getElem_range] at er
                cases er
                refine ⟨trivial, ?_⟩
                walk_at "wpx"
                walk_at "wpc"
                have b := (cf_bd I.sb j i).mul (rise_bd (y := y) (by omega) t (by omega))
                have k1 : k ≤ 3000 := by
                  have hbd := I.bd
                  have h1 : 1 * (l * (k + n + 5 * s.length + 6)) ≤ s.length * (l * (k + n + 5 * s.length + 6)) := Nat.mul_le_mul_right _ l0
                  have h2 : 1 * (k + n + 5 * s.length + 6) ≤ l * (k + n + 5 * s.length + 6) := Nat.mul_le_mul_right _ I.l1
                  omega
                have b5 : Bd 6 ((y : Int) + ((t : Int) + 1)) := by unfold Bd; show ((y : Int) + ((t : Int) + 1)).natAbs < 64; omega
                refine ⟨mulOk (b.mono (show _ ≤ 3100 by omega)) b5 (by decide) (by decide), ?_⟩
                try dsimp only
                rw [wpB]
                have er : cf (cp s j) i * rise (y : Nat) t * ((y : Int) + ((t : Int) + 1)) = cf (cp s j) i * rise (y : Nat) (t + 1) := by
                  rw [rise, Int.mul_assoc]; rfl
                rw [er]
                exact hN3 _ _ ⟨t + 1, _, htj, rfl, rfl, rfl⟩
            · rw [decide_eq_false cx]
              walk_at "wpx"
              rw [wpB]
              try dsimp only
              rw [wpB]
              exact skip (tm_zero (.inr (by omega)))

theorem str_sl : ∀ i : Fin 6, PyData.strOk (Str.ofString "slope of order " ++ Str.ofString (toString ((i.val : Int)))) = true := by decide +kernel
theorem slope_str {s : Ln} (h0 : s ≠ []) (h5 : s.length ≤ 5) : ((s.length : Int) - 1).natAbs.log2 < 1920 ∧ (toString ((s.length : Int) - 1) : Str).length ≤ 10 ∧ slopeS s = Str.ofString "slope of order " ++ (toString ((s.length : Int) - 1) : Str) ∧ PyData.strOk (Str.ofString "slope of order " ++ (toString ((s.length : Int) - 1) : Str)) = true := by
  have l1 := List.length_pos_iff.mpr h0
  refine ⟨?_, short _ (by omega) (by omega), by unfold slopeS; rw [Str.empty_append], ?_⟩
  · have : ((s.length : Int) - 1).natAbs.log2 ≤ ((s.length : Int) - 1).natAbs := Nat.log2_le_self _
    omega
  · have := str_sl ⟨s.length - 1, by omega⟩
    rw [show (((⟨s.length - 1, by omega⟩ : Fin 6).val : Nat) : Int) = (s.length : Int) - 1 by show ((s.length - 1 : Nat) : Int) = _; omega] at this
    exact this
theorem Dl.ok {s : Ln} (h : Dl s) : okSl (St s) = true := by
  have l1 := List.length_pos_iff.mpr h.e
  have l2 := h.len
  have l : lnD (St s) = s.length := List.length_map ..
  unfold okSl
  rw [(isSt_St s h.n.n).mpr h.n, l, decide_eq_true (show 1 ≤ s.length by omega), decide_eq_true (show s.length ≤ 5 by omega)]; rfl
theorem new_sl {s : Ln} {S : Sto} {R : XD} {Q : QD} (h : okSl (St s) = true) (q : Q (Sl s) S) :
    ∀ p q', S p = none → S q' = none → q' ≠ p → sp_Slope_init [.ref p, St s] (sup (sup S q' .dx) p (.obj "Slope" q' (List.replicate 1 none))) R fun v S2 => v = .non ∧ ∃ fs, S2 p = some (.obj "Slope" q' (fs.map some)) ∧ S2 q' = some .dx ∧ Q (.obj "Slope" fs) (sdel (sdel S2 p) q') := fun p q' hp hq ne => by
  refine ⟨p, q', _, rfl, sup_same, (by rw [sup_ne ne, sup_same]), .inr ⟨ty_St s, fun _ => ⟨rfl, [St s], sup_same, (by rw [sup_ne ne, sup_ne ne, sup_same]), ?_⟩, fun e => by rw [h] at e; cases e⟩⟩
  rw [sup_sup, new_end hp hq]
  exact q
theorem sok__law_is : SpecOk Gm d__law_is := by
  rintro ds S R Q ⟨s, rfl, I, q⟩
  refine ⟨rfl, ?_⟩
  show wpB Gm b__law_is _ _ [some (Sl s), some (St s), none] S
  unfold b__law_is
  have l1 := List.length_pos_iff.mpr I.e
  have l2 := I.len
  obtain ⟨z1, z2, z3, z4⟩ := slope_str I.e (by omega)
  have c1 : (Str.ofString "slope of order ").length = 15 := by decide +kernel
  walk_at "wpc"
  rw [len_St]
  refine ⟨z1, by rw [c1, sizeLine_eq]; omega, ?_⟩
  walk_at "wpc"
  refine ⟨⟨_, rfl⟩, s, rfl, ⟨_, rfl⟩, s, rfl, ⟨_, rfl⟩, s, rfl, I.e, by omega, ?_⟩
  rw [z3, len_St]
  walk_at "wpx"
  refine ⟨_, rfl, ?_⟩
  repeat (refine ⟨by decide, ?_⟩)
  refine eqD_sh (n := 3) (sh_lst fun d hd => ?_) (by decide) ?_
  · simp only [List.mem_cons, List.not_mem_nil, or_false] at hd
    rcases hd with rfl | rfl | rfl
    · exact sh_it (it_St s)
    · exact sh_it trivial
    · exact sh_str z4
  · walk_at "wpx"
    intro p' q' hp hq ne
    refine ⟨p', q', _, rfl, sup_same, (by rw [sup_ne ne, sup_same]), .inr ⟨ty_St s, fun _ => ⟨rfl, [St s], sup_same, (by rw [sup_ne ne, sup_ne ne, sup_same]), ?_⟩, fun e => by rw [I.ok] at e; cases e⟩⟩
    rw [sup_sup, new_end hp hq]
    exact ⟨⟨_, rfl⟩, ⟨_, rfl⟩, s, _, rfl, .inl ⟨s, rfl, by rw [decide_eq_true rfl]; exact rtq q⟩⟩

theorem splus_comm (a b : Ln) : splus a b = splus b a := nst_ext_v (nst_splus _ _) (nst_splus _ _) fun i x => by rw [cv_splus, cv_splus]; omega
theorem neg_ok {a : Ln} (A : Dl a) : Dl (sled [-1] a) ∧ splus a (sled [-1] a) = [] := by
  have np : Nrm [-1] := fun c h => by cases h; decide
  have ns := nst_sled np A.n.n
  have ll := sled_len (p := [-1]) np (by simp) A.n
  refine ⟨⟨ns, fun e => A.e (List.eq_nil_of_length_eq_zero (by rw [← ll, e]; rfl)), by rw [ll]; exact A.len, ?_⟩, ?_⟩
  · intro q hq
    obtain ⟨r, hr, rfl⟩ := List.mem_map.mp (strm_mem hq)
    obtain ⟨b1, b2⟩ := A.sb r hr
    have e : pmul [-1] r = r.map fun c => -c := by
      refine ext (nrm_pmul np (A.n.n r hr)) ?_ fun i => ?_
      · have := A.n.n r hr
        intro c hc
        rw [List.getLast?_map] at hc
        cases hl : r.getLast? with
        | none => rw [hl] at hc; cases hc
        | some d =>
          rw [hl] at hc; cases hc
          have := this d hl
          show -d ≠ 0
          omega
      · rw [cf_pmul, cf_map (fun c => -c) rfl]
        unfold conv
        rw [sumN_one (k := 0) (by omega) fun i _ ne => by rw [cf_ge (by show 1 ≤ i; omega), Int.zero_mul]]
        show -1 * cf r (i - 0) = _
        rw [Nat.sub_zero]; omega
    show BdP 2 (pmul [-1] r) ∧ (pmul [-1] r).length ≤ 3
    rw [e, List.length_map]
    refine ⟨fun c hc => ?_, b2⟩
    obtain ⟨d, hd, rfl⟩ := List.mem_map.mp hc
    have := b1 d hd
    unfold Bd at this ⊢
    rwa [Int.natAbs_neg]
  · refine nst_ext_v (nst_splus _ _) nst_nil fun i x => ?_
    rw [cv_splus, cv_sled, cv_nil, pei_cons, pei_nil]
    omega
theorem gm {f : Nat → Rat} {n x : Nat} {L : List Rat} (e : L = (List.range n).map f) (h : x < L.length) : L[x] = f x := by subst e; simp
theorem led_get {s : Ln} {nums : List Rat} {x : Nat} (h : x < (ledD s nums).length) : (ledD s nums)[x] = actD s (sqz nums) (x : Nat) := gm (f := fun x => actD s (sqz nums) (x : Nat)) rfl h
theorem sqz_at {nums : List Rat} {m : Nat} (h : m < nums.length) : sqz nums (m : Int) = nums[m] := by
  unfold sqz
  rw [if_pos (by omega), Int.toNat_natCast, List.getD_eq_getElem?_getD, List.getElem?_eq_getElem h, Option.getD_some]
theorem led_allD {a b : Ln} {nums : List Rat} (ea : a ≠ []) (eb : b ≠ []) (hl : (slm a b).length ≤ a.length + b.length - 1) (hn : a.length + b.length - 1 ≤ nums.length) : ledD a (ledD b nums) = (ledD (slm a b) nums).take (ledD a (ledD b nums)).length := by
  have l1 := List.length_pos_iff.mpr ea
  have l2 := List.length_pos_iff.mpr eb
  have lb : (ledD b nums).length = nums.length + 1 - b.length := by unfold ledD; simp
  have la : (ledD a (ledD b nums)).length = nums.length + 1 - b.length + 1 - a.length := by unfold ledD; simp
  have lab : (ledD (slm a b) nums).length = nums.length + 1 - (slm a b).length := by unfold ledD; simp
  refine List.ext_getElem (by rw [List.length_take, la, lab]; omega) fun x h1 h2 => ?_
  rw [List.getElem_take]
  rw [led_get, led_get, actD_slm]
  rw [la] at h1
  refine sumQ_congr fun k hk => ?_
  unfold pac
  refine sumQ_congr fun i hi => ?_
  congr 1
  rw [drN_at, drN_at]
  by_cases z : (x : Int) - (i : Nat) + (k : Nat) < 0
  · rw [sqz_neg z]
    obtain ⟨m, hm⟩ := Int.eq_ofNat_of_zero_le (show 0 ≤ -((x : Int) - (i : Nat) + (k : Nat)) by omega)
    have e0 : actD b (sqz nums) ((x : Int) - (i : Nat) + (k : Nat)) = 0 ∨ (fall ((x : Int) - (i : Nat) + (k : Nat)) k : Rat) = 0 := by
      left
      unfold actD
      refine sumQ_zero fun k' _ => ?_
      unfold pac
      refine sumQ_zero fun i' _ => ?_
      rw [drN_at]
      by_cases w : (x : Int) - (i : Nat) + (k : Nat) - (i' : Nat) + (k' : Nat) < 0
      · rw [sqz_neg w]; simp
      · obtain ⟨m', hm'⟩ := Int.eq_ofNat_of_zero_le (show 0 ≤ (x : Int) - (i : Nat) + (k : Nat) - (i' : Nat) + (k' : Nat) by omega)
        have hm' : (x : Int) - (i : Nat) + (k : Nat) - (i' : Nat) + (k' : Nat) = (m' : Int) := hm'
        rw [hm', fall_zero (by omega)]; simp
    rcases e0 with e | e <;> rw [e] <;> simp
  · obtain ⟨m, hm⟩ := Int.eq_ofNat_of_zero_le (show 0 ≤ (x : Int) - (i : Nat) + (k : Nat) by omega)
    have hm : (x : Int) - (i : Nat) + (k : Nat) = (m : Int) := hm
    rw [hm]
    by_cases w : m < nums.length + 1 - b.length
    · congr 1
      rw [sqz_at (by omega), led_get]
    · exact absurd hk (by omega)

/-- bits and lengths of products of drawn ones -/
theorem Dl.smi {a b : Ln} (A : Dl a) (B : Dl b) : SmI 2 3 2 3 a b := ⟨B.n.n, A.sb, B.sb, by decide, by decide, by decide, by decide, Nat.le_trans A.len (by decide), Nat.le_trans B.len (by decide)⟩
theorem Dl.l5 {a : Ln} (A : Dl a) : L5 a := ⟨Nat.le_trans A.len (by decide), fun p hp => Nat.le_trans (A.sb p hp).2 (by decide)⟩
theorem Dl.lin {a : Ln} (A : Dl a) : LIn a := ⟨A.n, A.e, A.sb.mono (by decide) (by decide), Nat.le_trans A.len (by decide)⟩
theorem pplus_nilL {q : List Int} (h : Nrm q) : pplus [] q = q := ext (nrm_pplus _ _) h fun i => by rw [cf_pplus, cf_nil]; omega
theorem slmG_top : ∀ (a F h : Ln) (H : Nat) (t : List Int), NrL a → a ≠ [] → Nrm t → (∀ i, H + 1 ≤ i → cp h i = []) → cp h H = t → (∀ i, H + a.length ≤ i + 1 → cp F i = []) → cp (slmG F h a) (H + a.length - 1) = pmul (cp a (a.length - 1)) t
  | [], _, _, _, _, _, ne, _, _, _, _ => absurd rfl ne
  | [p], F, h, H, t, na, _, nt, h1, h2, h3 => by
    rw [slmG, slmG]
    show cp (splus F (sled p h)) (H + 1 - 1) = pmul p t
    rw [Nat.add_sub_cancel, cp_splus, cp_sled, h2, h3 H (by simp), pplus_nilL (nrm_pmul (na p List.mem_cons_self) nt)]
  | p :: q :: a, F, h, H, t, na, _, nt, h1, h2, h3 => by
    rw [slmG]
    have e := slmG_top (q :: a) (splus F (sled p h)) (sder h) (H + 1) t (fun r hr => na r (List.mem_cons_of_mem _ hr)) (by simp) nt (fun i hi => by
      rw [cp_sder, h1 i (by omega), cp_nil_cons, if_neg (by omega), h1 (i - 1) (by omega)]; rfl) (by
      rw [cp_sder, h1 (H + 1) (by omega), cp_nil_cons, if_neg (by omega), Nat.add_sub_cancel, h2]
      exact pplus_nilL nt) (fun i hi => by
      rw [List.length_cons] at hi
      rw [cp_splus, cp_sled, h1 i (by omega), h3 i (by rw [List.length_cons, List.length_cons]; omega), pmul_nil_r]; rfl)
    rw [show H + (p :: q :: a).length - 1 = H + 1 + (q :: a).length - 1 by simp only [List.length_cons]; omega, e]
    congr 1
theorem slm_ne {a b : Ln} (ea : a ≠ []) (eb : b ≠ []) (na : NSt a) (nb : NSt b) : slm a b ≠ [] := fun e => by
  have l2 := List.length_pos_iff.mpr eb
  have := slmG_top a [] b (b.length - 1) (cp b (b.length - 1)) na.n ea (nb.n.cp _) (fun i hi => cp_ge (by omega)) rfl (fun i _ => cp_ge (Nat.zero_le _))
  rw [show slmG [] b a = [] from e, cp_ge (Nat.zero_le _)] at this
  rcases pmul_zero this.symm with z | z
  · exact na.top ea z
  · exact nb.top eb z
theorem wide_ok {a : Ln} (A : Dl a) : Nrm (pby (-2) [1, 1]) ∧ pby (-2) [1, 1] ≠ [] ∧ a.map (pmul (pby (-2) [1, 1])) = sled (pby (-2) [1, 1]) a ∧ okSl (St (sled (pby (-2) [1, 1]) a)) = true ∧ LIn (sled (pby (-2) [1, 1]) a) ∧ SmP (pby (-2) [1, 1]) := by
  have np : Nrm (pby (-2) [1, 1]) := nrm_pby' (fun c h => by cases h; decide)
  have pe : pby (-2) [1, 1] ≠ [] := by decide
  have bp : BdP 2 (pby (-2) [1, 1]) := fun c hc => by
    have e : pby (-2) [1, 1] = [-2, -2] := by decide
    rw [e] at hc
    simp only [List.mem_cons, List.not_mem_nil, or_false, or_self] at hc
    rw [hc]; unfold Bd; decide
  have ns := nst_sled np A.n.n
  have ll := sled_len np pe A.n
  have l1 := List.length_pos_iff.mpr A.e
  have nm : NSt (a.map (pmul (pby (-2) [1, 1]))) := ⟨fun q hq => by
    obtain ⟨r, hr, rfl⟩ := List.mem_map.mp hq
    exact nrm_pmul np (A.n.n r hr), fun _ => by
    rw [List.length_map, cp_map _ (pmul_nil_r _)]
    exact fun z => (pmul_zero z).elim pe (A.n.top A.e)⟩
  have e : a.map (pmul (pby (-2) [1, 1])) = sled (pby (-2) [1, 1]) a := (strm_of nm).symm
  have sb := sled_sbG (l := 2) bp (by decide) A.sb (by decide) (by decide)
  have la := A.len
  have se : sled (pby (-2) [1, 1]) a ≠ [] := fun z => A.e (List.eq_nil_of_length_eq_zero (by rw [← ll, z]; rfl))
  have l : lnD (St (sled (pby (-2) [1, 1]) a)) = (sled (pby (-2) [1, 1]) a).length := List.length_map ..
  refine ⟨np, pe, e, ?_, ⟨ns, se, sb.mono (by decide) (by decide), by omega⟩, bp.mono (by decide), by decide⟩
  unfold okSl
  rw [(isSt_St _ ns.n).mpr ns, l, ll, decide_eq_true (show 1 ≤ a.length by omega), decide_eq_true (show a.length ≤ 5 by omega)]; rfl
theorem d3 {P' : Ln → Prop} {L : List Ln} (h : L.length = 3) (hp : ∀ s ∈ L, P' s) : ∃ a b c, L = [a, b, c] ∧ P' a ∧ P' b ∧ P' c := by
  match L, h with
  | [a, b, c], _ => exact ⟨a, b, c, rfl, hp a (by simp), hp b (by simp), hp c (by simp)⟩
theorem itFr (ns : List Rat) : IT 2 (D.lst (ns.map Fr)) := fun d hd => by
  obtain ⟨r, _, e⟩ := List.mem_map.mp hd
  subst e
  intro d hd
  simp only [List.mem_cons, List.not_mem_nil, or_false] at hd
  rcases hd with rfl | rfl <;> trivial
theorem eqD_blF {x : Bool} {k : Bool → Prop} (q : k true) : eqD (.bl x) (.bl x) k := eqD_bl q
theorem sok__law_right : SpecOk Gm d__law_right := by
  rintro ds S R Q ⟨p, rfl, hS, q⟩
  refine ⟨rfl, ?_⟩
  show wpB Gm b__law_right _ _ [some (.ref p), none, none, none, none, none, none, none, none, none, none, none, none, none, none] S
  unfold b__law_right
  walk_at "wpc"
  refine ⟨3, rfl, by decide, by decide, ?_⟩
  refine compL_ind (fun rest S' acc => ((S' = S ∨ ∃ x y z, S' = Dice p x y z S) ∧ (rest = [] → ∃ x y z, S' = Dice p x y z S)) ∧ (∃ L : List Ln, acc = L.map St ∧ (∀ s ∈ L, Dl s) ∧ L.length + rest.length = 3) ∧ ∀ d ∈ rest, ∃ i : Int, d = .int i) ?_ ?_ _ _ _ ⟨⟨.inl rfl, fun e => by cases e⟩, ⟨[], rfl, (fun _ h => nomatch h), rfl⟩, fun d hd => ?_⟩
  · rintro S' acc ⟨⟨_, hS'⟩, ⟨L, rfl, hL, l3⟩, _⟩
    obtain ⟨x, y, z, rfl⟩ := hS' rfl
    obtain ⟨a, b, c, rfl, A, B, C⟩ := d3 (by simpa using l3) hL
    refine ⟨trivial, ?_⟩
    clear hL l3 hS'
    walk_at "wpc"
    refine compL_mapG (fun s => St s) (fun s => Sl s) trivial [a, b, c] [] (fun s hs N hN => ?_) ?_
    · have I : Dl s := by
        simp only [List.mem_cons, List.not_mem_nil, or_false] at hs
        rcases hs with rfl | rfl | rfl <;> assumption
      walk_at "wpx"
      exact new_sl I.ok hN
    show _
    rw [List.nil_append]
    simp only [List.map_cons, List.map_nil]
    walk_at "wpx"
    walk_at "wpc"
    have I0 := A.smi B
    obtain ⟨s1, s2⟩ := slm_sb I0
    have l1 := List.length_pos_iff.mpr A.e
    have l2 := List.length_pos_iff.mpr B.e
    have la := A.len
    have lb := B.len
    have lc := C.len
    refine ⟨a, rfl, A, ?_⟩
    walk_at "wpx"
    refine ⟨⟨_, rfl⟩, a, rfl, A.lin, fun t T => ⟨⟨_, rfl⟩, t, rfl, a, rfl, A.lin, fun t' T' => ?_⟩⟩
    rw [← lowS_uniq T T']
    walk_at "wpx"
    refine eqSt ?_
    rw [decide_eq_true rfl]
    walk_at "wpx"
    rw [wpB]
    clear T' T t t'
    walk_at "wpc"
    refine ⟨a, b, 2, 3, 2, 3, rfl, I0, ?_⟩
    walk_at "wpc"
    refine ⟨a, b, 2, 3, 2, 3, rfl, I0, ⟨_, rfl⟩, _, rfl, ?_⟩
    walk_at "wpx"
    refine eqSt ?_
    rw [decide_eq_true rfl]
    walk_at "wpx"
    refine ⟨b, a, 2, 3, 2, 3, rfl, B.smi A, ⟨_, rfl⟩, _, rfl, ?_⟩
    refine ⟨b, a, 2, 3, 2, 3, rfl, B.smi A, ?_⟩
    walk_at "wpx"
    refine eqSt ?_
    rw [decide_eq_true rfl]
    walk_at "wpx"
    rw [wpB]
    walk_at "wpc"
    obtain ⟨s3, s4⟩ := slm_sb (B.smi C)
    refine ⟨a, b, 2, 3, 2, 3, rfl, I0, ?_⟩
    refine ⟨slm a b, c, 57, 5, 2, 3, rfl, ⟨C.n.n, s1, C.sb, by decide, by decide, by decide, by decide, by omega, by omega⟩, ?_⟩
    refine ⟨b, c, 2, 3, 2, 3, rfl, B.smi C, ?_⟩
    refine ⟨a, slm b c, 2, 3, 57, 5, rfl, ⟨(nst_slm b c).n, A.sb, s3, by decide, by decide, by decide, by decide, by omega, by omega⟩, ?_⟩
    refine ⟨⟨_, rfl⟩, ⟨_, rfl⟩, _, _, rfl, ?_⟩
    rw [slm_assoc, decide_eq_true rfl]
    walk_at "wpx"
    rw [wpB]
    walk_at "wpc"
    refine ⟨a, b, rfl, A.l5.1, B.l5.1, A.l5.2, B.l5.2, ?_⟩
    walk_at "wpc"
    refine ⟨a, b, rfl, A.l5, B.l5, ?_⟩
    obtain ⟨N1, N2⟩ := neg_ok A
    have sm1 : SmP [-1] := ⟨fun c hc => by rw [List.mem_singleton.mp hc]; exact Bd.mono (k := 1) (by unfold Bd; decide) (by decide), by decide⟩
    by_cases sz : splus a b = []
    case' pos =>
      rw [if_pos sz]
      walk_at "wpc"
      rw [sz]
      refine ⟨by decide, eqSt (s := []) (t := []) ?_⟩
      rw [decide_eq_true rfl]
    case' neg =>
      rw [if_neg sz]
      walk_at "wpc"
      refine ⟨⟨_, rfl⟩, _, rfl, ?_⟩
      walk_at "wpx"
      refine eqSt ?_
      rw [decide_eq_true rfl]
    all_goals
      walk_at "wpx"
      rw [wpB]
      walk_at "wpc"
      repeat (refine ⟨by decide, ?_⟩)
      refine ⟨[-1], a, rfl, sm1, A.l5.1, A.sb.smp (by decide) (by decide), ?_⟩
      intro p' q' hp hq ne
      refine ⟨p', q', _, rfl, sup_same, (by rw [sup_ne ne, sup_same]), .inr ⟨ty_St _, fun _ => ⟨rfl, [St (sled [-1] a)], sup_same, (by rw [sup_ne ne, sup_ne ne, sup_same]), ?_⟩, fun e => by rw [N1.ok] at e; cases e⟩⟩
      rw [sup_sup, new_end hp hq]
      clear hp hq ne
      walk_at "wpc"
      refine ⟨a, _, rfl, A.l5, N1.l5, ?_⟩
      rw [if_pos N2]
      walk_at "wpx"
      refine ⟨a, b, rfl, A.l5, B.l5, b, a, rfl, B.l5, A.l5, ?_⟩
      rw [splus_comm b a]
    case' pos =>
      rw [if_pos sz]
      refine .inr ?_
      walk_at "wpx"
      refine eqD_same (n := 0) trivial (by decide) ?_
    case' neg =>
      rw [if_neg sz]
      refine .inl ⟨⟨_, rfl⟩, .inl ⟨_, rfl⟩, _, _, rfl, ?_⟩
      rw [decide_eq_true rfl]
    all_goals
      walk_at "wpx"
      rw [wpB]
      walk_at "wpc"
      refine ⟨p, 9, rfl, ⟨_, _, _, sup_same⟩, by decide, fun nums x y z hl hb => ?_⟩
      have LB : LdI 2 3 3 b nums := ⟨B.sb, hb, B.e, by omega, by omega, by omega, by decide, by decide, by
        have : b.length * (3 * (2 + 3 + 5 * b.length + 6)) ≤ 3 * (3 * (2 + 3 + 5 * 3 + 6)) := Nat.mul_le_mul lb (Nat.mul_le_mul_left _ (by omega))
        omega⟩
      have ll : (ledD b nums).length = 10 - b.length := by unfold ledD; simp; omega
      have nb : ∀ r ∈ ledD b nums, BR 237 r := fun r hr => (led_brD LB r hr).mono (by
        have : b.length * (3 * (2 + 3 + 5 * b.length + 6)) ≤ 3 * (3 * (2 + 3 + 5 * 3 + 6)) := Nat.mul_le_mul lb (Nat.mul_le_mul_left _ (by omega))
        omega)
      have LA : LdI 2 3 237 a (ledD b nums) := ⟨A.sb, nb, A.e, by omega, by omega, by omega, by decide, by decide, by
        have : a.length * (3 * (2 + 237 + 5 * a.length + 6)) ≤ 3 * (3 * (2 + 237 + 5 * 3 + 6)) := Nat.mul_le_mul la (Nat.mul_le_mul_left _ (by omega))
        omega⟩
      have abe : slm a b ≠ [] := slm_ne A.e B.e A.n B.n
      have LAB : LdI 57 5 3 (slm a b) nums := ⟨s1, hb, abe, by omega, by omega, by omega, by decide, by decide, by
        have : (slm a b).length * (5 * (57 + 3 + 5 * (slm a b).length + 6)) ≤ 5 * (5 * (57 + 3 + 5 * 5 + 6)) := Nat.mul_le_mul (by omega) (Nat.mul_le_mul_left _ (by omega))
        omega⟩
      have same := led_allD (nums := nums) A.e B.e s2 (by omega)
      simp only [sup_sup]
      walk_at "wpc"
      refine ⟨b, nums, 2, 3, 3, rfl, LB, a, ledD b nums, 2, 3, 237, rfl, LA, ?_⟩
      walk_at "wpc"
      refine ⟨slm a b, nums, 57, 5, 3, rfl, LAB, ?_⟩
      rw [List.length_map]
      walk_at "wpx"
      have l3 : (ledD (slm a b) nums).length = 10 - (slm a b).length := by unfold ledD; simp; omega
      have l4 : (ledD a (ledD b nums)).length = 11 - b.length - a.length := by unfold ledD; simp; omega
      rw [cut_to (by rw [List.length_map]; omega), ← List.map_take, ← same]
      refine eqD_same (itFr _) (by decide) ?_
      walk_at "wpx"
      rw [wpB]
      walk_at "wpc"
      obtain ⟨w1, w2, w3, w4, w5, w6⟩ := wide_ok A
      refine compL_mapG (fun g => P g) (fun g => P (pmul (pby (-2) [1, 1]) g)) trivial a [] (fun g hg N hN => ?_) ?_
      · walk_at "wpx"
        repeat (refine ⟨by decide, ?_⟩)
        refine ⟨-2, [1, 1], rfl, Bd.mono (k := 2) (by unfold Bd; decide) (by decide), ⟨fun c hc => ?_, by decide⟩, _, g, rfl, w6, A.sb.smp (by decide) (by decide) g hg, hN⟩
        refine Bd.mono (k := 1) ?_ (by decide)
        simp only [List.mem_cons, List.not_mem_nil, or_false, or_self] at hc
        rw [hc]; unfold Bd; decide
      rw [List.nil_append]
      have ew : (a.map fun g => P (pmul (pby (-2) [1, 1]) g)) = (sled (pby (-2) [1, 1]) a).map fun g => P g := by
        rw [← w3, List.map_map]; rfl
      rw [ew]
      try walk_at "wpx"
      intro p' q' hp hq ne
      refine ⟨p', q', _, rfl, sup_same, (by rw [sup_ne ne, sup_same]), .inr ⟨ty_St _, fun _ => ⟨rfl, [St (sled (pby (-2) [1, 1]) a)], sup_same, (by rw [sup_ne ne, sup_ne ne, sup_same]), ?_⟩, fun e => by rw [w4] at e; cases e⟩⟩
      rw [sup_sup, new_end hp hq]
      clear hp hq ne
      walk_at "wpc"
      refine ⟨⟨_, rfl⟩, _, rfl, w5, fun t T => ⟨⟨_, rfl⟩, a, rfl, A.lin, fun t' T' => ?_⟩⟩
      rw [lowS_prp T T' (sled_prp w1 w2 A.n)]
      refine ⟨⟨_, rfl⟩, ⟨_, rfl⟩, _, _, rfl, ?_⟩
      rw [decide_eq_true rfl]
      walk_at "wpx"
      refine ⟨⟨_, rfl⟩, ⟨_, rfl⟩, a, _, rfl, .inl ⟨b, rfl, ?_⟩⟩
      walk_at "wpx"
      refine eqSt ?_
      refine eqD_bl ?_
      walk_at "wpx"
      refine .inl ⟨⟨_, rfl⟩, .inr ⟨_, rfl⟩, a, _, rfl, .inr ⟨⟨_, rfl⟩, ?_⟩⟩
      walk_at "wpx"
      rw [wpB]
      walk_at "wpc"
      exact rtq (q x y z)
  · rintro d rest S' acc N ⟨⟨hS', _⟩, ⟨L, rfl, hL, l3⟩, hd⟩ hN
    have hd' : HasDice S' p := by
      rcases hS' with e | ⟨x, y, z, e⟩
      · rw [e]; exact hS
      · rw [e]; exact ⟨_, _, _, sup_same⟩
    obtain ⟨i, rfl⟩ := hd d List.mem_cons_self
    refine ⟨trivial, ?_⟩
    have eD : ∀ x y z, ∃ x' y' z', sup S' p (.lst [.int x, .int y, .int z]) = Dice p x' y' z' S := fun x y z => by
      rcases hS' with e | ⟨x1, y1, z1, e⟩
      · rw [e]; exact ⟨_, _, _, rfl⟩
      · rw [e]; exact ⟨x, y, z, sup_sup⟩
    have go : ∀ s x y z, NSt s → s ≠ [] → s.length ≤ 3 → SB 2 3 s → N (Dice p x y z S') (L.map St ++ [St s]) := fun s x y z ns es ls sb => by
      obtain ⟨x', y', z', e'⟩ := eD x y z
      show N (sup S' p _) _
      rw [e']
      refine hN _ _ ⟨⟨.inr ⟨x', y', z', rfl⟩, fun _ => ⟨x', y', z', rfl⟩⟩, ⟨L ++ [s], by rw [List.map_append]; rfl, fun t ht => ?_, by simp at l3 ⊢; omega⟩, fun d hd2 => hd d (List.mem_cons_of_mem _ hd2)⟩
      rcases List.mem_append.mp ht with h | h
      · exact hL t h
      · rw [List.mem_singleton.mp h]; exact ⟨ns, es, ls, sb⟩
    walk_at "wpx"
    by_cases ci : (0 : Int) < i
    · rw [decide_eq_true ci]
      walk_at "wpx"
      exact ⟨p, 1, 2, rfl, hd', by decide, by decide, fun s x y z ns es ls sb => go s x y z ns es (by omega) sb⟩
    · rw [decide_eq_false ci]
      walk_at "wpx"
      exact ⟨p, 2, 2, rfl, hd', by decide, by decide, fun s x y z ns es ls sb => go s x y z ns es (by omega) sb⟩
  · obtain ⟨j, _, rfl⟩ := List.mem_map.mp hd
    exact ⟨_, rfl⟩

theorem sok_law : SpecOk Gm d_law := by
  rintro ds S R Q ⟨ns, rfl, q⟩
  refine ⟨rfl, ?_⟩
  show wpB Gm b_law _ _ [some (.scr ns), none, none, none, none, none] S
  unfold b_law
  walk_at "wpc"
  refine ⟨_, _, rfl, rfl, ?_⟩
  refine ⟨_, _, rfl, rfl, ?_⟩
  generalize hm : (if (if (ns.length : Int) < 6 then (ns.length : Int) else 6) > 1 then (if (ns.length : Int) < 6 then (ns.length : Int) else 6) else 1) = m
  have m1 : 1 ≤ m ∧ m ≤ 6 := by rw [← hm]; split <;> (try split) <;> omega
  refine ⟨m, rfl, by omega, by omega, ?_⟩
  refine forL_ind (fun rest ρ S' => ∃ x y z, ρ = [some (.scr ns), x, y, z, none, none] ∧ ∀ d ∈ rest, ∃ i : Nat, d = .int i) ?_ ?_ _ _ _ ⟨none, none, none, rfl, fun d hd => ?_⟩
  · rintro ρ S' ⟨x, y, z, rfl, _⟩
    refine ⟨trivial, ?_⟩
    walk_at "wpc"
    repeat (refine ⟨by decide, ?_⟩)
    walk_at "wpc"
    refine compL_ind (fun rest S2 acc => acc = [] ∧ S2 = S' ∧ ∀ v ∈ rest, Ty3 v ∧ okSl v = false) ?_ ?_ _ _ _ ⟨rfl, rfl, fun v hv => ?_⟩
    · rintro S2 acc ⟨rfl, rfl, _⟩
      refine ⟨trivial, ?_⟩
      try walk_at "wpx"
      repeat (refine ⟨by decide, ?_⟩)
      refine eqD_it (n := 1) (m := 1) (fun _ h => nomatch h) (fun _ h => nomatch h) (by decide) (by decide) (fun _ => ?_) (fun z => absurd rfl z)
      try walk_at "wpx"
      repeat (refine ⟨by decide, ?_⟩)
      refine ⟨_, rfl, ty_St (List.replicate 5 [1]), ?_⟩
      have e5 : okSl (D.tup (List.replicate (Int.toNat 5) [D.tup [D.int 1]]).flatten) = true := by decide
      rw [e5]
      try walk_at "wpx"
      exact rtq (q _)
    · rintro d rest S2 acc N ⟨rfl, rfl, hd⟩ hN
      obtain ⟨h1, h2⟩ := hd d List.mem_cons_self
      refine ⟨trivial, ?_⟩
      try walk_at "wpx"
      refine ⟨d, rfl, h1, ?_⟩
      rw [h2]
      try walk_at "wpx"
      exact hN _ _ ⟨rfl, rfl, fun v hv => hd v (List.mem_cons_of_mem _ hv)⟩
    · simp only [List.mem_cons, List.not_mem_nil, or_false] at hv
      rcases hv with rfl | rfl | rfl | rfl | rfl | rfl | rfl | rfl | rfl | rfl | rfl | rfl
      · exact ⟨t3_no ⟨_, rfl⟩ (fun _ h => nomatch h), rfl⟩
      · exact ⟨ty_St [], by decide⟩
      · exact ⟨ty_St [[]], by decide⟩
      · exact ⟨ty_St [[1], []], by decide⟩
      · exact ⟨ty_St [[0]], by decide⟩
      · exact ⟨t3_no ⟨_, rfl⟩ (fun _ h => nomatch h), rfl⟩
      · exact ⟨ty_St [[1, 0]], by decide⟩
      · exact ⟨t3_tup fun x hx => by
          rw [List.mem_singleton.mp hx]
          exact t2_tup fun x hx => by rw [List.mem_singleton.mp hx]; exact ⟨_, rfl⟩, by decide⟩
      · exact ⟨t3_no ⟨_, rfl⟩ (fun _ h => nomatch h), rfl⟩
      · exact ⟨t3_no ⟨_, rfl⟩ (fun _ h => nomatch h), rfl⟩
      · exact ⟨ty_St (List.replicate 6 [1]), by decide⟩
      · exact ⟨t3_no ⟨_, rfl⟩ (fun _ h => nomatch h), rfl⟩
  · rintro d rest ρ S' N ⟨x, y, z, rfl, hd⟩ hN
    obtain ⟨i, rfl⟩ := hd d List.mem_cons_self
    refine ⟨trivial, ?_⟩
    walk_at "wpc"
    refine ⟨ns, i, rfl, fun p a b c hp => ?_⟩
    walk_at "wpc"
    refine ⟨4, rfl, by decide, by decide, ?_⟩
    refine compL_ind (fun rest S2 acc => acc = [] ∧ HasDice S2 p) ?_ ?_ _ _ _ ⟨rfl, _, _, _, sup_same⟩
    · rintro S2 acc ⟨rfl, hS⟩
      refine ⟨trivial, ?_⟩
      try walk_at "wpx"
      repeat (refine ⟨by decide, ?_⟩)
      refine eqD_it (n := 1) (m := 1) (fun _ h => nomatch h) (fun _ h => nomatch h) (by decide) (by decide) (fun _ => ?_) (fun z => absurd rfl z)
      rw [Bool.not_true, if_neg Bool.false_ne_true]
      rw [wpB]
      try dsimp only
      rw [wpB]
      exact hN _ _ ⟨_, _, _, rfl, fun d' h' => hd d' (List.mem_cons_of_mem _ h')⟩
    · rintro d rest S2 acc N' ⟨rfl, hS⟩ hN'
      refine ⟨trivial, ?_⟩
      try walk_at "wpx"
      refine ⟨p, rfl, hS, fun a b c => ?_⟩
      try walk_at "wpx"
      exact hN' _ _ ⟨rfl, _, _, _, sup_same⟩
  · obtain ⟨j, _, rfl⟩ := List.mem_map.mp hd
    exact ⟨j, by congr 1; omega⟩
theorem law_fin (ns : List Int) : Gm.fn F.law [.scr ns] (fun _ => none) xNo fun d _ => d = .bl true := by
  rw [fn_law]
  exact ⟨ns, rfl, fun _ => rfl⟩

end LW
namespace LW
open PySem PySem.Spec PyProof.Rows L2 DL
/-! ### against the text -/
abbrev top (i : Nat) : Stmt := PySem.Challenge.pw_sumsclose_k46_slopes_and_what_they_lead.main.body.getD i (.Pass ⟨0, 0, 0, 0⟩)
abbrev meth (i j : Nat) : Stmt := match top i with | .ClassDef _ _ _ bd _ _ _ _ _ _ _ => bd.getD j (.Pass ⟨0, 0, 0, 0⟩) | s => s
theorem ok_is_integer : okD d_is_integer (defScope (top 4)) (defBody (top 4)) = true := by kernel_rfl
theorem bd_is_integer : BindOk (defArgs (top 4)) ["value"] := fun _ _ _ _ _ _ _ _ _ _ us hl => match us, hl with | [_], _ => rfl
theorem ok_is_plain_poly : okD d_is_plain_poly (defScope (top 9)) (defBody (top 9)) = true := by kernel_rfl
theorem bd_is_plain_poly : BindOk (defArgs (top 9)) ["value"] := fun _ _ _ _ _ _ _ _ _ _ us hl => match us, hl with | [_], _ => rfl
theorem ok_is_plain_step : okD d_is_plain_step (defScope (top 24)) (defBody (top 24)) = true := by kernel_rfl
theorem bd_is_plain_step : BindOk (defArgs (top 24)) ["value"] := fun _ _ _ _ _ _ _ _ _ _ us hl => match us, hl with | [_], _ => rfl
theorem ok_Slope_init : okD d_Slope_init (defScope (meth 35 1)) (defBody (meth 35 1)) = true := by kernel_rfl
theorem bd_Slope_init : BindOk (defArgs (meth 35 1)) ["self", "polys"] := fun _ _ _ _ _ _ _ _ _ _ us hl => match us, hl with | [_, _], _ => rfl
theorem ok__law_met : okD d__law_met (defScope (top 72)) (defBody (top 72)) = true := by kernel_rfl
theorem bd__law_met : BindOk (defArgs (top 72)) ["polys"] := fun _ _ _ _ _ _ _ _ _ _ us hl => match us, hl with | [_], _ => rfl
theorem ok__law_pl_times : okD d__law_pl_times (defScope (top 53)) (defBody (top 53)) = true := by kernel_rfl
theorem bd__law_pl_times : BindOk (defArgs (top 53)) ["one", "other"] := fun _ _ _ _ _ _ _ _ _ _ us hl => match us, hl with | [_, _], _ => rfl
theorem ok__law_pl_by : okD d__law_pl_by (defScope (top 52)) (defBody (top 52)) = true := by kernel_rfl
theorem bd__law_pl_by : BindOk (defArgs (top 52)) ["number", "poly"] := fun _ _ _ _ _ _ _ _ _ _ us hl => match us, hl with | [_, _], _ => rfl
theorem ok__law_gcd : okD d__law_gcd (defScope (top 45)) (defBody (top 45)) = true := by kernel_rfl
theorem bd__law_gcd : BindOk (defArgs (top 45)) ["one", "other"] := fun _ _ _ _ _ _ _ _ _ _ us hl => match us, hl with | [_, _], _ => rfl
theorem ok__law_fr : okD d__law_fr (defScope (top 47)) (defBody (top 47)) = true := by kernel_rfl
theorem bd__law_fr : BindOk (defArgs (top 47)) ["top", "bottom"] := fun _ _ _ _ _ _ _ _ _ _ us hl => match us, hl with | [_, _], _ => rfl
theorem ok__law_fr_plus : okD d__law_fr_plus (defScope (top 48)) (defBody (top 48)) = true := by kernel_rfl
theorem bd__law_fr_plus : BindOk (defArgs (top 48)) ["one", "other"] := fun _ _ _ _ _ _ _ _ _ _ us hl => match us, hl with | [_, _], _ => rfl
theorem ok__law_fr_times : okD d__law_fr_times (defScope (top 49)) (defBody (top 49)) = true := by kernel_rfl
theorem bd__law_fr_times : BindOk (defArgs (top 49)) ["one", "other"] := fun _ _ _ _ _ _ _ _ _ _ us hl => match us, hl with | [_, _], _ => rfl
theorem ok__law_sl_led : okD d__law_sl_led (defScope (top 69)) (defBody (top 69)) = true := by kernel_rfl
theorem bd__law_sl_led : BindOk (defArgs (top 69)) ["slope", "numbers"] := fun _ _ _ _ _ _ _ _ _ _ us hl => match us, hl with | [_, _], _ => rfl
theorem ok__law_roll : okD d__law_roll (defScope (top 43)) (defBody (top 43)) = true := by kernel_rfl
theorem bd__law_roll : BindOk (defArgs (top 43)) ["dice", "total"] := fun _ _ _ _ _ _ _ _ _ _ us hl => match us, hl with | [_, _], _ => rfl
theorem ok__law_pick : okD d__law_pick (defScope (top 44)) (defBody (top 44)) = true := by kernel_rfl
theorem bd__law_pick : BindOk (defArgs (top 44)) ["dice", "items"] := fun _ _ _ _ _ _ _ _ _ _ us hl => match us, hl with | [_, _], _ => rfl
theorem ok__law_drawn_numbers : okD d__law_drawn_numbers (defScope (top 70)) (defBody (top 70)) = true := by kernel_rfl
theorem bd__law_drawn_numbers : BindOk (defArgs (top 70)) ["dice", "many"] := fun _ _ _ _ _ _ _ _ _ _ us hl => match us, hl with | [_, _], _ => rfl
theorem ok_KnownSlope_init : okD d_KnownSlope_init (defScope (meth 34 1)) (defBody (meth 34 1)) = true := by kernel_rfl
theorem bd_KnownSlope_init : BindOk (defArgs (meth 34 1)) ["self", "step"] := fun _ _ _ _ _ _ _ _ _ _ us hl => match us, hl with | [_, _], _ => rfl
theorem ok_made_slope : okD d_made_slope (defScope (top 36)) (defBody (top 36)) = true := by kernel_rfl
theorem bd_made_slope : BindOk (defArgs (top 36)) ["step"] := fun _ _ _ _ _ _ _ _ _ _ us hl => match us, hl with | [_], _ => rfl
theorem ok_stripped : okD d_stripped (defScope (top 25)) (defBody (top 25)) = true := by kernel_rfl
theorem bd_stripped : BindOk (defArgs (top 25)) ["polys"] := fun _ _ _ _ _ _ _ _ _ _ us hl => match us, hl with | [_], _ => rfl
theorem ok_poly_in : okD d_poly_in (defScope (top 8)) (defBody (top 8)) = true := by kernel_rfl
theorem bd_poly_in : BindOk (defArgs (top 8)) ["numbers"] := fun _ _ _ _ _ _ _ _ _ _ us hl => match us, hl with | [_], _ => rfl
theorem ok_plus_in : okD d_plus_in (defScope (top 10)) (defBody (top 10)) = true := by kernel_rfl
theorem bd_plus_in : BindOk (defArgs (top 10)) ["one", "other"] := fun _ _ _ _ _ _ _ _ _ _ us hl => match us, hl with | [_, _], _ => rfl
theorem ok_step_sum : okD d_step_sum (defScope (top 26)) (defBody (top 26)) = true := by kernel_rfl
theorem bd_step_sum : BindOk (defArgs (top 26)) ["one", "other"] := fun _ _ _ _ _ _ _ _ _ _ us hl => match us, hl with | [_, _], _ => rfl
theorem ok_require_slope : okD d_require_slope (defScope (top 37)) (defBody (top 37)) = true := by kernel_rfl
theorem bd_require_slope : BindOk (defArgs (top 37)) ["value"] := fun _ _ _ _ _ _ _ _ _ _ us hl => match us, hl with | [_], _ => rfl
theorem ok_require_slopes : okD d_require_slopes (defScope (top 38)) (defBody (top 38)) = true := by kernel_rfl
theorem bd_require_slopes : BindOk (defArgs (top 38)) ["one", "other"] := fun _ _ _ _ _ _ _ _ _ _ us hl => match us, hl with | [_, _], _ => rfl
theorem ok_slope_plus : okD d_slope_plus (defScope (top 39)) (defBody (top 39)) = true := by kernel_rfl
theorem bd_slope_plus : BindOk (defArgs (top 39)) ["one", "other"] := fun _ _ _ _ _ _ _ _ _ _ us hl => match us, hl with | [_, _], _ => rfl
theorem ok__law_st : okD d__law_st (defScope (top 60)) (defBody (top 60)) = true := by kernel_rfl
theorem bd__law_st : BindOk (defArgs (top 60)) ["polys"] := fun _ _ _ _ _ _ _ _ _ _ us hl => match us, hl with | [_], _ => rfl
theorem ok__law_st_by : okD d__law_st_by (defScope (top 62)) (defBody (top 62)) = true := by kernel_rfl
theorem bd__law_st_by : BindOk (defArgs (top 62)) ["poly", "step"] := fun _ _ _ _ _ _ _ _ _ _ us hl => match us, hl with | [_, _], _ => rfl
theorem ok__law_pl : okD d__law_pl (defScope (top 50)) (defBody (top 50)) = true := by kernel_rfl
theorem bd__law_pl : BindOk (defArgs (top 50)) ["numbers"] := fun _ _ _ _ _ _ _ _ _ _ us hl => match us, hl with | [_], _ => rfl
theorem ok__law_pl_plus : okD d__law_pl_plus (defScope (top 51)) (defBody (top 51)) = true := by kernel_rfl
theorem bd__law_pl_plus : BindOk (defArgs (top 51)) ["one", "other"] := fun _ _ _ _ _ _ _ _ _ _ us hl => match us, hl with | [_, _], _ => rfl
theorem ok__law_st_plus : okD d__law_st_plus (defScope (top 61)) (defBody (top 61)) = true := by kernel_rfl
theorem bd__law_st_plus : BindOk (defArgs (top 61)) ["one", "other"] := fun _ _ _ _ _ _ _ _ _ _ us hl => match us, hl with | [_, _], _ => rfl
theorem ok_derived_in : okD d_derived_in (defScope (top 18)) (defBody (top 18)) = true := by kernel_rfl
theorem bd_derived_in : BindOk (defArgs (top 18)) ["poly"] := fun _ _ _ _ _ _ _ _ _ _ us hl => match us, hl with | [_], _ => rfl
theorem ok_derived_slope : okD d_derived_slope (defScope (top 32)) (defBody (top 32)) = true := by kernel_rfl
theorem bd_derived_slope : BindOk (defArgs (top 32)) ["step"] := fun _ _ _ _ _ _ _ _ _ _ us hl => match us, hl with | [_], _ => rfl
theorem ok_times_in : okD d_times_in (defScope (top 13)) (defBody (top 13)) = true := by kernel_rfl
theorem bd_times_in : BindOk (defArgs (top 13)) ["one", "other"] := fun _ _ _ _ _ _ _ _ _ _ us hl => match us, hl with | [_, _], _ => rfl
theorem ok_step_led : okD d_step_led (defScope (top 27)) (defBody (top 27)) = true := by kernel_rfl
theorem bd_step_led : BindOk (defArgs (top 27)) ["poly", "step"] := fun _ _ _ _ _ _ _ _ _ _ us hl => match us, hl with | [_, _], _ => rfl
theorem ok_slope_product : okD d_slope_product (defScope (top 33)) (defBody (top 33)) = true := by kernel_rfl
theorem bd_slope_product : BindOk (defArgs (top 33)) ["one", "other"] := fun _ _ _ _ _ _ _ _ _ _ us hl => match us, hl with | [_, _], _ => rfl
theorem ok_slope_times : okD d_slope_times (defScope (top 40)) (defBody (top 40)) = true := by kernel_rfl
theorem bd_slope_times : BindOk (defArgs (top 40)) ["one", "other"] := fun _ _ _ _ _ _ _ _ _ _ us hl => match us, hl with | [_, _], _ => rfl
theorem ok__law_pl_derived : okD d__law_pl_derived (defScope (top 64)) (defBody (top 64)) = true := by kernel_rfl
theorem bd__law_pl_derived : BindOk (defArgs (top 64)) ["poly"] := fun _ _ _ _ _ _ _ _ _ _ us hl => match us, hl with | [_], _ => rfl
theorem ok__law_sl_ahead : okD d__law_sl_ahead (defScope (top 65)) (defBody (top 65)) = true := by kernel_rfl
theorem bd__law_sl_ahead : BindOk (defArgs (top 65)) ["slope"] := fun _ _ _ _ _ _ _ _ _ _ us hl => match us, hl with | [_], _ => rfl
theorem ok__law_sl_times : okD d__law_sl_times (defScope (top 66)) (defBody (top 66)) = true := by kernel_rfl
theorem bd__law_sl_times : BindOk (defArgs (top 66)) ["one", "other"] := fun _ _ _ _ _ _ _ _ _ _ us hl => match us, hl with | [_, _], _ => rfl
theorem ok__law_content : okD d__law_content (defScope (top 46)) (defBody (top 46)) = true := by kernel_rfl
theorem bd__law_content : BindOk (defArgs (top 46)) ["numbers"] := fun _ _ _ _ _ _ _ _ _ _ us hl => match us, hl with | [_], _ => rfl
theorem ok__law_pl_parted : okD d__law_pl_parted (defScope (top 55)) (defBody (top 55)) = true := by kernel_rfl
theorem bd__law_pl_parted : BindOk (defArgs (top 55)) ["one", "other"] := fun _ _ _ _ _ _ _ _ _ _ us hl => match us, hl with | [_, _], _ => rfl
theorem ok__law_pl_over : okD d__law_pl_over (defScope (top 57)) (defBody (top 57)) = true := by kernel_rfl
theorem bd__law_pl_over : BindOk (defArgs (top 57)) ["one", "other"] := fun _ _ _ _ _ _ _ _ _ _ us hl => match us, hl with | [_, _], _ => rfl
theorem ok__law_pl_lowest : okD d__law_pl_lowest (defScope (top 54)) (defBody (top 54)) = true := by kernel_rfl
theorem bd__law_pl_lowest : BindOk (defArgs (top 54)) ["poly"] := fun _ _ _ _ _ _ _ _ _ _ us hl => match us, hl with | [_], _ => rfl
theorem ok__law_pl_common : okD d__law_pl_common (defScope (top 56)) (defBody (top 56)) = true := by kernel_rfl
theorem bd__law_pl_common : BindOk (defArgs (top 56)) ["one", "other"] := fun _ _ _ _ _ _ _ _ _ _ us hl => match us, hl with | [_, _], _ => rfl
theorem ok__law_fm_lowest : okD d__law_fm_lowest (defScope (top 59)) (defBody (top 59)) = true := by kernel_rfl
theorem bd__law_fm_lowest : BindOk (defArgs (top 59)) ["line"] := fun _ _ _ _ _ _ _ _ _ _ us hl => match us, hl with | [_], _ => rfl
theorem ok__law_sl_lowest : okD d__law_sl_lowest (defScope (top 67)) (defBody (top 67)) = true := by kernel_rfl
theorem bd__law_sl_lowest : BindOk (defArgs (top 67)) ["slope"] := fun _ _ _ _ _ _ _ _ _ _ us hl => match us, hl with | [_], _ => rfl
theorem ok_Slope_eq : okD d_Slope_eq (defScope (meth 35 5)) (defBody (meth 35 5)) = true := by kernel_rfl
theorem bd_Slope_eq : BindOk (defArgs (meth 35 5)) ["self", "other"] := fun _ _ _ _ _ _ _ _ _ _ us hl => match us, hl with | [_, _], _ => rfl
theorem ok_Slope_order : okD d_Slope_order (defScope (meth 35 3)) (defBody (meth 35 3)) = true := by kernel_rfl
theorem bd_Slope_order : BindOk (defArgs (meth 35 3)) ["self"] := fun _ _ _ _ _ _ _ _ _ _ us hl => match us, hl with | [_], _ => rfl
theorem ok_Slope_str : okD d_Slope_str (defScope (meth 35 7)) (defBody (meth 35 7)) = true := by kernel_rfl
theorem bd_Slope_str : BindOk (defArgs (meth 35 7)) ["self"] := fun _ _ _ _ _ _ _ _ _ _ us hl => match us, hl with | [_], _ => rfl
theorem ok_Slope_polys : okD d_Slope_polys (defScope (meth 35 2)) (defBody (meth 35 2)) = true := by kernel_rfl
theorem bd_Slope_polys : BindOk (defArgs (meth 35 2)) ["self"] := fun _ _ _ _ _ _ _ _ _ _ us hl => match us, hl with | [_], _ => rfl
theorem ok__law_is : okD d__law_is (defScope (top 71)) (defBody (top 71)) = true := by kernel_rfl
theorem bd__law_is : BindOk (defArgs (top 71)) ["slope", "polys"] := fun _ _ _ _ _ _ _ _ _ _ us hl => match us, hl with | [_, _], _ => rfl
theorem ok__law_pl_drawn : okD d__law_pl_drawn (defScope (top 58)) (defBody (top 58)) = true := by kernel_rfl
theorem bd__law_pl_drawn : BindOk (defArgs (top 58)) ["dice", "most"] := fun _ _ _ _ _ _ _ _ _ _ us hl => match us, hl with | [_, _], _ => rfl
theorem ok__law_st_drawn : okD d__law_st_drawn (defScope (top 63)) (defBody (top 63)) = true := by kernel_rfl
theorem bd__law_st_drawn : BindOk (defArgs (top 63)) ["dice", "order", "degree"] := fun _ _ _ _ _ _ _ _ _ _ us hl => match us, hl with | [_, _, _], _ => rfl
theorem ok__law_sl_drawn : okD d__law_sl_drawn (defScope (top 68)) (defBody (top 68)) = true := by kernel_rfl
theorem bd__law_sl_drawn : BindOk (defArgs (top 68)) ["dice", "order", "degree"] := fun _ _ _ _ _ _ _ _ _ _ us hl => match us, hl with | [_, _, _], _ => rfl
theorem ok_Slope_ne : okD d_Slope_ne (defScope (meth 35 6)) (defBody (meth 35 6)) = true := by kernel_rfl
theorem bd_Slope_ne : BindOk (defArgs (meth 35 6)) ["self", "other"] := fun _ _ _ _ _ _ _ _ _ _ us hl => match us, hl with | [_, _], _ => rfl
theorem ok_by_in : okD d_by_in (defScope (top 11)) (defBody (top 11)) = true := by kernel_rfl
theorem bd_by_in : BindOk (defArgs (top 11)) ["number", "poly"] := fun _ _ _ _ _ _ _ _ _ _ us hl => match us, hl with | [_, _], _ => rfl
theorem ok_over_in : okD d_over_in (defScope (top 16)) (defBody (top 16)) = true := by kernel_rfl
theorem bd_over_in : BindOk (defArgs (top 16)) ["poly", "number"] := fun _ _ _ _ _ _ _ _ _ _ us hl => match us, hl with | [_, _], _ => rfl
theorem ok_minus_in : okD d_minus_in (defScope (top 12)) (defBody (top 12)) = true := by kernel_rfl
theorem bd_minus_in : BindOk (defArgs (top 12)) ["one", "other"] := fun _ _ _ _ _ _ _ _ _ _ us hl => match us, hl with | [_, _], _ => rfl
theorem ok_common_share : okD d_common_share (defScope (top 5)) (defBody (top 5)) = true := by kernel_rfl
theorem bd_common_share : BindOk (defArgs (top 5)) ["one", "other"] := fun _ _ _ _ _ _ _ _ _ _ us hl => match us, hl with | [_, _], _ => rfl
theorem ok_parted_in : okD d_parted_in (defScope (top 19)) (defBody (top 19)) = true := by kernel_rfl
theorem bd_parted_in : BindOk (defArgs (top 19)) ["one", "other"] := fun _ _ _ _ _ _ _ _ _ _ us hl => match us, hl with | [_, _], _ => rfl
theorem ok_exact_in : okD d_exact_in (defScope (top 20)) (defBody (top 20)) = true := by kernel_rfl
theorem bd_exact_in : BindOk (defArgs (top 20)) ["one", "other"] := fun _ _ _ _ _ _ _ _ _ _ us hl => match us, hl with | [_, _], _ => rfl
theorem ok_divided : okD d_divided (defScope (top 28)) (defBody (top 28)) = true := by kernel_rfl
theorem bd_divided : BindOk (defArgs (top 28)) ["polys", "poly", "number"] := fun _ _ _ _ _ _ _ _ _ _ us hl => match us, hl with | [_, _, _], _ => rfl
theorem ok_content_in : okD d_content_in (defScope (top 14)) (defBody (top 14)) = true := by kernel_rfl
theorem bd_content_in : BindOk (defArgs (top 14)) ["poly"] := fun _ _ _ _ _ _ _ _ _ _ us hl => match us, hl with | [_], _ => rfl
theorem ok_content_of : okD d_content_of (defScope (top 15)) (defBody (top 15)) = true := by kernel_rfl
theorem bd_content_of : BindOk (defArgs (top 15)) ["polys"] := fun _ _ _ _ _ _ _ _ _ _ us hl => match us, hl with | [_], _ => rfl
theorem ok_lowest_in : okD d_lowest_in (defScope (top 17)) (defBody (top 17)) = true := by kernel_rfl
theorem bd_lowest_in : BindOk (defArgs (top 17)) ["poly"] := fun _ _ _ _ _ _ _ _ _ _ us hl => match us, hl with | [_], _ => rfl
theorem ok_common_in : okD d_common_in (defScope (top 21)) (defBody (top 21)) = true := by kernel_rfl
theorem bd_common_in : BindOk (defArgs (top 21)) ["one", "other"] := fun _ _ _ _ _ _ _ _ _ _ us hl => match us, hl with | [_, _], _ => rfl
theorem ok_common_of : okD d_common_of (defScope (top 22)) (defBody (top 22)) = true := by kernel_rfl
theorem bd_common_of : BindOk (defArgs (top 22)) ["polys"] := fun _ _ _ _ _ _ _ _ _ _ us hl => match us, hl with | [_], _ => rfl
theorem ok_lowest_step : okD d_lowest_step (defScope (top 29)) (defBody (top 29)) = true := by kernel_rfl
theorem bd_lowest_step : BindOk (defArgs (top 29)) ["step"] := fun _ _ _ _ _ _ _ _ _ _ us hl => match us, hl with | [_], _ => rfl
theorem ok_Slope_lowest : okD d_Slope_lowest (defScope (meth 35 4)) (defBody (meth 35 4)) = true := by kernel_rfl
theorem bd_Slope_lowest : BindOk (defArgs (meth 35 4)) ["self"] := fun _ _ _ _ _ _ _ _ _ _ us hl => match us, hl with | [_], _ => rfl
theorem ok__law_right : okD d__law_right (defScope (top 73)) (defBody (top 73)) = true := by kernel_rfl
theorem bd__law_right : BindOk (defArgs (top 73)) ["dice"] := fun _ _ _ _ _ _ _ _ _ _ us hl => match us, hl with | [_], _ => rfl
theorem ok__law_dice : okD d__law_dice (defScope (top 42)) (defBody (top 42)) = true := by kernel_rfl
theorem bd__law_dice : BindOk (defArgs (top 42)) ["script", "spot"] := fun _ _ _ _ _ _ _ _ _ _ us hl => match us, hl with | [_, _], _ => rfl
theorem ok_law : okD d_law (defScope (top 74)) (defBody (top 74)) = true := by kernel_rfl
theorem bd_law : BindOk (defArgs (top 74)) ["script"] := fun _ _ _ _ _ _ _ _ _ _ us hl => match us, hl with | [_], _ => rfl
def tb0 : List (Df × Stmt) := [(d_is_integer, top 4), (d_is_plain_poly, top 9), (d_is_plain_step, top 24), (d_Slope_init, meth 35 1), (d__law_met, top 72), (d__law_pl_times, top 53), (d__law_pl_by, top 52), (d__law_gcd, top 45), (d__law_fr, top 47)]
def tb1 : List (Df × Stmt) := [(d__law_fr_plus, top 48), (d__law_fr_times, top 49), (d__law_sl_led, top 69), (d__law_roll, top 43), (d__law_pick, top 44), (d__law_drawn_numbers, top 70), (d_KnownSlope_init, meth 34 1), (d_made_slope, top 36), (d_stripped, top 25)]
def tb2 : List (Df × Stmt) := [(d_poly_in, top 8), (d_plus_in, top 10), (d_step_sum, top 26), (d_require_slope, top 37), (d_require_slopes, top 38), (d_slope_plus, top 39), (d__law_st, top 60), (d__law_st_by, top 62), (d__law_pl, top 50)]
def tb3 : List (Df × Stmt) := [(d__law_pl_plus, top 51), (d__law_st_plus, top 61), (d_derived_in, top 18), (d_derived_slope, top 32), (d_times_in, top 13), (d_step_led, top 27), (d_slope_product, top 33), (d_slope_times, top 40), (d__law_pl_derived, top 64)]
def tb4 : List (Df × Stmt) := [(d__law_sl_ahead, top 65), (d__law_sl_times, top 66), (d__law_content, top 46), (d__law_pl_parted, top 55), (d__law_pl_over, top 57), (d__law_pl_lowest, top 54), (d__law_pl_common, top 56), (d__law_fm_lowest, top 59), (d__law_sl_lowest, top 67)]
def tb5 : List (Df × Stmt) := [(d_Slope_eq, meth 35 5), (d_Slope_order, meth 35 3), (d_Slope_str, meth 35 7), (d_Slope_polys, meth 35 2), (d__law_is, top 71), (d__law_pl_drawn, top 58), (d__law_st_drawn, top 63), (d__law_sl_drawn, top 68), (d_Slope_ne, meth 35 6)]
def tb6 : List (Df × Stmt) := [(d_by_in, top 11), (d_over_in, top 16), (d_minus_in, top 12), (d_common_share, top 5), (d_parted_in, top 19), (d_exact_in, top 20), (d_divided, top 28), (d_content_in, top 14), (d_content_of, top 15)]
def tb7 : List (Df × Stmt) := [(d_lowest_in, top 17), (d_common_in, top 21), (d_common_of, top 22), (d_lowest_step, top 29), (d_Slope_lowest, meth 35 4), (d__law_right, top 73), (d__law_dice, top 42), (d_law, top 74)]
def tab : List (Df × Stmt) := (((((((tb0) ++ tb1) ++ tb2) ++ tb3) ++ tb4) ++ tb5) ++ tb6) ++ tb7
theorem calls_ok : callsAll [] (tab.map (·.1)) = true := by kernel_rfl
theorem ok_all_0 : ∀ p ∈ tb0, okD p.1 (defScope p.2) (defBody p.2) = true := List.forall_mem_cons.2 ⟨ok_is_integer, List.forall_mem_cons.2 ⟨ok_is_plain_poly, List.forall_mem_cons.2 ⟨ok_is_plain_step, List.forall_mem_cons.2 ⟨ok_Slope_init, List.forall_mem_cons.2 ⟨ok__law_met, List.forall_mem_cons.2 ⟨ok__law_pl_times, List.forall_mem_cons.2 ⟨ok__law_pl_by, List.forall_mem_cons.2 ⟨ok__law_gcd, List.forall_mem_cons.2 ⟨ok__law_fr, (fun _ h => nomatch h)⟩⟩⟩⟩⟩⟩⟩⟩⟩
theorem ok_all_1 : ∀ p ∈ tb1, okD p.1 (defScope p.2) (defBody p.2) = true := List.forall_mem_cons.2 ⟨ok__law_fr_plus, List.forall_mem_cons.2 ⟨ok__law_fr_times, List.forall_mem_cons.2 ⟨ok__law_sl_led, List.forall_mem_cons.2 ⟨ok__law_roll, List.forall_mem_cons.2 ⟨ok__law_pick, List.forall_mem_cons.2 ⟨ok__law_drawn_numbers, List.forall_mem_cons.2 ⟨ok_KnownSlope_init, List.forall_mem_cons.2 ⟨ok_made_slope, List.forall_mem_cons.2 ⟨ok_stripped, (fun _ h => nomatch h)⟩⟩⟩⟩⟩⟩⟩⟩⟩
theorem ok_all_2 : ∀ p ∈ tb2, okD p.1 (defScope p.2) (defBody p.2) = true := List.forall_mem_cons.2 ⟨ok_poly_in, List.forall_mem_cons.2 ⟨ok_plus_in, List.forall_mem_cons.2 ⟨ok_step_sum, List.forall_mem_cons.2 ⟨ok_require_slope, List.forall_mem_cons.2 ⟨ok_require_slopes, List.forall_mem_cons.2 ⟨ok_slope_plus, List.forall_mem_cons.2 ⟨ok__law_st, List.forall_mem_cons.2 ⟨ok__law_st_by, List.forall_mem_cons.2 ⟨ok__law_pl, (fun _ h => nomatch h)⟩⟩⟩⟩⟩⟩⟩⟩⟩
theorem ok_all_3 : ∀ p ∈ tb3, okD p.1 (defScope p.2) (defBody p.2) = true := List.forall_mem_cons.2 ⟨ok__law_pl_plus, List.forall_mem_cons.2 ⟨ok__law_st_plus, List.forall_mem_cons.2 ⟨ok_derived_in, List.forall_mem_cons.2 ⟨ok_derived_slope, List.forall_mem_cons.2 ⟨ok_times_in, List.forall_mem_cons.2 ⟨ok_step_led, List.forall_mem_cons.2 ⟨ok_slope_product, List.forall_mem_cons.2 ⟨ok_slope_times, List.forall_mem_cons.2 ⟨ok__law_pl_derived, (fun _ h => nomatch h)⟩⟩⟩⟩⟩⟩⟩⟩⟩
theorem ok_all_4 : ∀ p ∈ tb4, okD p.1 (defScope p.2) (defBody p.2) = true := List.forall_mem_cons.2 ⟨ok__law_sl_ahead, List.forall_mem_cons.2 ⟨ok__law_sl_times, List.forall_mem_cons.2 ⟨ok__law_content, List.forall_mem_cons.2 ⟨ok__law_pl_parted, List.forall_mem_cons.2 ⟨ok__law_pl_over, List.forall_mem_cons.2 ⟨ok__law_pl_lowest, List.forall_mem_cons.2 ⟨ok__law_pl_common, List.forall_mem_cons.2 ⟨ok__law_fm_lowest, List.forall_mem_cons.2 ⟨ok__law_sl_lowest, (fun _ h => nomatch h)⟩⟩⟩⟩⟩⟩⟩⟩⟩
theorem ok_all_5 : ∀ p ∈ tb5, okD p.1 (defScope p.2) (defBody p.2) = true := List.forall_mem_cons.2 ⟨ok_Slope_eq, List.forall_mem_cons.2 ⟨ok_Slope_order, List.forall_mem_cons.2 ⟨ok_Slope_str, List.forall_mem_cons.2 ⟨ok_Slope_polys, List.forall_mem_cons.2 ⟨ok__law_is, List.forall_mem_cons.2 ⟨ok__law_pl_drawn, List.forall_mem_cons.2 ⟨ok__law_st_drawn, List.forall_mem_cons.2 ⟨ok__law_sl_drawn, List.forall_mem_cons.2 ⟨ok_Slope_ne, (fun _ h => nomatch h)⟩⟩⟩⟩⟩⟩⟩⟩⟩
theorem ok_all_6 : ∀ p ∈ tb6, okD p.1 (defScope p.2) (defBody p.2) = true := List.forall_mem_cons.2 ⟨ok_by_in, List.forall_mem_cons.2 ⟨ok_over_in, List.forall_mem_cons.2 ⟨ok_minus_in, List.forall_mem_cons.2 ⟨ok_common_share, List.forall_mem_cons.2 ⟨ok_parted_in, List.forall_mem_cons.2 ⟨ok_exact_in, List.forall_mem_cons.2 ⟨ok_divided, List.forall_mem_cons.2 ⟨ok_content_in, List.forall_mem_cons.2 ⟨ok_content_of, (fun _ h => nomatch h)⟩⟩⟩⟩⟩⟩⟩⟩⟩
theorem ok_all_7 : ∀ p ∈ tb7, okD p.1 (defScope p.2) (defBody p.2) = true := List.forall_mem_cons.2 ⟨ok_lowest_in, List.forall_mem_cons.2 ⟨ok_common_in, List.forall_mem_cons.2 ⟨ok_common_of, List.forall_mem_cons.2 ⟨ok_lowest_step, List.forall_mem_cons.2 ⟨ok_Slope_lowest, List.forall_mem_cons.2 ⟨ok__law_right, List.forall_mem_cons.2 ⟨ok__law_dice, List.forall_mem_cons.2 ⟨ok_law, (fun _ h => nomatch h)⟩⟩⟩⟩⟩⟩⟩⟩
theorem ok_all : ∀ p ∈ tab, okD p.1 (defScope p.2) (defBody p.2) = true := List.forall_mem_append.2 ⟨List.forall_mem_append.2 ⟨List.forall_mem_append.2 ⟨List.forall_mem_append.2 ⟨List.forall_mem_append.2 ⟨List.forall_mem_append.2 ⟨List.forall_mem_append.2 ⟨ok_all_0, ok_all_1⟩, ok_all_2⟩, ok_all_3⟩, ok_all_4⟩, ok_all_5⟩, ok_all_6⟩, ok_all_7⟩
theorem bd_all_0 : ∀ p ∈ tb0, BindOk (defArgs p.2) p.1.ps := List.forall_mem_cons.2 ⟨bd_is_integer, List.forall_mem_cons.2 ⟨bd_is_plain_poly, List.forall_mem_cons.2 ⟨bd_is_plain_step, List.forall_mem_cons.2 ⟨bd_Slope_init, List.forall_mem_cons.2 ⟨bd__law_met, List.forall_mem_cons.2 ⟨bd__law_pl_times, List.forall_mem_cons.2 ⟨bd__law_pl_by, List.forall_mem_cons.2 ⟨bd__law_gcd, List.forall_mem_cons.2 ⟨bd__law_fr, (fun _ h => nomatch h)⟩⟩⟩⟩⟩⟩⟩⟩⟩
theorem bd_all_1 : ∀ p ∈ tb1, BindOk (defArgs p.2) p.1.ps := List.forall_mem_cons.2 ⟨bd__law_fr_plus, List.forall_mem_cons.2 ⟨bd__law_fr_times, List.forall_mem_cons.2 ⟨bd__law_sl_led, List.forall_mem_cons.2 ⟨bd__law_roll, List.forall_mem_cons.2 ⟨bd__law_pick, List.forall_mem_cons.2 ⟨bd__law_drawn_numbers, List.forall_mem_cons.2 ⟨bd_KnownSlope_init, List.forall_mem_cons.2 ⟨bd_made_slope, List.forall_mem_cons.2 ⟨bd_stripped, (fun _ h => nomatch h)⟩⟩⟩⟩⟩⟩⟩⟩⟩
theorem bd_all_2 : ∀ p ∈ tb2, BindOk (defArgs p.2) p.1.ps := List.forall_mem_cons.2 ⟨bd_poly_in, List.forall_mem_cons.2 ⟨bd_plus_in, List.forall_mem_cons.2 ⟨bd_step_sum, List.forall_mem_cons.2 ⟨bd_require_slope, List.forall_mem_cons.2 ⟨bd_require_slopes, List.forall_mem_cons.2 ⟨bd_slope_plus, List.forall_mem_cons.2 ⟨bd__law_st, List.forall_mem_cons.2 ⟨bd__law_st_by, List.forall_mem_cons.2 ⟨bd__law_pl, (fun _ h => nomatch h)⟩⟩⟩⟩⟩⟩⟩⟩⟩
theorem bd_all_3 : ∀ p ∈ tb3, BindOk (defArgs p.2) p.1.ps := List.forall_mem_cons.2 ⟨bd__law_pl_plus, List.forall_mem_cons.2 ⟨bd__law_st_plus, List.forall_mem_cons.2 ⟨bd_derived_in, List.forall_mem_cons.2 ⟨bd_derived_slope, List.forall_mem_cons.2 ⟨bd_times_in, List.forall_mem_cons.2 ⟨bd_step_led, List.forall_mem_cons.2 ⟨bd_slope_product, List.forall_mem_cons.2 ⟨bd_slope_times, List.forall_mem_cons.2 ⟨bd__law_pl_derived, (fun _ h => nomatch h)⟩⟩⟩⟩⟩⟩⟩⟩⟩
theorem bd_all_4 : ∀ p ∈ tb4, BindOk (defArgs p.2) p.1.ps := List.forall_mem_cons.2 ⟨bd__law_sl_ahead, List.forall_mem_cons.2 ⟨bd__law_sl_times, List.forall_mem_cons.2 ⟨bd__law_content, List.forall_mem_cons.2 ⟨bd__law_pl_parted, List.forall_mem_cons.2 ⟨bd__law_pl_over, List.forall_mem_cons.2 ⟨bd__law_pl_lowest, List.forall_mem_cons.2 ⟨bd__law_pl_common, List.forall_mem_cons.2 ⟨bd__law_fm_lowest, List.forall_mem_cons.2 ⟨bd__law_sl_lowest, (fun _ h => nomatch h)⟩⟩⟩⟩⟩⟩⟩⟩⟩
theorem bd_all_5 : ∀ p ∈ tb5, BindOk (defArgs p.2) p.1.ps := List.forall_mem_cons.2 ⟨bd_Slope_eq, List.forall_mem_cons.2 ⟨bd_Slope_order, List.forall_mem_cons.2 ⟨bd_Slope_str, List.forall_mem_cons.2 ⟨bd_Slope_polys, List.forall_mem_cons.2 ⟨bd__law_is, List.forall_mem_cons.2 ⟨bd__law_pl_drawn, List.forall_mem_cons.2 ⟨bd__law_st_drawn, List.forall_mem_cons.2 ⟨bd__law_sl_drawn, List.forall_mem_cons.2 ⟨bd_Slope_ne, (fun _ h => nomatch h)⟩⟩⟩⟩⟩⟩⟩⟩⟩
theorem bd_all_6 : ∀ p ∈ tb6, BindOk (defArgs p.2) p.1.ps := List.forall_mem_cons.2 ⟨bd_by_in, List.forall_mem_cons.2 ⟨bd_over_in, List.forall_mem_cons.2 ⟨bd_minus_in, List.forall_mem_cons.2 ⟨bd_common_share, List.forall_mem_cons.2 ⟨bd_parted_in, List.forall_mem_cons.2 ⟨bd_exact_in, List.forall_mem_cons.2 ⟨bd_divided, List.forall_mem_cons.2 ⟨bd_content_in, List.forall_mem_cons.2 ⟨bd_content_of, (fun _ h => nomatch h)⟩⟩⟩⟩⟩⟩⟩⟩⟩
theorem bd_all_7 : ∀ p ∈ tb7, BindOk (defArgs p.2) p.1.ps := List.forall_mem_cons.2 ⟨bd_lowest_in, List.forall_mem_cons.2 ⟨bd_common_in, List.forall_mem_cons.2 ⟨bd_common_of, List.forall_mem_cons.2 ⟨bd_lowest_step, List.forall_mem_cons.2 ⟨bd_Slope_lowest, List.forall_mem_cons.2 ⟨bd__law_right, List.forall_mem_cons.2 ⟨bd__law_dice, List.forall_mem_cons.2 ⟨bd_law, (fun _ h => nomatch h)⟩⟩⟩⟩⟩⟩⟩⟩
theorem bd_all : ∀ p ∈ tab, BindOk (defArgs p.2) p.1.ps := List.forall_mem_append.2 ⟨List.forall_mem_append.2 ⟨List.forall_mem_append.2 ⟨List.forall_mem_append.2 ⟨List.forall_mem_append.2 ⟨List.forall_mem_append.2 ⟨List.forall_mem_append.2 ⟨bd_all_0, bd_all_1⟩, bd_all_2⟩, bd_all_3⟩, bd_all_4⟩, bd_all_5⟩, bd_all_6⟩, bd_all_7⟩
def gs : List (Str × D) := [("NOUGHT", (.tup [])), ("MAX_SLOPE", (.int 5))]
def ns0 : List Str := ["SeriesError", "InvalidLaw", "is_integer", "common_share", "NOUGHT", "poly_in", "is_plain_poly", "plus_in", "by_in", "minus_in", "times_in", "content_in", "content_of", "over_in", "lowest_in", "derived_in", "parted_in", "exact_in", "common_in", "common_of"]
def ns1 : List Str := ["is_plain_step", "stripped", "step_sum", "step_led", "divided", "lowest_step", "MAX_SLOPE", "derived_slope", "slope_product", "KnownSlope", "Slope", "made_slope", "require_slope", "require_slopes", "slope_plus", "slope_times", "_law_dice", "_law_roll", "_law_pick", "_law_gcd"]
def ns2 : List Str := ["_law_content", "_law_fr", "_law_fr_plus", "_law_fr_times", "_law_pl", "_law_pl_plus", "_law_pl_by", "_law_pl_times", "_law_pl_lowest", "_law_pl_parted", "_law_pl_common", "_law_pl_over", "_law_pl_drawn", "_law_fm_lowest", "_law_st", "_law_st_plus", "_law_st_by", "_law_st_drawn", "_law_pl_derived", "_law_sl_ahead"]
def ns3 : List Str := ["_law_sl_times", "_law_sl_lowest", "_law_sl_drawn", "_law_sl_led", "_law_drawn_numbers", "_law_is", "_law_met", "_law_right"]
def names : List Str := ns0 ++ ns1 ++ ns2 ++ ns3
abbrev HRw : PySem.W.OpenRow := PySem.W.OpenLaw.row PySem.Challenge.rw_sumsclose_k46_slopes_and_what_they_lead
abbrev hk : PySem.W.Hook := hookQ 5 cls xcs tab gs
def ob (s : PySem.W.SharedT) : AlQ := obsQG 5 cls xcs tab gs (HandSHeadRun.getT s)
theorem ob_eq (s : PySem.W.SharedT) : ob s = hk.obs s.abs := obsQG_eq (HandSHeadRun.getT_eq s)
section
open PySem PySem.W PySem.Calls PyProof.Rows
set_option maxHeartbeats 0 in
theorem runL (w : PySem.World) : ∀ os : PySem.OsState, ((HandSHeadRun.endF (HandSHeadRun.stepQ (HandSHeadRun.denQ HandSHeadRun.tabQ) HRw.prog w) 30000 HRw.prog w os).map fun s => HandSHeadRun.looksF HRw.prog (boot_heap w.params) s.abs) = some true := by
  intro os
  kernel_rfl
set_option maxHeartbeats 0 in
theorem runS (w : PySem.World) : ∀ os : PySem.OsState, ((HandSHeadRun.endF (HandSHeadRun.stepQ (HandSHeadRun.denQ HandSHeadRun.tabQ) HRw.prog w) 30000 HRw.prog w os).map fun s => HandSHeadRun.seenQ (PySem.W.view HRw.prog [74]) names (importedModules HRw.prog.main.body) (fun s => xlAt (PySem.W.view HRw.prog [74]) [] s && recOk HRw.toRowW.records s) s.abs) = some (openGood (PySem.W.view HRw.prog [74]) names) := by
  intro os
  kernel_rfl
set_option maxHeartbeats 0 in
theorem runO0 (w : PySem.World) : ∀ os : PySem.OsState, ((HandSHeadRun.endF (HandSHeadRun.stepQ (HandSHeadRun.denQ HandSHeadRun.tabQ) HRw.prog w) 30000 HRw.prog w os).map fun s => obsQG 5 cls xcs tb0 gs (HandSHeadRun.getT s)) = some (valQ tb0) := by
  intro os
  kernel_rfl
set_option maxHeartbeats 0 in
theorem runO1 (w : PySem.World) : ∀ os : PySem.OsState, ((HandSHeadRun.endF (HandSHeadRun.stepQ (HandSHeadRun.denQ HandSHeadRun.tabQ) HRw.prog w) 30000 HRw.prog w os).map fun s => obsQG 5 [] [] tb1 [] (HandSHeadRun.getT s)) = some (valQ tb1) := by
  intro os
  kernel_rfl
set_option maxHeartbeats 0 in
theorem runO2 (w : PySem.World) : ∀ os : PySem.OsState, ((HandSHeadRun.endF (HandSHeadRun.stepQ (HandSHeadRun.denQ HandSHeadRun.tabQ) HRw.prog w) 30000 HRw.prog w os).map fun s => obsQG 5 [] [] tb2 [] (HandSHeadRun.getT s)) = some (valQ tb2) := by
  intro os
  kernel_rfl
set_option maxHeartbeats 0 in
theorem runO3 (w : PySem.World) : ∀ os : PySem.OsState, ((HandSHeadRun.endF (HandSHeadRun.stepQ (HandSHeadRun.denQ HandSHeadRun.tabQ) HRw.prog w) 30000 HRw.prog w os).map fun s => obsQG 5 [] [] tb3 [] (HandSHeadRun.getT s)) = some (valQ tb3) := by
  intro os
  kernel_rfl
set_option maxHeartbeats 0 in
theorem runO4 (w : PySem.World) : ∀ os : PySem.OsState, ((HandSHeadRun.endF (HandSHeadRun.stepQ (HandSHeadRun.denQ HandSHeadRun.tabQ) HRw.prog w) 30000 HRw.prog w os).map fun s => obsQG 5 [] [] tb4 [] (HandSHeadRun.getT s)) = some (valQ tb4) := by
  intro os
  kernel_rfl
set_option maxHeartbeats 0 in
theorem runO5 (w : PySem.World) : ∀ os : PySem.OsState, ((HandSHeadRun.endF (HandSHeadRun.stepQ (HandSHeadRun.denQ HandSHeadRun.tabQ) HRw.prog w) 30000 HRw.prog w os).map fun s => obsQG 5 [] [] tb5 [] (HandSHeadRun.getT s)) = some (valQ tb5) := by
  intro os
  kernel_rfl
set_option maxHeartbeats 0 in
theorem runO6 (w : PySem.World) : ∀ os : PySem.OsState, ((HandSHeadRun.endF (HandSHeadRun.stepQ (HandSHeadRun.denQ HandSHeadRun.tabQ) HRw.prog w) 30000 HRw.prog w os).map fun s => obsQG 5 [] [] tb6 [] (HandSHeadRun.getT s)) = some (valQ tb6) := by
  intro os
  kernel_rfl
set_option maxHeartbeats 0 in
theorem runO7 (w : PySem.World) : ∀ os : PySem.OsState, ((HandSHeadRun.endF (HandSHeadRun.stepQ (HandSHeadRun.denQ HandSHeadRun.tabQ) HRw.prog w) 30000 HRw.prog w os).map fun s => obsQG 5 [] [] tb7 [] (HandSHeadRun.getT s)) = some (valQ tb7) := by
  intro os
  kernel_rfl
end
theorem run (w : World) : HandSHeadRun.RunEq HRw (PySem.W.view HRw.prog [74]) hk ob 30000 names w := by
  intro os
  exact map3 (runL w os) (runS w os) (map_obsQ (map_obsQ (map_obsQ (map_obsQ (map_obsQ (map_obsQ (map_obsQ (runO0 w os) (runO1 w os)) (runO2 w os)) (runO3 w os)) (runO4 w os)) (runO5 w os)) (runO6 w os)) (runO7 w os))
theorem sp_all_0 : ∀ p ∈ tb0, SpecOk Gm p.1 := List.forall_mem_cons.2 ⟨sok_is_integer, List.forall_mem_cons.2 ⟨sok_is_plain_poly, List.forall_mem_cons.2 ⟨sok_is_plain_step, List.forall_mem_cons.2 ⟨sok_Slope_init, List.forall_mem_cons.2 ⟨sok__law_met, List.forall_mem_cons.2 ⟨sok__law_pl_times, List.forall_mem_cons.2 ⟨sok__law_pl_by, List.forall_mem_cons.2 ⟨sok__law_gcd, List.forall_mem_cons.2 ⟨sok__law_fr, (fun _ h => nomatch h)⟩⟩⟩⟩⟩⟩⟩⟩⟩
theorem sp_all_1 : ∀ p ∈ tb1, SpecOk Gm p.1 := List.forall_mem_cons.2 ⟨sok__law_fr_plus, List.forall_mem_cons.2 ⟨sok__law_fr_times, List.forall_mem_cons.2 ⟨sok__law_sl_led, List.forall_mem_cons.2 ⟨sok__law_roll, List.forall_mem_cons.2 ⟨sok__law_pick, List.forall_mem_cons.2 ⟨sok__law_drawn_numbers, List.forall_mem_cons.2 ⟨sok_KnownSlope_init, List.forall_mem_cons.2 ⟨sok_made_slope, List.forall_mem_cons.2 ⟨sok_stripped, (fun _ h => nomatch h)⟩⟩⟩⟩⟩⟩⟩⟩⟩
theorem sp_all_2 : ∀ p ∈ tb2, SpecOk Gm p.1 := List.forall_mem_cons.2 ⟨sok_poly_in, List.forall_mem_cons.2 ⟨sok_plus_in, List.forall_mem_cons.2 ⟨sok_step_sum, List.forall_mem_cons.2 ⟨sok_require_slope, List.forall_mem_cons.2 ⟨sok_require_slopes, List.forall_mem_cons.2 ⟨sok_slope_plus, List.forall_mem_cons.2 ⟨sok__law_st, List.forall_mem_cons.2 ⟨sok__law_st_by, List.forall_mem_cons.2 ⟨sok__law_pl, (fun _ h => nomatch h)⟩⟩⟩⟩⟩⟩⟩⟩⟩
theorem sp_all_3 : ∀ p ∈ tb3, SpecOk Gm p.1 := List.forall_mem_cons.2 ⟨sok__law_pl_plus, List.forall_mem_cons.2 ⟨sok__law_st_plus, List.forall_mem_cons.2 ⟨sok_derived_in, List.forall_mem_cons.2 ⟨sok_derived_slope, List.forall_mem_cons.2 ⟨sok_times_in, List.forall_mem_cons.2 ⟨sok_step_led, List.forall_mem_cons.2 ⟨sok_slope_product, List.forall_mem_cons.2 ⟨sok_slope_times, List.forall_mem_cons.2 ⟨sok__law_pl_derived, (fun _ h => nomatch h)⟩⟩⟩⟩⟩⟩⟩⟩⟩
theorem sp_all_4 : ∀ p ∈ tb4, SpecOk Gm p.1 := List.forall_mem_cons.2 ⟨sok__law_sl_ahead, List.forall_mem_cons.2 ⟨sok__law_sl_times, List.forall_mem_cons.2 ⟨sok__law_content, List.forall_mem_cons.2 ⟨sok__law_pl_parted, List.forall_mem_cons.2 ⟨sok__law_pl_over, List.forall_mem_cons.2 ⟨sok__law_pl_lowest, List.forall_mem_cons.2 ⟨sok__law_pl_common, List.forall_mem_cons.2 ⟨sok__law_fm_lowest, List.forall_mem_cons.2 ⟨sok__law_sl_lowest, (fun _ h => nomatch h)⟩⟩⟩⟩⟩⟩⟩⟩⟩
theorem sp_all_5 : ∀ p ∈ tb5, SpecOk Gm p.1 := List.forall_mem_cons.2 ⟨sok_Slope_eq, List.forall_mem_cons.2 ⟨sok_Slope_order, List.forall_mem_cons.2 ⟨sok_Slope_str, List.forall_mem_cons.2 ⟨sok_Slope_polys, List.forall_mem_cons.2 ⟨sok__law_is, List.forall_mem_cons.2 ⟨sok__law_pl_drawn, List.forall_mem_cons.2 ⟨sok__law_st_drawn, List.forall_mem_cons.2 ⟨sok__law_sl_drawn, List.forall_mem_cons.2 ⟨sok_Slope_ne, (fun _ h => nomatch h)⟩⟩⟩⟩⟩⟩⟩⟩⟩
theorem sp_all_6 : ∀ p ∈ tb6, SpecOk Gm p.1 := List.forall_mem_cons.2 ⟨sok_by_in, List.forall_mem_cons.2 ⟨sok_over_in, List.forall_mem_cons.2 ⟨sok_minus_in, List.forall_mem_cons.2 ⟨sok_common_share, List.forall_mem_cons.2 ⟨sok_parted_in, List.forall_mem_cons.2 ⟨sok_exact_in, List.forall_mem_cons.2 ⟨sok_divided, List.forall_mem_cons.2 ⟨sok_content_in, List.forall_mem_cons.2 ⟨sok_content_of, (fun _ h => nomatch h)⟩⟩⟩⟩⟩⟩⟩⟩⟩
theorem sp_all_7 : ∀ p ∈ tb7, SpecOk Gm p.1 := List.forall_mem_cons.2 ⟨sok_lowest_in, List.forall_mem_cons.2 ⟨sok_common_in, List.forall_mem_cons.2 ⟨sok_common_of, List.forall_mem_cons.2 ⟨sok_lowest_step, List.forall_mem_cons.2 ⟨sok_Slope_lowest, List.forall_mem_cons.2 ⟨sok__law_right, List.forall_mem_cons.2 ⟨sok__law_dice, List.forall_mem_cons.2 ⟨sok_law, (fun _ h => nomatch h)⟩⟩⟩⟩⟩⟩⟩⟩
theorem sp_all : ∀ p ∈ tab, SpecOk Gm p.1 := List.forall_mem_append.2 ⟨List.forall_mem_append.2 ⟨List.forall_mem_append.2 ⟨List.forall_mem_append.2 ⟨List.forall_mem_append.2 ⟨List.forall_mem_append.2 ⟨List.forall_mem_append.2 ⟨sp_all_0, sp_all_1⟩, sp_all_2⟩, sp_all_3⟩, sp_all_4⟩, sp_all_5⟩, sp_all_6⟩, sp_all_7⟩
theorem cls_all : ∀ p ∈ tab, ∀ q ∈ p.1.cls, q ∈ LW.cls := by
  have e : (tab.all fun p => decide (p.1.cls = LW.cls)) = true := by kernel_rfl
  intro p hp q hq
  have := of_decide_eq_true (List.all_eq_true.mp e p hp)
  rw [this] at hq
  exact hq
def LL (K : PySem.W.Frag) : Lnk := ⟨Gm, xrOf K xcs⟩
theorem xc_all : ∀ p ∈ tab, p.1.xc = xcs := by
  have e : (tab.all fun p => decide (p.1.xc = xcs)) = true := by kernel_rfl
  intro p hp
  exact of_decide_eq_true (List.all_eq_true.mp e p hp)
theorem gl_all {K : PySem.W.Frag} {mg : Str → Option Value} (h : ∀ g ∈ gs, ∃ (u : Value) (v : V), mg g.1 = some u ∧ RelV v u ∧ ∀ O H, Rp K O H v g.2) : ∀ p ∈ tab, ∀ g ∈ p.1.gls, GlG (LL K) K mg g.1 g.2 := by
  have hg : ∀ k x, (k, x) ∈ [(G.NOUGHT, ("NOUGHT" : Str)), (G.MAX_SLOPE, ("MAX_SLOPE" : Str))] → GlG (LL K) K mg k x := by
    intro k x hkx
    simp only [List.mem_cons, Prod.mk.injEq, List.not_mem_nil, or_false] at hkx
    rcases hkx with ⟨rfl, rfl⟩ | ⟨rfl, rfl⟩
    · exact h _ (List.mem_of_getElem? (i := 0) rfl)
    · exact h _ (List.mem_of_getElem? (i := 1) rfl)
  have hm : ∀ p ∈ tab, ∀ g ∈ p.1.gls, g ∈ [(G.NOUGHT, ("NOUGHT" : Str)), (G.MAX_SLOPE, ("MAX_SLOPE" : Str))] := by
    have e : (tab.all fun p => p.1.gls.all fun g => [(G.NOUGHT, ("NOUGHT" : Str)), (G.MAX_SLOPE, ("MAX_SLOPE" : Str))].contains g) = true := by kernel_rfl
    intro p hp g hq
    have := List.all_eq_true.mp (List.all_eq_true.mp e p hp) g hq
    simpa using this
  exact fun p hp g hq => hg g.1 g.2 (hm p hp g hq)
theorem facts {P : Program} {w : World} {K : PySem.W.Frag} {h : Heap} {mg : Str → Option Value} {f : Addr} (X : K.In h) (G : h.Ns mainGlobals mg) (N : h.NoSeer) (ht : P.given.tree = none) (hfa : mg ("law" : Str) = some (.ref f)) (c : SaysQ cls xcs tab gs K) :
    ∃ (K1 : PySem.W.Frag) (fd : FuncData), K1.In h ∧ (∀ (s : Shared) (v : Value), BindsTo s fd ⟨[v], []⟩ [("script", v)]) ∧ ∀ base : Heap, K1.In base → FnOk P w K1 mg base CX0 d_law.lvl f fd ["script"] (fun vs H Q _ => spOf (LL K1) K1 (Gm.fn F.law) vs H Q E0) := by
  obtain ⟨hT, hbl, hgs, ⟨ca, cm⟩, ⟨xa, xm⟩, sr⟩ := says_ok (tab := tab) X G c
  have hin : (d_law, top 74) ∈ tab := List.mem_of_getElem? (i := 70) rfl
  obtain ⟨f1, fd, FF, m1⟩ := hT _ hin
  have e1 : f1 = f := by
    have := m1.1.symm.trans hfa
    exact Value.ref.inj (Option.some.inj this)
  subst e1
  refine ⟨K, fd, X, fun s v => FF.bindsA (ps := ["script"]) (fun kV doc pm an cdv ct us hl => bd_law _ _ _ _ kV doc pm an cdv ct us hl) s [v] rfl, fun base hbs => ?_⟩
  obtain ⟨f2, fd2, hF, m2, _, oc, od, osl, lk⟩ := link_all (L := LL K) (P := P) (w := w) (base := base) (seer_ok X N sr base hbs) ht hbl ⟨ca, cm, xa, xm, rfl⟩ tab [] (fun _ h => nomatch h) calls_ok hT ok_all bd_all sp_all (gl_all hgs) (fun p hp q hq => cls_all p hp q hq) xc_all _ hin
  have e2 : f2 = f1 := by
    have := m2.1.symm.trans hfa
    exact Value.ref.inj (Option.some.inj this)
  subst e2
  obtain ⟨oc2, od2, dV, kV, doc, pm, an, cdv, ct, osl2, _, lk2, _⟩ := FF.ex
  have e3 : fd2 = fd := by
    rw [lk] at lk2
    injection lk2 with z
    injection z with _ _ z2 _
    injection z2
  subst e3
  exact FnOk.to0 hF
end LW
open PySem PySem.W PySem.Calls PyProof.Rows
set_option maxHeartbeats 0 in
theorem PySem.Challenge.cw_sumsclose_k46_slopes_and_what_they_lead_holds : PySem.Challenge.rw_sumsclose_k46_slopes_and_what_they_lead.Holds := by
  w_on; o_law
  refine HandSHeadRun.head_any (r := OpenLaw.row PySem.Challenge.rw_sumsclose_k46_slopes_and_what_they_lead) (q := view (OpenLaw.row PySem.Challenge.rw_sumsclose_k46_slopes_and_what_they_lead).prog [74]) (H := LW.hk) (ob := LW.ob) (M := 30000) (loose := LW.names) (d := HandSHeadRun.topDef (OpenLaw.row PySem.Challenge.rw_sumsclose_k46_slopes_and_what_they_lead).prog 74) (kwd := []) LW.ob_eq
    (by kernel_rfl) (fun s => by kernel_rfl) LW.run (by kernel_rfl) (by kernel_rfl) (by kernel_rfl) (by rfl) (by first | assumption | decide +kernel) (by decide +kernel) ⟨rfl, rfl, rfl, rfl, rfl, by decide +kernel⟩ ?hw ?hc
  case hw => w_witness2
  case hc =>
    refine DL.walk_far (law' := PySem.Challenge.rw_sumsclose_k46_slopes_and_what_they_lead) (most := 63) (k := 60) (name := "script") rfl (by decide) (by kernel_rfl) ⟨rfl, by decide, by decide⟩ (by kernel_rfl) ?F (Nat.le_refl _)
    intro w mg fa h Y G N hmg0
    obtain ⟨K, KX, c⟩ := Y
    have hmg : mg ("law" : PySem.Str) = some (.ref fa) := by
      have e : (HandSHeadRun.topDef (OpenLaw.row PySem.Challenge.rw_sumsclose_k46_slopes_and_what_they_lead).prog 74).name = ("law" : PySem.Str) := by kernel_rfl
      rw [← e]
      exact hmg0
    obtain ⟨K1, fd, X1, hb, hF⟩ := LW.facts (P := (PySem.Challenge.rw_sumsclose_k46_slopes_and_what_they_lead).prog) (w := w) KX G N (by kernel_rfl) hmg c
    exact ⟨K1, fd, LW.Gm.fn LW.F.law, LW.LL K1, X1, hb, LW.law_fin, hF⟩
