import PyProof.Rows.All
import Wide.All
import OpenK.AllK
import Wide.FinOn
import HandS.ForMost
import HandS.Exc
import HandS.ExcOwn
import HandS.Star
import HandS.TupAny
import HandS.IsInst
import HandS.Flow
import HandS.Wide
import HandS.WordsExc
import HandS.Defaults
import HandS.Deep
import HandS.Style
import HandS.TupMul
import HandS.RaiseMore
import KE.GoesNew
import KE.SortData
import HandS.SlotsOwn
import HandS.HeadHook1
import HandS.FStr
import HandS.Property
import KE.KCallOwn
import PyProof.InstEq
import HandS.Dict
import KE.SortKeyHeap
import HandS.SortKw
import HandS.SetFor
import HandS.SortInts
import KE.KRevSl
import HandS.TryMany
import KE.KStateDown
import HandS.Head0
import HandS.Head1
import HandS.Head2
import HandS.HeadEnd
import HandS.HeadHook2
import PySem.Challenge.RW_sumsclose_k20_whole_terms_of_other_place
set_option Elab.async false
set_option linter.all false
set_option maxRecDepth 100000
set_option exponentiation.threshold 10000
/-! DL1: data values D, the store of owned lists, own position-free syntax, its weakest preconditions over data. -/
namespace DL
open PySem

/-- a value as data; `ref`: an owned (mutable) list that stands in the store -/
inductive D where
  | non | bl (b : Bool) | int (i : Int) | str (x : Str) | tup (xs : List D) | lst (xs : List D) | ref (a : Addr) | ty (n : String) | scr (xs : List Int) | obj (c : String) (fs : List D) | dct
  deriving Inhabited

/-- what stands in the store -/
inductive DO where
  | lst (ds : List D) | obj (c : String) (q : Addr) (fs : List (Option D)) | dx
abbrev Sto := Addr → Option DO
def sup (S : Sto) (a : Addr) (o : DO) : Sto := fun b => if b = a then some o else S b
def sdel (S : Sto) (a : Addr) : Sto := fun b => if b = a then none else S b
@[simp] theorem sup_same {S : Sto} {a : Addr} {o : DO} : sup S a o a = some o := if_pos rfl
theorem sup_ne {S : Sto} {a b : Addr} {o : DO} (h : b ≠ a) : sup S a o b = S b := if_neg h
@[simp] theorem sup_sup {S : Sto} {a : Addr} {o u : DO} : sup (sup S a o) a u = sup S a u := by funext b; unfold sup; split <;> rfl
theorem sdel_same {S : Sto} {a : Addr} : sdel S a a = none := if_pos rfl
theorem sdel_ne {S : Sto} {a b : Addr} (h : b ≠ a) : sdel S a b = S b := if_neg h
theorem sdel_sup {S : Sto} {a : Addr} {o : DO} (h : S a = none) : sdel (sup S a o) a = S := by
  funext b; unfold sdel sup; split
  · rename_i e; rw [e, h]
  · rfl

abbrev Env := List (Option D)
def getV : Env → Nat → Option D
  | [], _ => none
  | x :: _, 0 => x
  | _ :: r, n + 1 => getV r n
def setV : Env → Nat → D → Env
  | [], _, _ => []
  | _ :: r, 0, d => some d :: r
  | x :: r, n + 1, d => x :: setV r n d
/-- names forgotten -/
def delV : Env → Nat → Env
  | [], _ => []
  | _ :: r, 0 => none :: r
  | x :: r, n + 1 => x :: delV r n
def delVs (ρ : Env) : List Nat → Env
  | [] => ρ
  | v :: vs => delV (delVs ρ vs) v

abbrev QD := D → Sto → Prop
/-- the wish about exceptions: the class's number, the payload -/
abbrev XD := Nat → D → Sto → Prop
abbrev FSp := List D → Sto → XD → QD → Prop

inductive BOp where | add | sub | mul | fdiv | mod | pow deriving DecidableEq
inductive COp where | eq | ne | lt | le | gt | ge | is | isn | inn | nin deriving DecidableEq
inductive BI where | len | abs | max | min | int | sum | all | any | tuple | isinst | repr | str deriving DecidableEq

/-! ### the syntax -/
mutual
inductive Ex where
  | var (i : Nat)
  | cst (d : D)
  | glb (k : Nat)
  | bin (op : BOp) (a b : Ex)
  | neg (a : Ex)
  | not (a : Ex)
  | cmp (op : COp) (a b : Ex)
  | chn (o1 o2 : COp) (a b c : Ex)
  | and (a b : Ex)
  | or (a b : Ex)
  | ite (c a b : Ex)
  | idx (a i : Ex)
  | slc (a : Ex) (lo hi : Ox)
  | stp (a : Ex) (lo hi : Ox) (st : Ex)
  | tup (es : Exs)
  | frz (l : Lx)
  | own (l : Lx)
  | call (f : Nat) (es : Exs)
  | bi (b : BI) (es : Exs)
  | app (o e : Ex)
  | fld (c : String) (i : Nat) (e : Ex)
  | isC (c : String) (e : Ex)
  | meth (f : Nat) (c : String) (o : Ex) (es : Exs)
  | prop (f : Nat) (c : String) (o : Ex)
  | new (f : Nat) (c : String) (n : Nat) (es : Exs)
  | cmpO (op : COp) (f : Nat) (c : String) (a b : Ex)
  | cmpOD (op : COp) (f : Nat) (c : String) (a b : Ex)
  | neO (f : Nat) (c : String) (a b : Ex)
  | lenO (f : Nat) (c : String) (o : Ex)
  | strO (f : Nat) (c : String) (o : Ex)
  | fst (es : Exs)
  | dct
inductive Exs where
  | nil
  | cons (e : Ex) (r : Exs)
  | star (e : Ex) (r : Exs)
inductive Ox where
  | no
  | so (e : Ex)
/-- what makes a new list -/
inductive Lx where
  | disp (es : Exs)
  | comp (own : List Nat) (tg : Tg) (it : It) (ts : Exs) (el : Ex)
  | comp2 (own own2 : List Nat) (tg : Tg) (it : It) (ts : Exs) (tg2 : Tg) (it2 : It) (ts2 : Exs) (el : Ex)
  | rep (a n : Ex)
  | cat (a b : Ex)
  | ofSeq (a : Ex)
  | slc (a : Ex) (lo hi : Ox)
  | sorted (a : Ex)
  | sortK (f : Nat) (a : Ex)
  | sortSet (a : Ex)
  | sortI (a : Ex)
  | stpL (a : Ex) (lo hi : Ox) (st : Ex)
/-- what a loop walks -/
inductive It where
  | seq (e : Ex)
  | rng1 (a : Ex)
  | rng2 (a b : Ex)
  | rng3 (a b c : Ex)
  | enum (e : Ex)
  | zip (a b : Ex)
inductive Tg where
  | nm (i : Nat)
  | tp (ts : Tgs)
  | sub (o i : Ex)
  | fld (o : Ex) (c : String) (i : Nat)
inductive Tgs where
  | nil
  | cons (t : Tg) (r : Tgs)
end
mutual
inductive Sm where
  | asg (t : Tg) (e : Ex)
  | par (is : List Nat) (es : Exs)
  | aug (i : Nat) (op : BOp) (e : Ex)
  | ex (e : Ex)
  | ret (e : Ex)
  | retF (e : Ex)
  | retN
  | ife (c : Ex) (a b : Bl)
  | whl (c : Ex) (b : Bl)
  | for (tg : Tg) (it : It) (b : Bl)
  | raise (k : Nat) (e : Ex)
  | rse (k : Nat)
  | tryC (b : Bl) (hs : List (Nat × D))
  | pass
  | brk
  | cont
inductive Bl where
  | nil
  | cons (s : Sm) (r : Bl)
end

/-! ### values -/
/-- an owned list seen as a value -/
def res (S : Sto) : D → D
  | .ref p => match S p with
    | some (.lst ds) => .lst ds
    | _ => .ref p
  | d => d

def D.py : D → Option PyData
  | .non => some .none
  | .bl b => some (.bool b)
  | .int i => some (.int i)
  | .str x => some (.str x)
  | .tup xs => (pys xs).map .tuple
  | .lst xs => (pys xs).map .list
  | .ref _ => none
  | .ty _ => none
  | .scr _ => none
  | .obj _ _ => none
  | .dct => none
where pys : List D → Option (List PyData)
  | [] => some []
  | x :: xs => match D.py x, pys xs with
    | some p, some ps => some (p :: ps)
    | _, _ => none

/-- == of two values that are data -/
def eqD (x y : D) (k : Bool → Prop) : Prop := ∃ p q, x.py = some p ∧ y.py = some q ∧ SeqAt.shaped p = true ∧ SeqAt.shaped q = true ∧ k (PyData.eqv p q)
def inD (x y : D) (k : Bool → Prop) : Prop := match y with
  | .lst ds => ∃ p ps, x.py = some p ∧ D.py.pys ds = some ps ∧ SeqAt.shaped p = true ∧ SeqAt.shaped (.list ps) = true ∧ k (ps.any fun z => PyData.eqv z p)
  | .str z => ∃ c : Nat, x = .str ⟨#[c]⟩ ∧ k (decide (c ∈ z.cps.toList))
  | _ => False

/-- nothing is asked of the sizes: there is room for a long division -/
def PyOk (_ _ : Int) : Prop := True
def binD (op : BOp) (x y : D) (k : D → Prop) : Prop := match op, x, y with
  | .add, .int i, .int j => k (.int (i + j))
  | .sub, .int i, .int j => k (.int (i - j))
  | .mul, .int i, .int j => IntMulOk i j ∧ k (.int (i * j))
  | .mul, .tup xs, .int n => -(2 ^ 63) ≤ n ∧ n < 2 ^ 63 ∧ xs.length * n.toNat ≤ sizeLine ∧ k (.tup (List.replicate n.toNat xs).flatten)
  | .fdiv, .int i, .int j => j ≠ 0 ∧ PyOk i j ∧ k (.int (i.fdiv j))
  | .mod, .int i, .int j => j ≠ 0 ∧ k (.int (i.fmod j))
  | .pow, .int i, .int j => (0 ≤ j ∧ (Builtin.Int.intBits i : Int) * j ≤ 2 ^ 27) ∧ k (.int (i ^ j.toNat))
  | .add, .tup xs, .tup ys => xs.length + ys.length ≤ sizeLine ∧ k (.tup (xs ++ ys))
  | .add, .str a, .str b => a.length + b.length ≤ sizeLine ∧ k (.str (a ++ b))
  | _, _, _ => False

def cmpD (op : COp) (x y : D) (k : Bool → Prop) : Prop := match op, x, y with
  | .lt, .int i, .int j => k (decide (i < j))
  | .le, .int i, .int j => k (decide (i ≤ j))
  | .gt, .int i, .int j => k (decide (j < i))
  | .ge, .int i, .int j => k (decide (j ≤ i))
  | .eq, .int i, .int j => k (decide (i = j))
  | .ne, .int i, .int j => k (!decide (i = j))
  | .eq, x, y => eqD x y k
  | .ne, x, y => eqD x y fun b => k (!b)
  | .is, .bl a, .bl b => k (a == b)
  | .isn, .bl a, .bl b => k (a != b)
  | .is, x, .non => k (match x with | .non => true | _ => false)
  | .isn, x, .non => k (match x with | .non => false | _ => true)
  | .inn, x, y => inD x y k
  | .nin, x, y => inD x y fun b => k (!b)
  | _, _, _ => False

/-- the item at an index, from behind too -/
def atD (xs : List D) (i : Int) : Option D := L2.atI xs i
def cutD (xs : List D) (lo hi : Option Int) : List D := (xs.drop (HT.sIx xs.length 0 lo)).take (HT.sIx xs.length xs.length hi - HT.sIx xs.length 0 lo)

/-- in the order of the keys, equal ones as they stood -/
def byKeys {α : Type} (xs : List α) (kz : List Int) : List α := ((xs.zip kz).mergeSort fun p q => decide (p.2 ≤ q.2)).map Prod.fst
def typD : D → Option String
  | .non => some "NoneType"
  | .bl _ => some "bool"
  | .int _ => some "int"
  | .str _ => some "str"
  | .tup _ => some "tuple"
  | .lst _ => some "list"
  | .dct => some "dict"
  | _ => none
/-- xs[lo:hi:st] -/
def pick {α : Type} (xs : List α) (lo hi : Option Int) (st : Int) : List α :=
  (List.range (Builtin.Slice.slicePlaces (Builtin.Slice.sliceAdjust lo hi st (xs.length : Int)).1 (Builtin.Slice.sliceAdjust lo hi st (xs.length : Int)).2 st)).filterMap fun (k : Nat) => xs[((Builtin.Slice.sliceAdjust lo hi st (xs.length : Int)).1 + (k : Int) * st).toNat]?

/-! ### what is walked, as a list of items -/
def seqD (S : Sto) (d : D) (k : List D → (Sto → Prop) → Prop) : Prop := match d with
  | .tup xs => k xs fun _ => True
  | .lst xs => k xs fun _ => True
  | .scr xs => k (xs.map .int) fun _ => True
  | .ref p => match S p with
    | some (.lst ds) => k ds fun S' => S' p = some (.lst ds)
    | _ => False
  | _ => False
def rangeD (i c : Int) (n : Nat) : List D := (List.range n).map fun k => .int (i + (k : Nat) * c)
def enumD : Nat → List D → List D
  | _, [] => []
  | n, x :: r => .tup [.int n, x] :: enumD (n + 1) r
def zipD (xs ys : List D) : List D := List.zipWith (fun x y => .tup [x, y]) xs ys

def isiTys : List String := ["int", "bool", "tuple", "str", "list"]
def isiB (t n : String) : Bool := t == n || (t == "bool" && n == "int")
def biD (b : BI) (S : Sto) (ds : List D) (k : D → Prop) : Prop := match b, ds with
  | .len, [d] => match res S d with
    | .tup xs => k (.int xs.length)
    | .lst xs => k (.int xs.length)
    | .scr xs => k (.int xs.length)
    | .str x => x.length ≤ sizeLine ∧ k (.int x.length)
    | _ => False
  | .abs, [.int i] => k (.int (if i < 0 then -i else i))
  | .max, [d] => ∃ ns : List Int, res S d = .lst (ns.map .int) ∧ 0 < ns.length ∧ ∀ m ∈ ns, (∀ y ∈ ns, y ≤ m) → k (.int m)
  | .min, [d] => ∃ ns : List Int, res S d = .lst (ns.map .int) ∧ 0 < ns.length ∧ ∀ m ∈ ns, (∀ y ∈ ns, m ≤ y) → k (.int m)
  | .max, [x, y] => ∃ i j, x = .int i ∧ y = .int j ∧ k (.int (if j > i then j else i))
  | .min, [x, y] => ∃ i j, x = .int i ∧ y = .int j ∧ k (.int (if j < i then j else i))
  | .int, [.int i] => k (.int i)
  | .int, [.bl b] => k (.int (if b then 1 else 0))
  | .sum, [d] => ∃ ns : List Int, res S d = .lst (ns.map .int) ∧ k (.int ns.sum)
  | .all, [d] => ∃ bs : List Bool, res S d = .lst (bs.map .bl) ∧ k (.bl (bs.all id))
  | .any, [d] => ∃ bs : List Bool, res S d = .lst (bs.map .bl) ∧ k (.bl (bs.any id))
  | .tuple, [d] => match res S d with
    | .tup xs => k (.tup xs)
    | .lst xs => k (.tup xs)
    | _ => False
  | .repr, [.bl b] => k (.str (if b then "True" else "False"))
  | .repr, [.int i] => i.natAbs.log2 < 1920 ∧ k (.str (toString i))
  | .str, [.int i] => i.natAbs.log2 < 1920 ∧ k (.str (toString i))
  | .str, [.str x] => k (.str x)
  | .isinst, [x, .ty n] => ∃ t, typD (res S x) = some t ∧ n ∈ isiTys ∧ k (.bl (isiB t n))
  | _, _ => False

def tstD (d : D) (k : Bool → Prop) : Prop := match d with
  | .bl b => k b
  | _ => False

/-- what isinstance asks of a value and a class of the program -/
def isCD (has : String → Bool) (c : String) (x : D) (k : Bool → Prop) : Prop := match x with
  | .obj c' _ => has c' = true ∧ k (c' == c)
  | y => ∃ t, typD y = some t ∧ k false

/-- the turns of a comprehension; B: what is asked at an append -/
def compL (bd : D → Env → Sto → (Env → Sto → Prop) → Prop) (tw : Env → Sto → (Bool → Sto → Prop) → Prop) (ew : Env → Sto → QD → Prop) (B : List D → Prop) (C : Sto → Prop) (K : List D → Sto → Prop) (ρ : Env) : List D → Sto → List D → Prop
  | [], S, acc => C S ∧ K acc S
  | d :: ds, S, acc => C S ∧ bd d ρ S fun ρ' S1 => tw ρ' S1 fun b S2 => if b = true then ew ρ' S2 fun y S3 => B acc ∧ compL bd tw ew B C K ρ ds S3 (acc ++ [y]) else compL bd tw ew B C K ρ ds S2 acc
/-- .. of the outer clause: iw makes the inner walk, which ends in a list added -/
def compO (bd : D → Env → Sto → (Env → Sto → Prop) → Prop) (tw : Env → Sto → (Bool → Sto → Prop) → Prop) (iw : Env → Sto → List D → (List D → Sto → Prop) → Prop) (C : Sto → Prop) (K : List D → Sto → Prop) (ρ : Env) : List D → Sto → List D → Prop
  | [], S, acc => C S ∧ K acc S
  | d :: ds, S, acc => C S ∧ bd d ρ S fun ρ' S1 => tw ρ' S1 fun b S2 => if b = true then iw ρ' S2 acc fun acc' S3 => compO bd tw iw C K ρ ds S3 acc' else compO bd tw iw C K ρ ds S2 acc

/-- the context: what defs promise, what module constants are -/
structure Gam where
  fn : Nat → FSp
  gl : Nat → D
  cls : List (String × List Str) := []
  xc : List String := []
def Gam.has (Γ : Gam) (c : String) : Bool := Γ.cls.any fun p => p.1 == c

def xNo : XD := fun _ _ _ => False
def tgsLen : Tgs → Nat
  | .nil => 0
  | .cons _ r => tgsLen r + 1
mutual
def wpE (Γ : Gam) : Ex → Env → Sto → XD → QD → Prop
  | .var i, ρ, S, _, Q => match getV ρ i with
    | some d => Q d S
    | none => False
  | .cst d, _, S, _, Q => Q d S
  | .glb k, _, S, _, Q => Q (Γ.gl k) S
  | .bin op a b, ρ, S, R, Q => wpE Γ a ρ S R fun x S1 => wpE Γ b ρ S1 R fun y S2 => binD op x y fun z => Q z S2
  | .neg a, ρ, S, R, Q => wpE Γ a ρ S R fun x S1 => match x with
    | .int i => Q (.int (-i)) S1
    | _ => False
  | .not a, ρ, S, R, Q => wpE Γ a ρ S R fun x S1 => tstD x fun b => Q (.bl (!b)) S1
  | .cmp op a b, ρ, S, R, Q => wpE Γ a ρ S R fun x S1 => wpE Γ b ρ S1 R fun y S2 => cmpD op (res S2 x) (res S2 y) fun z => Q (.bl z) S2
  | .chn o1 o2 a b c, ρ, S, R, Q => wpE Γ a ρ S R fun x S1 => wpE Γ b ρ S1 R fun y S2 => cmpD o1 (res S2 x) (res S2 y) fun z => if z = true then wpE Γ c ρ S2 R fun u S3 => cmpD o2 (res S3 y) (res S3 u) fun v => Q (.bl v) S3 else Q (.bl false) S2
  | .and a b, ρ, S, R, Q => wpE Γ a ρ S R fun x S1 => tstD x fun c => if c = true then wpE Γ b ρ S1 R Q else Q (.bl false) S1
  | .or a b, ρ, S, R, Q => wpE Γ a ρ S R fun x S1 => tstD x fun c => if c = true then Q (.bl true) S1 else wpE Γ b ρ S1 R Q
  | .ite c a b, ρ, S, R, Q => wpE Γ c ρ S R fun x S1 => tstD x fun z => if z = true then wpE Γ a ρ S1 R Q else wpE Γ b ρ S1 R Q
  | .idx a i, ρ, S, R, Q => wpE Γ a ρ S R fun x S1 => wpE Γ i ρ S1 R fun y S2 => match res S2 x, y with
    | .tup xs, .int n => ∃ d, atD xs n = some d ∧ Q d S2
    | .lst xs, .int n => ∃ d, atD xs n = some d ∧ Q d S2
    | .scr xs, .int n => ∃ m, L2.atI xs n = some m ∧ Q (.int m) S2
    | _, _ => False
  | .slc a lo hi, ρ, S, R, Q => wpE Γ a ρ S R fun x S1 => wpO Γ lo ρ S1 R fun l S2 => wpO Γ hi ρ S2 R fun h S3 => match res S3 x with
    | .tup xs => Q (.tup (cutD xs l h)) S3
    | .lst xs => Q (.lst (cutD xs l h)) S3
    | _ => False
  | .stp a lo hi st, ρ, S, R, Q => wpE Γ a ρ S R fun x S1 => wpO Γ lo ρ S1 R fun l S2 => wpO Γ hi ρ S2 R fun h S3 => wpE Γ st ρ S3 R fun y S4 => match x, y with
    | .tup xs, .int k => k ≠ 0 ∧ k ≠ 1 ∧ Q (.tup (pick xs l h k)) S4
    | _, _ => False
  | .tup es, ρ, S, R, Q => wpEs Γ es ρ S R fun ds S1 => ds.length ≤ sizeLine ∧ Q (.tup ds) S1
  | .frz l, ρ, S, R, Q => wpL Γ l ρ S R fun ds S1 => Q (.lst ds) S1
  | .own l, ρ, S, R, Q => wpL Γ l ρ S R fun ds S1 => ∀ p, S1 p = none → Q (.ref p) (sup S1 p (.lst ds))
  | .call f es, ρ, S, R, Q => wpEs Γ es ρ S R fun ds S1 => Γ.fn f ds S1 R Q
  | .bi b es, ρ, S, R, Q => wpEs Γ es ρ S R fun ds S1 => biD b S1 ds fun d => Q d S1
  | .app o e, ρ, S, R, Q => wpE Γ o ρ S R fun x S1 => ∃ p, x = .ref p ∧ (∃ ds, S1 p = some (.lst ds)) ∧ wpE Γ e ρ S1 R fun y S2 => ∃ ds, S2 p = some (.lst ds) ∧ ds.length < sizeLine ∧ Q .non (sup S2 p (.lst (ds ++ [y])))
  | .fld c i e, ρ, S, R, Q => wpE Γ e ρ S R fun x S1 => match x with
    | .obj c' fs => c' = c ∧ (match fs[i]? with
      | some d => Q d S1
      | none => False)
    | _ => False
  | .isC c e, ρ, S, R, Q => wpE Γ e ρ S R fun x S1 => isCD Γ.has c (res S1 x) fun b => Q (.bl b) S1
  | .meth f c o es, ρ, S, R, Q => wpE Γ o ρ S R fun x S1 => (∃ fs, x = .obj c fs) ∧ wpEs Γ es ρ S1 R fun ds S2 => Γ.fn f (x :: ds) S2 R Q
  | .prop f c o, ρ, S, R, Q => wpE Γ o ρ S R fun x S1 => (∃ fs, x = .obj c fs) ∧ Γ.fn f [x] S1 xNo Q
  | .new f c n es, ρ, S, R, Q => wpEs Γ es ρ S R fun ds S1 => ∀ p q, S1 p = none → S1 q = none → q ≠ p → Γ.fn f (.ref p :: ds) (sup (sup S1 q .dx) p (.obj c q (List.replicate n none))) R fun v S2 => v = .non ∧ ∃ fs, S2 p = some (.obj c q (fs.map some)) ∧ S2 q = some .dx ∧ Q (.obj c fs) (sdel (sdel S2 p) q)
  | .cmpO _ f c a b, ρ, S, R, Q => wpE Γ a ρ S R fun x S1 => wpE Γ b ρ S1 R fun y S2 => (∃ fs, x = .obj c fs) ∧ (∃ fs, y = .obj c fs) ∧ Γ.fn f [x, y] S2 xNo Q
  | .neO f c a b, ρ, S, R, Q => wpE Γ a ρ S R fun x S1 => wpE Γ b ρ S1 R fun y S2 => (∃ fs, x = .obj c fs) ∧ (∃ fs, y = .obj c fs) ∧ Γ.fn f [x, y] S2 xNo fun d S3 => ∃ t, d = .bl t ∧ Q (.bl (!t)) S3
  | .cmpOD op f c a b, ρ, S, R, Q => wpE Γ a ρ S R fun x S1 => wpE Γ b ρ S1 R fun y S2 => ((∃ fs, x = .obj c fs) ∧ ((∃ fs, y = .obj c fs) ∨ ∃ t, typD (res S2 y) = some t) ∧ Γ.fn f [x, y] S2 xNo Q) ∨ cmpD op (res S2 x) (res S2 y) fun z => Q (.bl z) S2
  | .lenO f c o, ρ, S, R, Q => wpE Γ o ρ S R fun x S1 => (∃ fs, x = .obj c fs) ∧ Γ.fn f [x] S1 xNo fun v S2 => ∃ i : Int, v = .int i ∧ 0 ≤ i ∧ i < 2 ^ 62 ∧ Q v S2
  | .strO f c o, ρ, S, R, Q => wpE Γ o ρ S R fun x S1 => (∃ fs, x = .obj c fs) ∧ Γ.fn f [x] S1 xNo fun v S2 => ∃ s, v = .str s ∧ Q v S2
  | .fst es, ρ, S, R, Q => wpFs Γ es ρ S R Str.empty fun s S1 => Q (.str s) S1
  | .dct, _, S, _, Q => Q .dct S
def wpEs (Γ : Gam) : Exs → Env → Sto → XD → (List D → Sto → Prop) → Prop
  | .nil, _, S, _, Q => Q [] S
  | .cons e r, ρ, S, R, Q => wpE Γ e ρ S R fun x S1 => wpEs Γ r ρ S1 R fun xs S2 => Q (x :: xs) S2
  | .star e r, ρ, S, R, Q => wpE Γ e ρ S R fun x S1 => match res S1 x with
    | .tup ys => wpEs Γ r ρ S1 R fun xs S2 => Q (ys ++ xs) S2
    | .lst ys => wpEs Γ r ρ S1 R fun xs S2 => Q (ys ++ xs) S2
    | _ => False
/-- a text put together of texts and ints -/
def wpFs (Γ : Gam) : Exs → Env → Sto → XD → Str → (Str → Sto → Prop) → Prop
  | .nil, _, S, _, acc, Q => Q acc S
  | .cons e r, ρ, S, R, acc, Q => wpE Γ e ρ S R fun x S1 => match x with
    | .str y => y.length ≤ sizeLine ∧ (acc ++ y).length ≤ sizeLine ∧ wpFs Γ r ρ S1 R (acc ++ y) Q
    | .int i => i.natAbs.log2 < 1920 ∧ (acc ++ (toString i : Str)).length ≤ sizeLine ∧ wpFs Γ r ρ S1 R (acc ++ (toString i : Str)) Q
    | _ => False
  | .star _ _, _, _, _, _, _ => False
def wpO (Γ : Gam) : Ox → Env → Sto → XD → (Option Int → Sto → Prop) → Prop
  | .no, _, S, _, Q => Q none S
  | .so e, ρ, S, R, Q => wpE Γ e ρ S R fun x S1 => match x with
    | .int i => Q (some i) S1
    | _ => False
def wpL (Γ : Gam) : Lx → Env → Sto → XD → (List D → Sto → Prop) → Prop
  | .disp es, ρ, S, R, Q => wpEs Γ es ρ S R fun ds S1 => ds.length ≤ sizeLine ∧ Q ds S1
  | .comp own tg it ts el, ρ, S, R, Q => wpI Γ it ρ S R fun ds C S1 =>
      compL (fun d ρ S K => wpG Γ tg d ρ S xNo K) (fun ρ S K => wpTs Γ ts ρ S K) (fun ρ S K => wpE Γ el ρ S xNo K) (fun _ => True) C Q (delVs ρ own) ds S1 []
  | .comp2 own own2 tg it ts tg2 it2 ts2 el, ρ, S, R, Q => wpI Γ it ρ S R fun ds C S1 =>
      compO (fun d ρ S K => wpG Γ tg d ρ S xNo K) (fun ρ S K => wpTs Γ ts ρ S K)
        (fun ρ S acc K => wpI Γ it2 ρ S xNo fun ds2 C2 S2 => compL (fun d ρ S K => wpG Γ tg2 d ρ S xNo K) (fun ρ S K => wpTs Γ ts2 ρ S K) (fun ρ S K => wpE Γ el ρ S xNo K) (fun acc => acc.length < sizeLine) C2 K (delVs ρ own2) ds2 S2 acc) C Q (delVs ρ own) ds S1 []
  | .rep a n, ρ, S, R, Q => wpE Γ a ρ S R fun x S1 => wpE Γ n ρ S1 R fun y S2 => match res S2 x, y with
    | .lst xs, .int k => -(2 ^ 63) ≤ k ∧ k < 2 ^ 63 ∧ xs.length * k.toNat ≤ sizeLine ∧ Q (List.replicate k.toNat xs).flatten S2
    | _, _ => False
  | .cat a b, ρ, S, R, Q => wpE Γ a ρ S R fun x S1 => wpE Γ b ρ S1 R fun y S2 => match res S2 x, res S2 y with
    | .lst xs, .lst ys => xs.length + ys.length ≤ sizeLine ∧ Q (xs ++ ys) S2
    | _, _ => False
  | .ofSeq a, ρ, S, R, Q => wpE Γ a ρ S R fun x S1 => match res S1 x with
    | .tup xs => Q xs S1
    | .lst xs => Q xs S1
    | _ => False
  | .slc a lo hi, ρ, S, R, Q => wpE Γ a ρ S R fun x S1 => wpO Γ lo ρ S1 R fun l S2 => wpO Γ hi ρ S2 R fun h S3 => match res S3 x with
    | .lst xs => Q (cutD xs l h) S3
    | _ => False
  | .sorted a, ρ, S, R, Q => wpE Γ a ρ S R fun x S1 => match res S1 x with
    | .lst xs => ∃ (kz : List Int) (ps : List PyData), kz.length = xs.length ∧ kz.Nodup ∧ D.py.pys xs = some ps ∧ PySem.W.AllAlike ps ∧ (∀ p ∈ ps, p.depth ≤ 8) ∧
      (∀ (i : Nat) (d : PyData) (k : Int), ps[i]? = some d → kz[i]? = some k → ∃ r, d = .tuple (.int k :: r)) ∧ Q (byKeys xs kz) S1
    | _ => False
  | .stpL a lo hi st, ρ, S, R, Q => wpE Γ a ρ S R fun x S1 => wpO Γ lo ρ S1 R fun l S2 => wpO Γ hi ρ S2 R fun h S3 => wpE Γ st ρ S3 R fun y S4 => match res S4 x, y with
    | .lst xs, .int k => l = none ∧ h = none ∧ k = -1 ∧ Q xs.reverse S4
    | _, _ => False
  | .sortSet a, ρ, S, R, Q => wpE Γ a ρ S R fun x S1 => match res S1 x with
    | .lst xs => ∃ ns : List Int, xs = ns.map .int ∧ ns.length < 64 ∧ ∀ ms : List Int, ms.Pairwise (· < ·) → (∀ k, k ∈ ms ↔ k ∈ ns) → Q (ms.map .int) S1
    | _ => False
  | .sortI a, ρ, S, R, Q => wpE Γ a ρ S R fun x S1 => match res S1 x with
    | .lst xs => ∃ ns : List Int, xs = ns.map .int ∧ ∀ ms : List Int, ms.Perm ns → ms.Pairwise (· ≤ ·) → Q (ms.map .int) S1
    | _ => False
  | .sortK f a, ρ, S, R, Q => wpE Γ a ρ S R fun x S1 => match res S1 x with
    | .lst xs => ∃ kz : List Int, kz.length = xs.length ∧ (∀ (i : Nat) (d : D) (k : Int), xs[i]? = some d → kz[i]? = some k → Γ.fn f [d] S1 xNo fun v S2 => v = .int k ∧ ∀ a o, S1 a = some o → S2 a = some o) ∧ Q (byKeys xs kz) S1
    | _ => False
def wpI (Γ : Gam) : It → Env → Sto → XD → (List D → (Sto → Prop) → Sto → Prop) → Prop
  | .seq e, ρ, S, R, Q => wpE Γ e ρ S R fun x S1 => seqD S1 x fun ds C => Q ds C S1
  | .rng1 a, ρ, S, R, Q => wpE Γ a ρ S R fun x S1 => ∃ j : Int, x = .int j ∧ -(2 ^ 62) ≤ j ∧ j ≤ 16777216 ∧ Q (rangeD 0 1 j.toNat) (fun _ => True) S1
  | .rng2 a b, ρ, S, R, Q => wpE Γ a ρ S R fun x S1 => wpE Γ b ρ S1 R fun y S2 => ∃ i j : Int, x = .int i ∧ y = .int j ∧ (-(2 ^ 62) ≤ i ∧ i < 2 ^ 62 ∧ -(2 ^ 62) ≤ j ∧ j < 2 ^ 62) ∧ j - i ≤ 16777216 ∧ Q (rangeD i 1 (j - i).toNat) (fun _ => True) S2
  | .rng3 a b c, ρ, S, R, Q => wpE Γ a ρ S R fun x S1 => wpE Γ b ρ S1 R fun y S2 => wpE Γ c ρ S2 R fun z S3 => ∃ (i j c : Int) (n : Nat), x = .int i ∧ y = .int j ∧ z = .int c ∧ L2.RgC i j c n ∧ n ≤ sizeLine ∧ Q (rangeD i c n) (fun _ => True) S3
  | .enum e, ρ, S, R, Q => wpE Γ e ρ S R fun x S1 => seqD S1 x fun ds C => Q (enumD 0 ds) C S1
  | .zip a b, ρ, S, R, Q => wpE Γ a ρ S R fun x S1 => wpE Γ b ρ S1 R fun y S2 => seqD S2 x fun ds C => seqD S2 y fun ds2 C2 => Q (zipD ds ds2) (fun S => C S ∧ C2 S) S2
def wpG (Γ : Gam) : Tg → D → Env → Sto → XD → (Env → Sto → Prop) → Prop
  | .nm i, d, ρ, S, _, K => K (setV ρ i d) S
  | .tp ts, d, ρ, S, R, K => match d with
    | .tup ds => ds.length = tgsLen ts ∧ wpGs Γ ts ds ρ S R K
    | .lst ds => ds.length = tgsLen ts ∧ wpGs Γ ts ds ρ S R K
    | _ => False
  | .sub o i, d, ρ, S, R, K => wpE Γ o ρ S R fun x S1 => wpE Γ i ρ S1 R fun y S2 => ∃ p ds n j, x = .ref p ∧ y = .int n ∧ S2 p = some (.lst ds) ∧ L2.ixN ds.length n = some j ∧ K ρ (sup S2 p (.lst (ds.set j d)))
  | .fld o c i, d, ρ, S, R, K => wpE Γ o ρ S R fun x S1 => ∃ p q fs, x = .ref p ∧ S1 p = some (.obj c q fs) ∧ S1 q = some .dx ∧ i < fs.length ∧ K ρ (sup S1 p (.obj c q (fs.set i (some d))))
def wpGs (Γ : Gam) : Tgs → List D → Env → Sto → XD → (Env → Sto → Prop) → Prop
  | .nil, ds, ρ, S, _, K => match ds with
    | [] => K ρ S
    | _ => False
  | .cons t r, ds, ρ, S, R, K => match ds with
    | d :: ds => wpG Γ t d ρ S R fun ρ' S' => wpGs Γ r ds ρ' S' R K
    | [] => False
/-- the tests of a comprehension: at most one -/
def wpTs (Γ : Gam) : Exs → Env → Sto → (Bool → Sto → Prop) → Prop
  | .nil, _, S, K => K true S
  | .cons e r, ρ, S, K => wpE Γ e ρ S xNo fun x S1 => tstD x fun b => if b = true then wpTs Γ r ρ S1 K else K false S1
  | .star _ _, _, _, _ => False
end

structure DEnd where
  nx : Env → Sto → Prop
  rt : QD
  bk : Env → Sto → Prop := fun _ _ => False
  ct : Env → Sto → Prop := fun _ _ => False
/-- the turns of a for -/
def forL (bd : D → Env → Sto → (Env → Sto → Prop) → Prop) (body : DEnd → Env → Sto → Prop) (C : Sto → Prop) (E : DEnd) : List D → Env → Sto → Prop
  | [], ρ, S => C S ∧ E.nx ρ S
  | d :: ds, ρ, S => C S ∧ bd d ρ S fun ρ' S' => body { nx := forL bd body C E ds, ct := forL bd body C E ds, bk := E.nx, rt := E.rt } ρ' S'
/-- what is wanted of an exception out of a statement -/
abbrev XS := Nat → D → Env → Sto → Prop
def parV : List Nat → List D → Env → Env
  | i :: is, d :: ds, ρ => parV is ds (setV ρ i d)
  | _, _, ρ => ρ
mutual
def wpS (Γ : Gam) : Sm → DEnd → XS → Env → Sto → Prop
  | .asg t e, E, X, ρ, S => wpE Γ e ρ S (fun k d S => X k d ρ S) fun d S1 => wpG Γ t d ρ S1 xNo E.nx
  | .par is es, E, X, ρ, S => wpEs Γ es ρ S (fun k d S => X k d ρ S) fun ds S1 => ds.length = is.length ∧ E.nx (parV is ds ρ) S1
  | .aug i op e, E, X, ρ, S => match getV ρ i with
    | some x => wpE Γ e ρ S (fun k d S => X k d ρ S) fun y S1 => ∃ a b, x = .int a ∧ y = .int b ∧ binD op x y fun z => E.nx (setV ρ i z) S1
    | none => False
  | .ex e, E, X, ρ, S => wpE Γ e ρ S (fun k d S => X k d ρ S) fun _ S1 => E.nx ρ S1
  | .ret e, E, X, ρ, S => wpE Γ e ρ S (fun k d S => X k d ρ S) fun d S1 => E.rt d S1
  | .retF e, E, X, ρ, S => wpE Γ e ρ S (fun k d S => X k d ρ S) fun d S1 => ∃ p ds, d = .ref p ∧ S1 p = some (.lst ds) ∧ E.rt (.lst ds) (sdel S1 p)
  | .retN, E, _, _, S => E.rt .non S
  | .ife c a b, E, X, ρ, S => wpE Γ c ρ S (fun k d S => X k d ρ S) fun d S1 => tstD d fun z => if z = true then wpB Γ a E X ρ S1 else wpB Γ b E X ρ S1
  | .whl c b, E, X, ρ, S => ∃ W : Nat → Env → Sto → Prop, (∃ m, W m ρ S) ∧ ∀ m ρ S, W m ρ S → wpE Γ c ρ S (fun k d S => X k d ρ S) fun d S1 => tstD d fun z =>
      if z = true then wpB Γ b { nx := fun ρ' S' => ∃ m', m' < m ∧ W m' ρ' S', ct := fun ρ' S' => ∃ m', m' < m ∧ W m' ρ' S', bk := E.nx, rt := E.rt } X ρ S1 else E.nx ρ S1
  | .for tg it b, E, X, ρ, S => wpI Γ it ρ S (fun k d S => X k d ρ S) fun ds C S1 => forL (fun d ρ S K => wpG Γ tg d ρ S xNo K) (fun E' ρ S => wpB Γ b E' X ρ S) C E ds ρ S1
  | .raise _ _, _, _, _, _ => False
  | .rse k, _, X, ρ, S => X k .non ρ S
  | .tryC b hs, E, X, ρ, S => wpB Γ b E (fun k d ρ' S' => match hs.lookup k with
    | some c => E.rt c S'
    | none => X k d ρ' S') ρ S
  | .pass, E, _, ρ, S => E.nx ρ S
  | .brk, E, _, ρ, S => E.bk ρ S
  | .cont, E, _, ρ, S => E.ct ρ S
def wpB (Γ : Gam) : Bl → DEnd → XS → Env → Sto → Prop
  | .nil, E, _, ρ, S => E.nx ρ S
  | .cons s r, E, X, ρ, S => wpS Γ s { E with nx := wpB Γ r E X } X ρ S
end
end DL

/-! DL2: data against the heap; readings of HandS against weakest preconditions over data. -/
namespace DL
open PySem PySem.Spec PyProof.Rows L2
abbrev Ow := Addr → Prop
/-- what nobody ever changes -/
def Imm (u : HO) : Prop := (∃ xs, u = .tup xs) ∨ ∃ o x, u = .frz o x
mutual
/-- the value v stands for the datum d -/
inductive Rp (K : PySem.W.Frag) (O : Ow) (H : Hp) : V → D → Prop
  | non : Rp K O H .non .non
  | bl (b : Bool) : Rp K O H (.bl b) (.bl b)
  | int (i : Int) : Rp K O H (.int i) (.int i)
  | str (x : Str) : Rp K O H (.str x) (.str x)
  | ty (n : String) : Rp K O H (.ty n) (.ty n)
  | ref {a : Addr} : Rp K O H (.ref a) (.ref a)
  | scr {a : Addr} {ns : List Int} {o : Obj} : ns.length ≤ sizeLine → H a = some (.frz o (.lst (ns.map V.int))) → Rp K O H (.ref a) (.scr ns)
  | scrK {a : Addr} {ns : List Int} : ns.length ≤ sizeLine → (∀ H', SqL K H' a (ns.map V.int)) → Rp K O H (.ref a) (.scr ns)
  | tup {a : Addr} {xs : List V} {ds : List D} : SqT K H a xs → xs.length ≤ sizeLine → Rps K O H xs ds → Rp K O H (.ref a) (.tup ds)
  | lst {a : Addr} {xs : List V} {ds : List D} : H a = some (.lst xs) → ¬ O a → xs.length ≤ sizeLine → Rps K O H xs ds → Rp K O H (.ref a) (.lst ds)
  | obj {a dx : Addr} {c : String} {vs : List (Option V)} {ws : List V} {ds : List D} : SlX.Slt H a (He.ga K c) dx vs → (∃ u, H dx = some u) → ¬ O a → ¬ O dx → (∀ (i : Nat) (v : V), ws[i]? = some v → vs[i]? = some (some v)) → Rps K O H ws ds → Rp K O H (.ref a) (.obj c ds)
  | dct {a : Addr} : H a = some (.dK []) → ¬ O a → Rp K O H (.ref a) .dct
inductive Rps (K : PySem.W.Frag) (O : Ow) (H : Hp) : List V → List D → Prop
  | nil : Rps K O H [] []
  | cons {v : V} {vs : List V} {d : D} {ds : List D} : Rp K O H v d → Rps K O H vs ds → Rps K O H (v :: vs) (d :: ds)
end
/-- the heap goes on: what is not owned stays, tuples stay, nothing old is newly owned -/
structure Mo (O : Ow) (H : Hp) (O' : Ow) (H' : Hp) : Prop where
  k : ∀ a u, H a = some u → ¬ O a → H' a = some u
  t : ∀ a u, H a = some u → Imm u → H' a = some u
  o : ∀ a u, H a = some u → O' a → O a
section
variable {K : PySem.W.Frag} {O O' O2 : Ow} {H H' H2 : Hp}
theorem Mo.refl : Mo O H O H := ⟨fun _ _ h _ => h, fun _ _ h _ => h, fun _ _ _ h => h⟩
theorem Mo.rd (m : Mo O H O' H') {a : Addr} {u : HO} (h : Rd H a u) (hn : Imm u) : Rd H' a u := by
  rcases h with h | ⟨o, h⟩
  · exact .inl (m.t _ _ h hn)
  · exact .inr ⟨o, m.t _ _ h (.inr ⟨_, _, rfl⟩)⟩
theorem Mo.sqT (m : Mo O H O' H') {a : Addr} {xs : List V} (h : SqT K H a xs) : SqT K H' a xs := by
  rcases h with h | h
  · exact .inl (m.rd h (.inl ⟨_, rfl⟩))
  · exact .inr h
theorem Mo.slt (m : Mo O H O' H') {a C dx : Addr} {vs : List (Option V)} (h : SlX.Slt H a C dx vs) (h1 : ¬ O a) (h2 : ¬ O dx) : SlX.Slt H' a C dx vs := by
  rcases h with ⟨h, e⟩ | ⟨h, e⟩
  · exact .inl ⟨m.k _ _ h h1, e⟩
  · exact .inr ⟨m.k _ _ h h1, m.k _ _ e h2⟩
theorem slt_some {a C dx : Addr} {vs : List (Option V)} (h : SlX.Slt H a C dx vs) : ∃ u, H a = some u ∧ ¬ Imm u := by
  rcases h with ⟨h, _⟩ | ⟨h, _⟩
  · exact ⟨_, h, fun z => by rcases z with ⟨_, e⟩ | ⟨_, _, e⟩ <;> cases e⟩
  · exact ⟨_, h, fun z => by rcases z with ⟨_, e⟩ | ⟨_, _, e⟩ <;> (unfold SlX.SlO at e; cases e)⟩
mutual
theorem Rp.mono (m : Mo O H O' H') : ∀ {v : V} {d : D}, Rp K O H v d → Rp K O' H' v d
  | _, _, .non => .non
  | _, _, .bl b => .bl b
  | _, _, .int i => .int i
  | _, _, .str x => .str x
  | _, _, .ty n => .ty n
  | _, _, .ref => .ref
  | _, _, .scr z h => .scr z (m.t _ _ h (.inr ⟨_, _, rfl⟩))
  | _, _, .scrK z h => .scrK z h
  | _, _, .tup h z r => .tup (m.sqT h) z (Rps.mono m r)
  | _, _, .lst h n z r => .lst (m.k _ _ h n) (fun q => n (m.o _ _ h q)) z (Rps.mono m r)
  | _, _, .obj h ⟨u, hd⟩ n n2 f r => .obj (m.slt h n n2) ⟨u, m.k _ _ hd n2⟩ (fun q => by obtain ⟨u, hu, _⟩ := slt_some h; exact n (m.o _ _ hu q)) (fun q => n2 (m.o _ _ hd q)) f (Rps.mono m r)
  | _, _, .dct h n => .dct (m.k _ _ h n) fun q => n (m.o _ _ h q)
theorem Rps.mono (m : Mo O H O' H') : ∀ {vs : List V} {ds : List D}, Rps K O H vs ds → Rps K O' H' vs ds
  | _, _, .nil => .nil
  | _, _, .cons r t => .cons (Rp.mono m r) (Rps.mono m t)
end
theorem Rps.len : ∀ {vs : List V} {ds : List D}, Rps K O H vs ds → vs.length = ds.length
  | _, _, .nil => rfl
  | _, _, .cons _ t => by rw [List.length_cons, List.length_cons, t.len]
theorem Rps.append : ∀ {vs us : List V} {ds es : List D}, Rps K O H vs ds → Rps K O H us es → Rps K O H (vs ++ us) (ds ++ es)
  | _, _, _, _, .nil, h => h
  | _, _, _, _, .cons r t, h => .cons r (t.append h)
theorem Rps.get : ∀ {vs : List V} {ds : List D} {i : Nat} {d : D}, Rps K O H vs ds → ds[i]? = some d → ∃ v, vs[i]? = some v ∧ Rp K O H v d
  | _, _, 0, _, .cons r _, e => ⟨_, rfl, by cases e; exact r⟩
  | _, _, i + 1, _, .cons _ t, e => t.get (i := i) e
theorem Rps.getV : ∀ {vs : List V} {ds : List D} {i : Nat} {v : V}, Rps K O H vs ds → vs[i]? = some v → ∃ d, ds[i]? = some d ∧ Rp K O H v d
  | _, _, 0, _, .cons r _, e => ⟨_, rfl, by cases e; exact r⟩
  | _, _, i + 1, _, .cons _ t, e => t.getV (i := i) e
theorem Rps.set : ∀ {vs : List V} {ds : List D} (i : Nat) {v : V} {d : D}, Rps K O H vs ds → Rp K O H v d → Rps K O H (vs.set i v) (ds.set i d)
  | _, _, _, _, _, .nil, _ => .nil
  | _, _, 0, _, _, .cons _ t, h => .cons h t
  | _, _, i + 1, _, _, .cons r t, h => .cons r (t.set i h)
theorem Rps.take : ∀ {vs : List V} {ds : List D} (n : Nat), Rps K O H vs ds → Rps K O H (vs.take n) (ds.take n)
  | _, _, 0, _ => .nil
  | _, _, _ + 1, .nil => .nil
  | _, _, n + 1, .cons r t => .cons r (t.take n)
theorem Rps.drop : ∀ {vs : List V} {ds : List D} (n : Nat), Rps K O H vs ds → Rps K O H (vs.drop n) (ds.drop n)
  | _, _, 0, h => h
  | _, _, _ + 1, .nil => .nil
  | _, _, n + 1, .cons _ t => t.drop n
theorem Rps.reverse : ∀ {vs : List V} {ds : List D}, Rps K O H vs ds → Rps K O H vs.reverse ds.reverse
  | _, _, .nil => .nil
  | _, _, .cons r t => by rw [List.reverse_cons, List.reverse_cons]; exact t.reverse.append (.cons r .nil)
theorem Rps.ints : ∀ {vs : List V} {ns : List Int}, Rps K O H vs (ns.map D.int) → vs = ns.map V.int
  | _, [], .nil => rfl
  | _, _ :: _, .cons r t => by cases r; rw [List.map_cons, t.ints]
theorem Rps.ofInts : ∀ (ns : List Int), Rps K O H (ns.map V.int) (ns.map D.int)
  | [] => .nil
  | n :: ns => .cons (.int n) (Rps.ofInts ns)
theorem Rps.bls : ∀ {vs : List V} {ns : List Bool}, Rps K O H vs (ns.map D.bl) → vs = ns.map V.bl
  | _, [], .nil => rfl
  | _, _ :: _, .cons r t => by cases r; rw [List.map_cons, t.bls]
theorem Rps.rep {vs : List V} {ds : List D} (h : Rps K O H vs ds) : ∀ n : Nat, Rps K O H (List.replicate n vs).flatten (List.replicate n ds).flatten
  | 0 => .nil
  | n + 1 => by rw [List.replicate_succ, List.replicate_succ, List.flatten_cons, List.flatten_cons]; exact h.append (h.rep n)
theorem Rps.dropLast {vs : List V} {ds : List D} (h : Rps K O H vs ds) : Rps K O H vs.dropLast ds.dropLast := by
  rw [List.dropLast_eq_take, List.dropLast_eq_take, h.len]; exact h.take _

/-- the store stands -/
def FsR (K : PySem.W.Frag) (O : Ow) (H : Hp) (vs : List (Option V)) (fs : List (Option D)) : Prop := ∀ (i : Nat) (d : D), fs[i]? = some (some d) → ∃ v, vs[i]? = some (some v) ∧ Rp K O H v d
structure Sok (K : PySem.W.Frag) (S : Sto) (O : Ow) (H : Hp) : Prop where
  dom : ∀ a ds, S a = some (.lst ds) → O a ∧ ∃ xs, H a = some (.lst xs) ∧ xs.length ≤ sizeLine ∧ Rps K O H xs ds
  ex : ∀ a, O a → ∃ u, H a = some u ∧ ¬ Imm u
  obj : ∀ a c q fs, S a = some (.obj c q fs) → O a ∧ (∃ u, H q = some u) ∧ ∃ vs, SlX.Slt H a (He.ga K c) q vs ∧ FsR K O H vs fs
  dx : ∀ a, S a = some .dx → O a ∧ ((∃ x, H a = some (.own x)) ∨ H a = some (.xd []))
  inj : ∀ a a' c c' q fs fs', S a = some (.obj c q fs) → S a' = some (.obj c' q fs') → a = a'
/-- from a state to a later one -/
structure Ev (S : Sto) (O : Ow) (H : Hp) (S' : Sto) (O' : Ow) (H' : Hp) : Prop where
  keep : ∀ a u, H a = some u → S a = none → H' a = some u
  own : ∀ a, O' a → O a ∨ H a = none
  res : ∀ a, O a → S a = none → O' a ∧ S' a = none
  there : ∀ a, H' a = none → H a = none
variable {S S' S2 : Sto}
theorem Sok.isO (s : Sok K S O H) {a : Addr} {o : DO} (h : S a = some o) : O a := by
  cases o with
  | lst ds => exact (s.dom _ _ h).1
  | obj c q fs => exact (s.obj _ _ _ _ h).1
  | dx => exact (s.dx _ h).1
theorem FsR.mono (m : Mo O H O' H') {vs : List (Option V)} {fs : List (Option D)} (f : FsR K O H vs fs) : FsR K O' H' vs fs := fun i d e => let ⟨v, h, r⟩ := f i d e; ⟨v, h, r.mono m⟩
theorem Sok.none (s : Sok K S O H) {a : Addr} (h : ¬ O a) : S a = Option.none := by
  cases q : S a with
  | none => rfl
  | some o => exact absurd (s.isO q) h
theorem Sok.noneH (s : Sok K S O H) {a : Addr} (h : H a = Option.none) : S a = Option.none := s.none fun q => by obtain ⟨_, e, _⟩ := s.ex _ q; rw [h] at e; cases e
theorem Sok.notO (s : Sok K S O H) {a : Addr} (h : H a = Option.none) : ¬ O a := fun q => by obtain ⟨_, e, _⟩ := s.ex _ q; rw [h] at e; cases e
theorem Sok.noL (s : Sok K S O H) {a : Addr} {u : HO} (h : H a = some u) (hn : Imm u) : ¬ O a := fun q => by
  obtain ⟨v, e, n⟩ := s.ex _ q; rw [h] at e; cases e; exact n hn
theorem imm_lst {xs : List V} : ¬ Imm (.lst xs) := fun z => by rcases z with ⟨_, e⟩ | ⟨_, _, e⟩ <;> cases e
theorem Ev.mo (e : Ev S O H S' O' H') (s : Sok K S O H) : Mo O H O' H' where
  k := fun a u h n => e.keep a u h (s.none n)
  t := fun a u h n => e.keep a u h (s.none (s.noL h n))
  o := fun a u h q => (e.own a q).elim id fun z => by rw [h] at z; cases z
theorem Ev.refl : Ev S O H S O H := ⟨fun _ _ h _ => h, fun _ h => .inl h, fun _ h n => ⟨h, n⟩, fun _ h => h⟩
theorem Ev.trans (a : Ev S O H S' O' H') (s' : Sok K S' O' H') (b : Ev S' O' H' S2 O2 H2) : Ev S O H S2 O2 H2 := by
  have nn : ∀ c u, H c = some u → S c = none → S' c = none := fun c u h n => by
    cases q : S' c with
    | none => rfl
    | some o =>
      rcases a.own c (s'.isO q) with z | z
      · rw [(a.res c z n).2] at q; cases q
      · rw [h] at z; cases z
  refine ⟨fun c u h n => b.keep c u (a.keep c u h n) (nn c u h n), fun c h => ?_, fun c h n => b.res c (a.res c h n).1 (a.res c h n).2, fun c h => a.there c (b.there c h)⟩
  rcases b.own c h with z | z
  · exact a.own c z
  · exact .inr (a.there c z)

/-- the names' values -/
def REnv (K : PySem.W.Frag) (O : Ow) (H : Hp) : Env → L2.St → Prop
  | [], [] => True
  | none :: ρ, _ :: σ => REnv K O H ρ σ
  | some d :: ρ, v :: σ => (∃ x, v = some x ∧ Rp K O H x d) ∧ REnv K O H ρ σ
  | _, _ => False
theorem REnv.mono (m : Mo O H O' H') : ∀ {ρ : Env} {σ : L2.St}, REnv K O H ρ σ → REnv K O' H' ρ σ
  | [], [], _ => trivial
  | none :: ρ, _ :: σ, h => REnv.mono (ρ := ρ) (σ := σ) m h
  | some d :: ρ, _ :: σ, ⟨⟨x, e, r⟩, h⟩ => ⟨⟨x, e, r.mono m⟩, REnv.mono (ρ := ρ) (σ := σ) m h⟩
  | [], _ :: _, h => h.elim
  | none :: _, [], h => h.elim
  | some _ :: _, [], h => h.elim
theorem REnv.get : ∀ {ρ : Env} {σ : L2.St} {i : Nat} {d : D}, REnv K O H ρ σ → DL.getV ρ i = some d → ∃ x, σ[i]? = some (some x) ∧ Rp K O H x d
  | none :: ρ, _ :: σ, 0, d, _, e => nomatch e
  | some d :: ρ, _ :: σ, 0, _, ⟨⟨x, e, r⟩, _⟩, q => by cases q; exact ⟨x, by rw [e]; rfl, r⟩
  | none :: ρ, _ :: σ, i + 1, d, h, e => REnv.get (ρ := ρ) (σ := σ) (i := i) h e
  | some _ :: ρ, _ :: σ, i + 1, d, ⟨_, h⟩, e => REnv.get (ρ := ρ) (σ := σ) (i := i) h e
theorem REnv.set : ∀ {ρ : Env} {σ : L2.St} (i : Nat) {d : D} {x : V}, REnv K O H ρ σ → Rp K O H x d → REnv K O H (setV ρ i d) (σ.set i (some x))
  | [], [], _, _, _, _, _ => trivial
  | none :: ρ, _ :: σ, 0, _, _, h, r => ⟨⟨_, rfl, r⟩, h⟩
  | some _ :: ρ, _ :: σ, 0, _, _, ⟨_, h⟩, r => ⟨⟨_, rfl, r⟩, h⟩
  | none :: ρ, _ :: σ, i + 1, _, _, h, r => REnv.set (ρ := ρ) (σ := σ) i h r
  | some _ :: ρ, _ :: σ, i + 1, _, _, ⟨q, h⟩, r => ⟨q, REnv.set (ρ := ρ) (σ := σ) i h r⟩
  | [], _ :: _, _, _, _, h, _ => h.elim
  | none :: _, [], _, _, _, h, _ => h.elim
  | some _ :: _, [], _, _, _, h, _ => h.elim
theorem REnv.del : ∀ {ρ : Env} {σ : L2.St} (i : Nat), REnv K O H ρ σ → REnv K O H (delV ρ i) (σ.set i none)
  | [], [], _, _ => trivial
  | none :: ρ, _ :: σ, 0, h => h
  | some _ :: ρ, _ :: σ, 0, ⟨_, h⟩ => h
  | none :: ρ, _ :: σ, i + 1, h => REnv.del (ρ := ρ) (σ := σ) i h
  | some _ :: ρ, _ :: σ, i + 1, ⟨q, h⟩ => ⟨q, REnv.del (ρ := ρ) (σ := σ) i h⟩
  | [], _ :: _, _, h => h.elim
  | none :: _, [], _, h => h.elim
  | some _ :: _, [], _, h => h.elim
theorem REnv.dels {ρ : Env} {σ : L2.St} (h : REnv K O H ρ σ) : ∀ vs : List Nat, REnv K O H (delVs ρ vs) (wipe σ vs)
  | [] => h
  | v :: vs => (h.dels vs).del v
/-- what is known less: a slot forgotten -/
theorem REnv.start : ∀ {vs : List V} {ds : List D} (n : Nat), Rps K O H vs ds → REnv K O H (ds.map some ++ List.replicate n none) (vs.map some ++ List.replicate n none)
  | [], [], 0, _ => trivial
  | [], [], n + 1, h => REnv.start n h
  | _ :: _, _ :: _, n, .cons r t => ⟨⟨_, rfl, r⟩, REnv.start n t⟩

/-! ### allocation, writing, freezing -/
theorem ev_new {p : Addr} {u : HO} (hp : H p = none) (s : Sok K S O H) : Ev S O H S O (upd H p u) :=
  ⟨fun a v h _ => by rw [upd_ne (ne_of_none h hp)]; exact h, fun _ h => .inl h, fun _ h n => ⟨h, n⟩, fun a h => by
    by_cases e : a = p
    · rw [e, upd_same] at h; cases h
    · rwa [upd_ne e] at h⟩
/-- the store stands on where what is owned stays -/
theorem Sok.go (s : Sok K S O H) (m : Mo O H O' H') (k : ∀ a u, H a = some u → O a → H' a = some u) (o : ∀ a, O a → O' a) (n : ∀ a, O' a → O a ∨ ∃ u, H' a = some u ∧ ¬ Imm u) : Sok K S O' H' where
  dom := fun a ds h => by
    obtain ⟨ho, xs, e, z, r⟩ := s.dom a ds h
    exact ⟨o _ ho, xs, k _ _ e ho, z, r.mono m⟩
  ex := fun a h => by
    rcases n a h with q | q
    · obtain ⟨u, e, n⟩ := s.ex a q; exact ⟨u, k _ _ e q, n⟩
    · exact q
  obj := fun a c q fs h => by
    obtain ⟨ho, ⟨u, hu⟩, vs, e, r⟩ := s.obj a c q fs h
    refine ⟨o _ ho, ⟨u, ?_⟩, vs, ?_, r.mono m⟩
    · by_cases hq : O q
      · exact k _ _ hu hq
      · exact m.k _ _ hu hq
    rcases e with ⟨e, z⟩ | ⟨e, z⟩
    · exact .inl ⟨k _ _ e ho, z⟩
    · refine .inr ⟨k _ _ e ho, ?_⟩
      by_cases hq : O q
      · exact k _ _ z hq
      · exact m.k _ _ z hq
  dx := fun a h => by
    obtain ⟨ho, e⟩ := s.dx a h
    refine ⟨o _ ho, ?_⟩
    rcases e with ⟨x, e⟩ | e
    · exact .inl ⟨x, k _ _ e ho⟩
    · exact .inr (k _ _ e ho)
  inj := s.inj
theorem Sok.new {p : Addr} {u : HO} (hp : H p = Option.none) (s : Sok K S O H) : Sok K S O (upd H p u) :=
  s.go ((ev_new hp s).mo s) (fun a v e _ => by rw [upd_ne (ne_of_none e hp)]; exact e) (fun _ h => h) fun _ h => .inl h
/-- a new list, reserved -/
def oadd (O : Ow) (p : Addr) : Ow := fun a => O a ∨ a = p
theorem ev_resU {p : Addr} {u : HO} (hp : H p = none) (s : Sok K S O H) : Ev S O H S (oadd O p) (upd H p u) :=
  ⟨(ev_new hp s).keep, fun a h => h.elim .inl fun e => .inr (e ▸ hp), fun _ h n => ⟨.inl h, n⟩, (ev_new (u := u) hp s).there⟩
theorem ev_res {p : Addr} {xs : List V} (hp : H p = none) (s : Sok K S O H) : Ev S O H S (oadd O p) (upd H p (.lst xs)) := ev_resU hp s
theorem Sok.resvU {p : Addr} {u : HO} (hp : H p = Option.none) (hu : ¬ Imm u) (s : Sok K S O H) : Sok K S (oadd O p) (upd H p u) :=
  s.go ((ev_resU hp s).mo s) (fun a v e _ => by rw [upd_ne (ne_of_none e hp)]; exact e) (fun _ h => .inl h) fun a h => h.elim .inl fun e => .inr ⟨u, by rw [e]; exact upd_same, hu⟩
theorem Sok.resv {p : Addr} {xs : List V} (hp : H p = Option.none) (s : Sok K S O H) : Sok K S (oadd O p) (upd H p (.lst xs)) := s.resvU hp imm_lst
/-- what is owned changes -/
theorem mo_writeU {p : Addr} {u v : HO} (hp : H p = some u) (hu : ¬ Imm u) (ho : O p) : Mo O H O (upd H p v) where
  k := fun a u h n => by rw [upd_ne (fun e => n (by rw [e]; exact ho))]; exact h
  t := fun a w h n => by rw [upd_ne (fun e => by rw [e, hp] at h; cases h; exact hu n)]; exact h
  o := fun _ _ _ q => q
theorem mo_write {p : Addr} {xs ys : List V} (hp : H p = some (.lst xs)) (ho : O p) : Mo O H O (upd H p (.lst ys)) := mo_writeU hp imm_lst ho
/-- one owned object changes; the others of the store stay -/
theorem upd_some {p q : Addr} {v : HO} (h : ∃ u, H q = some u) : ∃ u, upd H p v q = some u := by
  by_cases e : q = p
  · exact ⟨v, by rw [e]; exact upd_same⟩
  · obtain ⟨u, h⟩ := h; exact ⟨u, by rw [upd_ne e]; exact h⟩
theorem slt_upd {p a C q : Addr} {u : HO} {vs : List (Option V)} (h : SlX.Slt H a C q vs) (h1 : a ≠ p) (h2 : q ≠ p) : SlX.Slt (upd H p u) a C q vs := by
  rcases h with ⟨h, z⟩ | ⟨h, z⟩
  · exact .inl ⟨by rw [upd_ne h1]; exact h, z⟩
  · exact .inr ⟨by rw [upd_ne h1]; exact h, by rw [upd_ne h2]; exact z⟩
theorem slt_dx {a C q : Addr} {vs : List (Option V)} {xs : List V} (h : SlX.Slt H a C q vs) (hp : H q = some (.lst xs)) : vs = [] := by
  rcases h with ⟨_, z⟩ | ⟨_, z⟩
  · exact z
  · rw [hp] at z; cases z
theorem slt_updL {p a C q : Addr} {xs ys : List V} {vs : List (Option V)} (hp : H p = some (.lst xs)) (h : SlX.Slt H a C q vs) : SlX.Slt (upd H p (.lst ys)) a C q vs := by
  have h1 : a ≠ p := fun e => by
    rcases h with ⟨h, _⟩ | ⟨h, _⟩
    · rw [e, hp] at h; cases h
    · rw [e, hp] at h; unfold SlX.SlO at h; cases h
  rcases h with ⟨h, z⟩ | ⟨h, z⟩
  · exact .inl ⟨by rw [upd_ne h1]; exact h, z⟩
  · exact .inr ⟨by rw [upd_ne h1]; exact h, by rw [upd_ne (fun e => by rw [e, hp] at z; cases z)]; exact z⟩
theorem dx_updL {p a : Addr} {xs ys : List V} (hp : H p = some (.lst xs)) (h : (∃ x, H a = some (.own x)) ∨ H a = some (.xd [])) : (∃ x, upd H p (.lst ys) a = some (.own x)) ∨ upd H p (.lst ys) a = some (.xd []) := by
  have ne : a ≠ p := fun e => by
    rw [e, hp] at h
    rcases h with ⟨_, h⟩ | h <;> cases h
  rw [upd_ne ne]; exact h
/-- a reserved list changes -/
theorem Sok.wres {p : Addr} {xs ys : List V} (hp : H p = some (.lst xs)) (ho : O p) (hs : S p = Option.none) (s : Sok K S O H) : Sok K S O (upd H p (.lst ys)) where
  dom := fun a ds h => by
    obtain ⟨o, zs, e, z, r⟩ := s.dom a ds h
    have ne : a ≠ p := fun q => by rw [q, hs] at h; cases h
    exact ⟨o, zs, by rw [upd_ne ne]; exact e, z, r.mono (mo_write hp ho)⟩
  ex := fun a h => by
    by_cases e : a = p
    · exact ⟨.lst ys, by rw [e]; exact upd_same, imm_lst⟩
    · obtain ⟨zs, q, n⟩ := s.ex a h; exact ⟨zs, by rw [upd_ne e]; exact q, n⟩
  obj := fun a c q fs h => by
    obtain ⟨o, hu, vs, e, r⟩ := s.obj a c q fs h
    exact ⟨o, upd_some hu, vs, slt_updL hp e, r.mono (mo_write hp ho)⟩
  dx := fun a h => ⟨(s.dx a h).1, dx_updL hp (s.dx a h).2⟩
  inj := s.inj
/-- an owned list changes -/
theorem Sok.write {p : Addr} {xs ys : List V} {ds es : List D} (hs : S p = some (.lst ds)) (hp : H p = some (.lst xs)) (hz : ys.length ≤ sizeLine) (r : Rps K O H ys es) (s : Sok K S O H) : Sok K (sup S p (.lst es)) O (upd H p (.lst ys)) where
  dom := fun a fs h => by
    have ho := (s.dom _ _ hs).1
    by_cases e : a = p
    · subst e
      rw [sup_same] at h; cases h
      exact ⟨ho, ys, upd_same, hz, r.mono (mo_write hp ho)⟩
    · rw [sup_ne e] at h
      obtain ⟨o, zs, q, z, r⟩ := s.dom a fs h
      exact ⟨o, zs, by rw [upd_ne e]; exact q, z, r.mono (mo_write hp ho)⟩
  ex := fun a h => by
    by_cases e : a = p
    · exact ⟨.lst ys, by rw [e]; exact upd_same, imm_lst⟩
    · obtain ⟨zs, q, n⟩ := s.ex a h; exact ⟨zs, by rw [upd_ne e]; exact q, n⟩
  obj := fun a c q fs h => by
    have ne : a ≠ p := fun e => by rw [e, sup_same] at h; cases h
    rw [sup_ne ne] at h
    obtain ⟨o, hu, vs, e, r⟩ := s.obj a c q fs h
    exact ⟨o, upd_some hu, vs, slt_updL hp e, r.mono (mo_write hp (s.dom _ _ hs).1)⟩
  dx := fun a h => by
    have ne : a ≠ p := fun e => by rw [e, sup_same] at h; cases h
    rw [sup_ne ne] at h
    exact ⟨(s.dx a h).1, dx_updL hp (s.dx a h).2⟩
  inj := fun a a' c c' q fs fs' h h' => by
    have ne : a ≠ p := fun e => by rw [e, sup_same] at h; cases h
    have ne' : a' ≠ p := fun e => by rw [e, sup_same] at h'; cases h'
    rw [sup_ne ne] at h
    rw [sup_ne ne'] at h'
    exact s.inj _ _ _ _ _ _ _ h h'
theorem ev_writeU {p : Addr} {u : HO} {o o' : DO} (hs : S p = some o) : Ev S O H (sup S p o') O (upd H p u) :=
  ⟨fun a u h n => by rw [upd_ne (fun e => by rw [e, hs] at n; cases n)]; exact h, fun _ h => .inl h, fun a h n => ⟨h, by rw [sup_ne (fun e => by rw [e, hs] at n; cases n)]; exact n⟩, fun a h => by
    by_cases e : a = p
    · rw [e, upd_same] at h; cases h
    · rwa [upd_ne e] at h⟩
theorem ev_write {p : Addr} {ys : List V} {ds es : List D} (hs : S p = some (.lst ds)) (s : Sok K S O H) : Ev S O H (sup S p (.lst es)) O (upd H p (.lst ys)) := ev_writeU hs
/-- a reserved list becomes an owned one -/
theorem Sok.take {p : Addr} {xs : List V} {ds : List D} (ho : O p) (hp : H p = some (.lst xs)) (hz : xs.length ≤ sizeLine) (r : Rps K O H xs ds) (s : Sok K S O H) : Sok K (sup S p (.lst ds)) O H where
  dom := fun a fs h => by
    by_cases e : a = p
    · subst e; rw [sup_same] at h; cases h; exact ⟨ho, xs, hp, hz, r⟩
    · rw [sup_ne e] at h; exact s.dom a fs h
  ex := s.ex
  obj := fun a c q fs h => by
    have ne : a ≠ p := fun e => by rw [e, sup_same] at h; cases h
    rw [sup_ne ne] at h
    exact s.obj a c q fs h
  dx := fun a h => by
    have ne : a ≠ p := fun e => by rw [e, sup_same] at h; cases h
    rw [sup_ne ne] at h
    exact s.dx a h
  inj := fun a a' c c' q fs fs' h h' => by
    have ne : a ≠ p := fun e => by rw [e, sup_same] at h; cases h
    have ne' : a' ≠ p := fun e => by rw [e, sup_same] at h'; cases h'
    rw [sup_ne ne] at h
    rw [sup_ne ne'] at h'
    exact s.inj _ _ _ _ _ _ _ h h'
/-- what is reserved is let go: nobody changes it any more -/
def orem (O : Ow) (p : Addr) : Ow := fun a => O a ∧ a ≠ p
theorem mo_free {p : Addr} : Mo O H (orem O p) H := ⟨fun _ _ h _ => h, fun _ _ h _ => h, fun _ _ _ q => q.1⟩
theorem Sok.free {p : Addr} (hs : S p = Option.none) (s : Sok K S O H) : Sok K S (orem O p) H where
  dom := fun a ds h => by
    obtain ⟨o, xs, e, z, r⟩ := s.dom a ds h
    exact ⟨⟨o, fun q => by rw [q, hs] at h; cases h⟩, xs, e, z, r.mono mo_free⟩
  ex := fun a h => s.ex a h.1
  obj := fun a c q fs h => by
    obtain ⟨o, hu, vs, e, r⟩ := s.obj a c q fs h
    exact ⟨⟨o, fun q => by rw [q, hs] at h; cases h⟩, hu, vs, e, r.mono mo_free⟩
  dx := fun a h => ⟨⟨(s.dx a h).1, fun q => by rw [q, hs] at h; cases h⟩, (s.dx a h).2⟩
  inj := s.inj
/-- less is known -/
theorem Sok.less {T : Sto} (sb : ∀ a o, T a = some o → S a = some o) (s : Sok K S O H) : Sok K T O H :=
  ⟨fun a ds h => s.dom a ds (sb a _ h), s.ex, fun a c q fs h => s.obj a c q fs (sb a _ h), fun a h => s.dx a (sb a _ h), fun a a' c c' q fs fs' h h' => s.inj a a' c c' q fs fs' (sb a _ h) (sb a' _ h')⟩
theorem sdel_sub {p : Addr} (a : Addr) (o : DO) (h : sdel S p a = some o) : S a = some o := by
  by_cases e : a = p
  · rw [e, sdel_same] at h; cases h
  · rwa [sdel_ne e] at h
theorem Sok.sdel {p : Addr} (s : Sok K S O H) : Sok K (sdel S p) O H := s.less sdel_sub
end
end DL

/-! DL3: the judgements over data; expressions' readings. -/
namespace DL
open PySem PySem.Spec PyProof.Rows L2

/-- what links numbers to a text: promises, constants; how an exception (number, payload) lies -/
structure Lnk where
  Γ : Gam
  xr : Ow → Hp → Nat → D → Value → Option Addr → Prop
/-- a state at which code runs -/
structure At (L : Lnk) (K : PySem.W.Frag) (W : WX) (σ : L2.St) (H : Hp) (ρ : Env) (S : Sto) (O : Ow) (R : XD) : Prop where
  sok : Sok K S O H
  env : REnv K O H ρ σ
  x : ∀ k d S' O' H' c dd, Sok K S' O' H' → Ev S O H S' O' H' → L.xr O' H' k d c dd → R k d S' → W c dd σ H'
section
variable {L : Lnk} {K : PySem.W.Frag} {W : WX} {σ : L2.St} {H H1 : Hp} {ρ : Env} {S S1 : Sto} {O O1 : Ow} {R : XD}
theorem At.next (A : At L K W σ H ρ S O R) (s : Sok K S1 O1 H1) (e : Ev S O H S1 O1 H1) : At L K W σ H1 ρ S1 O1 R :=
  ⟨s, A.env.mono (e.mo A.sok), fun k d S' O' H' c dd s' e' x r => A.x k d S' O' H' c dd s' (e.trans s e') x r⟩
theorem At.mo (A : At L K W σ H ρ S O R) (e : Ev S O H S1 O1 H1) : Mo O H O1 H1 := e.mo A.sok
end
abbrev WE' := Env → Sto → XD → QD → Prop
/-- a reading carries a weakest precondition -/
def RE (L : Lnk) (K : PySem.W.Frag) (W : WX) (t : TE) (w : WE') : Prop :=
  ∀ (σ : L2.St) (H : Hp) (ρ : Env) (S : Sto) (O : Ow) (R : XD) (Q : QD) (Q' : VK), At L K W σ H ρ S O R → w ρ S R Q →
    (∀ v H' d S' O', Rp K O' H' v d → Sok K S' O' H' → Ev S O H S' O' H' → Q d S' → Q' v H') → t σ H Q'
def RT (L : Lnk) (K : PySem.W.Frag) (W : WX) (t : TT) (w : WE') : Prop :=
  ∀ (σ : L2.St) (H : Hp) (ρ : Env) (S : Sto) (O : Ow) (R : XD) (Q : Bool → Sto → Prop) (Q' : Bool → Hp → Prop), At L K W σ H ρ S O R → w ρ S R (fun d S' => tstD d fun b => Q b S') →
    (∀ b H' S' O', Sok K S' O' H' → Ev S O H S' O' H' → Q b S' → Q' b H') → t σ H Q'
def RA (L : Lnk) (K : PySem.W.Frag) (W : WX) (t : TA) (w : Env → Sto → XD → (List D → Sto → Prop) → Prop) : Prop :=
  ∀ (σ : L2.St) (H : Hp) (ρ : Env) (S : Sto) (O : Ow) (R : XD) (Q : List D → Sto → Prop) (Q' : List V → Hp → Prop), At L K W σ H ρ S O R → w ρ S R Q →
    (∀ vs H' ds S' O', Rps K O' H' vs ds → Sok K S' O' H' → Ev S O H S' O' H' → Q ds S' → Q' vs H') → t σ H Q'
/-- a new list: it is reserved, its items stand -/
def RL (L : Lnk) (K : PySem.W.Frag) (W : WX) (t : TE) (w : Env → Sto → XD → (List D → Sto → Prop) → Prop) : Prop :=
  ∀ (σ : L2.St) (H : Hp) (ρ : Env) (S : Sto) (O : Ow) (R : XD) (Q : List D → Sto → Prop) (Q' : VK), At L K W σ H ρ S O R → w ρ S R Q →
    (∀ p xs H' ds S' O', H p = none → O' p → S' p = none → H' p = some (.lst xs) → xs.length ≤ sizeLine → Rps K O' H' xs ds → Sok K S' O' H' → Ev S O H S' O' H' → Q ds S' → Q' (.ref p) H') → t σ H Q'
def RO (L : Lnk) (K : PySem.W.Frag) (W : WX) (t : TO) (w : Env → Sto → XD → (Option Int → Sto → Prop) → Prop) : Prop :=
  ∀ (σ : L2.St) (H : Hp) (ρ : Env) (S : Sto) (O : Ow) (R : XD) (Q : Option Int → Sto → Prop) (Q' : Option Int → Hp → Prop), At L K W σ H ρ S O R → w ρ S R Q →
    (∀ o H' S' O', Sok K S' O' H' → Ev S O H S' O' H' → Q o S' → Q' o H') → t σ H Q'
section
variable {L : Lnk} {K : PySem.W.Frag} {W : WX} {t ta tb tc : TE} {w wa wb wc : WE'}
theorem RE.go (h : RE L K W t w) {σ : L2.St} {H : Hp} {ρ : Env} {S : Sto} {O : Ow} {R : XD} {Q : QD} {Q' : VK} (A : At L K W σ H ρ S O R) (hw : w ρ S R Q)
    (k : ∀ v H1 d S1 O1, Rp K O1 H1 v d → At L K W σ H1 ρ S1 O1 R → Ev S O H S1 O1 H1 → Q d S1 → Q' v H1) : t σ H Q' :=
  h σ H ρ S O R Q Q' A hw fun v H' d S' O' r s e q => k v H' d S' O' r (A.next s e) e q
theorem RT.go {t : TT} (h : RT L K W t w) {σ : L2.St} {H : Hp} {ρ : Env} {S : Sto} {O : Ow} {R : XD} {Q : Bool → Sto → Prop} {Q' : Bool → Hp → Prop} (A : At L K W σ H ρ S O R) (hw : w ρ S R (fun d S' => tstD d fun b => Q b S'))
    (k : ∀ b H1 S1 O1, At L K W σ H1 ρ S1 O1 R → Ev S O H S1 O1 H1 → Q b S1 → Q' b H1) : t σ H Q' :=
  h σ H ρ S O R Q Q' A hw fun v H' S' O' s e q => k v H' S' O' (A.next s e) e q
theorem RA.go {t : TA} {w : Env → Sto → XD → (List D → Sto → Prop) → Prop} (h : RA L K W t w) {σ : L2.St} {H : Hp} {ρ : Env} {S : Sto} {O : Ow} {R : XD} {Q : List D → Sto → Prop} {Q' : List V → Hp → Prop} (A : At L K W σ H ρ S O R) (hw : w ρ S R Q)
    (k : ∀ vs H1 ds S1 O1, Rps K O1 H1 vs ds → At L K W σ H1 ρ S1 O1 R → Ev S O H S1 O1 H1 → Q ds S1 → Q' vs H1) : t σ H Q' :=
  h σ H ρ S O R Q Q' A hw fun v H' d S' O' r s e q => k v H' d S' O' r (A.next s e) e q
theorem RO.go {t : TO} {w : Env → Sto → XD → (Option Int → Sto → Prop) → Prop} (h : RO L K W t w) {σ : L2.St} {H : Hp} {ρ : Env} {S : Sto} {O : Ow} {R : XD} {Q : Option Int → Sto → Prop} {Q' : Option Int → Hp → Prop} (A : At L K W σ H ρ S O R) (hw : w ρ S R Q)
    (k : ∀ o H1 S1 O1, At L K W σ H1 ρ S1 O1 R → Ev S O H S1 O1 H1 → Q o S1 → Q' o H1) : t σ H Q' :=
  h σ H ρ S O R Q Q' A hw fun v H' S' O' s e q => k v H' S' O' (A.next s e) e q
/-- a value that is a bool -/
theorem tst_bl {v : V} {d : D} {O : Ow} {H : Hp} {k : Bool → Prop} (r : Rp K O H v d) (h : tstD d k) : ∃ b, v = .bl b ∧ d = .bl b ∧ k b := by
  cases d with
  | bl b => cases r; exact ⟨b, rfl, rfl, h⟩
  | _ => exact h.elim
/-- from a value's reading to a test's -/
theorem RE.tB (h : RE L K W t w) : RT L K W (tB t) w := fun σ H ρ S O R Q Q' A hw k =>
  h σ H ρ S O R _ _ A hw fun v H' d S' O' r s e q => by
    obtain ⟨b, rfl, rfl, q⟩ := tst_bl r q
    exact ⟨b, rfl, k b H' S' O' s e q⟩

/-! ### the value forms -/
theorem re_var {i : Nat} : RE L K W (tVar i) fun ρ S _ Q => match getV ρ i with
    | some d => Q d S
    | none => False := fun σ H ρ S O R Q Q' A hw k => by
  cases e : getV ρ i with
  | none => simp only [e] at hw
  | some d =>
    simp only [e] at hw
    obtain ⟨x, ex, r⟩ := A.env.get e
    exact ⟨x, ex, k x H d S O r A.sok .refl hw⟩
theorem re_c {v : V} {d : D} (h : ∀ O H, Rp K O H v d) : RE L K W (tC v) fun _ S _ Q => Q d S := fun σ H ρ S O R Q Q' A hw k => k v H d S O (h O H) A.sok .refl hw
theorem re_op {r : R2} {f : Sto → D → D → (D → Prop) → Prop} (ha : RE L K W ta wa) (hb : RE L K W tb wb)
    (hr : ∀ x y dx dy H S O (P : D → Prop) (Q' : VK), Sok K S O H → Rp K O H x dx → Rp K O H y dy → f S dx dy P → (∀ v H' d, Rp K O H' v d → Sok K S O H' → Ev S O H S O H' → P d → Q' v H') → r x y H Q') :
    RE L K W (tOp r ta tb) fun ρ S R Q => wa ρ S R fun x S1 => wb ρ S1 R fun y S2 => f S2 x y fun z => Q z S2 := fun σ H ρ S O R Q Q' A hw k => by
  refine ha.go A hw fun x H1 dx S1 O1 r1 A1 e1 q1 => ?_
  refine hb.go A1 q1 fun y H2 dy S2 O2 r2 A2 e2 q2 => ?_
  refine hr x y dx dy H2 S2 O2 _ Q' A2.sok (r1.mono (A1.mo e2)) r2 q2 fun v H' d rv s e q => ?_
  exact k v H' d S2 O2 rv s ((e1.trans A1.sok e2).trans A2.sok e) q
theorem re_not (ha : RE L K W ta wa) : RE L K W (tNotV ta) fun ρ S R Q => wa ρ S R fun x S1 => tstD x fun b => Q (.bl (!b)) S1 := fun σ H ρ S O R Q Q' A hw k => by
  refine ha.go A hw fun x H1 dx S1 O1 r1 A1 e1 q1 => ?_
  obtain ⟨b, rfl, rfl, q⟩ := tst_bl r1 q1
  exact ⟨b, rfl, k _ H1 _ S1 O1 (.bl _) A1.sok e1 q⟩
theorem rt_not {t : TT} (ha : RT L K W t wa) : RT L K W (tNot t) fun ρ S R Q => wa ρ S R fun x S1 => tstD x fun b => Q (.bl (!b)) S1 := fun σ H ρ S O R Q Q' A hw k =>
  ha.go (Q := fun b S1 => Q (!b) S1) A hw fun b H1 S1 O1 A1 e1 q1 => k _ H1 S1 O1 A1.sok e1 q1
theorem re_and (ha : RE L K W ta wa) (hb : RE L K W tb wb) : RE L K W (tAndV ta tb) fun ρ S R Q => wa ρ S R fun x S1 => tstD x fun c => if c = true then wb ρ S1 R Q else Q (.bl false) S1 := fun σ H ρ S O R Q Q' A hw k => by
  refine ha.go A hw fun x H1 dx S1 O1 r1 A1 e1 q1 => ?_
  obtain ⟨b, rfl, rfl, q⟩ := tst_bl r1 q1
  refine ⟨b, rfl, ?_⟩
  cases b with
  | true => exact hb.go A1 q fun v H2 d S2 O2 r2 A2 e2 q2 => k v H2 d S2 O2 r2 A2.sok (e1.trans A1.sok e2) q2
  | false => exact k _ H1 _ S1 O1 (.bl _) A1.sok e1 q
theorem re_or (ha : RE L K W ta wa) (hb : RE L K W tb wb) : RE L K W (tOrV ta tb) fun ρ S R Q => wa ρ S R fun x S1 => tstD x fun c => if c = true then Q (.bl true) S1 else wb ρ S1 R Q := fun σ H ρ S O R Q Q' A hw k => by
  refine ha.go A hw fun x H1 dx S1 O1 r1 A1 e1 q1 => ?_
  obtain ⟨b, rfl, rfl, q⟩ := tst_bl r1 q1
  refine ⟨b, rfl, ?_⟩
  cases b with
  | false => exact hb.go A1 q fun v H2 d S2 O2 r2 A2 e2 q2 => k v H2 d S2 O2 r2 A2.sok (e1.trans A1.sok e2) q2
  | true => exact k _ H1 _ S1 O1 (.bl _) A1.sok e1 q
theorem rt_and {t u : TT} (ha : RT L K W t wa) (hb : RT L K W u wb) : RT L K W (tAnd t u) fun ρ S R Q => wa ρ S R fun x S1 => tstD x fun c => if c = true then wb ρ S1 R Q else Q (.bl false) S1 := fun σ H ρ S O R Q Q' A hw k => by
  refine ha.go (Q := fun c S1 => if c = true then wb ρ S1 R (fun d S' => tstD d fun b => Q b S') else Q false S1) A hw fun b H1 S1 O1 A1 e1 q => ?_
  cases b with
  | true => exact hb.go A1 q fun b H2 S2 O2 A2 e2 q2 => k b H2 S2 O2 A2.sok (e1.trans A1.sok e2) q2
  | false => exact k _ H1 S1 O1 A1.sok e1 q
theorem rt_or {t u : TT} (ha : RT L K W t wa) (hb : RT L K W u wb) : RT L K W (tOr t u) fun ρ S R Q => wa ρ S R fun x S1 => tstD x fun c => if c = true then Q (.bl true) S1 else wb ρ S1 R Q := fun σ H ρ S O R Q Q' A hw k => by
  refine ha.go (Q := fun c S1 => if c = true then Q true S1 else wb ρ S1 R (fun d S' => tstD d fun b => Q b S')) A hw fun b H1 S1 O1 A1 e1 q => ?_
  cases b with
  | false => exact hb.go A1 q fun b H2 S2 O2 A2 e2 q2 => k b H2 S2 O2 A2.sok (e1.trans A1.sok e2) q2
  | true => exact k _ H1 S1 O1 A1.sok e1 q
theorem re_ite {t : TT} (hc : RT L K W t wc) (ha : RE L K W ta wa) (hb : RE L K W tb wb) : RE L K W (tIf t ta tb) fun ρ S R Q => wc ρ S R fun x S1 => tstD x fun z => if z = true then wa ρ S1 R Q else wb ρ S1 R Q := fun σ H ρ S O R Q Q' A hw k => by
  refine hc.go (Q := fun z S1 => if z = true then wa ρ S1 R Q else wb ρ S1 R Q) A hw fun b H1 S1 O1 A1 e1 q => ?_
  cases b with
  | true => exact ha.go A1 q fun v H2 d S2 O2 r2 A2 e2 q2 => k v H2 d S2 O2 r2 A2.sok (e1.trans A1.sok e2) q2
  | false => exact hb.go A1 q fun v H2 d S2 O2 r2 A2 e2 q2 => k v H2 d S2 O2 r2 A2.sok (e1.trans A1.sok e2) q2
theorem re_neg (ha : RE L K W ta wa) : RE L K W (tUn (rU fun i => .int (-i)) ta) fun ρ S R Q => wa ρ S R fun x S1 => match x with
    | .int i => Q (.int (-i)) S1
    | _ => False := fun σ H ρ S O R Q Q' A hw k => by
  refine ha.go A hw fun x H1 dx S1 O1 r1 A1 e1 q1 => ?_
  cases dx with
  | int i => cases r1; exact ⟨i, rfl, k _ H1 _ S1 O1 (.int _) A1.sok e1 q1⟩
  | _ => exact q1.elim

/-! ### argument lists -/
theorem ra_nil : RA L K W tNil fun _ S _ Q => Q [] S := fun σ H ρ S O R Q Q' A hw k => k [] H [] S O .nil A.sok .refl hw
theorem ra_cons {t : TE} {u : TA} {wr : Env → Sto → XD → (List D → Sto → Prop) → Prop} (h : RE L K W t w) (hr : RA L K W u wr) : RA L K W (tCons t u) fun ρ S R Q => w ρ S R fun x S1 => wr ρ S1 R fun xs S2 => Q (x :: xs) S2 := fun σ H ρ S O R Q Q' A hw k => by
  refine h.go A hw fun x H1 dx S1 O1 r1 A1 e1 q1 => ?_
  refine hr.go A1 q1 fun xs H2 ds S2 O2 r2 A2 e2 q2 => ?_
  exact k _ H2 _ S2 O2 (.cons (r1.mono (A1.mo e2)) r2) A2.sok (e1.trans A1.sok e2) q2
/-- an owned list, or a value, read as a sequence -/
theorem seq_of {v : V} {d : D} {S : Sto} {O : Ow} {H : Hp} (r : Rp K O H v d) (s : Sok K S O H) : 
    (∀ ds, res S d = .lst ds → ∃ a xs, v = .ref a ∧ H a = some (.lst xs) ∧ xs.length ≤ sizeLine ∧ Rps K O H xs ds) ∧ (∀ ds, res S d = .tup ds → ∃ a xs, v = .ref a ∧ SqT K H a xs ∧ xs.length ≤ sizeLine ∧ Rps K O H xs ds) ∧
    (∀ ns, res S d = .scr ns → ∃ a, v = .ref a ∧ SqL K H a (ns.map V.int)) := by
  cases r with
  | ref =>
    rename_i a
    cases q : S a with
    | none => simp only [res, q]; exact ⟨(fun _ e => nomatch e), (fun _ e => nomatch e), (fun _ e => nomatch e)⟩
    | some o =>
      cases o with
      | lst es =>
        simp only [res, q]
        obtain ⟨_, xs, h1, h2, h3⟩ := s.dom _ _ q
        exact ⟨(fun ds e => by cases e; exact ⟨a, xs, rfl, h1, h2, h3⟩), (fun _ e => nomatch e), (fun _ e => nomatch e)⟩
      | _ => simp only [res, q]; exact ⟨(fun _ e => nomatch e), (fun _ e => nomatch e), (fun _ e => nomatch e)⟩
  | tup h1 h2 h3 => exact ⟨(fun _ e => nomatch e), (fun ds e => by cases e; exact ⟨_, _, rfl, h1, h2, h3⟩), (fun _ e => nomatch e)⟩
  | lst h1 _ h2 h3 => exact ⟨(fun ds e => by cases e; exact ⟨_, _, rfl, h1, h2, h3⟩), (fun _ e => nomatch e), (fun _ e => nomatch e)⟩
  | scr _ h => exact ⟨(fun _ e => nomatch e), (fun _ e => nomatch e), (fun ns e => by cases e; exact ⟨_, rfl, .inl (.inr ⟨_, h⟩)⟩)⟩
  | scrK _ h => exact ⟨(fun _ e => nomatch e), (fun _ e => nomatch e), (fun ns e => by cases e; exact ⟨_, rfl, h _⟩)⟩
  | _ => exact ⟨(fun _ e => nomatch e), (fun _ e => nomatch e), (fun _ e => nomatch e)⟩
theorem ra_star {t : TE} {u : TA} {wr : Env → Sto → XD → (List D → Sto → Prop) → Prop} (h : RE L K W t w) (hr : RA L K W u wr) : RA L K W (StX.tStar K t u) fun ρ S R Q => w ρ S R fun x S1 => match res S1 x with
    | .tup ys => wr ρ S1 R fun xs S2 => Q (ys ++ xs) S2
    | .lst ys => wr ρ S1 R fun xs S2 => Q (ys ++ xs) S2
    | _ => False := fun σ H ρ S O R Q Q' A hw k => by
  refine h.go A hw fun x H1 dx S1 O1 r1 A1 e1 q1 => ?_
  obtain ⟨hl, ht, _⟩ := seq_of r1 A1.sok
  cases e : res S1 dx with
  | tup ys =>
    simp only [e] at q1
    obtain ⟨a, xs, rfl, h1, h2, h3⟩ := ht _ e
    refine ⟨a, xs, rfl, .inl h1, ?_⟩
    refine hr.go A1 q1 fun vs H2 ds S2 O2 r2 A2 e2 q2 => ?_
    exact k _ H2 _ S2 O2 ((h3.mono (A1.mo e2)).append r2) A2.sok (e1.trans A1.sok e2) q2
  | lst ys =>
    simp only [e] at q1
    obtain ⟨a, xs, rfl, h1, h2, h3⟩ := hl _ e
    refine ⟨a, xs, rfl, .inr (SqL.of h1), ?_⟩
    refine hr.go A1 q1 fun vs H2 ds S2 O2 r2 A2 e2 q2 => ?_
    exact k _ H2 _ S2 O2 ((h3.mono (A1.mo e2)).append r2) A2.sok (e1.trans A1.sok e2) q2
  | _ => simp only [e] at q1
/-- new tuples -/
theorem rp_new {S : Sto} {O : Ow} {H : Hp} {p : Addr} {xs : List V} {ds : List D} (s : Sok K S O H) (hp : H p = none) (z : xs.length ≤ sizeLine) (r : Rps K O H xs ds) : Rp K O (upd H p (.tup xs)) (.ref p) (.tup ds) :=
  .tup (SqT.of upd_same) z (r.mono ((ev_new hp s).mo s))
theorem re_tup {t : TA} {ws : Env → Sto → XD → (List D → Sto → Prop) → Prop} (h : RA L K W t ws) : RE L K W (tTup t) fun ρ S R Q => ws ρ S R fun ds S1 => ds.length ≤ sizeLine ∧ Q (.tup ds) S1 := fun σ H ρ S O R Q Q' A hw k => by
  refine h.go A hw fun xs H1 ds S1 O1 r1 A1 e1 ⟨z, q1⟩ => ?_
  have z' : xs.length ≤ sizeLine := by rw [r1.len]; exact z
  refine ⟨z', fun p hp => k _ _ _ S1 O1 (rp_new A1.sok hp z' r1) (A1.sok.new hp) (e1.trans A1.sok (ev_new hp A1.sok)) q1⟩
end
end DL

set_option maxHeartbeats 4000000
/-! DL17: tuple * int, any int. -/
namespace L2
open PySem PySem.Spec PyProof.Rows
theorem tuple_mul_same (l : Addr) (items : Array Value) (n : Nat) (dd : Option Addr) (sl : Array (Option Value)) (x : Int) (u : Tok) (c0 : (decide (x < -(2 ^ 63)) || decide (x ≥ 2 ^ 63)) = false) (c1 : (items.isEmpty || x == 1) = true) :
    Meets (Builtin.«tuple.__mul__» ⟨[.ref l, .int x u], []⟩) (fun _ R s => s.heap.get? l = some { cls := .type "tuple", dict := dd, data := .seq items n, slots := sl } ∧ R (.ok (.ret (Value.ref l))) s) :=
  .of_wp fun prog w A R s h => by
    obtain ⟨hp, g, d, tk, os⟩ := s
    obtain ⟨hl, h⟩ := h
    have f1 := AutoSeq1.idx_int
    have ht : ({ heap := hp, gens := g, drawn := d, toks := tk, os := os } : Shared).TypeIs (.ref l) "tuple" := ⟨_, hl, rfl⟩
    wp_walk using wpAny_loadPart' hl
    repeat (first
      | (refine wpAny_ite_false (decide_eq_false (by rw [c0]; exact Bool.false_ne_true)) ?_; wp_walk using wpAny_loadPart' hl)
      | (refine wpAny_ite_true (decide_eq_true (by rw [c1])) ?_; wp_walk using wpAny_loadPart' hl))
    all_goals first
      | exact ⟨_, rfl, h⟩
      | skip
theorem tuple_mul_none (l : Addr) (items : Array Value) (n : Nat) (dd : Option Addr) (sl : Array (Option Value)) (x : Int) (u : Tok) (c0 : (decide (x < -(2 ^ 63)) || decide (x ≥ 2 ^ 63)) = false) (c1 : (items.isEmpty || x == 1) = false) (c2 : (decide (x ≤ 0) || items.isEmpty) = true) :
    Meets (Builtin.«tuple.__mul__» ⟨[.ref l, .int x u], []⟩) (fun _ R s => s.heap.get? l = some { cls := .type "tuple", dict := dd, data := .seq items n, slots := sl } ∧
      R (.ok (.ret (Value.ref s.heap.objs.size))) { s with heap := s.heap.push { cls := Value.type "tuple", data := Data.seq #[] }, toks := s.toks }) :=
  .of_wp fun prog w A R s h => by
    obtain ⟨hp, g, d, tk, os⟩ := s
    obtain ⟨hl, h⟩ := h
    have f1 := AutoSeq1.idx_int
    wp_walk using wpAny_loadPart' hl
    repeat (first
      | (refine wpAny_ite_false (decide_eq_false (by rw [c0]; exact Bool.false_ne_true)) ?_; wp_walk using wpAny_loadPart' hl)
      | (refine wpAny_ite_false (decide_eq_false (by rw [c1]; exact Bool.false_ne_true)) ?_; wp_walk using wpAny_loadPart' hl)
      | (refine wpAny_ite_true (decide_eq_true (by rw [c2])) ?_; wp_walk using wpAny_loadPart' hl))
    exact ⟨_, rfl, h⟩
/-- tuple * int, any -/
def rRepG (K : PySem.W.Frag) : R2 := fun x y H Q => ∃ l k xs, x = .ref l ∧ y = .int k ∧ SqT K H l xs ∧ -(2 ^ 63) ≤ k ∧ k < 2 ^ 63 ∧ xs.length * k.toNat ≤ sizeLine ∧
  ((xs = [] ∨ k = 1) → Q (.ref l) H) ∧ (¬ (xs = [] ∨ k = 1) → ∀ p, H p = none → Q (.ref p) (upd H p (.tup (List.replicate k.toNat xs).flatten)))
section
variable {X : Cx}
theorem op_repG : OpR X (binaryOp .Mult) (rRepG X.K) := by
  intro pins s σ H x y v u Q I rx ry h
  obtain ⟨l, k, xs, rfl, rfl, hT, h1, h2, hz, q1, q2⟩ := h
  cases rx
  obtain ⟨t, rfl⟩ := ry
  obtain ⟨its, r, ⟨⟨cls, dd, data, sl⟩, ho, hc, n, hd⟩, hs⟩ := I.tuple hT
  simp only at hc hd
  subst hc hd
  have hle : its.length = xs.length := r.length.symm
  have c0 : (decide (k < -(2 ^ 63)) || decide (k ≥ 2 ^ 63)) = false := by
    rw [decide_eq_false (by omega), decide_eq_false (by omega)] <;> rfl
  have hemp : its.toArray.isEmpty = decide (xs = []) := by
    cases xs with
    | nil => have : its = [] := List.eq_nil_of_length_eq_zero hle
             subst this; rfl
    | cons a b =>
      cases its with
      | nil => cases hle
      | cons c d => rfl
  have road : ∀ {Q' : Value → Shared → Prop}, wpAny (model X.prog X.w) X.A (call (.builtin "tuple.__mul__") [.ref l, .int k t]) Q' X.xe s → wpAny (model X.prog X.w) X.A (binaryOp .Mult (.ref l) (.int k t)) Q' X.xe s := fun {Q'} hq =>
    wpAny_binaryOp_repeat_ref (T := "tuple") (U := "int") (by decide) ⟨_, ho, rfl⟩ (fun s' => typeIs_int s' k t) noFill_tuple_mul F.fills_int_mul F.slot_int_rmul repeat_tuple F.slot_int_index.lookup
      (call_meets F.slot_int_rmul (typeIs_int s k t) F.entry_int_rmul (F.args_int_rmul_2 _ _) (int_rmul_tuple k t l its.toArray n dd sl) ⟨ho, rfl, ⟨_, ho, rfl⟩, hq⟩)
  by_cases c1 : xs = [] ∨ k = 1
  · refine road (call_meets F.slot_tuple_mul ⟨_, ho, rfl⟩ F.entry_tuple_mul (F.args_tuple_mul_2 _ _) (tuple_mul_same l its.toArray n dd sl k t c0 ?_) ⟨ho, ?_⟩)
    · rw [hemp]
      rcases c1 with c1 | c1
      · rw [decide_eq_true c1, Bool.true_or]
      · rw [c1]; simp
    · exact ⟨.ref l, H, I, rfl, q1 c1⟩
  · have hx : xs ≠ [] := fun e => c1 (.inl e)
    have hk : k ≠ 1 := fun e => c1 (.inr e)
    have e1 : (its.toArray.isEmpty || k == 1) = false := by
      rw [hemp, decide_eq_false hx, Bool.false_or]
      exact beq_eq_false_iff_ne.mpr hk
    have fin := q2 c1
    by_cases c2 : k ≤ 0
    · refine road (call_meets F.slot_tuple_mul ⟨_, ho, rfl⟩ F.entry_tuple_mul (F.args_tuple_mul_2 _ _) (tuple_mul_none l its.toArray n dd sl k t c0 e1 (by rw [decide_eq_true c2, Bool.true_or])) ⟨ho, ?_⟩)
      have hz0 : k.toNat = 0 := by omega
      rw [hz0] at fin
      refine ⟨.ref s.heap.objs.size, _, I.laid (t' := s.toks) (o := .tup (List.replicate 0 xs).flatten) (fun b ob q => Heap.get?_push_of_some _ q) (Nat.le_refl _) ?_, rfl, fin _ (I.hok.fresh (Nat.le_refl _))⟩
      exact ⟨Nat.zero_le _, [], .nil, IsTup.new _ _⟩
    · have hm : ((its.toArray.size : Nat) : Int) * k = ((xs.length * k.toNat : Nat) : Int) := by
        rw [List.size_toArray, hle, Int.natCast_mul, Int.toNat_of_nonneg (by omega)]
      have flen : (List.replicate k.toNat its).flatten.length ≤ sizeLine := by
        rw [PyProof.Rows.lm_len_rep_flat, hle, Nat.mul_comm]; exact hz
      have hz' : xs.length * k.toNat ≤ 16777216 := by rw [← sizeLine_eq]; exact hz
      have c4 : Builtin.Tuple.tupleTooMany (((its.toArray.size : Nat) : Int) * k) = false := by
        unfold Builtin.Tuple.tupleTooMany
        rw [hm]
        exact decide_eq_false (by omega)
      refine road (call_meets F.slot_tuple_mul ⟨_, ho, rfl⟩ F.entry_tuple_mul (F.args_tuple_mul_2 _ _) (tuple_mulW l its.toArray n dd sl k t c0 e1 (by rw [hemp, decide_eq_false hx, Bool.or_false]; exact decide_eq_false c2) (by rw [hm]; omega) c4 (by rw [size_rep, List.size_toArray]; exact flen)) ⟨ho, ?_⟩)
      rw [size_rep]
      refine ⟨.ref s.heap.objs.size, _, I.laid (t' := s.toks) (o := .tup (List.replicate k.toNat xs).flatten) (fun b ob q => Heap.get?_push_of_some _ q) (Nat.le_refl _) ?_, rfl, fin _ (I.hok.fresh (Nat.le_refl _))⟩
      exact ⟨by rw [PyProof.Rows.lm_len_rep_flat, Nat.mul_comm]; exact hz, _, r.rep k.toNat, IsTup.new _ _⟩
theorem op_isB : OpR X (compareOp .Is) (fun x y H Q => ∃ a b, x = .bl a ∧ y = .bl b ∧ Q (.bl (a == b)) H) := by
  intro pins s σ H x y v u Q I rx ry h
  obtain ⟨a, b, rfl, rfl, q⟩ := h
  cases (show v = Value.bool a from rx)
  cases (show u = Value.bool b from ry)
  exact is_bool ⟨.bl _, H, I, rfl, q⟩
theorem op_notB : OpR X (compareOp .IsNot) (fun x y H Q => ∃ a b, x = .bl a ∧ y = .bl b ∧ Q (.bl (a != b)) H) := by
  intro pins s σ H x y v u Q I rx ry h
  obtain ⟨a, b, rfl, rfl, q⟩ := h
  cases (show v = Value.bool a from rx)
  cases (show u = Value.bool b from ry)
  exact isnot_bool ⟨.bl _, H, I, rfl, q⟩
end
end L2

/-! DL4: operators, comparisons, items, slices, built-ins over data. -/
namespace DL
open PySem PySem.Spec PyProof.Rows L2
section
variable {X : Cx} {K : PySem.W.Frag} {S : Sto} {O : Ow} {H : Hp}
/-- a rule by values keeps what data say: the store and the owned stay -/
def Hr (K : PySem.W.Frag) (r : R2) (f : Sto → D → D → (D → Prop) → Prop) : Prop :=
  ∀ x y dx dy H S O (P : D → Prop) (Q' : VK), Sok K S O H → Rp K O H x dx → Rp K O H y dy → f S dx dy P → (∀ v H' d, Rp K O H' v d → Sok K S O H' → Ev S O H S O H' → P d → Q' v H') → r x y H Q'
theorem op_mulI : OpR X (binaryOp .Mult) (rI IntMulOk fun i j => .int (i * j)) := opI fun _ _ _ _ _ _ _ hc q => mul_int q hc
theorem iop_mulI : OpR X (inplaceOp .Mult) (rI IntMulOk fun i j => .int (i * j)) := opI fun _ _ _ _ _ _ _ hc q => imul_int q hc
/-- a context in which a division of great integers finds room -/
structure PyX (X : Cx) : Prop where
  env : ∃ e l, X.stack = e :: l ∧ e.scope.isGenerator = false ∧ e.scope.isCoroutine = false ∧ e.builtins = builtinsNs ∧ e.globals = mainGlobals
  seer : X.base.NoSeer
  tree : X.prog.given.tree = none
  deep : X.A.depth + Builtin.pylongFrames < recursionLimit
theorem PyX.room (x : PyX X) {pins : List (Addr × Obj)} {s : Shared} {σ : L2.St} {H : Hp} (I : Inv X pins σ H s) : PylongRoom (model X.prog X.w) X.A s := by
  obtain ⟨e, l, hs, h1, h2, h3, h4⟩ := x.env
  exact PylongRoom.of I.nolimit x.deep (SeerAt.of (x.seer.keeps I.bk) x.tree (by rw [I.ok.frames, hs]) h1 h2 h3 h4)
theorem op_fdivI (hp : PyX X) : OpR X (binaryOp .FloorDiv) (rI (fun _ j => j ≠ 0) fun i j => .int (i.fdiv j)) := by
  intro pins s σ H x y v u Q I rx ry h
  obtain ⟨i, j, rfl, rfl, hc, q⟩ := h
  obtain ⟨t, rfl⟩ := rx
  obtain ⟨t', rfl⟩ := ry
  exact floordiv_int hc ⟨.int (i.fdiv j), H, I.tok _, ⟨_, rfl⟩, q⟩ (.inr (hp.room I))
theorem op_powW : OpR X (binaryOp .Pow) (rI (fun i j => 0 ≤ j ∧ (Builtin.Int.intBits i : Int) * j ≤ 2 ^ 27) fun i j => .int (i ^ j.toNat)) := opI fun _ _ _ _ _ _ _ hc q => pow_int hc.1 hc.2 q
def bop : BOp → Operator
  | .add => .Add | .sub => .Sub | .mul => .Mult | .fdiv => .FloorDiv | .mod => .Mod | .pow => .Pow
theorem hr_int {C : Int → Int → Prop} {g : Int → Int → Int} {x y : V} {dx dy : D} {H : Hp} {P : D → Prop} {Q' : VK} (s : Sok K S O H) (rx : Rp K O H x dx) (ry : Rp K O H y dy) {i j : Int} (ex : dx = .int i) (ey : dy = .int j) (hc : C i j) (hp : P (.int (g i j)))
    (k : ∀ v H' d, Rp K O H' v d → Sok K S O H' → Ev S O H S O H' → P d → Q' v H') : rI C (fun i j => .int (g i j)) x y H Q' := by
  subst ex ey
  cases rx; cases ry
  exact ⟨i, j, rfl, rfl, hc, k _ H _ (.int _) s .refl hp⟩
theorem flat_rep_nil {α : Type} : ∀ n : Nat, (List.replicate n ([] : List α)).flatten = []
  | 0 => rfl
  | n + 1 => by rw [List.replicate_succ, List.flatten_cons, flat_rep_nil n]; rfl
theorem rep_rp {xs : List V} {ds : List D} (r : Rps K O H xs ds) : ∀ n : Nat, Rps K O H (List.replicate n xs).flatten (List.replicate n ds).flatten
  | 0 => .nil
  | n + 1 => by rw [List.replicate_succ, List.flatten_cons, List.replicate_succ, List.flatten_cons]; exact r.append (rep_rp r n)
theorem bin_ok (hp : PyX X) (op : BOp) : ∃ r, OpR X (binaryOp (bop op)) r ∧ Hr X.K r fun _ dx dy P => binD op dx dy P := by
  cases op with
  | add =>
    refine ⟨_, (op_add.or (op_catA.or op_add_str)), fun x y dx dy H S O P Q' s rx ry h k => ?_⟩
    cases dx <;> cases dy <;> try exact h.elim
    · cases rx; cases ry
      exact .inl ⟨_, _, rfl, rfl, k _ H _ (.int _) s .refl h⟩
    · cases rx; cases ry
      exact .inr (.inr ⟨_, _, rfl, rfl, h.1, k _ H _ (.str _) s .refl h.2⟩)
    · rename_i xs ys
      cases rx with
      | tup h1 z1 r1 =>
      cases ry with
      | tup h2 z2 r2 =>
      rename_i a xs' b ys'
      refine .inr (.inl ⟨a, b, xs', ys', rfl, rfl, h1, h2, by rw [r1.len, r2.len]; exact h.1, fun e => ?_, fun _ e => ?_, fun _ _ p hp => ?_⟩)
      · subst e; cases r1; exact k _ H _ (.tup h2 z2 r2) s .refl h.2
      · subst e; cases r2; refine k _ H _ (.tup h1 z1 ?_) s .refl h.2; rw [List.append_nil]; exact r1
      · exact k _ _ _ (rp_new s hp (by rw [List.length_append, r1.len, r2.len]; exact h.1) (r1.append r2)) (s.new hp) (ev_new hp s) h.2
  | sub =>
    refine ⟨_, op_sub, fun x y dx dy H S O P Q' s rx ry h k => ?_⟩
    cases dx <;> cases dy <;> try exact h.elim
    cases rx; cases ry
    exact ⟨_, _, rfl, rfl, k _ H _ (.int _) s .refl h⟩
  | mul =>
    refine ⟨_, op_mulI.or op_repG, fun x y dx dy H S O P Q' s rx ry h k => ?_⟩
    cases dx <;> cases dy <;> try exact h.elim
    · cases rx; cases ry
      exact .inl ⟨_, _, rfl, rfl, h.1, k _ H _ (.int _) s .refl h.2⟩
    · rename_i xs n
      cases ry
      cases rx with
      | tup h1 z1 r1 =>
      rename_i a xs'
      obtain ⟨l1, l2, l3, hk⟩ := h
      have e3 : xs'.length * n.toNat ≤ sizeLine := by rw [r1.len]; exact l3
      refine .inr ⟨a, n, xs', rfl, rfl, h1, l1, l2, e3, fun hc => ?_, fun hc p hp => ?_⟩
      · rcases hc with rfl | rfl
        · cases r1
          refine k _ H _ (.tup h1 z1 ?_) s .refl hk
          rw [flat_rep_nil]; exact .nil
        · refine k _ H _ (.tup h1 z1 ?_) s .refl hk
          have e1 : Int.toNat 1 = 0 + 1 := rfl
          rw [e1, List.replicate_succ, List.flatten_cons, List.replicate_zero, List.flatten_nil, List.append_nil]; exact r1
      · exact k _ _ _ (rp_new s hp (by rw [PyProof.Rows.lm_len_rep_flat, Nat.mul_comm]; exact e3) (rep_rp r1 _)) (s.new hp) (ev_new hp s) hk
  | fdiv =>
    refine ⟨_, op_fdivI hp, fun x y dx dy H S O P Q' s rx ry h k => ?_⟩
    cases dx <;> cases dy <;> try exact h.elim
    cases rx; cases ry
    exact ⟨_, _, rfl, rfl, h.1, k _ H _ (.int _) s .refl h.2.2⟩
  | mod =>
    refine ⟨_, op_modN, fun x y dx dy H S O P Q' s rx ry h k => ?_⟩
    cases dx <;> cases dy <;> try exact h.elim
    cases rx; cases ry
    exact ⟨_, _, rfl, rfl, h.1, k _ H _ (.int _) s .refl h.2⟩
  | pow =>
    refine ⟨_, op_powW, fun x y dx dy H S O P Q' s rx ry h k => ?_⟩
    cases dx <;> cases dy <;> try exact h.elim
    cases rx; cases ry
    exact ⟨_, _, rfl, rfl, h.1, k _ H _ (.int _) s .refl h.2⟩
/-- in place, on ints -/
theorem iop_ok (op : BOp) (ho : op = .add ∨ op = .sub ∨ op = .mul) : ∃ r, OpR X (inplaceOp (bop op)) r ∧ Hr X.K r fun _ dx dy P => ∃ a b, dx = .int a ∧ dy = .int b ∧ binD op dx dy P := by
  rcases ho with rfl | rfl | rfl
  · refine ⟨_, iop_add, fun x y dx dy H S O P Q' s rx ry h k => ?_⟩
    obtain ⟨a, b, rfl, rfl, h⟩ := h
    cases rx; cases ry
    exact ⟨_, _, rfl, rfl, k _ H _ (.int _) s .refl h⟩
  · refine ⟨_, iop_sub, fun x y dx dy H S O P Q' s rx ry h k => ?_⟩
    obtain ⟨a, b, rfl, rfl, h⟩ := h
    cases rx; cases ry
    exact ⟨_, _, rfl, rfl, k _ H _ (.int _) s .refl h⟩
  · refine ⟨_, iop_mulI, fun x y dx dy H S O P Q' s rx ry h k => ?_⟩
    obtain ⟨a, b, rfl, rfl, h⟩ := h
    cases rx; cases ry
    exact ⟨_, _, rfl, rfl, h.1, k _ H _ (.int _) s .refl h.2⟩

/-! ### data as PyData -/
mutual
theorem dp_of : ∀ {v : V} {d : D} {p : PyData}, Rp K O H v d → d.py = some p → Dp K H v p
  | _, _, _, .non, e => by cases e; exact .non
  | _, _, _, .bl b, e => by cases e; exact .bl b
  | _, _, _, .int i, e => by cases e; exact .int i
  | _, _, _, .str x, e => by cases e; exact .str x
  | _, _, _, .ty n, e => nomatch e
  | _, _, _, .ref, e => nomatch e
  | _, _, _, .scr _ _, e => nomatch e
  | _, _, _, .scrK _ _, e => nomatch e
  | _, _, _, .obj _ _ _ _ _ _, e => nomatch e
  | _, _, _, .dct _ _, e => nomatch e
  | _, .tup ds, _, .tup h z r, e => by
    simp only [D.py] at e
    cases q : D.py.pys ds with
    | none => rw [q] at e; cases e
    | some ps => rw [q] at e; cases e; exact .tup h (dps_of r q)
  | _, .lst ds, _, .lst h n z r, e => by
    simp only [D.py] at e
    cases q : D.py.pys ds with
    | none => rw [q] at e; cases e
    | some ps => rw [q] at e; cases e; exact .lst (SqL.of h) (dps_of r q)
theorem dps_of : ∀ {vs : List V} {ds : List D} {ps : List PyData}, Rps K O H vs ds → D.py.pys ds = some ps → DpAll K H vs ps
  | _, _, _, .nil, e => by cases e; exact .nil
  | _, d :: ds, _, .cons r t, e => by
    simp only [D.py.pys] at e
    cases q : d.py with
    | none => rw [q] at e; cases e
    | some p =>
      cases q2 : D.py.pys ds with
      | none => rw [q, q2] at e; cases e
      | some ps => rw [q, q2] at e; cases e; exact .cons (dp_of r q) (dps_of t q2)
end
theorem rp_res {v : V} {d : D} {p : PyData} (s : Sok K S O H) (r : Rp K O H v d) (e : (res S d).py = some p) : Dp K H v p := by
  cases r with
  | ref =>
    rename_i a
    cases q : S a with
    | none => simp only [res, q] at e; cases e
    | some o =>
      cases o with
      | lst ds =>
        simp only [res, q] at e
        obtain ⟨_, xs, h1, h2, h3⟩ := s.dom _ _ q
        simp only [D.py] at e
        cases q2 : D.py.pys ds with
        | none => rw [q2] at e; cases e
        | some ps => rw [q2] at e; cases e; exact .lst (SqL.of h1) (dps_of h3 q2)
      | _ => simp only [res, q] at e; cases e
  | obj _ _ _ _ _ _ => exact nomatch e
  | dct _ _ => exact nomatch e
  | non => exact dp_of (O := O) .non e
  | bl b => exact dp_of (O := O) (.bl b) e
  | int i => exact dp_of (O := O) (.int i) e
  | str x => exact dp_of (O := O) (.str x) e
  | ty n => exact dp_of (O := O) (.ty n) e
  | scr _ h => exact nomatch e
  | scrK _ h => exact nomatch e
  | tup h z r => exact dp_of (O := O) (.tup h z r) e
  | lst h n z r => exact dp_of (O := O) (.lst h n z r) e
def cop : COp → CmpOp
  | .eq => .Eq | .ne => .NotEq | .lt => .Lt | .le => .LtE | .gt => .Gt | .ge => .GtE | .is => .Is | .isn => .IsNot | .inn => .In | .nin => .NotIn
theorem res_int {d : D} {i : Int} (h : res S d = .int i) : d = .int i := by
  cases d with
  | ref p => simp only [res] at h; split at h <;> cases h
  | int j => exact h
  | _ => cases h
theorem res_non {d : D} (h : res S d = .non) : d = .non := by
  cases d with
  | ref p => simp only [res] at h; split at h <;> cases h
  | non => rfl
  | _ => cases h
theorem res_bl {d : D} {b : Bool} (h : res S d = .bl b) : d = .bl b := by
  cases d with
  | ref p => simp only [res] at h; split at h <;> cases h
  | bl j => exact h
  | _ => cases h
theorem res_str {d : D} {x : Str} (h : res S d = .str x) : d = .str x := by
  cases d with
  | ref p => simp only [res] at h; split at h <;> cases h
  | str y => exact h
  | _ => cases h
/-- what a comparison asks -/
theorem cmp_ok (op : COp) (hu : X.A.units + 65 < cLine) : ∃ r, OpR X (compareOp (cop op)) r ∧ Hr X.K r fun S dx dy P => cmpD op (res S dx) (res S dy) fun z => P (.bl z) := by
  have eqs : ∀ (x y : V) (dx dy : D) (H : Hp) (S : Sto) (O : Ow) (P : Bool → Prop), Sok X.K S O H → Rp X.K O H x dx → Rp X.K O H y dy → eqD (res S dx) (res S dy) P →
      ∃ d e, Dp X.K H x d ∧ Dp X.K H y e ∧ SeqAt.shaped d = true ∧ SeqAt.shaped e = true ∧ P (PyData.eqv d e) := fun x y dx dy H S O P s rx ry h => by
    obtain ⟨p, q, ep, eq, h1, h2, h⟩ := h
    exact ⟨p, q, rp_res s rx ep, rp_res s ry eq, h1, h2, h⟩
  have itOf : ∀ {x : V} {dx : D} {H : Hp} {S : Sto} {O : Ow} {i : Int}, Rp X.K O H x dx → res S dx = .int i → x = .int i := fun {x dx H S O i} rx e => by
    have := res_int e; subst this; cases rx; rfl
  cases op with
  | lt =>
    refine ⟨_, op_lt, fun x y dx dy H S O P Q' s rx ry h k => ?_⟩
    replace h : cmpD _ (res S dx) (res S dy) (fun z => P (.bl z)) := h
    cases e1 : res S dx <;> cases e2 : res S dy <;> rw [e1, e2] at h <;> try exact h.elim
    exact ⟨_, _, itOf rx e1, itOf ry e2, k _ H _ (.bl _) s .refl h⟩
  | le =>
    refine ⟨_, op_le, fun x y dx dy H S O P Q' s rx ry h k => ?_⟩
    replace h : cmpD _ (res S dx) (res S dy) (fun z => P (.bl z)) := h
    cases e1 : res S dx <;> cases e2 : res S dy <;> rw [e1, e2] at h <;> try exact h.elim
    exact ⟨_, _, itOf rx e1, itOf ry e2, k _ H _ (.bl _) s .refl h⟩
  | gt =>
    refine ⟨_, op_gt, fun x y dx dy H S O P Q' s rx ry h k => ?_⟩
    replace h : cmpD _ (res S dx) (res S dy) (fun z => P (.bl z)) := h
    cases e1 : res S dx <;> cases e2 : res S dy <;> rw [e1, e2] at h <;> try exact h.elim
    exact ⟨_, _, itOf rx e1, itOf ry e2, k _ H _ (.bl _) s .refl h⟩
  | ge =>
    refine ⟨_, op_ge, fun x y dx dy H S O P Q' s rx ry h k => ?_⟩
    replace h : cmpD _ (res S dx) (res S dy) (fun z => P (.bl z)) := h
    cases e1 : res S dx <;> cases e2 : res S dy <;> rw [e1, e2] at h <;> try exact h.elim
    exact ⟨_, _, itOf rx e1, itOf ry e2, k _ H _ (.bl _) s .refl h⟩
  | eq =>
    refine ⟨_, op_eqD (by omega), fun x y dx dy H S O P Q' s rx ry h k => ?_⟩
    replace h : cmpD _ (res S dx) (res S dy) (fun z => P (.bl z)) := h
    have h' : eqD (res S dx) (res S dy) fun z => P (.bl z) := by
      cases e1 : res S dx <;> cases e2 : res S dy <;> rw [e1, e2] at h <;> try exact h
      exact ⟨_, _, rfl, rfl, rfl, rfl, by
        rename_i i j
        have e : PyData.eqv (.int i) (.int j) = decide (i = j) := by simp only [PyData.eqv]; exact Bool.beq_eq_decide_eq _ _
        rw [e]; exact h⟩
    obtain ⟨d, e, h1, h2, h3, h4, h5⟩ := eqs x y dx dy H S O _ s rx ry h'
    exact ⟨d, e, h1, h2, h3, h4, k _ H _ (.bl _) s .refl h5⟩
  | ne =>
    refine ⟨_, op_neD (by omega), fun x y dx dy H S O P Q' s rx ry h k => ?_⟩
    replace h : cmpD _ (res S dx) (res S dy) (fun z => P (.bl z)) := h
    have h' : eqD (res S dx) (res S dy) fun z => P (.bl (!z)) := by
      cases e1 : res S dx <;> cases e2 : res S dy <;> rw [e1, e2] at h <;> try exact h
      exact ⟨_, _, rfl, rfl, rfl, rfl, by
        rename_i i j
        have e : PyData.eqv (.int i) (.int j) = decide (i = j) := by simp only [PyData.eqv]; exact Bool.beq_eq_decide_eq _ _
        rw [e]; exact h⟩
    obtain ⟨d, e, h1, h2, h3, h4, h5⟩ := eqs x y dx dy H S O _ s rx ry h'
    exact ⟨d, e, h1, h2, h3, h4, k _ H _ (.bl _) s .refl h5⟩
  | is =>
    refine ⟨_, op_isN.or op_isB, fun x y dx dy H S O P Q' s rx ry h k => ?_⟩
    replace h : cmpD _ (res S dx) (res S dy) (fun z => P (.bl z)) := h
    cases e2 : res S dy <;> rw [e2] at h <;> try (cases e1 : res S dx <;> rw [e1] at h <;> exact h.elim)
    case' bl b =>
      cases e1 : res S dx <;> rw [e1] at h <;> try exact h.elim
      have e3 := res_bl e1
      have e4 := res_bl e2
      subst e3 e4
      cases rx; cases ry
      exact .inr ⟨_, _, rfl, rfl, k _ H _ (.bl _) s .refl h⟩
    refine .inl ?_
    have e3 := res_non e2
    subst e3
    cases ry
    refine ⟨rfl, ?_⟩
    have e : decide (x = V.non) = (match res S dx with | .non => true | _ => false) := by
      cases rx with
      | ref =>
        rename_i a
        cases q : S a with
        | none => simp only [res, q]; rfl
        | some o => cases o <;> simp only [res, q] <;> rfl
      | _ => rfl
    rw [e]
    exact k _ H _ (.bl _) s .refl (by cases e4 : res S dx <;> rw [e4] at h <;> exact h)
  | isn =>
    refine ⟨_, op_notN.or op_notB, fun x y dx dy H S O P Q' s rx ry h k => ?_⟩
    replace h : cmpD _ (res S dx) (res S dy) (fun z => P (.bl z)) := h
    cases e2 : res S dy <;> rw [e2] at h <;> try (cases e1 : res S dx <;> rw [e1] at h <;> exact h.elim)
    case' bl b =>
      cases e1 : res S dx <;> rw [e1] at h <;> try exact h.elim
      have e3 := res_bl e1
      have e4 := res_bl e2
      subst e3 e4
      cases rx; cases ry
      exact .inr ⟨_, _, rfl, rfl, k _ H _ (.bl _) s .refl h⟩
    refine .inl ?_
    have e3 := res_non e2
    subst e3
    cases ry
    refine ⟨rfl, ?_⟩
    have e : (!decide (x = V.non)) = (match res S dx with | .non => false | _ => true) := by
      cases rx with
      | ref =>
        rename_i a
        cases q : S a with
        | none => simp only [res, q]; rfl
        | some o => cases o <;> simp only [res, q] <;> rfl
      | _ => rfl
    rw [e]
    exact k _ H _ (.bl _) s .refl (by cases e4 : res S dx <;> rw [e4] at h <;> exact h)
  | inn =>
    refine ⟨_, (op_inD hu).or op_in_sign, fun x y dx dy H S O P Q' s rx ry h k => ?_⟩
    replace h : cmpD _ (res S dx) (res S dy) (fun z => P (.bl z)) := h
    have hh : inD (res S dx) (res S dy) fun z => P (.bl z) := by cases e1 : res S dx <;> cases e2 : res S dy <;> rw [e1, e2] at h <;> exact h
    cases e2 : res S dy <;> rw [e2] at hh <;> try exact hh.elim
    · obtain ⟨c, e1, hh⟩ := hh
      have e3 := res_str e2
      have e4 := res_str e1
      subst e3 e4
      cases rx; cases ry
      exact .inr ⟨c, _, rfl, rfl, k _ H _ (.bl _) s .refl hh⟩
    · obtain ⟨p, ps, e1, e3, h1, h2, hh⟩ := hh
      refine .inl ⟨p, ps, rp_res s rx e1, rp_res s ry ?_, h1, h2, k _ H _ (.bl _) s .refl hh⟩
      rw [e2]; simp only [D.py, e3]; rfl
  | nin =>
    refine ⟨_, (op_notInD hu).or op_notIn_sign, fun x y dx dy H S O P Q' s rx ry h k => ?_⟩
    replace h : cmpD _ (res S dx) (res S dy) (fun z => P (.bl z)) := h
    have hh : inD (res S dx) (res S dy) fun z => P (.bl (!z)) := by cases e1 : res S dx <;> cases e2 : res S dy <;> rw [e1, e2] at h <;> exact h
    cases e2 : res S dy <;> rw [e2] at hh <;> try exact hh.elim
    · obtain ⟨c, e1, hh⟩ := hh
      have e3 := res_str e2
      have e4 := res_str e1
      subst e3 e4
      cases rx; cases ry
      exact .inr ⟨c, _, rfl, rfl, k _ H _ (.bl _) s .refl hh⟩
    · obtain ⟨p, ps, e1, e3, h1, h2, hh⟩ := hh
      refine .inl ⟨p, ps, rp_res s rx e1, rp_res s ry ?_, h1, h2, k _ H _ (.bl _) s .refl hh⟩
      rw [e2]; simp only [D.py, e3]; rfl
end
end DL

/-! DL5: canonical readings; items, slices, new lists, what is walked. -/
namespace DL
open PySem PySem.Spec PyProof.Rows L2
/-- the canonical readings of weakest preconditions -/
def tO (L : Lnk) (K : PySem.W.Frag) (W : WX) (w : WE') : TE := fun σ H Q' => ∃ ρ S O R Q, At L K W σ H ρ S O R ∧ w ρ S R Q ∧ ∀ v H' d S' O', Rp K O' H' v d → Sok K S' O' H' → Ev S O H S' O' H' → Q d S' → Q' v H'
def tOT (L : Lnk) (K : PySem.W.Frag) (W : WX) (w : WE') : TT := fun σ H Q' => ∃ ρ S O R, ∃ Q : Bool → Sto → Prop, At L K W σ H ρ S O R ∧ w ρ S R (fun d S' => tstD d fun b => Q b S') ∧ ∀ b H' S' O', Sok K S' O' H' → Ev S O H S' O' H' → Q b S' → Q' b H'
def tOA (L : Lnk) (K : PySem.W.Frag) (W : WX) (w : Env → Sto → XD → (List D → Sto → Prop) → Prop) : TA := fun σ H Q' => ∃ ρ S O R Q, At L K W σ H ρ S O R ∧ w ρ S R Q ∧ ∀ vs H' ds S' O', Rps K O' H' vs ds → Sok K S' O' H' → Ev S O H S' O' H' → Q ds S' → Q' vs H'
def tOL (L : Lnk) (K : PySem.W.Frag) (W : WX) (w : Env → Sto → XD → (List D → Sto → Prop) → Prop) : TE := fun σ H Q' => ∃ ρ S O R Q, At L K W σ H ρ S O R ∧ w ρ S R Q ∧ ∀ p xs H' ds S' O', H p = none → O' p → S' p = none → H' p = some (.lst xs) → xs.length ≤ sizeLine → Rps K O' H' xs ds → Sok K S' O' H' → Ev S O H S' O' H' → Q ds S' → Q' (.ref p) H'
def tOO (L : Lnk) (K : PySem.W.Frag) (W : WX) (w : Env → Sto → XD → (Option Int → Sto → Prop) → Prop) : TO := fun σ H Q' => ∃ ρ S O R Q, At L K W σ H ρ S O R ∧ w ρ S R Q ∧ ∀ o H' S' O', Sok K S' O' H' → Ev S O H S' O' H' → Q o S' → Q' o H'
section
variable {L : Lnk} {K : PySem.W.Frag} {W : WX} {X : Cx} {e : Expr} {es : List Expr} {w wa wb : WE'}
theorem re_tO : RE L K W (tO L K W w) w := fun σ H ρ S O R Q Q' A hw k => ⟨ρ, S, O, R, Q, A, hw, k⟩
theorem rt_tO : RT L K W (tOT L K W w) w := fun σ H ρ S O R Q Q' A hw k => ⟨ρ, S, O, R, Q, A, hw, k⟩
theorem ra_tO {w : Env → Sto → XD → (List D → Sto → Prop) → Prop} : RA L K W (tOA L K W w) w := fun σ H ρ S O R Q Q' A hw k => ⟨ρ, S, O, R, Q, A, hw, k⟩
theorem rl_tO {w : Env → Sto → XD → (List D → Sto → Prop) → Prop} : RL L K W (tOL L K W w) w := fun σ H ρ S O R Q Q' A hw k => ⟨ρ, S, O, R, Q, A, hw, k⟩
theorem ro_tO {w : Env → Sto → XD → (Option Int → Sto → Prop) → Prop} : RO L K W (tOO L K W w) w := fun σ H ρ S O R Q Q' A hw k => ⟨ρ, S, O, R, Q, A, hw, k⟩
theorem _root_.L2.PE.can {t : TE} (h : PE X e t) (r : RE L K W t w) : PE X e (tO L K W w) := ⟨fun pins s σ H Q' I ⟨ρ, S, O, R, Q, A, hw, k⟩ => h.run pins s σ H Q' I (r σ H ρ S O R Q Q' A hw k)⟩
theorem _root_.L2.PT.can {t : TT} (h : PT X e t) (r : RT L K W t w) : PT X e (tOT L K W w) := ⟨fun pins s σ H Q' I ⟨ρ, S, O, R, Q, A, hw, k⟩ => h.run pins s σ H Q' I (r σ H ρ S O R Q Q' A hw k)⟩
theorem _root_.L2.PW.can {t : TT} (h : PW X e t) (r : RT L K W t w) : PW X e (tOT L K W w) := ⟨fun wh pins s σ H Q' I ⟨ρ, S, O, R, Q, A, hw, k⟩ => h.run wh pins s σ H Q' I (r σ H ρ S O R Q Q' A hw k)⟩
theorem _root_.L2.PA.can {t : TA} {w : Env → Sto → XD → (List D → Sto → Prop) → Prop} (h : PA X es t) (r : RA L K W t w) : PA X es (tOA L K W w) := ⟨fun pos pins s σ H Q' I ⟨ρ, S, O, R, Q, A, hw, k⟩ => h.run pos pins s σ H Q' I (r σ H ρ S O R Q Q' A hw k)⟩
theorem _root_.L2.PE.canL {t : TE} {w : Env → Sto → XD → (List D → Sto → Prop) → Prop} (h : PE X e t) (r : RL L K W t w) : PE X e (tOL L K W w) := ⟨fun pins s σ H Q' I ⟨ρ, S, O, R, Q, A, hw, k⟩ => h.run pins s σ H Q' I (r σ H ρ S O R Q Q' A hw k)⟩
theorem _root_.L2.PO.can {o : Option Expr} {t : TO} {w : Env → Sto → XD → (Option Int → Sto → Prop) → Prop} (h : PO X o t) (r : RO L K W t w) : PO X o (tOO L K W w) := by
  refine ⟨?_⟩
  intro pins s σ H Q' I ⟨ρ, S, O, R, Q, A, hw, k⟩
  exact h.run pins s σ H Q' I (r σ H ρ S O R Q Q' A hw k)

/-! ### lists: kept as values, owned -/
theorem re_frz {t : TE} {w : Env → Sto → XD → (List D → Sto → Prop) → Prop} (h : RL L K W t w) : RE L K W t fun ρ S R Q => w ρ S R fun ds S1 => Q (.lst ds) S1 := fun σ H ρ S O R Q Q' A hw k =>
  h σ H ρ S O R _ Q' A hw fun p xs H' ds S' O' hp ho hs hl z r s e q => by
    have ne : ∀ a, O a → a ≠ p := fun a ha q => by rw [q] at ha; exact A.sok.notO hp ha
    refine k _ H' _ S' (orem O' p) (.lst hl (fun q => q.2 rfl) z (r.mono mo_free)) (s.free hs) ⟨e.keep, fun a h => e.own a h.1, fun a h n => ⟨⟨(e.res a h n).1, ne a h⟩, (e.res a h n).2⟩, e.there⟩ q
theorem re_own {t : TE} {w : Env → Sto → XD → (List D → Sto → Prop) → Prop} (h : RL L K W t w) : RE L K W t fun ρ S R Q => w ρ S R fun ds S1 => ∀ p, S1 p = none → Q (.ref p) (sup S1 p (.lst ds)) := fun σ H ρ S O R Q Q' A hw k =>
  h σ H ρ S O R _ Q' A hw fun p xs H' ds S' O' hp ho hs hl z r s e q => by
    have ne : ∀ a, O a → a ≠ p := fun a ha q => by rw [q] at ha; exact A.sok.notO hp ha
    exact k _ H' _ _ O' .ref (s.take ho hl z r) ⟨e.keep, e.own, fun a h n => ⟨(e.res a h n).1, by rw [sup_ne (ne a h)]; exact (e.res a h n).2⟩, e.there⟩ (q p hs)
/-- a new list laid at once -/
theorem rl_new {σ : L2.St} {H H1 : Hp} {ρ : Env} {S S1 : Sto} {O O1 : Ow} {R : XD} {xs : List V} {ds : List D} {Q' : VK} {P : Prop} (A : At L K W σ H1 ρ S1 O1 R) (e : Ev S O H S1 O1 H1) (z : xs.length ≤ sizeLine) (r : Rps K O1 H1 xs ds) (q : P)
    (k : ∀ p xs H' ds' S' O', H p = none → O' p → S' p = none → H' p = some (.lst xs) → xs.length ≤ sizeLine → Rps K O' H' xs ds' → Sok K S' O' H' → Ev S O H S' O' H' → ds' = ds ∧ S' = S1 → Q' (.ref p) H') : ∀ p, H1 p = none → Q' (.ref p) (upd H1 p (.lst xs)) := fun p hp =>
  k p xs _ ds S1 (oadd O1 p) (e.there p hp) (.inr rfl) (A.sok.noneH hp) upd_same z (r.mono ((ev_res hp A.sok).mo A.sok)) (A.sok.resv hp) (e.trans A.sok (ev_res hp A.sok)) ⟨rfl, rfl⟩
theorem rl_disp {t : TA} {ws : Env → Sto → XD → (List D → Sto → Prop) → Prop} (h : RA L K W t ws) : RL L K W (tLst t) fun ρ S R Q => ws ρ S R fun ds S1 => ds.length ≤ sizeLine ∧ Q ds S1 := fun σ H ρ S O R Q Q' A hw k => by
  refine h.go A hw fun xs H1 ds S1 O1 r1 A1 e1 ⟨z, q1⟩ => ?_
  have z' : xs.length ≤ sizeLine := by rw [r1.len]; exact z
  exact ⟨z', rl_new A1 e1 z' r1 trivial fun p xs H' ds' S' O' a b c d e f g i j => k p xs H' ds' S' O' a b c d e f g i (by rw [j.1, j.2]; exact q1)⟩
theorem rl_rep {ta tb : TE} (ha : RE L K W ta wa) (hb : RE L K W tb wb) : RL L K W (tOp rRep ta tb) fun ρ S R Q => wa ρ S R fun x S1 => wb ρ S1 R fun y S2 => match res S2 x, y with
    | .lst xs, .int k => -(2 ^ 63) ≤ k ∧ k < 2 ^ 63 ∧ xs.length * k.toNat ≤ sizeLine ∧ Q (List.replicate k.toNat xs).flatten S2
    | _, _ => False := fun σ H ρ S O R Q Q' A hw k => by
  refine ha.go A hw fun x H1 dx S1 O1 r1 A1 e1 q1 => ?_
  refine hb.go A1 q1 fun y H2 dy S2 O2 r2 A2 e2 q2 => ?_
  have r1 := r1.mono (A1.mo e2)
  cases e : res S2 dx <;> rw [e] at q2 <;> try exact q2.elim
  cases dy <;> try exact q2.elim
  cases r2
  obtain ⟨h1, h2, h3, q2⟩ := q2
  obtain ⟨a, xs, rfl, g1, g2, g3⟩ := (seq_of r1 A2.sok).1 _ e
  rw [← g3.len] at h3
  refine ⟨a, _, xs, rfl, rfl, g1, h1, h2, h3, rl_new A2 (e1.trans A1.sok e2) ?_ (g3.rep _) trivial fun p xs H' ds' S' O' a b c d e f g i j => k p xs H' ds' S' O' a b c d e f g i (by rw [j.1, j.2]; exact q2)⟩
  rw [PyProof.Rows.lm_len_rep_flat, Nat.mul_comm]; exact h3
theorem rl_cat {ta tb : TE} (ha : RE L K W ta wa) (hb : RE L K W tb wb) : RL L K W (tOp rCat ta tb) fun ρ S R Q => wa ρ S R fun x S1 => wb ρ S1 R fun y S2 => match res S2 x, res S2 y with
    | .lst xs, .lst ys => xs.length + ys.length ≤ sizeLine ∧ Q (xs ++ ys) S2
    | _, _ => False := fun σ H ρ S O R Q Q' A hw k => by
  refine ha.go A hw fun x H1 dx S1 O1 r1 A1 e1 q1 => ?_
  refine hb.go A1 q1 fun y H2 dy S2 O2 r2 A2 e2 q2 => ?_
  have r1 := r1.mono (A1.mo e2)
  cases e : res S2 dx <;> rw [e] at q2 <;> try exact q2.elim
  cases e' : res S2 dy <;> rw [e'] at q2 <;> try exact q2.elim
  obtain ⟨h3, q2⟩ := q2
  obtain ⟨a, xs, rfl, g1, g2, g3⟩ := (seq_of r1 A2.sok).1 _ e
  obtain ⟨b, ys, rfl, f1, f2, f3⟩ := (seq_of r2 A2.sok).1 _ e'
  rw [← g3.len, ← f3.len] at h3
  refine ⟨a, b, xs, ys, rfl, rfl, g1, f1, h3, rl_new A2 (e1.trans A1.sok e2) ?_ (g3.append f3) trivial fun p xs H' ds' S' O' a b c d e f g i j => k p xs H' ds' S' O' a b c d e f g i (by rw [j.1, j.2]; exact q2)⟩
  rw [List.length_append]; exact h3
theorem rl_ofSeq {ta : TE} (ha : RE L K W ta wa) : RL L K W (tCB (fun xs H Q => ∃ p ys, xs = [.ref p] ∧ (SqL K H p ys ∨ SqT K H p ys) ∧ ∀ l, H l = none → Q (.ref l) (upd H l (.lst ys))) (tCons ta tNil)) fun ρ S R Q => wa ρ S R fun x S1 => match res S1 x with
    | .tup xs => Q xs S1
    | .lst xs => Q xs S1
    | _ => False := fun σ H ρ S O R Q Q' A hw k => by
  refine ha.go A hw fun x H1 dx S1 O1 r1 A1 e1 q1 => ?_
  obtain ⟨hl, ht, _⟩ := seq_of r1 A1.sok
  cases e : res S1 dx <;> rw [e] at q1 <;> try exact q1.elim
  · obtain ⟨a, xs, rfl, g1, g2, g3⟩ := ht _ e
    exact ⟨a, xs, rfl, .inr g1, rl_new A1 e1 g2 g3 trivial fun p xs H' ds' S' O' a b c d e f g i j => k p xs H' ds' S' O' a b c d e f g i (by rw [j.1, j.2]; exact q1)⟩
  · obtain ⟨a, xs, rfl, g1, g2, g3⟩ := hl _ e
    exact ⟨a, xs, rfl, .inl (SqL.of g1), rl_new A1 e1 g2 g3 trivial fun p xs H' ds' S' O' a b c d e f g i j => k p xs H' ds' S' O' a b c d e f g i (by rw [j.1, j.2]; exact q1)⟩
theorem Rps.cut {O : Ow} {H : Hp} {vs : List V} {ds : List D} (h : Rps K O H vs ds) (lo hi : Option Int) : Rps K O H (cutV vs lo hi) (cutD ds lo hi) := by
  unfold cutV cutD
  rw [h.len]
  exact (h.drop _).take _
theorem rl_slc {te : TE} {tl th : TO} {wl wh : Env → Sto → XD → (Option Int → Sto → Prop) → Prop} (ha : RE L K W te wa) (hl : RO L K W tl wl) (hh : RO L K W th wh) : RL L K W (tSl (rSlL K) te tl th) fun ρ S R Q => wa ρ S R fun x S1 => wl ρ S1 R fun l S2 => wh ρ S2 R fun h S3 => match res S3 x with
    | .lst xs => Q (cutD xs l h) S3
    | _ => False := fun σ H ρ S O R Q Q' A hw k => by
  refine ha.go A hw fun x H1 dx S1 O1 r1 A1 e1 q1 => ?_
  refine hl.go A1 q1 fun l H2 S2 O2 A2 e2 q2 => ?_
  refine hh.go A2 q2 fun h H3 S3 O3 A3 e3 q3 => ?_
  have r1 := (r1.mono (A1.mo e2)).mono (A2.mo e3)
  cases e : res S3 dx <;> rw [e] at q3 <;> try exact q3.elim
  obtain ⟨a, xs, rfl, g1, g2, g3⟩ := (seq_of r1 A3.sok).1 _ e
  refine ⟨a, xs, rfl, SqL.of g1, rl_new A3 ((e1.trans A1.sok e2).trans A2.sok e3) ?_ (g3.cut l h) trivial fun p xs H' ds' S' O' a b c d e f g i j => k p xs H' ds' S' O' a b c d e f g i (by rw [j.1, j.2]; exact q3)⟩
  exact Nat.le_trans (cutV_length _ _ _) g2
/-! ### items, slices -/
theorem ro_no : RO L K W tNoPart fun _ S _ Q => Q none S := fun σ H ρ S O R Q Q' A hw k => k none H S O A.sok .refl hw
theorem ro_so {t : TE} (h : RE L K W t w) : RO L K W (tPart t) fun ρ S R Q => w ρ S R fun x S1 => match x with
    | .int i => Q (some i) S1
    | _ => False := fun σ H ρ S O R Q Q' A hw k => by
  refine h.go A hw fun x H1 dx S1 O1 r1 A1 e1 q1 => ?_
  cases dx <;> try exact q1.elim
  cases r1
  exact ⟨_, rfl, k _ H1 S1 O1 A1.sok e1 q1⟩
theorem re_slcT {te : TE} {tl th : TO} {wl wh : Env → Sto → XD → (Option Int → Sto → Prop) → Prop} (ha : RE L K W te wa) (hl : RO L K W tl wl) (hh : RO L K W th wh) : RE L K W (tSl (rSlA K) te tl th) fun ρ S R Q => wa ρ S R fun x S1 => wl ρ S1 R fun l S2 => wh ρ S2 R fun h S3 => match x with
    | .tup xs => Q (.tup (cutD xs l h)) S3
    | _ => False := fun σ H ρ S O R Q Q' A hw k => by
  refine ha.go A hw fun x H1 dx S1 O1 r1 A1 e1 q1 => ?_
  refine hl.go A1 q1 fun l H2 S2 O2 A2 e2 q2 => ?_
  refine hh.go A2 q2 fun h H3 S3 O3 A3 e3 q3 => ?_
  have r1 := (r1.mono (A1.mo e2)).mono (A2.mo e3)
  obtain ⟨ds, rfl⟩ : ∃ ds, dx = .tup ds := by
    cases dx with
    | tup ds => exact ⟨ds, rfl⟩
    | _ => exact q3.elim
  cases r1 with
  | tup g1 g2 g3 =>
  rename_i a xs
  have ev := (e1.trans A1.sok e2).trans A2.sok e3
  refine ⟨a, xs, rfl, g1, fun hw => ?_, fun _ p hp => ?_⟩
  · refine k _ H3 _ S3 O3 (.tup g1 g2 ?_) A3.sok ev q3
    have e : cutD ds l h = ds := by
      unfold cutD
      rw [← g3.len, hw.1, hw.2, g3.len]
      simp
    rw [e]; exact g3
  · exact k _ _ _ S3 O3 (rp_new A3.sok hp (Nat.le_trans (cutV_length _ _ _) g2) (g3.cut l h)) (A3.sok.new hp) (ev.trans A3.sok (ev_new hp A3.sok)) q3
theorem re_slcG {te : TE} {tl th : TO} {wl wh : Env → Sto → XD → (Option Int → Sto → Prop) → Prop} (ha : RE L K W te wa) (hl : RO L K W tl wl) (hh : RO L K W th wh) : RE L K W (tSl (fun x lo hi H Q => rSlA K x lo hi H Q ∨ rSlL K x lo hi H Q) te tl th) fun ρ S R Q => wa ρ S R fun x S1 => wl ρ S1 R fun l S2 => wh ρ S2 R fun h S3 => match res S3 x with
    | .tup xs => Q (.tup (cutD xs l h)) S3
    | .lst xs => Q (.lst (cutD xs l h)) S3
    | _ => False := fun σ H ρ S O R Q Q' A hw k => by
  refine ha.go A hw fun x H1 dx S1 O1 r1 A1 e1 q1 => ?_
  refine hl.go A1 q1 fun l H2 S2 O2 A2 e2 q2 => ?_
  refine hh.go A2 q2 fun h H3 S3 O3 A3 e3 q3 => ?_
  have r1 := (r1.mono (A1.mo e2)).mono (A2.mo e3)
  have ev := (e1.trans A1.sok e2).trans A2.sok e3
  obtain ⟨hl, ht, _⟩ := seq_of r1 A3.sok
  cases e : res S3 dx <;> rw [e] at q3 <;> try exact q3.elim
  · rename_i ds
    obtain ⟨a, xs, rfl, g1, g2, g3⟩ := ht _ e
    refine .inl ⟨a, xs, rfl, g1, fun hw => ?_, fun _ p hp => ?_⟩
    · refine k _ H3 _ S3 O3 (.tup g1 g2 ?_) A3.sok ev q3
      have e : cutD ds l h = ds := by
        unfold cutD
        rw [← g3.len, hw.1, hw.2, g3.len]
        simp
      rw [e]; exact g3
    · exact k _ _ _ S3 O3 (rp_new A3.sok hp (Nat.le_trans (cutV_length _ _ _) g2) (g3.cut l h)) (A3.sok.new hp) (ev.trans A3.sok (ev_new hp A3.sok)) q3
  · obtain ⟨a, xs, rfl, g1, g2, g3⟩ := hl _ e
    refine .inr ⟨a, xs, rfl, SqL.of g1, fun p hp => ?_⟩
    exact k _ _ _ S3 O3 (.lst upd_same (A3.sok.notO hp) (Nat.le_trans (cutV_length _ _ _) g2) ((g3.cut l h).mono ((ev_new hp A3.sok).mo A3.sok))) (A3.sok.new hp) (ev.trans A3.sok (ev_new hp A3.sok)) q3
def ixD (S : Sto) (x y : D) (P : D → Prop) : Prop := match res S x, y with
    | .tup xs, .int n => ∃ d, atD xs n = some d ∧ P d
    | .lst xs, .int n => ∃ d, atD xs n = some d ∧ P d
    | .scr xs, .int n => ∃ m, L2.atI xs n = some m ∧ P (.int m)
    | _, _ => False
theorem at_of {O : Ow} {H : Hp} {xs : List V} {ds : List D} {n : Int} {d : D} (r : Rps K O H xs ds) (h : atD ds n = some d) : ∃ v, atI xs n = some v ∧ Rp K O H v d := by
  unfold atD atI at h
  unfold atI
  rw [r.len]
  cases e : ixN ds.length n with
  | none => rw [e] at h; cases h
  | some j =>
    rw [e] at h
    exact r.get (i := j) h
theorem hr_ix : ∀ x y dx dy H S O (P : D → Prop) (Q' : VK), Sok K S O H → Rp K O H x dx → Rp K O H y dy → ixD S dx dy P → (∀ v H' d, Rp K O H' v d → Sok K S O H' → Ev S O H S O H' → P d → Q' v H') → rIx K x y H Q' := fun x y dx dy H S O P Q' s rx ry h k => by
  unfold ixD at h
  obtain ⟨hl, ht, hs⟩ := seq_of rx s
  cases e : res S dx <;> rw [e] at h <;> try exact h.elim
  · cases dy <;> try exact h.elim
    cases ry
    obtain ⟨d, hd, q⟩ := h
    obtain ⟨a, xs, rfl, g1, g2, g3⟩ := ht _ e
    obtain ⟨v, hv, rv⟩ := at_of g3 hd
    exact .inr (.inl ⟨a, xs, _, v, rfl, rfl, g1, hv, k v H d rv s .refl q⟩)
  · cases dy <;> try exact h.elim
    cases ry
    obtain ⟨d, hd, q⟩ := h
    obtain ⟨a, xs, rfl, g1, g2, g3⟩ := hl _ e
    obtain ⟨v, hv, rv⟩ := at_of g3 hd
    exact .inl ⟨a, xs, _, v, rfl, rfl, SqL.of g1, hv, k v H d rv s .refl q⟩
  · cases dy <;> try exact h.elim
    cases ry
    obtain ⟨m, hm, q⟩ := h
    obtain ⟨a, rfl, g1⟩ := hs _ e
    refine .inl ⟨a, _, _, .int m, rfl, rfl, g1, ?_, k _ H _ (.int m) s .refl q⟩
    unfold atI at hm ⊢
    rw [List.length_map]
    revert hm
    generalize ixN _ _ = o
    intro hm
    cases o with
    | none => cases hm
    | some j =>
      show (List.map V.int _)[j]? = _
      rw [List.getElem?_map]
      exact congrArg (Option.map V.int) hm
end
end DL

/-! DL6: walks over a list or a tuple, in any mix. -/
namespace PySem
open Sem (wp)
set_option maxHeartbeats 1000000 in
theorem dl_meets_enum1 {v : Value} {o : Obj} {H : Heap → Prop} (B : Begins v o H) :
    Meets (Builtin.«enumerate.__new__» ⟨[.type "enumerate", v], []⟩) (fun _ R s => H s.heap ∧
      R (.ok (.ret (.ref (s.heap.push o).objs.size))) { s with heap := (s.heap.push o).push { cls := .type "enumerate", data := .fields #[.none, .bool false, .ref s.heap.objs.size, rawInt 0, .none, .none] } }) :=
  .of_wp fun prog w A R s h => by
    obtain ⟨hp, g, d, tk, os⟩ := s; obtain ⟨h1, h⟩ := h
    have hsub := sub_enumerate
    have q1 : ∀ {A' : Around} {E : Value → Shared → Prop} {Q : Value → Shared → Prop}, Q (.ref hp.objs.size) ⟨hp.push o, g, d, tk, os⟩ → wpAny (model prog w) A' (pyIter v) Q E ⟨hp, g, d, tk, os⟩ :=
      fun q => B.iter prog w _ _ ⟨hp, g, d, tk, os⟩ _ h1 q
    wp_walk using q1
    refine wpAny_stack_any fun st => wpAny_pure ?_
    split
    · rename_i c _ _ _ _ _
      cases (c == Value.type "enumerate")
      · wp_walk using q1
        exact ⟨_, rfl, h⟩
      · wp_walk using q1
        exact ⟨_, rfl, h⟩
    · wp_walk using q1
      exact ⟨_, rfl, h⟩
section
variable {prog : Program} {w : World} {A : Around} {E : Value → Shared → Prop} {s : Shared}
theorem dl_enum_begins1 {v : Value} {o : Obj} {H : Heap → Prop} {Q : Value → Shared → Prop} (B : Begins v o H) (h1 : H s.heap)
    (h : ∀ h', IsEnum h' (s.heap.objs.size + 1) s.heap.objs.size 0 .none → h'.get? s.heap.objs.size = some o → h'.objs.size = s.heap.objs.size + 2 →
      (∀ b o, s.heap.get? b = some o → h'.get? b = some o) → Q (.ref (s.heap.objs.size + 1)) { s with heap := h' }) :
    wpAny (model prog w) A (call (.type "enumerate") [v]) Q E s := by
  refine callType_new F.called_enumerate (by decide) (F.typeCall_enumerate_1 _) (F.newCall_enumerate_1 _) (fun obj => F.args_object_init_2 obj _) F.entry_enumerate_new
    (dl_meets_enum1 B) ⟨h1, ?_⟩
  have hz : (s.heap.push o).objs.size = s.heap.objs.size + 1 := Heap.size_push ..
  show _ ∧ _
  rw [hz]
  have he : IsEnum ((s.heap.push o).push { cls := .type "enumerate", data := .fields #[.none, .bool false, .ref s.heap.objs.size, rawInt 0, .none, .none] }) (s.heap.objs.size + 1) s.heap.objs.size 0 .none := by
    have := Heap.get?_push_size (s.heap.push o) (o := { cls := .type "enumerate", data := .fields #[.none, .bool false, .ref s.heap.objs.size, rawInt 0, .none, .none] }) rfl
    rw [hz] at this; exact this
  refine ⟨⟨_, he, rfl⟩, h _ he (Heap.get?_push_of_some _ (Heap.get?_push_size _ B.free)) (by rw [Heap.size_push, hz]) fun b o x => Heap.get?_push_of_some _ (Heap.get?_push_of_some _ x)⟩
end
end PySem

namespace DL
open PySem PySem.Spec PyProof.Rows L2
/-- a list (k) or a tuple -/
def Sq (K : PySem.W.Frag) (k : Bool) (H : Hp) (a : Addr) (xs : List V) : Prop := match k with
  | true => SqL K H a xs
  | false => SqT K H a xs
def IsIt (k : Bool) (h : Heap) (it a : Addr) (i : Nat) : Prop := match k with
  | true => h.IsListIter it a i
  | false => h.IsTupleIter it a i
def IsSq (k : Bool) (h : Heap) (a : Addr) (items : Array Value) : Prop := match k with
  | true => h.IsList a items
  | false => h.IsTuple a items
def itObj (k : Bool) (a : Addr) : Obj := match k with
  | true => { cls := .type "list_iterator", data := .fields #[.ref a, .int 0 0] }
  | false => { cls := .type "tuple_iterator", data := .fields #[.ref a, .int 0 0] }
section
variable {X : Cx} {pins : List (Addr × Obj)} {σ : L2.St} {H : Hp} {s : Shared} {k : Bool} {a : Addr} {xs : List V}
theorem inv_sq (I : Inv X pins σ H s) (h : Sq X.K k H a xs) : ∃ its : List Value, Vals xs its ∧ IsSq k s.heap a its.toArray ∧ xs.length ≤ sizeLine := by
  cases k with
  | true => obtain ⟨its, r, p, z⟩ := I.list h; exact ⟨its, r, p.isList, z⟩
  | false => obtain ⟨its, r, p, z⟩ := I.tuple h; exact ⟨its, r, p, z⟩
theorem inv_sq_inj {ys : List V} (I : Inv X pins σ H s) (h : Sq X.K k H a xs) (h' : Sq X.K k H a ys) : xs = ys := by
  cases k with
  | true => exact I.list_inj h h'
  | false => exact I.tuple_inj h h'
theorem sq_lt {items : Array Value} {h : Heap} (x : IsSq k h a items) : a < h.objs.size := by
  cases k with
  | true => obtain ⟨o, e, _⟩ := x; exact Heap.lt_size e
  | false => obtain ⟨o, e, _⟩ := x; exact Heap.lt_size e
theorem begins_sq (items : Array Value) : Begins (.ref a) (itObj k a) fun h => IsSq k h a items := by
  cases k with
  | true => exact begins_list a items
  | false => exact begins_tuple a items
theorem draws_sq {prog : Program} {w : World} {A : Around} (hh : A.handled = none) (it : Addr) (hne : a ≠ it) (items : Array Value) :
    Draws prog w A it [it, a] items.size (fun i v => items[i]? = some v) (fun i h => IsIt k h it a i ∧ IsSq k h a items) := by
  cases k with
  | true => exact Draws.list hh it a hne items
  | false => exact Draws.tuple hh it a hne items
theorem isIt_obj {h : Heap} {it : Addr} {i : Nat} (x : IsIt k h it a i) : ∃ o, h.get? it = some o ∧ ∀ v, o.data ≠ .cell v := by
  cases k with
  | true => obtain ⟨o, e, _, d⟩ := x; exact ⟨o, e, fun v q => by rw [d] at q; cases q⟩
  | false => obtain ⟨o, e, _, d⟩ := x; exact ⟨o, e, fun v q => by rw [d] at q; cases q⟩
theorem isIt_at {h h' : Heap} {it : Addr} {i : Nat} (x : IsIt k h it a i) (hk : ∀ o, h.get? it = some o → h'.get? it = some o) : IsIt k h' it a i := by
  cases k with
  | true => obtain ⟨o, e, r⟩ := x; exact ⟨o, hk o e, r⟩
  | false => obtain ⟨o, e, r⟩ := x; exact ⟨o, hk o e, r⟩
theorem isIt_new {h : Heap} {it : Addr} (e : h.get? it = some (itObj k a)) : IsIt k h it a 0 := by
  cases k with
  | true => exact ⟨_, e, rfl, rfl⟩
  | false => exact ⟨_, e, rfl, rfl⟩
end
/-- enumerate(a) -/
def IteG (K : PySem.W.Frag) (k : Bool) (a : Addr) : L2.It :=
  ⟨fun i H => ∃ xs x, Sq K k H a xs ∧ xs[i]? = some x, fun i H v H' => ∃ T x, v = .ref T ∧ H T = none ∧ H' = upd H T (.tup [.int (i : Nat), x]) ∧ ∀ xs, Sq K k H a xs → xs[i]? = some x, fun i H => ∃ xs, Sq K k H a xs ∧ xs.length = i⟩
theorem turn_enumG {P : Program} {w : World} {K : PySem.W.Frag} {elts : List Expr} {kk : Nat} {tpos : Pos} (k : Bool) (a e it : Addr) (n1 : e ≠ it) (n2 : a ≠ it) (n3 : a ≠ e) :
    Turn P w K (.Tuple elts kk tpos) (IteG K k a) [e, it] e (fun i h => (∃ old, IsEnum h e it ((i : Nat) : Int) old) ∧ IsIt k h it a i) where
  mem := by simp
  obj := fun i h st b hb => by
    obtain ⟨⟨old, he⟩, hi⟩ := st
    have e' : b = e ∨ b = it := by simpa using hb
    rcases e' with z | z
    · rw [z]; exact ⟨_, he, fun v q => nomatch q⟩
    · rw [z]; exact isIt_obj hi
  keep := fun i h h' st hk => let ⟨⟨old, he⟩, hi⟩ := st; ⟨⟨old, hk e (by simp) _ he⟩, isIt_at hi fun o q => hk it (by simp) o q⟩
  item := by
    intro X hP hw hK hc i pins s σ H E I hf st hg
    subst hP hw hK
    obtain ⟨⟨old, he⟩, hit⟩ := st
    obtain ⟨xs, x, hq, hx⟩ := hg
    obtain ⟨its, rv, p, hz⟩ := inv_sq I hq
    obtain ⟨u, hu, ru⟩ := rv.get hx
    have hh : X.A.in1.handled = none := I.ok.hd hc
    have G := GoesN.enumFrom (elts := elts) (x1 := kk) (pos := tpos) 0 (draws_sq (prog := X.prog) (w := X.w) (k := k) hh it n2 its.toArray) e n1 (by simp; exact ⟨n1, fun z => n3 z.symm⟩) (by simp)
    have hi : i < its.toArray.size := by
      have := (List.getElem?_eq_some_iff.mp hu).1
      simpa using this
    refine G.goes i s _ E hi ⟨⟨old, by rw [Int.zero_add]; exact he⟩, hit, p⟩ fun v h' tk hY st' hk htk => ?_
    obtain ⟨T, t, y, rfl, hT, hy, hTup⟩ := hY
    have ey : y = u := by
      have : its.toArray[i]? = some u := by simpa using hu
      rw [this] at hy; cases hy; rfl
    subst ey
    rw [Int.zero_add] at hTup
    have hTn : H T = none := I.hok.fresh hT
    have new : ObjOk X.prog X.w (upd H T (.tup [.int (i : Nat), x])) h' T (.tup [.int (i : Nat), x]) :=
      ⟨by show 2 ≤ sizeLine; decide, [.int i t, y], .cons ⟨_, rfl⟩ (.cons ru .nil), hTup⟩
    have I1 : Inv X pins σ (upd H T (.tup [.int (i : Nat), x])) { s with heap := h', toks := tk } := I.turnedNew (ch := [e, it]) hk hf hT new
    refine ⟨.ref T, _, I1, rfl, ⟨T, x, rfl, hTn, rfl, fun ys hy => by rw [inv_sq_inj I hy hq]; exact hx⟩, ⟨?_, st'.2.1⟩, fun b hb => ?_⟩
    · obtain ⟨old', he'⟩ := st'.1
      rw [Int.zero_add] at he'
      exact ⟨old', he'⟩
    · have hb' : b < s.heap.objs.size := by
        have e' : b = e ∨ b = it := by simpa using hb
        rcases e' with z | z
        · rw [z]; exact Heap.lt_size he
        · rw [z]; obtain ⟨o, q, _⟩ := isIt_obj hit; exact Heap.lt_size q
      rw [upd_ne (Nat.ne_of_lt (Nat.lt_of_lt_of_le hb' hT))]
      exact (hf b hb).1
  done := by
    intro X hP hw hK hc i pins s σ H E I hf st hg
    subst hP hw hK
    obtain ⟨⟨old, he⟩, hit⟩ := st
    obtain ⟨xs, hq, hx⟩ := hg
    obtain ⟨its, rv, p, hz⟩ := inv_sq I hq
    have hh : X.A.handled = none := I.ok.hd hc
    have hl := rv.length
    obtain ⟨f0, f1, f2, f3, f4, f5⟩ := hf it (by simp)
    have D := draws_sq (prog := X.prog) (w := X.w) (A := X.A.in1) (k := k) hh it n2 its.toArray
    have e : its.toArray.size = i := by rw [List.size_toArray]; omega
    exact wpAny_pyNext_enum_endD D he (by rw [e]; exact ⟨hit, p⟩) fun h' eb => ⟨rfl, I.turned (t' := s.toks) (fun b o hb q => eb b o hb q) f0 f1 f3 f4 f5⟩
  self := fun A i s Q E st h => let ⟨⟨_, he⟩, _⟩ := st; wpAny_pyIter_enum he h

def iEnumG (K : PySem.W.Frag) (ta : TA) : TI := fun σ H R => ta σ H fun vs H1 => ∃ k a xs, vs = [.ref a] ∧ Sq K k H1 a xs ∧ R (IteG K k a) H1
theorem pi_enumG {X : Cx} {e : Expr} {ta : TA} {p pos tpos : Pos} {elts : List Expr} {kk : Nat} (hg : Gl X "enumerate") (hm : X.mg "enumerate" = none) (ha : PA X [e] ta) (hs : starEach [e] X.env = [(false, eval e X.env)] := by rfl) :
    PI X (.Tuple elts kk tpos) (.Call (.Name "enumerate" p) [e] [] pos) (iEnumG X.K ta) := by
  refine ⟨fun pins s σ H R I h => ?_⟩
  refine Call_ (ld_blt I hg hm boot_enumerate (PyProof.Rows.callWith_type1 (thn (ha.run pos pins s σ H _ I h) fun us s1 ⟨vs, H1, I1, r1, q1⟩ => ?_) hs rfl))
  obtain ⟨k, a, xs, ex, hq, q⟩ := q1
  subst ex
  cases r1 with
  | cons r rr =>
    cases rr
    cases r
    obtain ⟨its, rv, p', hz⟩ := inv_sq I1 hq
    have la := sq_lt p'
    refine dl_enum_begins1 (begins_sq (k := k) its.toArray) p' fun h' he ho hsz hk => wpAny_pyIter_enum he ?_
    have I2 : Inv X pins σ H1 { s1 with heap := h' } := I1.kept (t' := s1.toks) hk
    refine ⟨s1.heap.objs.size + 1, [s1.heap.objs.size + 1, s1.heap.objs.size], _, _, H1, rfl, I2, turn_enumG k a (s1.heap.objs.size + 1) s1.heap.objs.size (Nat.succ_ne_self _) (Nat.ne_of_lt la) (Nat.ne_of_lt (Nat.lt_succ_of_lt la)), ⟨⟨.none, he⟩, isIt_new ho⟩, fun b hb => ?_, q⟩
    have e' : b = s1.heap.objs.size + 1 ∨ b = s1.heap.objs.size := by simpa using hb
    have hle : s1.heap.objs.size ≤ b := by
      rcases e' with z | z
      · rw [z]; exact Nat.le_add_right _ _
      · rw [z]; exact Nat.le_refl _
    exact I1.fpOk hle (I1.hok.fresh hle)
/-- zip(a, b) -/
def ItzG (K : PySem.W.Frag) (k1 k2 : Bool) (a b : Addr) : L2.It :=
  ⟨fun i H => (∃ xs x, Sq K k1 H a xs ∧ xs[i]? = some x) ∧ ∃ ys y, Sq K k2 H b ys ∧ ys[i]? = some y,
   fun i H v H' => ∃ T x y, v = .ref T ∧ H T = none ∧ H' = upd H T (.tup [x, y]) ∧ (∀ xs, Sq K k1 H a xs → xs[i]? = some x) ∧ ∀ ys, Sq K k2 H b ys → ys[i]? = some y,
   fun i H => ∃ xs ys, Sq K k1 H a xs ∧ Sq K k2 H b ys ∧ min xs.length ys.length = i⟩
theorem turn_zipG {P : Program} {w : World} {K : PySem.W.Frag} {elts : List Expr} {kk : Nat} {tpos : Pos} {k1 k2 : Bool} {a b z TI TO i1 i2 : Addr} (D : ZipSep2 z TI TO i1 i2 [i1, a] [i2, b]) (na : a ≠ i1) (nb : b ≠ i2) :
    Turn P w K (.Tuple elts kk tpos) (ItzG K k1 k2 a b) [z, TI, TO, i1, i2] z (fun i h => IsZip h z TI TO .none ∧ IsTupOf2 h TI (.ref i1) (.ref i2) ∧ (∃ x y, IsTupOf2 h TO x y) ∧ IsIt k1 h i1 a i ∧ IsIt k2 h i2 b i) where
  mem := by simp
  obj := fun i h st c hc => by
    obtain ⟨hz, hT, ⟨_, _, hO⟩, h1, h2⟩ := st
    have e' : c = z ∨ c = TI ∨ c = TO ∨ c = i1 ∨ c = i2 := by simpa using hc
    rcases e' with q | q | q | q | q
    · rw [q]; exact ⟨_, hz, fun v q => nomatch q⟩
    · rw [q]; exact ⟨_, hT, fun v q => nomatch q⟩
    · rw [q]; exact ⟨_, hO, fun v q => nomatch q⟩
    · rw [q]; exact isIt_obj h1
    · rw [q]; exact isIt_obj h2
  keep := fun i h h' st hk => let ⟨hz, hT, ⟨x, y, hO⟩, h1, h2⟩ := st
    ⟨hk z (by simp) _ hz, hk TI (by simp) _ hT, ⟨x, y, hk TO (by simp) _ hO⟩, isIt_at h1 fun o q => hk i1 (by simp) o q, isIt_at h2 fun o q => hk i2 (by simp) o q⟩
  item := by
    intro X hP hw hK hc i pins s σ H E I hf st hg
    subst hP hw hK
    obtain ⟨hz, hT, hO, h1, h2⟩ := st
    obtain ⟨⟨xs, x, hq, hx⟩, ys, y, hq2, hy⟩ := hg
    obtain ⟨its, rv, p, _⟩ := inv_sq I hq
    obtain ⟨its2, rv2, p2, _⟩ := inv_sq I hq2
    obtain ⟨u, hu, ru⟩ := rv.get hx
    obtain ⟨u2, hu2, ru2⟩ := rv2.get hy
    have hh : X.A.in1.handled = none := I.ok.hd hc
    have G := GoesN.zip2 (elts := elts) (x1 := kk) (pos := tpos) D (draws_sq (prog := X.prog) (w := X.w) (k := k1) hh i1 na its.toArray) (draws_sq (prog := X.prog) (w := X.w) (k := k2) hh i2 nb its2.toArray)
    have hi : i < min its.toArray.size its2.toArray.size := by
      have a1 := (List.getElem?_eq_some_iff.mp hu).1
      have a2 := (List.getElem?_eq_some_iff.mp hu2).1
      rw [List.size_toArray, List.size_toArray]; omega
    refine G.goes i s _ E hi ⟨hz, hT, hO, ⟨h1, p⟩, ⟨h2, p2⟩⟩ fun v h' tk hY st' hk htk => ?_
    obtain ⟨T, v1, v2, rfl, hTs, hv1, hv2, hTup⟩ := hY
    have e1 : v1 = u := by
      have : its.toArray[i]? = some u := by simpa using hu
      rw [this] at hv1; cases hv1; rfl
    have e2 : v2 = u2 := by
      have : its2.toArray[i]? = some u2 := by simpa using hu2
      rw [this] at hv2; cases hv2; rfl
    subst e1 e2
    have hTn : H T = none := I.hok.fresh hTs
    have new : ObjOk X.prog X.w (upd H T (.tup [x, y])) h' T (.tup [x, y]) := ⟨by show 2 ≤ sizeLine; decide, [v1, v2], .cons ru (.cons ru2 .nil), hTup⟩
    have I1 : Inv X pins σ (upd H T (.tup [x, y])) { s with heap := h', toks := tk } := I.turnedNew (ch := [z, TO, i1, i2]) hk (fun c hc => hf c (by
      have e' : c = z ∨ c = TO ∨ c = i1 ∨ c = i2 := by simpa using hc
      rcases e' with q | q | q | q <;> rw [q] <;> simp)) hTs new
    refine ⟨.ref T, _, I1, rfl, ⟨T, x, y, rfl, hTn, rfl, fun zs hs => by rw [inv_sq_inj I hs hq]; exact hx, fun zs hs => by rw [inv_sq_inj I hs hq2]; exact hy⟩, ⟨st'.1, st'.2.1, st'.2.2.1, st'.2.2.2.1.1, st'.2.2.2.2.1⟩, fun c hc => ?_⟩
    have hb' : c < s.heap.objs.size := by
      have e' : c = z ∨ c = TI ∨ c = TO ∨ c = i1 ∨ c = i2 := by simpa using hc
      rcases e' with q | q | q | q | q
      · rw [q]; exact Heap.lt_size hz
      · rw [q]; exact Heap.lt_size hT
      · rw [q]; obtain ⟨_, _, hO⟩ := hO; exact Heap.lt_size hO
      · rw [q]; obtain ⟨o, q, _⟩ := isIt_obj h1; exact Heap.lt_size q
      · rw [q]; obtain ⟨o, q, _⟩ := isIt_obj h2; exact Heap.lt_size q
    rw [upd_ne (Nat.ne_of_lt (Nat.lt_of_lt_of_le hb' hTs))]
    exact (hf c hc).1
  done := by
    intro X hP hw hK hc i pins s σ H E I hf st hg
    subst hP hw hK
    obtain ⟨hz, hT, hO, h1, h2⟩ := st
    obtain ⟨xs, ys, hq, hq2, hl⟩ := hg
    obtain ⟨its, rv, p, _⟩ := inv_sq I hq
    obtain ⟨its2, rv2, p2, _⟩ := inv_sq I hq2
    have l1 := rv.length
    have l2 := rv2.length
    have hh : X.A.in1.handled = none := I.ok.hd hc
    have G := GoesN.zip2 (elts := elts) (x1 := kk) (pos := tpos) D (draws_sq (prog := X.prog) (w := X.w) (k := k1) hh i1 na its.toArray) (draws_sq (prog := X.prog) (w := X.w) (k := k2) hh i2 nb its2.toArray)
    have e : min its.toArray.size its2.toArray.size = i := by rw [List.size_toArray, List.size_toArray]; omega
    refine G.stops s _ E (by rw [e]; exact ⟨hz, hT, hO, ⟨h1, p⟩, ⟨h2, p2⟩⟩) fun h' tk hk htk => ?_
    exact I.turnedL (ch := [z, TO, i1, i2]) hk (fun c hc => hf c (by
      have e' : c = z ∨ c = TO ∨ c = i1 ∨ c = i2 := by simpa using hc
      rcases e' with q | q | q | q <;> rw [q] <;> simp))
  self := fun A i s Q E st h => wpAny_pyIter_zip st.1 h
def iZipG (K : PySem.W.Frag) (ta : TA) : TI := fun σ H R => ta σ H fun vs H1 => ∃ k1 k2 a b xs ys, vs = [.ref a, .ref b] ∧ Sq K k1 H1 a xs ∧ Sq K k2 H1 b ys ∧ R (ItzG K k1 k2 a b) H1
theorem pi_zipG {X : Cx} {e e2 : Expr} {ta : TA} {p pos tpos : Pos} {elts : List Expr} {kk : Nat} (hg : Gl X "zip") (hm : X.mg "zip" = none) (ha : PA X [e, e2] ta)
    (hs : starEach [e, e2] X.env = (false, eval e X.env) :: starEach [e2] X.env) (hpl : (backTo pos (starEach [e2] X.env)).any (·.1) = false) :
    PI X (.Tuple elts kk tpos) (.Call (.Name "zip" p) [e, e2] [] pos) (iZipG X.K ta) := by
  refine ⟨fun pins s σ H R I h => ?_⟩
  refine Call_ (ld_blt I hg hm PyProof.Rows.boot_zip (PyProof.Rows.callWith_type1 (thn (ha.run pos pins s σ H _ I h) fun us s1 ⟨vs, H1, I1, r1, q1⟩ => ?_) hs hpl))
  obtain ⟨k1, k2, a, b, xs, ys, ex, hqx, hqy, q⟩ := q1
  subst ex
  cases r1 with
  | cons r rr =>
    cases rr with
    | cons r' rr =>
      cases rr
      cases r
      cases r'
      obtain ⟨its, rv, p1, _⟩ := inv_sq I1 hqx
      obtain ⟨its2, rv2, p2, _⟩ := inv_sq I1 hqy
      have la := sq_lt p1
      have lb := sq_lt p2
      refine zip_begins2 (begins_sq (k := k1) its.toArray) (begins_sq (k := k2) its2.toArray) p1 p2 fun h' hz hTI hTO h1 h2 hsz hk => wpAny_pyIter_zip hz ?_
      have I2 : Inv X pins σ H1 { s1 with heap := h' } := I1.kept (t' := s1.toks) hk
      have D : ZipSep2 (s1.heap.objs.size + 4) (s1.heap.objs.size + 2) (s1.heap.objs.size + 3) s1.heap.objs.size (s1.heap.objs.size + 1) [s1.heap.objs.size, a] [s1.heap.objs.size + 1, b] := zip_sep2 (fun c hc => by rw [List.mem_singleton.mp hc]; exact la) (fun c hc => by rw [List.mem_singleton.mp hc]; exact lb)
      refine ⟨s1.heap.objs.size + 4, [s1.heap.objs.size + 4, s1.heap.objs.size + 2, s1.heap.objs.size + 3, s1.heap.objs.size, s1.heap.objs.size + 1], _, _, H1, rfl, I2, turn_zipG D (Nat.ne_of_lt la) (Nat.ne_of_lt (Nat.lt_succ_of_lt lb)), ⟨hz, hTI, ⟨_, _, hTO⟩, isIt_new h1, isIt_new h2⟩, fun c hcm => ?_, q⟩
      have e' : c = s1.heap.objs.size + 4 ∨ c = s1.heap.objs.size + 2 ∨ c = s1.heap.objs.size + 3 ∨ c = s1.heap.objs.size ∨ c = s1.heap.objs.size + 1 := by simpa using hcm
      have hle : s1.heap.objs.size ≤ c := by
        rcases e' with z | z | z | z | z
        · rw [z]; exact Nat.le_add_right _ _
        · rw [z]; exact Nat.le_add_right _ _
        · rw [z]; exact Nat.le_add_right _ _
        · rw [z]; exact Nat.le_refl _
        · rw [z]; exact Nat.le_add_right _ _
      exact I1.fpOk hle (I1.hok.fresh hle)
/-- a list or a tuple -/
def iSeqG (K : PySem.W.Frag) (tl : TE) : TI := fun σ H R => tl σ H fun x H1 => ∃ a, x = .ref a ∧ (((∃ xs, SqL K H1 a xs) ∧ R (Itl K a) H1) ∨ ((∃ xs, SqT K H1 a xs) ∧ R (Itt K a) H1))
theorem pi_seqG {X : Cx} {tg l : Expr} {tl : TE} (hl : PE X l tl) : PI X tg l (iSeqG X.K tl) := by
  refine ⟨fun pins s σ H R I h => ?_⟩
  refine thn (hl.run pins s σ H _ I h) fun v s1 ⟨x, H1, I1, r1, q1⟩ => ?_
  obtain ⟨a, e, q⟩ := q1
  subst e
  cases r1
  rcases q with ⟨⟨xs, hq⟩, q⟩ | ⟨⟨xs, hq⟩, q⟩
  · obtain ⟨its, rv, p, hz⟩ := I1.list hq
    refine wpAny_pyIter_list p.isList ?_
    refine ⟨s1.heap.objs.size, [s1.heap.objs.size], _, _, H1, rfl, I1.kept (t' := s1.toks) fun b o e => Heap.get?_push_of_some _ e, turn_list a _, ⟨_, Heap.get?_push_size _ rfl, rfl, rfl⟩, fun b hb => ?_, q⟩
    have e : b = s1.heap.objs.size := by simpa using hb
    subst e
    exact I1.fpOk (Nat.le_refl _) (I1.hok.fresh (Nat.le_refl _))
  · obtain ⟨its, rv, p, hz⟩ := I1.tuple hq
    refine wpAny_pyIter_tuple (show s1.heap.IsTuple a its.toArray from p) ?_
    refine ⟨s1.heap.objs.size, [s1.heap.objs.size], _, _, H1, rfl, I1.kept (t' := s1.toks) fun b o e => Heap.get?_push_of_some _ e, turn_tuple a _, ⟨_, Heap.get?_push_size _ rfl, rfl, rfl⟩, fun b hb => ?_, q⟩
    have e : b = s1.heap.objs.size := by simpa using hb
    subst e
    exact I1.fpOk (Nat.le_refl _) (I1.hok.fresh (Nat.le_refl _))
end DL

/-! DL7: what is walked as data; comprehensions; targets. -/
namespace DL
open PySem PySem.Spec PyProof.Rows L2
/-- the turns of a walk are the items ds, while C holds of the store -/
structure ItOk (K : PySem.W.Frag) (J : L2.It) (ds : List D) (C : Sto → Prop) (O0 : Ow) (H0 : Hp) : Prop where
  go : ∀ i S O H, Sok K S O H → Mo O0 H0 O H → C S → i < ds.length → J.go i H ∧ ∀ x H', J.yld i H x H' → ∃ d, ds[i]? = some d ∧ Rp K O H' x d ∧ Sok K S O H' ∧ Ev S O H S O H'
  stop : ∀ i S O H, Sok K S O H → Mo O0 H0 O H → C S → ds.length = i → J.stop i H
abbrev WI := Env → Sto → XD → (List D → (Sto → Prop) → Sto → Prop) → Prop
def RI (L : Lnk) (K : PySem.W.Frag) (W : WX) (t : TI) (w : WI) : Prop :=
  ∀ (σ : L2.St) (H : Hp) (ρ : Env) (S : Sto) (O : Ow) (R : XD) (Q : List D → (Sto → Prop) → Sto → Prop) (R' : L2.It → Hp → Prop), At L K W σ H ρ S O R → w ρ S R Q →
    (∀ J H' ds C S' O', ItOk K J ds C O' H' → ds.length ≤ sizeLine → Sok K S' O' H' → Ev S O H S' O' H' → Q ds C S' → R' J H') → t σ H R'
def tOI (L : Lnk) (K : PySem.W.Frag) (W : WX) (w : WI) : TI := fun σ H R' => ∃ ρ S O R, ∃ Q : List D → (Sto → Prop) → Sto → Prop, At L K W σ H ρ S O R ∧ w ρ S R Q ∧ ∀ J H' ds C S' O', ItOk K J ds C O' H' → ds.length ≤ sizeLine → Sok K S' O' H' → Ev S O H S' O' H' → Q ds C S' → R' J H'
/-! ### a, b, .. = a list of that length -/
section
variable {prog : Program} {w : World} {A : Around} {E : Value → Shared → Prop} {s : Shared}
theorem draw_lst {it t : Addr} {items : Array Value} (hne : t ≠ it) : ∀ (n i : Nat) (s : Shared) (Q : List Value → Shared → Prop), s.heap.IsListIter it t i → s.heap.IsList t items → i + n ≤ items.size →
    (∀ h' : Heap, h'.IsListIter it t (i + n) → Heap.SameBut it s.heap h' → Q ((items.toList.drop i).take n) { s with heap := h' }) → wpAny (model prog w) A (draw (.ref it) n) Q E s
  | 0, i, s, Q, hit, _, _, hQ => by
    show wpAny _ _ (pure []) Q E s
    exact wpAny_pure (by simpa using hQ s.heap hit (Heap.SameBut.refl ..))
  | n + 1, i, s, Q, hit, ht, hle, hQ => by
    have hlt : i < items.size := by omega
    show wpAny _ _ (pyNext (.ref it) >>= _) Q E s
    refine wpAny_bind (wpAny_pyNext_list_item hit ht (x := items[i]) (by simp [hlt]) fun h₁ hit₁ hs₁ => ?_)
    refine wpAny_bind (wpAny_holding (draw_lst hne n (i + 1) _ _ hit₁ (ht.extBut hs₁.extBut hne) (by omega) fun h₂ hit₂ hs₂ => wpAny_pure ?_))
    have hd : items.toList.drop i = items[i] :: items.toList.drop (i + 1) := by simp [List.drop_eq_getElem_cons, hlt]
    have := hQ h₂ (by rw [show i + (n + 1) = i + 1 + n by omega]; exact hit₂) (hs₁.trans hs₂)
    rw [hd, List.take_succ_cons] at this
    exact this
theorem unpackItems_lst {t : Addr} {items : Array Value} {Q : List Value → Shared → Prop} (hh : A.handled = none) (ht : s.heap.IsList t items)
    (hQ : ∀ h', Heap.ExtBut s.heap.objs.size s.heap h' → Q items.toList { s with heap := h' }) : wpAny (model prog w) A (unpackItems (.ref t) items.size none) Q E s := by
  have hlt : t ≠ s.heap.objs.size := by obtain ⟨o, ho, _⟩ := ht; exact Nat.ne_of_lt (Heap.lt_size ho)
  unfold unpackItems
  refine wpAny_bind ?_
  · unfold notIterableAtAll
    refine wpAny_bind (wpAny_specialOf ht.typeIs slot_list_iter.lookup ?_)
    refine wpAny_pure ?_
    simp only [Bool.false_eq_true, if_false]
    refine wpAny_bind (wpAny_holding (wpAny_pyIter_list ht ?_))
    refine wpAny_bind (wpAny_holding (draw_lst hlt items.size 0 _ _ ⟨_, Heap.get?_push_size _ rfl, rfl, rfl⟩ (ht.push _) (by omega) fun h₁ hit₁ hs₁ => ?_))
    have hall : List.take items.size (List.drop 0 items.toList) = items.toList := by
      rw [List.drop_zero]; exact List.take_of_length_le (by simp)
    rw [hall]
    rw [if_neg (by simp)]
    have ht₁ : h₁.IsList t items := (ht.push _).extBut hs₁.extBut hlt
    refine wpAny_bind (wpAny_holding (wpAny_pyNext_list_end hh hit₁ ht₁ (by simp) fun h₂ he₂ => ?_))
    simp only [Option.isSome_none, Bool.false_eq_true, if_false]
    refine wpAny_pure (hQ h₂ fun b o hb e => he₂ b o hb (hs₁.extBut b o hb (Heap.get?_push_of_some _ e)))
theorem assign_Tuple_lst {env : PySem.Env} {elts : List Expr} {x1} {pos : Pos} {t : Addr} {items : Array Value} {Q : Unit → Shared → Prop} (hh : A.handled = none) (ht : s.heap.IsList t items)
    (hn : (assignEach elts env).length = items.size) (hstar : (assignEach elts env).findIdx? (·.1) = none)
    (h : ∀ h', Heap.ExtBut s.heap.objs.size s.heap h' → wpAny (model prog w) A (assignInOrder ((assignEach elts env).map (·.2)) items.toList) Q E { s with heap := h' }) :
    wpAny (model prog w) A (assign (.Tuple elts x1 pos) env (.ref t)) Q E s := by
  rw [assign_Tuple]
  refine wpAny_bind (wpAny_standAt ?_)
  unfold unpack
  rw [hn, hstar]
  exact wpAny_bind (wpAny_holding (unpackItems_lst hh ht h))
end
/-- (a, b, ..) = a tuple or a list of that length -/
def gSeq (K : PySem.W.Frag) (n : Nat) (t : TGs) : TG := fun v σ H Q => ∃ a xs, v = .ref a ∧ (SqT K H a xs ∨ SqL K H a xs) ∧ xs.length = n ∧ t xs σ H Q
theorem pg_seq {X : Cx} {es : List Expr} {k : Nat} {pos : Pos} {t : TGs} {n : Nat} (hc : X.calm = true) (h : PGs X es t)
    (hn : (assignEach es X.env).length = n := by rfl) (hst : (assignEach es X.env).findIdx? (·.1) = none := by rfl) : PG X (.Tuple es k pos) (gSeq X.K n t) := by
  refine ⟨fun pins s σ H v u Q I r hw => ?_⟩
  obtain ⟨a, xs, e1, hq, hl, hw⟩ := hw
  subst e1
  cases r
  rcases hq with hq | hq
  · obtain ⟨its, rv, ht, hz⟩ := I.tuple hq
    refine assign_Tuple_tuple (I.ok.hd hc) ht (by simp [hn, ← hl, rv.length]) hst fun h' hx => ?_
    have I1 : Inv X pins σ H { s with heap := h' } := I.kept (t' := s.toks) fun b o e => hx b o (Nat.ne_of_lt (Heap.lt_size e)) e
    exact h.run pins _ σ H xs _ Q I1 (by simpa using rv) hw
  · obtain ⟨its, rv, ht, hz⟩ := I.list hq
    refine assign_Tuple_lst (I.ok.hd hc) ht.isList (by simp [hn, ← hl, rv.length]) hst fun h' hx => ?_
    have I1 : Inv X pins σ H { s with heap := h' } := I.kept (t' := s.toks) fun b o e => hx b o (Nat.ne_of_lt (Heap.lt_size e)) e
    exact h.run pins _ σ H xs _ Q I1 (by simpa using rv) hw
section
variable {L : Lnk} {K : PySem.W.Frag} {W : WX} {X : Cx} {w wa wb wc : WE'} {ta tb tc : TE}
theorem ri_tO {w : WI} : RI L K W (tOI L K W w) w := fun σ H ρ S O R Q Q' A hw k => ⟨ρ, S, O, R, Q, A, hw, k⟩
theorem _root_.L2.PI.can {tg e : Expr} {t : TI} {w : WI} (h : PI X tg e t) (r : RI L K W t w) : PI X tg e (tOI L K W w) := ⟨fun pins s σ H R' I ⟨ρ, S, O, R, Q, A, hw, k⟩ => h.run pins s σ H R' I (r σ H ρ S O R Q R' A hw k)⟩
theorem rangeD_get {i c : Int} {n k : Nat} (h : k < n) : (rangeD i c n)[k]? = some (.int (i + (k : Nat) * c)) := by
  unfold rangeD
  rw [List.getElem?_map, List.getElem?_range h]; rfl
theorem rangeD_len {i c : Int} {n : Nat} : (rangeD i c n).length = n := by unfold rangeD; simp
theorem itOk_r {lo : Int} {n : Nat} {O : Ow} {H : Hp} : ItOk K (Itr lo n) (rangeD lo 1 n) (fun _ => True) O H where
  go := fun i S O H s m _ hi => by
    rw [rangeD_len] at hi
    refine ⟨hi, fun x H' y => ?_⟩
    obtain ⟨rfl, rfl⟩ := y
    exact ⟨_, rangeD_get hi, by rw [Int.mul_one]; exact .int _, s, .refl⟩
  stop := fun i S O H s m _ hi => by rw [rangeD_len] at hi; exact Nat.le_of_eq hi
theorem itOk_c {lo c : Int} {n : Nat} {O : Ow} {H : Hp} : ItOk K (Itc lo c n) (rangeD lo c n) (fun _ => True) O H where
  go := fun i S O H s m _ hi => by
    rw [rangeD_len] at hi
    refine ⟨hi, fun x H' y => ?_⟩
    obtain ⟨rfl, rfl⟩ := y
    exact ⟨_, rangeD_get hi, .int _, s, .refl⟩
  stop := fun i S O H s m _ hi => by rw [rangeD_len] at hi; exact Nat.le_of_eq hi
theorem ri_rng1 (ha : RE L K W ta wa) : RI L K W (iRng1 (tCons ta tNil)) fun ρ S R Q => wa ρ S R fun x S1 => ∃ j : Int, x = .int j ∧ -(2 ^ 62) ≤ j ∧ j ≤ 16777216 ∧ Q (rangeD 0 1 j.toNat) (fun _ => True) S1 := fun σ H ρ S O R Q Q' A hw k => by
  refine ha.go A hw fun x H1 dx S1 O1 r1 A1 e1 q1 => ?_
  obtain ⟨j, rfl, h1, h2, q⟩ := q1
  cases r1
  exact ⟨j, rfl, h1, by omega, k _ H1 _ _ S1 O1 itOk_r (by rw [rangeD_len, sizeLine_eq]; omega) A1.sok e1 q⟩
theorem ri_rng2 (ha : RE L K W ta wa) (hb : RE L K W tb wb) : RI L K W (iRng2 (tCons ta (tCons tb tNil))) fun ρ S R Q => wa ρ S R fun x S1 => wb ρ S1 R fun y S2 => ∃ i j : Int, x = .int i ∧ y = .int j ∧ (-(2 ^ 62) ≤ i ∧ i < 2 ^ 62 ∧ -(2 ^ 62) ≤ j ∧ j < 2 ^ 62) ∧ j - i ≤ 16777216 ∧ Q (rangeD i 1 (j - i).toNat) (fun _ => True) S2 := fun σ H ρ S O R Q Q' A hw k => by
  refine ha.go A hw fun x H1 dx S1 O1 r1 A1 e1 q1 => ?_
  refine hb.go A1 q1 fun y H2 dy S2 O2 r2 A2 e2 q2 => ?_
  obtain ⟨i, j, rfl, rfl, h1, h2, q⟩ := q2
  cases r1; cases r2
  exact ⟨i, j, rfl, h1, k _ H2 _ _ S2 O2 itOk_r (by rw [rangeD_len, sizeLine_eq]; omega) A2.sok (e1.trans A1.sok e2) q⟩
theorem ri_rng3 (ha : RE L K W ta wa) (hb : RE L K W tb wb) (hc : RE L K W tc wc) : RI L K W (iRng3 (tCons ta (tCons tb (tCons tc tNil)))) fun ρ S R Q => wa ρ S R fun x S1 => wb ρ S1 R fun y S2 => wc ρ S2 R fun z S3 => ∃ (i j c : Int) (n : Nat), x = .int i ∧ y = .int j ∧ z = .int c ∧ RgC i j c n ∧ n ≤ sizeLine ∧ Q (rangeD i c n) (fun _ => True) S3 := fun σ H ρ S O R Q Q' A hw k => by
  refine ha.go A hw fun x H1 dx S1 O1 r1 A1 e1 q1 => ?_
  refine hb.go A1 q1 fun y H2 dy S2 O2 r2 A2 e2 q2 => ?_
  refine hc.go A2 q2 fun z H3 dz S3 O3 r3 A3 e3 q3 => ?_
  obtain ⟨i, j, c, n, rfl, rfl, rfl, h1, h2, q⟩ := q3
  cases r1; cases r2; cases r3
  exact ⟨i, j, c, n, rfl, h1, k _ H3 _ _ S3 O3 itOk_c (by rw [rangeD_len]; exact h2) A3.sok ((e1.trans A1.sok e2).trans A2.sok e3) q⟩

/-! ### lists and tuples walked -/
/-- a sequence by data: a list or a tuple at a, its items at every later state -/
theorem sq_of {v : V} {d : D} {S : Sto} {O : Ow} {H : Hp} {k : List D → (Sto → Prop) → Prop} (r : Rp K O H v d) (s : Sok K S O H) (h : seqD S d k) : ∃ a b ds C, v = .ref a ∧ C S ∧ ds.length ≤ sizeLine ∧
    (∀ S' O' H', Sok K S' O' H' → Mo O H O' H' → C S' → ∃ xs, Sq K b H' a xs ∧ Rps K O' H' xs ds) ∧ k ds C := by
  cases d with
  | tup ds =>
    cases r with
    | tup h1 z h2 => exact ⟨_, false, ds, fun _ => True, rfl, trivial, by rw [← h2.len]; exact z, fun S' O' H' _ m _ => ⟨_, m.sqT h1, h2.mono m⟩, h⟩
  | lst ds =>
    cases r with
    | lst h1 n z h2 => exact ⟨_, true, ds, fun _ => True, rfl, trivial, by rw [← h2.len]; exact z, fun S' O' H' _ m _ => ⟨_, SqL.of (m.k _ _ h1 n), h2.mono m⟩, h⟩
  | scr ns =>
    cases r with
    | scr z h1 => exact ⟨_, true, ns.map .int, fun _ => True, rfl, trivial, by rw [List.length_map]; exact z, fun S' O' H' _ m _ => ⟨_, .inl (.inr ⟨_, m.t _ _ h1 (.inr ⟨_, _, rfl⟩)⟩), Rps.ofInts ns⟩, h⟩
    | scrK z h1 => exact ⟨_, true, ns.map .int, fun _ => True, rfl, trivial, by rw [List.length_map]; exact z, fun S' O' H' _ m _ => ⟨_, h1 _, Rps.ofInts ns⟩, h⟩
  | ref p =>
    cases r
    unfold seqD at h
    cases q : S p with
    | none => simp only [q] at h
    | some o =>
      cases o with
      | lst ds =>
        simp only [q] at h
        obtain ⟨_, xs, h1, z, h2⟩ := s.dom _ _ q
        refine ⟨p, true, ds, fun S' => S' p = some (.lst ds), rfl, q, by rw [← h2.len]; exact z, fun S' O' H' s' m c => ?_, h⟩
        obtain ⟨_, ys, g1, _, g2⟩ := s'.dom _ _ c
        exact ⟨ys, SqL.of g1, g2⟩
      | _ => simp only [q] at h
  | _ => exact h.elim
theorem itOk_seq {b : Bool} {a : Addr} {ds : List D} {C : Sto → Prop} {O : Ow} {H : Hp} (h : ∀ S' O' H', Sok K S' O' H' → Mo O H O' H' → C S' → ∃ xs, Sq K b H' a xs ∧ Rps K O' H' xs ds) : ItOk K (if b = true then Itl K a else Itt K a) ds C O H := by
  cases b with
  | true =>
    refine ⟨fun i S O' H' s m c hi => ?_, fun i S O' H' s m c hi => ?_⟩
    · obtain ⟨xs, hq, hr⟩ := h S O' H' s m c
      obtain ⟨v, hv, rv⟩ := hr.get (i := i) (List.getElem?_eq_getElem hi)
      refine ⟨⟨xs, v, hq, hv⟩, fun x H2 y => ?_⟩
      obtain ⟨rfl, y⟩ := y
      have := y xs hq
      rw [hv] at this; cases this
      exact ⟨_, List.getElem?_eq_getElem hi, rv, s, .refl⟩
    · obtain ⟨xs, hq, hr⟩ := h S O' H' s m c
      exact ⟨xs, hq, by rw [hr.len]; exact Nat.le_of_eq hi⟩
  | false =>
    refine ⟨fun i S O' H' s m c hi => ?_, fun i S O' H' s m c hi => ?_⟩
    · obtain ⟨xs, hq, hr⟩ := h S O' H' s m c
      obtain ⟨v, hv, rv⟩ := hr.get (i := i) (List.getElem?_eq_getElem hi)
      refine ⟨⟨xs, v, hq, hv⟩, fun x H2 y => ?_⟩
      obtain ⟨rfl, y⟩ := y
      have := y xs hq
      rw [hv] at this; cases this
      exact ⟨_, List.getElem?_eq_getElem hi, rv, s, .refl⟩
    · obtain ⟨xs, hq, hr⟩ := h S O' H' s m c
      exact ⟨xs, hq, by rw [hr.len]; exact Nat.le_of_eq hi⟩
theorem ri_seq (ha : RE L K W ta wa) : RI L K W (iSeqG K ta) fun ρ S R Q => wa ρ S R fun x S1 => seqD S1 x fun ds C => Q ds C S1 := fun σ H ρ S O R Q Q' A hw k => by
  refine ha.go A hw fun x H1 dx S1 O1 r1 A1 e1 q1 => ?_
  obtain ⟨a, b, ds, C, rfl, c, z, h, q⟩ := sq_of r1 A1.sok q1
  have I := itOk_seq h
  obtain ⟨xs, hq, hr⟩ := h S1 O1 H1 A1.sok Mo.refl c
  cases b with
  | true => exact ⟨a, rfl, .inl ⟨⟨xs, hq⟩, k _ H1 ds C S1 O1 I z A1.sok e1 q⟩⟩
  | false => exact ⟨a, rfl, .inr ⟨⟨xs, hq⟩, k _ H1 ds C S1 O1 I z A1.sok e1 q⟩⟩
theorem enumD_len : ∀ (n : Nat) (ds : List D), (enumD n ds).length = ds.length
  | _, [] => rfl
  | n, _ :: r => by rw [enumD, List.length_cons, List.length_cons, enumD_len (n + 1) r]
theorem enumD_get : ∀ (n : Nat) (ds : List D) (i : Nat) (d : D), ds[i]? = some d → (enumD n ds)[i]? = some (.tup [.int ((n + i : Nat) : Int), d])
  | n, d :: r, 0, _, e => by cases e; rfl
  | n, _ :: r, i + 1, d, e => by
    have := enumD_get (n + 1) r i d e
    rw [show n + 1 + i = n + (i + 1) by omega] at this
    exact this
theorem ev_new' {S : Sto} {O : Ow} {H : Hp} {T : Addr} {u : HO} (s : Sok K S O H) (h : H T = none) : Sok K S O (upd H T u) ∧ Ev S O H S O (upd H T u) := ⟨s.new h, ev_new h s⟩
theorem ri_enum (ha : RE L K W ta wa) : RI L K W (iEnumG K (tCons ta tNil)) fun ρ S R Q => wa ρ S R fun x S1 => seqD S1 x fun ds C => Q (enumD 0 ds) C S1 := fun σ H ρ S O R Q Q' A hw k => by
  refine ha.go A hw fun x H1 dx S1 O1 r1 A1 e1 q1 => ?_
  obtain ⟨a, b, ds, C, rfl, c, z, h, q⟩ := sq_of r1 A1.sok q1
  obtain ⟨xs, hq, hr⟩ := h S1 O1 H1 A1.sok Mo.refl c
  refine ⟨b, a, xs, rfl, hq, k _ H1 _ C S1 O1 ⟨fun i S O H' s m c hi => ?_, fun i S O H' s m c hi => ?_⟩ (by rw [enumD_len]; exact z) A1.sok e1 q⟩
  · rw [enumD_len] at hi
    obtain ⟨ys, hq, hr⟩ := h S O H' s m c
    obtain ⟨v, hv, rv⟩ := hr.get (i := i) (List.getElem?_eq_getElem hi)
    refine ⟨⟨ys, v, hq, hv⟩, fun x H2 y => ?_⟩
    obtain ⟨T, x', rfl, hT, rfl, y⟩ := y
    have := y ys hq
    rw [hv] at this; cases this
    refine ⟨_, enumD_get 0 ds i _ (List.getElem?_eq_getElem hi), ?_, s.new hT, ev_new hT s⟩
    rw [Nat.zero_add]
    exact rp_new s hT (by show 2 ≤ sizeLine; decide) (.cons (.int _) (.cons rv .nil))
  · rw [enumD_len] at hi
    obtain ⟨ys, hq, hr⟩ := h S O H' s m c
    exact ⟨ys, hq, by rw [hr.len]; exact hi⟩
theorem zipD_len (xs ys : List D) : (zipD xs ys).length = min xs.length ys.length := by unfold zipD; simp
theorem zipD_get {xs ys : List D} {i : Nat} {x y : D} (h1 : xs[i]? = some x) (h2 : ys[i]? = some y) : (zipD xs ys)[i]? = some (.tup [x, y]) := by
  unfold zipD
  rw [List.getElem?_zipWith, h1, h2]
theorem ri_zip (ha : RE L K W ta wa) (hb : RE L K W tb wb) : RI L K W (iZipG K (tCons ta (tCons tb tNil))) fun ρ S R Q => wa ρ S R fun x S1 => wb ρ S1 R fun y S2 => seqD S2 x fun ds C => seqD S2 y fun ds2 C2 => Q (zipD ds ds2) (fun S => C S ∧ C2 S) S2 := fun σ H ρ S O R Q Q' A hw k => by
  refine ha.go A hw fun x H1 dx S1 O1 r1 A1 e1 q1 => ?_
  refine hb.go A1 q1 fun y H2 dy S2 O2 r2 A2 e2 q2 => ?_
  have r1 := r1.mono (A1.mo e2)
  obtain ⟨a, b, ds, C, rfl, c, z, h, q⟩ := sq_of r1 A2.sok q2
  obtain ⟨a', b', ds', C', rfl, c', z', h', q⟩ := sq_of r2 A2.sok q
  obtain ⟨xs, hq, hr⟩ := h S2 O2 H2 A2.sok Mo.refl c
  obtain ⟨ys, hq', hr'⟩ := h' S2 O2 H2 A2.sok Mo.refl c'
  refine ⟨b, b', a, a', xs, ys, rfl, hq, hq', k _ H2 _ _ S2 O2 ⟨fun i S O H' s m c hi => ?_, fun i S O H' s m c hi => ?_⟩ (by rw [zipD_len]; omega) A2.sok (e1.trans A1.sok e2) q⟩
  · rw [zipD_len] at hi
    obtain ⟨us, hq, hr⟩ := h S O H' s m c.1
    obtain ⟨ws, hq', hr'⟩ := h' S O H' s m c.2
    have l1 : i < ds.length := by omega
    have l2 : i < ds'.length := by omega
    obtain ⟨v, hv, rv⟩ := hr.get (i := i) (List.getElem?_eq_getElem l1)
    obtain ⟨v', hv', rv'⟩ := hr'.get (i := i) (List.getElem?_eq_getElem l2)
    refine ⟨⟨⟨us, v, hq, hv⟩, ws, v', hq', hv'⟩, fun x H2 y => ?_⟩
    obtain ⟨T, x', y', rfl, hT, rfl, y1, y2⟩ := y
    have := y1 us hq
    rw [hv] at this; cases this
    have := y2 ws hq'
    rw [hv'] at this; cases this
    exact ⟨_, zipD_get (List.getElem?_eq_getElem l1) (List.getElem?_eq_getElem l2), rp_new s hT (by show 2 ≤ sizeLine; decide) (.cons rv (.cons rv' .nil)), s.new hT, ev_new hT s⟩
  · rw [zipD_len] at hi
    obtain ⟨us, hq, hr⟩ := h S O H' s m c.1
    obtain ⟨ws, hq', hr'⟩ := h' S O H' s m c.2
    exact ⟨us, ws, hq, hq', by rw [hr.len, hr'.len]; exact hi⟩

/-! ### targets -/
abbrev WG := D → Env → Sto → XD → (Env → Sto → Prop) → Prop
abbrev WGs := List D → Env → Sto → XD → (Env → Sto → Prop) → Prop
/-- the names keep apart from vs: their slots set, the rest as it was -/
def SetIn (vs : List Nat) (σ σ' : L2.St) : Prop := ∀ us : List Nat, (∀ v ∈ vs, v ∈ us) → wipe σ' us = wipe σ us
theorem wipe_set {σ : L2.St} {i : Nat} {v : Option V} : ∀ {us : List Nat}, i ∈ us → wipe (σ.set i v) us = wipe σ us := by
  intro us
  induction us with
  | nil => intro h; cases h
  | cons u us ih =>
    intro h
    unfold wipe
    by_cases e : i ∈ us
    · rw [ih e]
    · have e1 : i = u := by
        rcases List.mem_cons.mp h with z | z
        · exact z
        · exact absurd z e
      subst e1
      clear ih h
      have comm : ∀ us : List Nat, (wipe (σ.set i v) us).set i none = (wipe σ us).set i none := by
        intro us
        induction us with
        | nil => unfold wipe; rw [List.set_set]
        | cons w us ih =>
          unfold wipe
          by_cases q : w = i
          · subst q; rw [List.set_set, List.set_set, ih]
          · rw [List.set_comm _ _ (fun z => q z), ih, List.set_comm _ _ (fun z => q z.symm)]
      exact comm us
theorem wipe_idem (σ : L2.St) (us : List Nat) : wipe (wipe σ us) us = wipe σ us := by
  have key : ∀ (vs : List Nat) (τ : L2.St), (∀ v ∈ vs, ∀ x, τ[v]? = some x → x = none) → wipe τ vs = τ := by
    intro vs
    induction vs with
    | nil => intro τ _; rfl
    | cons w vs ih =>
      intro τ h
      unfold wipe
      rw [ih τ fun v hv => h v (List.mem_cons_of_mem _ hv)]
      apply List.ext_getElem?
      intro j
      by_cases e : w = j
      · subst e
        by_cases l : w < τ.length
        · rw [List.getElem?_set_self l, List.getElem?_eq_getElem l, h w List.mem_cons_self _ (List.getElem?_eq_getElem l)]
        · rw [List.getElem?_eq_none (by simpa using l), List.getElem?_eq_none (by omega)]
      · rw [List.getElem?_set_ne e]
  refine key us _ fun v hv x hx => ?_
  cases x with
  | none => rfl
  | some y => exact absurd hv (wipe_some hx).2
def RG (L : Lnk) (K : PySem.W.Frag) (W : WX) (vs : List Nat) (t : TG) (w : WG) : Prop :=
  ∀ (v : V) (d : D) (σ : L2.St) (H : Hp) (ρ : Env) (S : Sto) (O : Ow) (Q : Env → Sto → Prop) (Q' : L2.St → Hp → Prop), At L K W σ H ρ S O xNo → Rp K O H v d → w d ρ S xNo Q →
    (∀ σ' H' ρ' S' O', Sok K S' O' H' → Ev S O H S' O' H' → REnv K O' H' ρ' σ' → SetIn vs σ σ' → Q ρ' S' → Q' σ' H') → t v σ H Q'
def RGs (L : Lnk) (K : PySem.W.Frag) (W : WX) (vs : List Nat) (t : TGs) (w : WGs) : Prop :=
  ∀ (us : List V) (ds : List D) (σ : L2.St) (H : Hp) (ρ : Env) (S : Sto) (O : Ow) (Q : Env → Sto → Prop) (Q' : L2.St → Hp → Prop), At L K W σ H ρ S O xNo → Rps K O H us ds → w ds ρ S xNo Q →
    (∀ σ' H' ρ' S' O', Sok K S' O' H' → Ev S O H S' O' H' → REnv K O' H' ρ' σ' → SetIn vs σ σ' → Q ρ' S' → Q' σ' H') → t us σ H Q'
theorem At.no {σ : L2.St} {H : Hp} {ρ : Env} {S : Sto} {O : Ow} (s : Sok K S O H) (e : REnv K O H ρ σ) : At L K W σ H ρ S O xNo := ⟨s, e, fun _ _ _ _ _ _ _ _ _ _ z => z.elim⟩
theorem SetIn.refl {vs : List Nat} {σ : L2.St} : SetIn vs σ σ := fun _ _ => rfl
theorem SetIn.trans {vs us : List Nat} {σ σ1 σ2 : L2.St} (a : SetIn vs σ σ1) (b : SetIn us σ1 σ2) : SetIn (vs ++ us) σ σ2 := fun ws h =>
  (b ws fun v hv => h v (List.mem_append_right _ hv)).trans (a ws fun v hv => h v (List.mem_append_left _ hv))
theorem rg_nm {i : Nat} : RG L K W [i] (gName i) fun d ρ S _ Q => Q (setV ρ i d) S := fun v d σ H ρ S O Q Q' A r hw k =>
  k _ H _ S O A.sok .refl (A.env.set i r) (fun us h => wipe_set (h i (by simp))) hw
theorem rgs_nil : RGs L K W [] gNil fun ds ρ S _ Q => match ds with
    | [] => Q ρ S
    | _ => False := fun vs ds σ H ρ S O Q Q' A r hw k => by
  cases r with
  | nil => exact ⟨rfl, k σ H ρ S O A.sok .refl A.env .refl hw⟩
  | cons _ _ => exact hw.elim
theorem rgs_cons {t : TG} {u : TGs} {w : WG} {wr : WGs} {vs us : List Nat} (h : RG L K W vs t w) (hr : RGs L K W us u wr) : RGs L K W (vs ++ us) (gCons t u) fun ds ρ S R Q => match ds with
    | d :: ds => w d ρ S R fun ρ' S' => wr ds ρ' S' R Q
    | [] => False := fun xs ds σ H ρ S O Q Q' A r hw k => by
  cases r with
  | nil => exact hw.elim
  | cons r1 rr =>
    refine ⟨_, _, rfl, h _ _ σ H ρ S O _ _ A r1 hw fun σ1 H1 ρ1 S1 O1 s1 e1 n1 i1 q1 => ?_⟩
    exact hr _ _ σ1 H1 ρ1 S1 O1 _ _ (At.no s1 n1) (rr.mono (e1.mo A.sok)) q1 fun σ2 H2 ρ2 S2 O2 s2 e2 n2 i2 q2 => k σ2 H2 ρ2 S2 O2 s2 (e1.trans s1 e2) n2 (i1.trans i2) q2
theorem rg_tup {n : Nat} {vs : List Nat} {t : TGs} {w : WGs} (h : RGs L K W vs t w) : RG L K W vs (gTup K n t) fun d ρ S R Q => match d with
    | .tup ds => ds.length = n ∧ w ds ρ S R Q
    | _ => False := fun v d σ H ρ S O Q Q' A r hw k => by
  cases d <;> try exact hw.elim
  cases r with
  | tup h1 z h2 => exact ⟨_, _, rfl, h1, by rw [h2.len]; exact hw.1, h _ _ σ H ρ S O Q Q' A h2 hw.2 k⟩
theorem rg_seq {n : Nat} {vs : List Nat} {t : TGs} {w : WGs} (h : RGs L K W vs t w) : RG L K W vs (gSeq K n t) fun d ρ S R Q => match d with
    | .tup ds => ds.length = n ∧ w ds ρ S R Q
    | .lst ds => ds.length = n ∧ w ds ρ S R Q
    | _ => False := fun v d σ H ρ S O Q Q' A r hw k => by
  cases d <;> try exact hw.elim
  case tup ds =>
    cases r with
    | tup h1 z h2 => exact ⟨_, _, rfl, .inl h1, by rw [h2.len]; exact hw.1, h _ _ σ H ρ S O Q Q' A h2 hw.2 k⟩
  case lst ds =>
    cases r with
    | lst h1 m z h2 => exact ⟨_, _, rfl, .inr (SqL.of h1), by rw [h2.len]; exact hw.1, h _ _ σ H ρ S O Q Q' A h2 hw.2 k⟩
theorem rg_sub {to ti : TE} {wo wi : WE'} (ho : RE L K W to wo) (hi : RE L K W ti wi) : RG L K W [] (gSub to ti rSetL) fun d ρ S R Q => wo ρ S R fun x S1 => wi ρ S1 R fun y S2 => ∃ p ds n j, x = .ref p ∧ y = .int n ∧ S2 p = some (.lst ds) ∧ ixN ds.length n = some j ∧ Q ρ (sup S2 p (.lst (ds.set j d))) := fun v d σ H ρ S O Q Q' A r hw k => by
  refine ho.go A hw fun x H1 dx S1 O1 r1 A1 e1 q1 => ?_
  refine hi.go A1 q1 fun y H2 dy S2 O2 r2 A2 e2 q2 => ?_
  obtain ⟨p, ds, n, j, rfl, rfl, hs, hj, q⟩ := q2
  cases r1; cases r2
  obtain ⟨ho, xs, h1, z, h2⟩ := A2.sok.dom _ _ hs
  have r2 := (r.mono (A.mo e1)).mono (A1.mo e2)
  have ev := ev_write (ys := xs.set j v) (es := ds.set j d) hs A2.sok
  have sk := A2.sok.write hs h1 (ys := xs.set j v) (es := ds.set j d) (by rw [List.length_set]; exact z) (h2.set j r2)
  exact ⟨p, xs, n, j, rfl, rfl, h1, by rw [h2.len]; exact hj, k σ _ ρ _ O2 sk ((e1.trans A1.sok e2).trans A2.sok ev) (A2.env.mono (ev.mo A2.sok)) .refl q⟩
abbrev WTs := Env → Sto → (Bool → Sto → Prop) → Prop
def RTs (L : Lnk) (K : PySem.W.Frag) (W : WX) (t : TT) (w : WTs) : Prop :=
  ∀ (σ : L2.St) (H : Hp) (ρ : Env) (S : Sto) (O : Ow) (Q : Bool → Sto → Prop) (Q' : Bool → Hp → Prop), At L K W σ H ρ S O xNo → w ρ S Q →
    (∀ b H' S' O', Sok K S' O' H' → Ev S O H S' O' H' → Q b S' → Q' b H') → t σ H Q'
theorem rts_nil : RTs L K W tYes fun _ S K => K true S := fun σ H ρ S O Q Q' A hw k => k true H S O A.sok .refl hw
theorem rts_one {t : TT} (h : RT L K W t w) : RTs L K W t fun ρ S K => w ρ S xNo fun x S1 => tstD x fun b => if b = true then K true S1 else K false S1 := fun σ H ρ S O Q Q' A hw k => by
  refine h.go (Q := fun b S1 => if b = true then Q true S1 else Q false S1) A hw fun b H1 S1 O1 A1 e1 q => ?_
  cases b with
  | true => exact k true H1 S1 O1 A1.sok e1 q
  | false => exact k false H1 S1 O1 A1.sok e1 q

/-! ### list comprehensions -/
theorem ev_wres {S S' : Sto} {O O' : Ow} {H H' : Hp} {p : Addr} {u : HO} (e : Ev S O H S' O' H') (hp : H p = none) : Ev S O H S' O' (upd H' p u) :=
  ⟨fun a v h n => by rw [upd_ne (ne_of_none h hp)]; exact e.keep a v h n, e.own, e.res, fun a h => by
    by_cases q : a = p
    · rw [q]; exact hp
    · rw [upd_ne q] at h; exact e.there a h⟩
theorem drop_cons {α : Type} {ds : List α} {i : Nat} (h : i < ds.length) : ds.drop i = ds[i] :: ds.drop (i + 1) := List.drop_eq_getElem_cons h
theorem rl_comp {W' : WX} {wi : TI} {g : TG} {tt : TT} {te : TE} {vs ts : List Nat} {wI : WI} {wG : WG} {wT : WTs} {wE : WE'} (hI : RI L K W wi wI) (hG : RG L K W' ts g wG) (hT : RTs L K W' tt wT) (hE : RE L K W' te wE) (hv : ∀ v ∈ ts, v ∈ vs) :
    RL L K W (tLc wi g tt te vs) fun ρ S R Q => wI ρ S R fun ds C S1 =>
      compL (fun d ρ S K => wG d ρ S xNo K) wT (fun ρ S K => wE ρ S xNo K) (fun _ => True) C Q (delVs ρ vs) ds S1 [] := fun σ H ρ S O R Q Q' A hw k => by
  refine hI σ H ρ S O R _ _ A hw fun J H1 ds C S1 O1 it z s1 e1 q1 => ?_
  intro Dl hD
  have env1 : REnv K O1 H1 (delVs ρ vs) (wipe σ vs) := (A.env.mono (A.mo e1)).dels vs
  refine ⟨fun i m H' => m = ds.length - i ∧ i ≤ ds.length ∧ ∃ S' O' acc accv, Sok K S' O' H' ∧ Ev S1 O1 H1 S' O' H' ∧ O' Dl ∧ S' Dl = none ∧ H' Dl = some (.lst accv) ∧ accv.length ≤ i ∧ Rps K O' H' accv acc ∧
      compL (fun d ρ S K => wG d ρ S xNo K) wT (fun ρ S K => wE ρ S xNo K) (fun _ => True) C Q (delVs ρ vs) (ds.drop i) S' acc,
    ⟨ds.length, rfl, Nat.zero_le _, S1, oadd O1 Dl, [], [], s1.resv hD, ev_res hD s1, .inr rfl, s1.noneH hD, upd_same, Nat.le_refl _, .nil, q1⟩, ?_⟩
  rintro i m H' ⟨rfl, hi, S', O', acc, accv, s', e', hO, hS, hH, hl, hr, q⟩
  by_cases hlt : i < ds.length
  · right
    rw [drop_cons hlt] at q
    obtain ⟨c, q⟩ := q
    obtain ⟨go, yl⟩ := it.go i S' O' H' s' (e'.mo s1) c hlt
    refine ⟨go, fun H2 => ∃ m', m' < ds.length - i ∧ _, fun H2 h => h, fun x H2 y => ?_⟩
    obtain ⟨d, hd, rx, s2, e2⟩ := yl x H2 y
    rw [List.getElem?_eq_getElem hlt] at hd
    cases hd
    have ee2 := e'.trans s' e2
    refine hG x _ (wipe σ vs) H2 (delVs ρ vs) S' O' _ _ (At.no s2 (env1.mono (ee2.mo s1))) rx q fun σ3 H3 ρ3 S3 O3 s3 e3 n3 i3 q3 => ?_
    have ee3 := e2.trans s2 e3
    refine ⟨by rw [i3 vs hv, wipe_idem], ?_⟩
    refine hT σ3 H3 ρ3 S3 O3 _ _ (At.no s3 n3) q3 fun b H4 S4 O4 s4 e4 q4 => ?_
    have ee4 := ee3.trans s3 e4
    cases b with
    | false =>
      rw [if_neg Bool.false_ne_true] at q4 ⊢
      exact ⟨ds.length - (i + 1), by omega, rfl, hlt, S4, O4, acc, accv, s4, e'.trans s' ee4, (ee4.res _ hO hS).1, (ee4.res _ hO hS).2, ee4.keep _ _ hH hS, by omega, hr.mono (ee4.mo s'), q4⟩
    | true =>
      rw [if_pos rfl] at q4 ⊢
      refine hE.go (At.no s4 (n3.mono (e4.mo s3))) q4 fun y H5 dy S5 O5 r5 A5 e5 q5 => ?_
      have ee5 := ee4.trans s4 e5
      have hO5 := (ee5.res _ hO hS).1
      have hS5 := (ee5.res _ hO hS).2
      have hH5 := ee5.keep _ _ hH hS
      have hr5 := hr.mono (ee5.mo s')
      refine ⟨accv, hH5, by omega, ds.length - (i + 1), by omega, rfl, hlt, S5, O5, acc ++ [dy], accv ++ [y], A5.sok.wres hH5 hO5 hS5, ev_wres (e'.trans s' ee5) hD, hO5, hS5, upd_same, by rw [List.length_append]; exact Nat.add_le_add hl (Nat.le_refl 1), (hr5.append (.cons r5 .nil)).mono (mo_write hH5 hO5), q5.2⟩
  · left
    have ei : i = ds.length := by omega
    subst ei
    rw [List.drop_length] at q
    exact ⟨it.stop _ S' O' H' s' (e'.mo s1) q.1 rfl, k Dl accv H' acc S' O' (e1.there _ hD) hO hS hH (by omega) hr s' (e1.trans s1 e') q.2⟩
end
end DL

/-! DL8: comprehensions of two clauses; statements. -/
namespace DL
open PySem PySem.Spec PyProof.Rows L2
section
variable {L : Lnk} {K : PySem.W.Frag} {W : WX} {X : Cx} {w wa wb wc : WE'} {ta tb tc : TE}
theorem rl_comp2 {W' : WX} {wi wi1 : TI} {g g1 : TG} {tt tt1 : TT} {te : TE} {vs vs1 ts ts1 : List Nat} {wI wI1 : WI} {wG wG1 : WG} {wT wT1 : WTs} {wE : WE'} (hI : RI L K W wi wI) (hG : RG L K W' ts g wG) (hT : RTs L K W' tt wT)
    (hI1 : RI L K W' wi1 wI1) (hG1 : RG L K W' ts1 g1 wG1) (hT1 : RTs L K W' tt1 wT1) (hE : RE L K W' te wE) (hv : ∀ v ∈ ts, v ∈ vs) (hv1 : ∀ v ∈ ts1, v ∈ vs1) :
    RL L K W (tLc2 wi g tt wi1 g1 tt1 te vs vs1) fun ρ S R Q => wI ρ S R fun ds C S1 =>
      compO (fun d ρ S K => wG d ρ S xNo K) wT (fun ρ S acc K => wI1 ρ S xNo fun ds2 C2 S2 => compL (fun d ρ S K => wG1 d ρ S xNo K) wT1 (fun ρ S K => wE ρ S xNo K) (fun acc => acc.length < sizeLine) C2 K (delVs ρ vs1) ds2 S2 acc) C Q (delVs ρ vs) ds S1 [] := fun σ H ρ S O R Q Q' A hw k => by
  refine hI σ H ρ S O R _ _ A hw fun J H1 ds C S1 O1 it z s1 e1 q1 => ?_
  intro Dl hD
  have env1 : REnv K O1 H1 (delVs ρ vs) (wipe σ vs) := (A.env.mono (A.mo e1)).dels vs
  refine ⟨fun i m H' => m = ds.length - i ∧ i ≤ ds.length ∧ ∃ S' O' acc accv, Sok K S' O' H' ∧ Ev S1 O1 H1 S' O' H' ∧ O' Dl ∧ S' Dl = none ∧ H' Dl = some (.lst accv) ∧ accv.length ≤ sizeLine ∧ Rps K O' H' accv acc ∧
      compO (fun d ρ S K => wG d ρ S xNo K) wT (fun ρ S acc K => wI1 ρ S xNo fun ds2 C2 S2 => compL (fun d ρ S K => wG1 d ρ S xNo K) wT1 (fun ρ S K => wE ρ S xNo K) (fun acc => acc.length < sizeLine) C2 K (delVs ρ vs1) ds2 S2 acc) C Q (delVs ρ vs) (ds.drop i) S' acc,
    ⟨ds.length, rfl, Nat.zero_le _, S1, oadd O1 Dl, [], [], s1.resv hD, ev_res hD s1, .inr rfl, s1.noneH hD, upd_same, Nat.zero_le _, .nil, q1⟩, ?_⟩
  rintro i m H' ⟨rfl, hi, S', O', acc, accv, s', e', hO, hS, hH, hl, hr, q⟩
  by_cases hlt : i < ds.length
  · right
    rw [drop_cons hlt] at q
    obtain ⟨c, q⟩ := q
    obtain ⟨go, yl⟩ := it.go i S' O' H' s' (e'.mo s1) c hlt
    refine ⟨go, fun H2 => ∃ m', m' < ds.length - i ∧ _, fun H2 h => h, fun x H2 y => ?_⟩
    obtain ⟨d, hd, rx, s2, e2⟩ := yl x H2 y
    rw [List.getElem?_eq_getElem hlt] at hd
    cases hd
    have ee2 := e'.trans s' e2
    refine hG x _ (wipe σ vs) H2 (delVs ρ vs) S' O' _ _ (At.no s2 (env1.mono (ee2.mo s1))) rx q fun σ3 H3 ρ3 S3 O3 s3 e3 n3 i3 q3 => ?_
    have ee3 := e2.trans s2 e3
    refine ⟨by rw [i3 vs hv, wipe_idem], ?_⟩
    refine hT σ3 H3 ρ3 S3 O3 _ _ (At.no s3 n3) q3 fun b H4 S4 O4 s4 e4 q4 => ?_
    have ee4 := ee3.trans s3 e4
    have hO4 := (ee4.res _ hO hS).1
    have hS4 := (ee4.res _ hO hS).2
    have hH4 := ee4.keep _ _ hH hS
    have hr4 := hr.mono (ee4.mo s')
    have eS4 := e'.trans s' ee4
    cases b with
    | false =>
      rw [if_neg Bool.false_ne_true] at q4 ⊢
      exact ⟨ds.length - (i + 1), by omega, rfl, hlt, S4, O4, acc, accv, s4, eS4, hO4, hS4, hH4, hl, hr4, q4⟩
    | true =>
      rw [if_pos rfl] at q4 ⊢
      have n4 := n3.mono (e4.mo s3)
      refine hI1 σ3 H4 ρ3 S4 O4 xNo _ _ (At.no s4 n4) q4 fun J1 H5 ds2 C2 S5 O5 it1 z1 s5 e5 q5 => ?_
      have ee5 := ee4.trans s4 e5
      have eS5 := e'.trans s' ee5
      have n5 : REnv K O5 H5 (delVs ρ3 vs1) (wipe σ3 vs1) := (n4.mono (e5.mo s4)).dels vs1
      refine ⟨fun j k' H6 => k' = ds2.length - j ∧ j ≤ ds2.length ∧ ∃ S6 O6 acc6 accv6, Sok K S6 O6 H6 ∧ Ev S1 O1 H1 S6 O6 H6 ∧ Mo O5 H5 O6 H6 ∧ O6 Dl ∧ S6 Dl = none ∧ H6 Dl = some (.lst accv6) ∧ accv6.length ≤ sizeLine ∧ Rps K O6 H6 accv6 acc6 ∧
          compL (fun d ρ S K => wG1 d ρ S xNo K) wT1 (fun ρ S K => wE ρ S xNo K) (fun acc => acc.length < sizeLine) C2 (fun acc' S3 => compO (fun d ρ S K => wG d ρ S xNo K) wT (fun ρ S acc K => wI1 ρ S xNo fun ds2 C2 S2 => compL (fun d ρ S K => wG1 d ρ S xNo K) wT1 (fun ρ S K => wE ρ S xNo K) (fun acc => acc.length < sizeLine) C2 K (delVs ρ vs1) ds2 S2 acc) C Q (delVs ρ vs) (ds.drop (i + 1)) S3 acc') (delVs ρ3 vs1) (ds2.drop j) S6 acc6,
        ⟨ds2.length, rfl, Nat.zero_le _, S5, O5, acc, accv, s5, eS5, .refl, (ee5.res _ hO hS).1, (ee5.res _ hO hS).2, ee5.keep _ _ hH hS, hl, hr.mono (ee5.mo s'), q5⟩, ?_⟩
      rintro j k' H6 ⟨rfl, hj, S6, O6, acc6, accv6, s6, eS6, m6, hO6, hS6, hH6, hl6, hr6, q6⟩
      by_cases hlt1 : j < ds2.length
      · right
        rw [drop_cons hlt1] at q6
        obtain ⟨c6, q6⟩ := q6
        obtain ⟨go1, yl1⟩ := it1.go j S6 O6 H6 s6 m6 c6 hlt1
        refine ⟨go1, fun H7 => ∃ k'', k'' < ds2.length - j ∧ _, fun H7 h => h, fun x7 H7 y7 => ?_⟩
        obtain ⟨d7, hd7, rx7, s7, e7⟩ := yl1 x7 H7 y7
        rw [List.getElem?_eq_getElem hlt1] at hd7
        cases hd7
        have m7 : Mo O5 H5 O6 H7 := ⟨fun a u h n => (e7.mo s6).k a u (m6.k a u h n) (fun z => n (m6.o a u h z)), fun a u h n => (e7.mo s6).t a u (m6.t a u h n) n, fun a u h z => m6.o a u h z⟩
        refine hG1 x7 _ (wipe σ3 vs1) H7 (delVs ρ3 vs1) S6 O6 _ _ (At.no s7 (n5.mono m7)) rx7 q6 fun σ8 H8 ρ8 S8 O8 s8 e8 n8 i8 q8 => ?_
        have ee8 := e7.trans s7 e8
        refine ⟨by rw [i8 vs1 hv1, wipe_idem], ?_⟩
        refine hT1 σ8 H8 ρ8 S8 O8 _ _ (At.no s8 n8) q8 fun b H9 S9 O9 s9 e9 q9 => ?_
        have ee9 := ee8.trans s8 e9
        have mtr : ∀ {O2 : Ow} {H2 : Hp}, Mo O6 H6 O2 H2 → Mo O5 H5 O2 H2 := fun {O2 H2} m => ⟨fun a u h n => m.k a u (m6.k a u h n) (fun z => n (m6.o a u h z)), fun a u h n => m.t a u (m6.t a u h n) n, fun a u h z => by
          cases q : H6 a with
          | none => by_cases ho : O5 a
                    · exact ho
                    · rw [m6.k a _ h ho] at q; cases q
          | some u' =>
            have := m.o a u' q z
            exact m6.o a u h this⟩
        cases b with
        | false =>
          rw [if_neg Bool.false_ne_true] at q9 ⊢
          exact ⟨ds2.length - (j + 1), by omega, rfl, hlt1, S9, O9, acc6, accv6, s9, eS6.trans s6 ee9, mtr (ee9.mo s6), (ee9.res _ hO6 hS6).1, (ee9.res _ hO6 hS6).2, ee9.keep _ _ hH6 hS6, hl6, hr6.mono (ee9.mo s6), q9⟩
        | true =>
          rw [if_pos rfl] at q9 ⊢
          refine hE.go (At.no s9 (n8.mono (e9.mo s8))) q9 fun y H10 dy S10 O10 r10 A10 e10 q10 => ?_
          have ee10 := ee9.trans s9 e10
          have hO10 := (ee10.res _ hO6 hS6).1
          have hS10 := (ee10.res _ hO6 hS6).2
          have hH10 := ee10.keep _ _ hH6 hS6
          have hr10 := hr6.mono (ee10.mo s6)
          have hlen : accv6.length < sizeLine := by rw [hr6.len]; exact q10.1
          refine ⟨accv6, hH10, hlen, ds2.length - (j + 1), by omega, rfl, hlt1, S10, O10, acc6 ++ [dy], accv6 ++ [y], A10.sok.wres hH10 hO10 hS10, ev_wres (eS6.trans s6 ee10) hD, ?_, hO10, hS10, upd_same, by rw [List.length_append]; exact hlen, (hr10.append (.cons r10 .nil)).mono (mo_write hH10 hO10), q10.2⟩
          have mm := mtr (ee10.mo s6)
          have dl5 : ∀ a u, H5 a = some u → ¬ O5 a → a ≠ Dl := fun a u h n e => by
            subst e
            exact n (m6.o _ u h hO6)
          exact ⟨fun a u h n => by rw [upd_ne (dl5 a u h n)]; exact mm.k a u h n, fun a u h n => by
            rw [upd_ne fun e => ?_]
            · exact mm.t a u h n
            · subst e
              have := mm.t _ u h n
              rw [hH10] at this; cases this; exact imm_lst n, mm.o⟩
      · left
        have ej : j = ds2.length := by omega
        subst ej
        rw [List.drop_length] at q6
        refine ⟨it1.stop _ S6 O6 H6 s6 m6 q6.1 rfl, ds.length - (i + 1), by omega, rfl, hlt, S6, O6, acc6, accv6, s6, eS6, hO6, hS6, hH6, hl6, hr6, q6.2⟩
  · left
    have ei : i = ds.length := by omega
    subst ei
    rw [List.drop_length] at q
    exact ⟨it.stop _ S' O' H' s' (e'.mo s1) q.1 rfl, k Dl accv H' acc S' O' (e1.there _ hD) hO hS hH hl hr s' (e1.trans s1 e') q.2⟩

/-! ### statements -/
structure AtS (L : Lnk) (K : PySem.W.Frag) (W : WX) (σ : L2.St) (H : Hp) (ρ : Env) (S : Sto) (O : Ow) (X : XS) : Prop where
  sok : Sok K S O H
  env : REnv K O H ρ σ
  x : ∀ k d σ' ρ' S' O' H' c dd, Sok K S' O' H' → Ev S O H S' O' H' → REnv K O' H' ρ' σ' → L.xr O' H' k d c dd → X k d ρ' S' → W c dd σ' H'
/-- the wanted ends, over data, of a state (S, O, H) on -/
structure EndsOk (K : PySem.W.Frag) (S : Sto) (O : Ow) (H : Hp) (E : DEnd) (D : Ends) : Prop where
  nx : ∀ σ' H' ρ' S' O', Sok K S' O' H' → Ev S O H S' O' H' → REnv K O' H' ρ' σ' → E.nx ρ' S' → D.nx σ' H'
  rt : ∀ v H' d S' O', Rp K O' H' v d → Sok K S' O' H' → Ev S O H S' O' H' → E.rt d S' → D.rt v H'
  bk : ∀ σ' H' ρ' S' O', Sok K S' O' H' → Ev S O H S' O' H' → REnv K O' H' ρ' σ' → E.bk ρ' S' → D.bk σ' H'
  ct : ∀ σ' H' ρ' S' O', Sok K S' O' H' → Ev S O H S' O' H' → REnv K O' H' ρ' σ' → E.ct ρ' S' → D.ct σ' H'
abbrev WS' := DEnd → XS → Env → Sto → Prop
def RS (L : Lnk) (K : PySem.W.Frag) (W : WX) (t : TS) (w : WS') : Prop :=
  ∀ (σ : L2.St) (H : Hp) (ρ : Env) (S : Sto) (O : Ow) (X : XS) (E : DEnd) (D : Ends), AtS L K W σ H ρ S O X → w E X ρ S → EndsOk K S O H E D → t D σ H
def tOS (L : Lnk) (K : PySem.W.Frag) (W : WX) (w : WS') : TS := fun D σ H => ∃ ρ S O X E, AtS L K W σ H ρ S O X ∧ w E X ρ S ∧ EndsOk K S O H E D
theorem rs_tO {w : WS'} : RS L K W (tOS L K W w) w := fun σ H ρ S O X E D A hw k => ⟨ρ, S, O, X, E, A, hw, k⟩
theorem _root_.L2.PS.can {st : Stmt} {t : TS} {w : WS'} (h : PS X st t) (r : RS L K W t w) : PS X st (tOS L K W w) := ⟨fun pins s σ H D I ⟨ρ, S, O, XX, E, A, hw, k⟩ => h.run pins s σ H D I (r σ H ρ S O XX E D A hw k)⟩
theorem _root_.L2.PSs.can {st : List Stmt} {t : TS} {w : WS'} (h : PSs X st t) (r : RS L K W t w) : PSs X st (tOS L K W w) := ⟨fun pins s σ H D I ⟨ρ, S, O, XX, E, A, hw, k⟩ => h.run pins s σ H D I (r σ H ρ S O XX E D A hw k)⟩
section
variable {σ : L2.St} {H H1 : Hp} {ρ ρ1 : Env} {S S1 : Sto} {O O1 : Ow} {XX : XS} {E : DEnd} {D : Ends}
theorem AtS.ex (A : AtS L K W σ H ρ S O XX) : At L K W σ H ρ S O (fun k d S => XX k d ρ S) :=
  ⟨A.sok, A.env, fun k d S' O' H' c dd s e x r => A.x k d σ ρ S' O' H' c dd s e (A.env.mono (e.mo A.sok)) x r⟩
theorem AtS.next {σ1 : L2.St} (A : AtS L K W σ H ρ S O XX) (s : Sok K S1 O1 H1) (e : Ev S O H S1 O1 H1) (n : REnv K O1 H1 ρ1 σ1) : AtS L K W σ1 H1 ρ1 S1 O1 XX :=
  ⟨s, n, fun k d σ' ρ' S' O' H' c dd s' e' n' x r => A.x k d σ' ρ' S' O' H' c dd s' (e.trans s e') n' x r⟩
theorem EndsOk.next (k : EndsOk K S O H E D) (s : Sok K S1 O1 H1) (e : Ev S O H S1 O1 H1) : EndsOk K S1 O1 H1 E D :=
  ⟨fun σ' H' ρ' S' O' s' e' n q => k.nx σ' H' ρ' S' O' s' (e.trans s e') n q, fun v H' d S' O' r s' e' q => k.rt v H' d S' O' r s' (e.trans s e') q, fun σ' H' ρ' S' O' s' e' n q => k.bk σ' H' ρ' S' O' s' (e.trans s e') n q, fun σ' H' ρ' S' O' s' e' n q => k.ct σ' H' ρ' S' O' s' (e.trans s e') n q⟩
end
theorem rs_asg {te : TE} {g : TG} {vs : List Nat} {wG : WG} (h : RE L K W te w) (hg : RG L K W vs g wG) : RS L K W (tAsg te g) fun E X ρ S => w ρ S (fun k d S => X k d ρ S) fun d S1 => wG d ρ S1 xNo E.nx := fun σ H ρ S O X E D A hw k => by
  refine h.go A.ex hw fun v H1 d S1 O1 r1 A1 e1 q1 => ?_
  exact hg v d σ H1 ρ S1 O1 _ _ (At.no A1.sok A1.env) r1 q1 fun σ2 H2 ρ2 S2 O2 s2 e2 n2 _ q2 => k.nx σ2 H2 ρ2 S2 O2 s2 (e1.trans A1.sok e2) n2 q2
theorem rs_ret {te : TE} (h : RE L K W te w) : RS L K W (tRet te) fun E X ρ S => w ρ S (fun k d S => X k d ρ S) fun d S1 => E.rt d S1 := fun σ H ρ S O X E D A hw k =>
  h.go A.ex hw fun v H1 d S1 O1 r1 A1 e1 q1 => k.rt v H1 d S1 O1 r1 A1.sok e1 q1
theorem rs_retF {te : TE} (h : RE L K W te w) : RS L K W (tRet te) fun E X ρ S => w ρ S (fun k d S => X k d ρ S) fun d S1 => ∃ p ds, d = .ref p ∧ S1 p = some (.lst ds) ∧ E.rt (.lst ds) (sdel S1 p) := fun σ H ρ S O X E D A hw k => by
  refine h.go A.ex hw fun v H1 d S1 O1 r1 A1 e1 q1 => ?_
  obtain ⟨p, ds, rfl, hs, q⟩ := q1
  cases r1
  obtain ⟨ho, xs, h1, z, h2⟩ := A1.sok.dom _ _ hs
  have s' : Sok K (sdel S1 p) (orem O1 p) H1 := A1.sok.sdel.free sdel_same
  refine k.rt _ H1 _ _ (orem O1 p) (.lst h1 (fun q => q.2 rfl) z (h2.mono mo_free)) s' ⟨e1.keep, fun a h => e1.own a h.1, fun a h n => ?_, e1.there⟩ q
  have := e1.res a h n
  have ne : a ≠ p := fun q => by rw [q] at this; rw [hs] at this; cases this.2
  exact ⟨⟨this.1, ne⟩, by rw [sdel_ne ne]; exact this.2⟩
theorem rs_retN : RS L K W tRetN fun E _ _ S => E.rt .non S := fun σ H ρ S O X E D A hw k => k.rt _ H _ S O .non A.sok .refl hw
theorem rs_ex {te : TE} (h : RE L K W te w) : RS L K W (tDrop te) fun E X ρ S => w ρ S (fun k d S => X k d ρ S) fun _ S1 => E.nx ρ S1 := fun σ H ρ S O X E D A hw k =>
  h.go A.ex hw fun v H1 d S1 O1 r1 A1 e1 q1 => k.nx σ H1 ρ S1 O1 A1.sok e1 A1.env q1
theorem rs_nx : RS L K W tNext fun E _ ρ S => E.nx ρ S := fun σ H ρ S O X E D A hw k => k.nx σ H ρ S O A.sok .refl A.env hw
theorem rs_bk : RS L K W tBreak fun E _ ρ S => E.bk ρ S := fun σ H ρ S O X E D A hw k => k.bk σ H ρ S O A.sok .refl A.env hw
theorem rs_ct : RS L K W tCont fun E _ ρ S => E.ct ρ S := fun σ H ρ S O X E D A hw k => k.ct σ H ρ S O A.sok .refl A.env hw
theorem rs_seq {t u : TS} {w1 w2 : WS'} (h1 : RS L K W t w1) (h2 : RS L K W u w2) : RS L K W (tSeq t u) fun E X ρ S => w1 { E with nx := w2 E X } X ρ S := fun σ H ρ S O X E D A hw k =>
  h1 σ H ρ S O X _ _ A hw ⟨fun σ' H' ρ' S' O' s e n q => h2 σ' H' ρ' S' O' X E D (A.next s e n) q (k.next s e), k.rt, k.bk, k.ct⟩
theorem rs_if {c : TT} {t u : TS} {w1 w2 : WS'} (hc : RT L K W c w) (h1 : RS L K W t w1) (h2 : RS L K W u w2) : RS L K W (tIfS c t u) fun E X ρ S => w ρ S (fun k d S => X k d ρ S) fun d S1 => tstD d fun z => if z = true then w1 E X ρ S1 else w2 E X ρ S1 := fun σ H ρ S O X E D A hw k => by
  refine hc.go (Q := fun z S1 => if z = true then w1 E X ρ S1 else w2 E X ρ S1) A.ex hw fun b H1 S1 O1 A1 e1 q => ?_
  cases b with
  | true => exact h1 σ H1 ρ S1 O1 X E D (A.next A1.sok e1 A1.env) q (k.next A1.sok e1)
  | false => exact h2 σ H1 ρ S1 O1 X E D (A.next A1.sok e1 A1.env) q (k.next A1.sok e1)
theorem rs_whl {c : TT} {t : TS} {w1 : WS'} (hc : RT L K W c w) (h1 : RS L K W t w1) : RS L K W (tWhile c t) fun E X ρ S => ∃ W : Nat → Env → Sto → Prop, (∃ m, W m ρ S) ∧ ∀ m ρ S, W m ρ S → w ρ S (fun k d S => X k d ρ S) fun d S1 => tstD d fun z =>
      if z = true then w1 { nx := fun ρ' S' => ∃ m', m' < m ∧ W m' ρ' S', ct := fun ρ' S' => ∃ m', m' < m ∧ W m' ρ' S', bk := E.nx, rt := E.rt } X ρ S1 else E.nx ρ S1 := fun σ H ρ S O X E D A hw k => by
  obtain ⟨Wd, ⟨m0, w0⟩, turn⟩ := hw
  refine ⟨fun m σ' H' => ∃ ρ' S' O', Sok K S' O' H' ∧ Ev S O H S' O' H' ∧ REnv K O' H' ρ' σ' ∧ Wd m ρ' S', ⟨m0, ρ, S, O, A.sok, .refl, A.env, w0⟩, ?_⟩
  rintro m σ' H' ⟨ρ', S', O', s', e', n', w'⟩
  have A' := A.next s' e' n'
  refine hc.go (Q := fun z S1 => if z = true then w1 { nx := fun ρ' S' => ∃ m', m' < m ∧ Wd m' ρ' S', ct := fun ρ' S' => ∃ m', m' < m ∧ Wd m' ρ' S', bk := E.nx, rt := E.rt } X ρ' S1 else E.nx ρ' S1) A'.ex (turn m ρ' S' w') fun b H1 S1 O1 A1 e1 q => ?_
  have ee := e'.trans s' e1
  cases b with
  | false => exact k.nx σ' H1 ρ' S1 O1 A1.sok ee A1.env q
  | true =>
    rw [if_pos rfl] at q ⊢
    refine ⟨fun σ2 H2 => ∃ m', m' < m ∧ ∃ ρ' S' O', Sok K S' O' H2 ∧ Ev S O H S' O' H2 ∧ REnv K O' H2 ρ' σ2 ∧ Wd m' ρ' S', fun σ2 H2 h => h, ?_⟩
    refine h1 σ' H1 ρ' S1 O1 X _ _ (A.next A1.sok ee A1.env) q ⟨fun σ2 H2 ρ2 S2 O2 s2 e2 n2 q2 => ?_, (k.next A1.sok ee).rt, (k.next A1.sok ee).nx, fun σ2 H2 ρ2 S2 O2 s2 e2 n2 q2 => ?_⟩
    · obtain ⟨m', hm, q2⟩ := q2
      exact ⟨m', hm, ρ2, S2, O2, s2, ee.trans A1.sok e2, n2, q2⟩
    · obtain ⟨m', hm, q2⟩ := q2
      exact ⟨m', hm, ρ2, S2, O2, s2, ee.trans A1.sok e2, n2, q2⟩
theorem rs_for {wi : TI} {g : TG} {tb : TS} {ts : List Nat} {wI : WI} {wG : WG} {wB : WS'} (hI : RI L K W wi wI) (hG : RG L K W ts g wG) (hB : RS L K W tb wB) :
    RS L K W (tFor wi g tb) fun E X ρ S => wI ρ S (fun k d S => X k d ρ S) fun ds C S1 => forL (fun d ρ S K => wG d ρ S xNo K) (fun E' ρ S => wB E' X ρ S) C E ds ρ S1 := fun σ H ρ S O X E D A hw k => by
  refine hI σ H ρ S O _ _ _ A.ex hw fun J H1 ds C S1 O1 it z s1 e1 q1 => ?_
  refine ⟨fun i m σ' H' => m = ds.length - i ∧ i ≤ ds.length ∧ ∃ ρ' S' O', Sok K S' O' H' ∧ Ev S1 O1 H1 S' O' H' ∧ REnv K O' H' ρ' σ' ∧ forL (fun d ρ S K => wG d ρ S xNo K) (fun E' ρ S => wB E' X ρ S) C E (ds.drop i) ρ' S',
    ⟨ds.length, rfl, Nat.zero_le _, ρ, S1, O1, s1, .refl, A.env.mono (e1.mo A.sok), q1⟩, ?_⟩
  rintro i m σ' H' ⟨rfl, hi, ρ', S', O', s', e', n', q⟩
  have et := e1.trans s1 e'
  by_cases hlt : i < ds.length
  · right
    rw [drop_cons hlt] at q
    obtain ⟨c, q⟩ := q
    obtain ⟨go, yl⟩ := it.go i S' O' H' s' (e'.mo s1) c hlt
    refine ⟨go, fun σ2 H2 => ∃ m', m' < ds.length - i ∧ _, fun σ2 H2 h => h, fun x H2 y => ?_⟩
    obtain ⟨d, hd, rx, s2, e2⟩ := yl x H2 y
    rw [List.getElem?_eq_getElem hlt] at hd
    cases hd
    refine hG x _ σ' H2 ρ' S' O' _ _ (At.no s2 (n'.mono (e2.mo s'))) rx q fun σ3 H3 ρ3 S3 O3 s3 e3 n3 i3 q3 => ?_
    have ee3 := (et.trans s' e2).trans s2 e3
    have ei3 := (e'.trans s' e2).trans s2 e3
    have k3 := k.next s3 ee3
    refine hB σ3 H3 ρ3 S3 O3 X _ _ (A.next s3 ee3 n3) q3 ⟨fun σ4 H4 ρ4 S4 O4 s4 e4 n4 q4 => ?_, k3.rt, k3.nx, fun σ4 H4 ρ4 S4 O4 s4 e4 n4 q4 => ?_⟩
    · exact ⟨ds.length - (i + 1), by omega, rfl, hlt, ρ4, S4, O4, s4, ei3.trans s3 e4, n4, q4⟩
    · exact ⟨ds.length - (i + 1), by omega, rfl, hlt, ρ4, S4, O4, s4, ei3.trans s3 e4, n4, q4⟩
  · left
    have ei : i = ds.length := by omega
    subst ei
    rw [List.drop_length] at q
    exact ⟨it.stop _ S' O' H' s' (e'.mo s1) q.1 rfl, k.nx σ' H' ρ' S' O' s' et n' q.2⟩
theorem rs_aug {i : Nat} {te : TE} {op : BOp} {r : R2} (h : RE L K W te w) (hr : Hr K r fun _ dx dy P => ∃ a b, dx = .int a ∧ dy = .int b ∧ binD op dx dy P) : RS L K W (tAug i te r) fun E X ρ S => match getV ρ i with
    | some x => w ρ S (fun k d S => X k d ρ S) fun y S1 => ∃ a b, x = .int a ∧ y = .int b ∧ binD op x y fun z => E.nx (setV ρ i z) S1
    | none => False := fun σ H ρ S O X E D A hw k => by
  cases e : getV ρ i with
  | none => simp only [e] at hw
  | some x =>
    simp only [e] at hw
    obtain ⟨v, hv, rv⟩ := A.env.get e
    refine ⟨v, hv, h.go A.ex hw fun y H1 dy S1 O1 r1 A1 e1 q1 => ?_⟩
    refine hr v y x dy H1 S1 O1 (fun z => E.nx (setV ρ i z) S1) _ A1.sok (rv.mono (e1.mo A.sok)) r1 q1 fun z H2 dz r2 s2 e2 q2 => ?_
    exact k.nx _ H2 _ S1 O1 s2 (e1.trans A1.sok e2) ((A1.env.mono (e2.mo A1.sok)).set i r2) q2
end
end DL

/-! DL9: own rules: tuple[lo:hi:step]; if-expressions as tests; calls without arguments; built-ins over data. -/
namespace DL
open PySem PySem.Spec PyProof.Rows L2
section
variable {prog : Program} {w : World} {A : Around} {E : Value → Shared → Prop} {s : Shared}
theorem sliceApplied_step {sl : Addr} {vl vu vs : Value} {lo hi : Option Int} {st : Int} {n : Nat} {Q : Int × Int × Nat → Shared → Prop} (hs : s.heap.IsSliceOf sl vl vu vs) (pl : IsPart vl lo) (pu : IsPart vu hi) (ps : IsPart vs (some st)) (h0 : st ≠ 0)
    (h : Q ((Builtin.Slice.sliceAdjust lo hi st (n : Int)).1, st, Builtin.Slice.slicePlaces (Builtin.Slice.sliceAdjust lo hi st (n : Int)).1 (Builtin.Slice.sliceAdjust lo hi st (n : Int)).2 st) s) : wpAny (model prog w) A (Builtin.Slice.sliceApplied (.ref sl) (pure (n : Int))) Q E s := by
  obtain ⟨os, hos, hcs, hds⟩ := id hs
  unfold Builtin.Slice.sliceApplied Builtin.Slice.sliceFields
  refine wpAny_bind (wpAny_bind (wpAny_field hos hds (x := vl) rfl (wpAny_bind (wpAny_field hos hds (x := vu) rfl (wpAny_bind (wpAny_field hos hds (x := vs) rfl (wpAny_pure ?_)))))))
  refine wpAny_bind (HT.slicePart_ ps ?_)
  show wpAny _ _ (if (st == 0) = true then _ else _) _ _ s
  rw [if_neg (by simpa using h0)]
  refine wpAny_bind (HT.slicePart_ pl (wpAny_bind (HT.slicePart_ pu (wpAny_bind (wpAny_pure ?_)))))
  show wpAny _ _ (match Builtin.Slice.sliceAdjust lo hi st (n : Int) with | (lo, hi) => pure (lo, st, Builtin.Slice.slicePlaces lo hi st)) _ _ s
  exact wpAny_pure h
theorem adj_pos (lo hi : Option Int) (st : Int) (n : Nat) (h : 0 < st) : 0 ≤ (Builtin.Slice.sliceAdjust lo hi st (n : Int)).1 ∧ (Builtin.Slice.sliceAdjust lo hi st (n : Int)).2 ≤ n := by
  have hn : ¬ st < 0 := by omega
  unfold Builtin.Slice.sliceAdjust
  simp only [hn, if_false]
  cases lo <;> cases hi <;> simp only [] <;> constructor <;> (try split) <;> omega
theorem adj_neg (lo hi : Option Int) (st : Int) (n : Nat) (h : st < 0) : (Builtin.Slice.sliceAdjust lo hi st (n : Int)).1 ≤ (n : Int) - 1 ∧ -1 ≤ (Builtin.Slice.sliceAdjust lo hi st (n : Int)).2 := by
  unfold Builtin.Slice.sliceAdjust
  simp only [h, if_true]
  cases lo <;> cases hi <;> simp only [] <;> constructor <;> (try split) <;> omega
theorem places_le (lo hi : Option Int) (st : Int) (n : Nat) (h0 : st ≠ 0) : Builtin.Slice.slicePlaces (Builtin.Slice.sliceAdjust lo hi st (n : Int)).1 (Builtin.Slice.sliceAdjust lo hi st (n : Int)).2 st ≤ n := by
  have key : ∀ (d k : Int), 1 ≤ k → 0 < d → d ≤ n → (d - 1) / k + 1 ≤ n := fun d k hk h1 h2 => by
    have := Int.ediv_le_self (a := d - 1) k (by omega)
    omega
  unfold Builtin.Slice.slicePlaces
  by_cases hp : st > 0
  · obtain ⟨ha, hb⟩ := adj_pos lo hi st n hp
    revert ha hb
    generalize (Builtin.Slice.sliceAdjust lo hi st (n : Int)).1 = a
    generalize (Builtin.Slice.sliceAdjust lo hi st (n : Int)).2 = b
    intro ha hb
    simp only [hp, if_true]
    split
    · have := key (b - a) st (by omega) (by omega) (by omega)
      omega
    · simp
  · have hn : st < 0 := by omega
    obtain ⟨ha, hb⟩ := adj_neg lo hi st n hn
    revert ha hb
    generalize (Builtin.Slice.sliceAdjust lo hi st (n : Int)).1 = a
    generalize (Builtin.Slice.sliceAdjust lo hi st (n : Int)).2 = b
    intro ha hb
    simp only [hp, if_false]
    split
    · have := key (a - b) (-st) (by omega) (by omega) (by omega)
      omega
    · simp
theorem pick_len {α : Type} (xs : List α) (lo hi : Option Int) (st : Int) (h0 : st ≠ 0) : (pick xs lo hi st).length ≤ xs.length := by
  unfold pick
  refine Nat.le_trans (List.length_filterMap_le _ _) ?_
  rw [List.length_range]
  exact places_le lo hi st xs.length h0
theorem getItem_tuple_step {t sl : Addr} {its : List Value} {vl vu vs : Value} {lo hi : Option Int} {st : Int} {Q : Value → Shared → Prop} (ht : IsTup s.heap t its.toArray) (hs : s.heap.IsSliceOf sl vl vu vs) (pl : IsPart vl lo) (pu : IsPart vu hi) (ps : IsPart vs (some st)) (h0 : st ≠ 0) (h1 : st ≠ 1)
    (h : Q (.ref s.heap.objs.size) { s with heap := s.heap.push { cls := .type "tuple", data := .seq (pick its lo hi st).toArray } })
    (hsz : its.length ≤ sizeLine) : wpAny (model prog w) A (getItem (.ref t) (.ref sl)) Q E s := by
  have htake : sizeOk (.seq (pick its lo hi st).toArray) := by
    show (pick its lo hi st).toArray.size ≤ sizeLine
    rw [List.size_toArray]
    exact Nat.le_trans (pick_len its lo hi st h0) hsz
  obtain ⟨os, hos, hcs, hds⟩ := id hs
  have hTs : s.TypeIs (.ref sl) "slice" := ⟨os, hos, hcs⟩
  unfold getItem
  try with_reducible refine wpAny_holding ?_
  first | refine wpAny_bind (wpAny_pure ?_) | skip
  refine wpAny_bind (wpAny_sequenceKey ht.typeIs (by decide) ?_)
  refine wpAny_bind (wpAny_callSpecial?_slot (name := Str.ofString "__getitem__") ht.typeIs PyProof.Rows.slot_tuple_getitem
    (wpAny_call_entry PyProof.Rows.slot_tuple_getitem ht.typeIs entry_tuple_getitem ?_ (args_tuple_getitem _ _)))
  show wpAny _ _ (Builtin.Tuple.tupleItemsOf (.ref t) >>= _) _ _ s
  refine wpAny_bind (tupleItemsOf_ ht ?_)
  refine wpAny_bind (wpAny_typeOf hTs ?_)
  rw [if_pos (by decide)]
  refine wpAny_bind (sliceApplied_step hs pl pu ps h0 ?_)
  have hno : ¬ (((Builtin.Slice.sliceAdjust lo hi st (its.toArray.size : Int)).1 == 0 && st == 1 && Builtin.Slice.slicePlaces (Builtin.Slice.sliceAdjust lo hi st (its.toArray.size : Int)).1 (Builtin.Slice.sliceAdjust lo hi st (its.toArray.size : Int)).2 st == its.toArray.size) = true) := by
    intro q
    rw [Bool.and_eq_true, Bool.and_eq_true] at q
    exact h1 (eq_of_beq q.1.2)
  show wpAny _ _ (if ((Builtin.Slice.sliceAdjust lo hi st (its.toArray.size : Int)).1 == 0 && st == 1 && Builtin.Slice.slicePlaces (Builtin.Slice.sliceAdjust lo hi st (its.toArray.size : Int)).1 (Builtin.Slice.sliceAdjust lo hi st (its.toArray.size : Int)).2 st == its.toArray.size) = true then _ else _) _ _ s
  rw [if_neg hno]
  have e : ((List.range (Builtin.Slice.slicePlaces (Builtin.Slice.sliceAdjust lo hi st (its.toArray.size : Int)).1 (Builtin.Slice.sliceAdjust lo hi st (its.toArray.size : Int)).2 st)).filterMap fun (k : Nat) => its.toArray[((Builtin.Slice.sliceAdjust lo hi st (its.toArray.size : Int)).1 + (k : Int) * st).toNat]?).toArray = (pick its lo hi st).toArray := by
    simp [pick]
  rw [e]
  first
    | exact wpAny_bind (m := Builtin.Tuple.tupleExact _) (wpAny_newObj_type (wpAny_pure ⟨_, rfl, wpAny_pure h⟩) htake)
    | exact wpAny_bind (m := Builtin.Tuple.tupleExact _) (wpAny_newObj_type (wpAny_bind (wpAny_pure (wpAny_pure ⟨_, rfl, wpAny_pure h⟩))) htake)
    | exact wpAny_bind (wpAny_bind (m := Builtin.Tuple.tupleExact _) (wpAny_newObj_type (wpAny_pure (wpAny_pure ⟨_, rfl, wpAny_pure h⟩)) htake))
    | exact wpAny_bind (wpAny_bind (m := Builtin.Tuple.tupleExact _) (wpAny_newObj_type (wpAny_pure ⟨_, rfl, wpAny_pure h⟩) htake))
end
theorem filterMap_two {α β : Type} {R : α → β → Prop} {f : Nat → Option α} {g : Nat → Option β} (h : ∀ k, (f k = none ∧ g k = none) ∨ ∃ a b, f k = some a ∧ g k = some b ∧ R a b) : ∀ l : List Nat, Paired R (l.filterMap f) (l.filterMap g)
  | [] => .nil
  | k :: l => by
    rcases h k with ⟨e1, e2⟩ | ⟨a, b, e1, e2, r⟩
    · rw [List.filterMap_cons_none e1, List.filterMap_cons_none e2]; exact filterMap_two h l
    · rw [List.filterMap_cons_some e1, List.filterMap_cons_some e2]; exact .cons r (filterMap_two h l)
theorem vals_pick {xs : List V} {us : List Value} (r : Vals xs us) (lo hi : Option Int) (st : Int) : Vals (pick xs lo hi st) (pick us lo hi st) := by
  unfold pick
  rw [r.length]
  refine filterMap_two (fun k => ?_) _
  generalize (_ : Int).toNat = i
  cases e : xs[i]? with
  | none => exact .inl ⟨rfl, r.none_of e⟩
  | some a => obtain ⟨u, h1, h2⟩ := r.get e; exact .inr ⟨a, u, rfl, h1, h2⟩
theorem rps_of_paired {K : PySem.W.Frag} {O : Ow} {H : Hp} : ∀ {xs : List V} {ds : List D}, Paired (Rp K O H) xs ds → Rps K O H xs ds
  | _, _, .nil => .nil
  | _, _, .cons r t => .cons r (rps_of_paired t)
theorem Rps.pick {K : PySem.W.Frag} {O : Ow} {H : Hp} {xs : List V} {ds : List D} (r : Rps K O H xs ds) (lo hi : Option Int) (st : Int) : Rps K O H (DL.pick xs lo hi st) (DL.pick ds lo hi st) := by
  unfold DL.pick
  rw [r.len]
  refine rps_of_paired (filterMap_two (fun k => ?_) _)
  generalize (_ : Int).toNat = i
  cases e : xs[i]? with
  | none =>
    refine .inl ⟨rfl, ?_⟩
    have h1 := r.len
    have h2 := List.getElem?_eq_none_iff.mp e
    exact List.getElem?_eq_none_iff.mpr (by omega)
  | some a => obtain ⟨u, h1, h2⟩ := r.getV e; exact .inr ⟨a, u, rfl, h1, h2⟩
def tStp (K : PySem.W.Frag) (te : TE) (tl th ts : TO) : TE := fun σ H Q => te σ H fun x H1 => tl σ H1 fun l H2 => th σ H2 fun u H3 => ts σ H3 fun o H4 => ∃ a xs k, x = .ref a ∧ o = some k ∧ SqT K H4 a xs ∧ k ≠ 0 ∧ k ≠ 1 ∧ ∀ p, H4 p = none → Q (.ref p) (upd H4 p (.tup (pick xs l u k)))
section
variable {L : Lnk} {K : PySem.W.Frag} {W : WX} {X : Cx}
theorem pe_stp {e st : Expr} {lo hi : Option Expr} {te : TE} {tl th ts : TO} {p3 pos : Pos} (he : PE X e te) (hl : PO X lo tl) (hh : PO X hi th) (hst : PO X (some st) ts) : PE X (.Subscript e (.Slice lo hi (some st) p3) pos) (tStp X.K te tl th ts) := by
  refine ⟨fun pins s σ H Q I h => ?_⟩
  refine Subscript_ (thn (he.run pins s σ H _ I h) fun v s1 ⟨x, H1, I1, r1, q1⟩ => ?_)
  refine wpAny_Slice (thn (hl.run pins s1 σ H1 _ I1 q1) fun vl s2 ⟨l, H2, I2, pl, q2⟩ => ?_)
  refine thn (hh.run pins s2 σ H2 _ I2 q2) fun vu s3 ⟨u, H3, I3, pu, q3⟩ => ?_
  refine thn (hst.run pins s3 σ H3 _ I3 q3) fun vs s4 ⟨o, H4, I4, ps, a, xs, k, ex, eo, hx, h0, h1, q⟩ => ?_
  subst ex eo
  cases r1
  have I5 : Inv X pins σ H4 { s4 with heap := s4.heap.push { cls := .type "slice", data := .fields #[vl, vu, vs] } } := I4.kept (t' := s4.toks) fun b ob q => Heap.get?_push_of_some _ q
  obtain ⟨its, r, ht, hz⟩ := I5.tuple hx
  show wpAny (model X.prog X.w) X.A (subscriptTail e (.Slice lo hi (some st) p3) (.ref a) (.ref s4.heap.objs.size)) (EP X pins σ Q) X.xe { s4 with heap := s4.heap.push { cls := .type "slice", data := .fields #[vl, vu, vs] } }
  refine tail_any (ops := [.ref a, .ref s4.heap.objs.size]) ht.typeIs (PyProof.Rows.slot_tuple_getitem.lookup) ?_ (by with_unfolding_all rfl)
  refine getItem_tuple_step ht (Heap.IsSliceOf.new _ vl vu vs) pl pu ps h0 h1 ?_ (by rw [← r.length]; exact hz)
  refine ⟨.ref _, _, I5.laid (t' := s4.toks) (o := .tup (pick xs l u k)) (fun b ob q => Heap.get?_push_of_some _ q) (Nat.le_refl _) ?_, rfl, q _ (I5.hok.fresh (Nat.le_refl _))⟩
  exact ⟨Nat.le_trans (pick_len _ _ _ _ h0) hz, _, vals_pick r l u k, IsTup.new _ _⟩
theorem re_stp {te : TE} {tl th : TO} {ts : TE} {wa ws : WE'} {wl wh : Env → Sto → XD → (Option Int → Sto → Prop) → Prop} (ha : RE L K W te wa) (hl : RO L K W tl wl) (hh : RO L K W th wh) (hs : RE L K W ts ws) : RE L K W (tStp K te tl th (tPart ts)) fun ρ S R Q => wa ρ S R fun x S1 => wl ρ S1 R fun l S2 => wh ρ S2 R fun h S3 => ws ρ S3 R fun y S4 => match x, y with
    | .tup xs, .int k => k ≠ 0 ∧ k ≠ 1 ∧ Q (.tup (pick xs l h k)) S4
    | _, _ => False := fun σ H ρ S O R Q Q' A hw k => by
  refine ha.go A hw fun x H1 dx S1 O1 r1 A1 e1 q1 => ?_
  refine hl.go A1 q1 fun l H2 S2 O2 A2 e2 q2 => ?_
  refine hh.go A2 q2 fun h H3 S3 O3 A3 e3 q3 => ?_
  refine hs.go A3 q3 fun y H4 dy S4 O4 r4 A4 e4 q4 => ?_
  have r1 := ((r1.mono (A1.mo e2)).mono (A2.mo e3)).mono (A3.mo e4)
  cases dx <;> cases dy <;> try exact q4.elim
  cases r4
  obtain ⟨h0, h1, q⟩ := q4
  cases r1 with
  | tup g1 g2 g3 =>
  rename_i st _ a xs
  have ev := ((e1.trans A1.sok e2).trans A2.sok e3).trans A3.sok e4
  refine ⟨_, rfl, a, xs, _, rfl, rfl, g1, h0, h1, fun p hp => ?_⟩
  exact k _ _ _ S4 O4 (rp_new A4.sok hp (Nat.le_trans (pick_len _ _ _ _ h0) g2) (g3.pick l h _)) (A4.sok.new hp) (ev.trans A4.sok (ev_new hp A4.sok)) q

/-! ### c ? a : b as a test -/
theorem isTrue_ifExp (c a b : Expr) (pos : Pos) (env : PySem.Env) (wh : Sem Value) : isTrue (.IfExp c a b pos) env wh = (do if ← isTrue c env (eval c env) then isTrue a env (eval a env) else isTrue b env (eval b env)) := by first | rfl | simp [isTrue]
theorem pt_ite {c a b : Expr} {tc ta tb : TT} {pos : Pos} (hc : PT X c tc) (ha : PT X a ta) (hb : PT X b tb) : PT X (.IfExp c a b pos) fun σ H Q => tc σ H fun z H1 => if z = true then ta σ H1 Q else tb σ H1 Q := by
  refine ⟨fun pins s σ H Q I h => ?_⟩
  rw [isTrue_ifExp]
  refine wpAny_bind (thn (hc.run pins s σ H _ I h) fun d s1 ⟨H1, I1, q1⟩ => ?_)
  cases d with
  | true => exact ha.run pins s1 σ H1 Q I1 q1
  | false => exact hb.run pins s1 σ H1 Q I1 q1
theorem rt_ite {tc ta tb : TT} {wc wa wb : WE'} (hc : RT L K W tc wc) (ha : RT L K W ta wa) (hb : RT L K W tb wb) : RT L K W (fun σ H Q => tc σ H fun z H1 => if z = true then ta σ H1 Q else tb σ H1 Q) fun ρ S R Q => wc ρ S R fun x S1 => tstD x fun z => if z = true then wa ρ S1 R Q else wb ρ S1 R Q := fun σ H ρ S O R Q Q' A hw k => by
  refine hc.go (Q := fun z S1 => if z = true then wa ρ S1 R (fun d S' => tstD d fun b => Q b S') else wb ρ S1 R (fun d S' => tstD d fun b => Q b S')) A hw fun b H1 S1 O1 A1 e1 q => ?_
  cases b with
  | true => exact ha.go A1 q fun v H2 S2 O2 A2 e2 q2 => k v H2 S2 O2 A2.sok (e1.trans A1.sok e2) q2
  | false => exact hb.go A1 q fun v H2 S2 O2 A2 e2 q2 => k v H2 S2 O2 A2.sok (e1.trans A1.sok e2) q2

/-! ### chains -/
theorem re_chn {ta tb tc : TE} {wa wb wc : WE'} {r r' : R2} {o1 o2 : COp} (ha : RE L K W ta wa) (hb : RE L K W tb wb) (hc : RE L K W tc wc) (h1 : Hr K r fun S dx dy P => cmpD o1 (res S dx) (res S dy) fun z => P (.bl z)) (h2 : Hr K r' fun S dx dy P => cmpD o2 (res S dx) (res S dy) fun z => P (.bl z)) :
    RE L K W (tChain r r' ta tb tc) fun ρ S R Q => wa ρ S R fun x S1 => wb ρ S1 R fun y S2 => cmpD o1 (res S2 x) (res S2 y) fun z => if z = true then wc ρ S2 R fun u S3 => cmpD o2 (res S3 y) (res S3 u) fun v => Q (.bl v) S3 else Q (.bl false) S2 := fun σ H ρ S O R Q Q' A hw k => by
  refine ha.go A hw fun x H1 dx S1 O1 r1 A1 e1 q1 => ?_
  refine hb.go A1 q1 fun y H2 dy S2 O2 r2 A2 e2 q2 => ?_
  have ev := e1.trans A1.sok e2
  refine h1 x y dx dy H2 S2 O2 (fun d => ∃ z, d = .bl z ∧ if z = true then wc ρ S2 R fun u S3 => cmpD o2 (res S3 dy) (res S3 u) fun v => Q (.bl v) S3 else Q (.bl false) S2) _ A2.sok (r1.mono (A1.mo e2)) r2 ?_ fun v H3 d rv s e q => ?_
  · revert q2
    generalize hF : (fun z => if z = true then wc ρ S2 R fun u S3 => cmpD o2 (res S3 dy) (res S3 u) fun v => Q (.bl v) S3 else Q (.bl false) S2) = F
    have : (fun z => ∃ z', D.bl z = .bl z' ∧ if z' = true then wc ρ S2 R fun u S3 => cmpD o2 (res S3 dy) (res S3 u) fun v => Q (.bl v) S3 else Q (.bl false) S2) = F := by
      rw [← hF]
      funext z
      exact propext ⟨fun ⟨z', e, h⟩ => by cases e; exact h, fun h => ⟨z, rfl, h⟩⟩
    show cmpD o1 (res S2 dx) (res S2 dy) F → cmpD o1 (res S2 dx) (res S2 dy) fun z => ∃ z', D.bl z = .bl z' ∧ if z' = true then wc ρ S2 R fun u S3 => cmpD o2 (res S3 dy) (res S3 u) fun v => Q (.bl v) S3 else Q (.bl false) S2
    rw [this]
    exact id
  · obtain ⟨z, rfl, q⟩ := q
    cases rv
    refine ⟨z, rfl, ?_⟩
    have A3 := A2.next s e
    cases z with
    | false => exact k _ H3 _ S2 O2 (.bl _) s (ev.trans A2.sok e) q
    | true =>
      rw [if_pos rfl] at q ⊢
      refine hc.go A3 q fun u H4 du S4 O4 r4 A4 e4 q4 => ?_
      refine h2 y u dy du H4 S4 O4 (fun d => Q d S4) _ A4.sok ((r2.mono (e.mo A2.sok)).mono (A3.mo e4)) r4 q4 fun v H5 d rv s5 e5 q5 => ?_
      exact k v H5 d S4 O4 rv s5 (((ev.trans A2.sok e).trans s e4).trans A4.sok e5) q5

/-! ### xs.append(y) -/
theorem re_app {to te : TE} {wo we : WE'} (ho : RE L K W to wo) (he : RE L K W te we) : RE L K W (tBM K "list" rAppend to (tCons te tNil)) fun ρ S R Q => wo ρ S R fun x S1 => ∃ p, x = .ref p ∧ (∃ ds, S1 p = some (.lst ds)) ∧ we ρ S1 R fun y S2 => ∃ ds, S2 p = some (.lst ds) ∧ ds.length < sizeLine ∧ Q .non (sup S2 p (.lst (ds ++ [y]))) := fun σ H ρ S O R Q Q' A hw k => by
  refine ho.go A hw fun x H1 dx S1 O1 r1 A1 e1 q1 => ?_
  obtain ⟨p, rfl, ⟨ds, hs⟩, q1⟩ := q1
  cases r1
  obtain ⟨_, xs, h1, _, _⟩ := A1.sok.dom _ _ hs
  refine ⟨.inl ⟨rfl, xs, SqL.of h1⟩, ?_⟩
  refine he.go A1 q1 fun y H2 dy S2 O2 r2 A2 e2 q2 => ?_
  obtain ⟨ds, hs, hz, q⟩ := q2
  obtain ⟨ho, xs, h1, z, h2⟩ := A2.sok.dom _ _ hs
  have hl : xs.length < sizeLine := by rw [h2.len]; exact hz
  refine ⟨p, xs, y, rfl, rfl, h1, hl, ?_⟩
  have ev := ev_write (ys := xs ++ [y]) (es := ds ++ [dy]) hs A2.sok
  have sk := A2.sok.write hs h1 (ys := xs ++ [y]) (es := ds ++ [dy]) (by rw [List.length_append]; exact hl) (h2.append (.cons r2 .nil))
  exact k _ _ _ _ O2 .non sk ((e1.trans A1.sok e2).trans A2.sok ev) q
end
end DL

/-! DL10: built-ins over data. -/
namespace DL
open PySem PySem.Spec PyProof.Rows L2
section
variable {X : Cx} {K : PySem.W.Frag} {S : Sto} {O : Ow} {H : Hp}
def HB (K : PySem.W.Frag) (r : List V → Hp → VK → Prop) (b : BI) : Prop := ∀ (vs : List V) (ds : List D) (H : Hp) (S : Sto) (O : Ow) (P : D → Prop) (Q' : VK), Sok K S O H → Rps K O H vs ds → biD b S ds P → (∀ v H' d, Rp K O H' v d → Sok K S O H' → Ev S O H S O H' → P d → Q' v H') → r vs H Q'
def biName : BI → Str
  | .len => "len" | .abs => "abs" | .max => "max" | .min => "min" | .int => "int" | .sum => "sum" | .all => "all" | .any => "any" | .tuple => "tuple" | .isinst => "isinstance" | .repr => "repr" | .str => "str"
def biVal : BI → Value
  | .len => .builtin "len" | .abs => .builtin "abs" | .max => .builtin "max" | .min => .builtin "min" | .int => .type "int" | .sum => .builtin "sum" | .all => .builtin "all" | .any => .builtin "any" | .tuple => .type "tuple" | .isinst => .builtin "isinstance" | .repr => .builtin "repr" | .str => .type "str"
theorem bi_boot (b : BI) : bootBuiltins (biName b) = some (biVal b) := by
  cases b
  · exact boot_len
  · exact boot_abs
  · exact boot_max
  · exact boot_min
  · decide +kernel
  · exact boot_sum
  · exact boot_all
  · exact boot_any
  · decide +kernel
  · exact boot_isinstance
  · exact boot_repr
  · decide +kernel
theorem kitB_all : (["NoneType", "bool", "int", "str", "tuple", "list", "dict"].all fun t => isiTys.all fun n => kitB t n == some (isiB t n)) = true := by decide +kernel
theorem typD_mem {d : D} {t : String} (h : typD d = some t) : t ∈ ["NoneType", "bool", "int", "str", "tuple", "list", "dict"] := by
  cases d <;> simp only [typD] at h <;> first | (cases h; decide) | cases h
theorem kitB_of {d : D} {t n : String} (h : typD d = some t) (hn : n ∈ isiTys) : kitB t n = some (isiB t n) := by
  have := List.all_eq_true.mp (List.all_eq_true.mp kitB_all t (typD_mem h)) n hn
  exact eq_of_beq this
theorem tyx_of {v : V} {d : D} {t : String} (s : Sok K S O H) (r : Rp K O H v d) (e : typD (res S d) = some t) : TyX K H v (.type t) := by
  cases r with
  | non => cases e; exact .base .non
  | bl b => cases e; exact .base (.bl b)
  | int b => cases e; exact .base (.int b)
  | str b => cases e; exact .base (.str b)
  | ty n => cases e
  | ref =>
    rename_i a
    cases q : S a with
    | none => simp only [res, q] at e; cases e
    | some o =>
      cases o with
      | lst ds =>
        simp only [res, q] at e
        cases e
        obtain ⟨_, xs, h1, _, _⟩ := s.dom _ _ q
        exact .base (.lst h1)
      | _ => simp only [res, q] at e; cases e
  | obj _ _ _ _ _ _ => cases e
  | dct h _ => cases e; exact .base (.dK h)
  | scr _ h => cases e
  | scrK _ h => cases e
  | tup h z r =>
    cases e
    rcases h with (h | ⟨o, h⟩) | ⟨o, its, n, h, c, _⟩
    · exact .base (.tup h)
    · exact .fTuple h
    · exact .kTuple h c
  | lst h n z r => cases e; exact .base (.lst h)
theorem rps1 {vs : List V} {d : D} (r : Rps K O H vs [d]) : ∃ v, vs = [v] ∧ Rp K O H v d := by
  cases r with
  | cons r t => cases t; exact ⟨_, rfl, r⟩
theorem rps2 {vs : List V} {d e : D} (r : Rps K O H vs [d, e]) : ∃ v u, vs = [v, u] ∧ Rp K O H v d ∧ Rp K O H u e := by
  cases r with
  | cons r t =>
    cases t with
    | cons r2 t => cases t; exact ⟨_, _, rfl, r, r2⟩
theorem vals1' {x : V} {us : List Value} (r : Vals [x] us) : ∃ u, us = [u] ∧ RelV x u := Vals.one r
theorem call_repr_bl : CallR X (.builtin "repr") (fun xs H Q => ∃ b : Bool, xs = [.bl b] ∧ Q (.str (if b then "True" else "False")) H) := by
  intro pins s σ H xs us Q I r h
  obtain ⟨b, rfl, q⟩ := h
  obtain ⟨u, rfl, hu⟩ := Vals.one r
  cases hu
  exact PySem.P.repr_of_bool ⟨.str _, H, I.tok _, ⟨_, rfl⟩, q⟩
theorem bi_ok (b : BI) (hc : X.calm = true) : ∃ r, CallR X (biVal b) r ∧ HB X.K r b := by
  cases b with
  | len =>
    refine ⟨_, call_len_seq.or call_len_str, fun vs ds H S O P Q' s rs h k => ?_⟩
    match ds, h with
    | [d], h =>
      obtain ⟨v, rfl, r⟩ := rps1 rs
      replace h : (match res S d with
        | .tup xs => P (.int xs.length)
        | .lst xs => P (.int xs.length)
        | .scr xs => P (.int xs.length)
        | .str x => x.length ≤ sizeLine ∧ P (.int x.length)
        | _ => False) := h
      obtain ⟨hl, ht, hs⟩ := seq_of r s
      cases e : res S d <;> rw [e] at h <;> try exact h.elim
      · have e3 := res_str e
        subst e3
        cases r
        exact .inr ⟨_, rfl, h.1, k _ H _ (.int _) s .refl h.2⟩
      · obtain ⟨a, xs, rfl, g1, g2, g3⟩ := ht _ e
        exact .inl ⟨a, xs, rfl, .inr g1, by rw [g3.len]; exact k _ H _ (.int _) s .refl h⟩
      · obtain ⟨a, xs, rfl, g1, g2, g3⟩ := hl _ e
        exact .inl ⟨a, xs, rfl, .inl (SqL.of g1), by rw [g3.len]; exact k _ H _ (.int _) s .refl h⟩
      · obtain ⟨a, rfl, g1⟩ := hs _ e
        exact .inl ⟨a, _, rfl, .inl g1, by rw [List.length_map]; exact k _ H _ (.int _) s .refl h⟩
  | abs =>
    refine ⟨_, call_abs, fun vs ds H S O P Q' s rs h k => ?_⟩
    match ds, h with
    | [.int i], h =>
      obtain ⟨v, rfl, r⟩ := rps1 rs
      cases r
      exact ⟨i, rfl, k _ H _ (.int _) s .refl h⟩
  | max =>
    refine ⟨_, (call_max2 hc).or (cr_max hc), fun vs ds H S O P Q' s rs h k => ?_⟩
    match ds, h with
    | [x, y], h =>
      obtain ⟨i, j, rfl, rfl, h⟩ := h
      obtain ⟨v, u, rfl, r, r2⟩ := rps2 rs
      cases r; cases r2
      exact .inl ⟨i, j, rfl, k _ H _ (.int _) s .refl h⟩
    | [d], h =>
      obtain ⟨v, rfl, r⟩ := rps1 rs
      replace h : ∃ ns : List Int, res S d = .lst (ns.map .int) ∧ 0 < ns.length ∧ ∀ m ∈ ns, (∀ y ∈ ns, y ≤ m) → P (.int m) := h
      obtain ⟨ns, e, hp, h⟩ := h
      obtain ⟨a, xs, rfl, g1, g2, g3⟩ := (seq_of r s).1 _ e
      rw [g3.ints] at g1
      exact .inr ⟨a, ns, rfl, SqL.of g1, hp, fun m h1 h2 => k _ H _ (.int _) s .refl (h m h1 h2)⟩
  | min =>
    refine ⟨_, (call_min2 hc).or (cr_min hc), fun vs ds H S O P Q' s rs h k => ?_⟩
    match ds, h with
    | [x, y], h =>
      obtain ⟨i, j, rfl, rfl, h⟩ := h
      obtain ⟨v, u, rfl, r, r2⟩ := rps2 rs
      cases r; cases r2
      exact .inl ⟨i, j, rfl, k _ H _ (.int _) s .refl h⟩
    | [d], h =>
      obtain ⟨v, rfl, r⟩ := rps1 rs
      replace h : ∃ ns : List Int, res S d = .lst (ns.map .int) ∧ 0 < ns.length ∧ ∀ m ∈ ns, (∀ y ∈ ns, m ≤ y) → P (.int m) := h
      obtain ⟨ns, e, hp, h⟩ := h
      obtain ⟨a, xs, rfl, g1, g2, g3⟩ := (seq_of r s).1 _ e
      rw [g3.ints] at g1
      exact .inr ⟨a, ns, rfl, SqL.of g1, hp, fun m h1 h2 => k _ H _ (.int _) s .refl (h m h1 h2)⟩
  | int =>
    refine ⟨_, call_int1, fun vs ds H S O P Q' s rs h k => ?_⟩
    match ds, h with
    | [.int i], h =>
      obtain ⟨v, rfl, r⟩ := rps1 rs
      cases r
      exact .inl ⟨i, rfl, k _ H _ (.int _) s .refl h⟩
    | [.bl i], h =>
      obtain ⟨v, rfl, r⟩ := rps1 rs
      cases r
      exact .inr ⟨i, rfl, k _ H _ (.int _) s .refl h⟩
  | sum =>
    refine ⟨_, cr_sum hc, fun vs ds H S O P Q' s rs h k => ?_⟩
    match ds, h with
    | [d], h =>
      obtain ⟨v, rfl, r⟩ := rps1 rs
      obtain ⟨ns, e, h⟩ := h
      obtain ⟨a, xs, rfl, g1, g2, g3⟩ := (seq_of r s).1 _ e
      rw [g3.ints] at g1
      exact ⟨a, ns, rfl, SqL.of g1, k _ H _ (.int _) s .refl h⟩
  | all =>
    refine ⟨_, cr_all hc, fun vs ds H S O P Q' s rs h k => ?_⟩
    match ds, h with
    | [d], h =>
      obtain ⟨v, rfl, r⟩ := rps1 rs
      obtain ⟨ns, e, h⟩ := h
      obtain ⟨a, xs, rfl, g1, g2, g3⟩ := (seq_of r s).1 _ e
      rw [g3.bls] at g1
      exact ⟨a, ns, rfl, SqL.of g1, k _ H _ (.bl _) s .refl h⟩
  | any =>
    refine ⟨_, cr_any hc, fun vs ds H S O P Q' s rs h k => ?_⟩
    match ds, h with
    | [d], h =>
      obtain ⟨v, rfl, r⟩ := rps1 rs
      obtain ⟨ns, e, h⟩ := h
      obtain ⟨a, xs, rfl, g1, g2, g3⟩ := (seq_of r s).1 _ e
      rw [g3.bls] at g1
      exact ⟨a, ns, rfl, SqL.of g1, k _ H _ (.bl _) s .refl h⟩
  | tuple =>
    refine ⟨_, call_tuple_of, fun vs ds H S O P Q' s rs h k => ?_⟩
    match ds, h with
    | [d], h =>
      obtain ⟨v, rfl, r⟩ := rps1 rs
      replace h : (match res S d with
        | .tup xs => P (.tup xs)
        | .lst xs => P (.tup xs)
        | _ => False) := h
      obtain ⟨hl, ht, hs⟩ := seq_of r s
      cases e : res S d <;> rw [e] at h <;> try exact h.elim
      · obtain ⟨a, xs, rfl, g1, g2, g3⟩ := ht _ e
        exact ⟨a, xs, rfl, .inr ⟨g1, k _ H _ (.tup g1 g2 g3) s .refl h⟩⟩
      · obtain ⟨a, xs, rfl, g1, g2, g3⟩ := hl _ e
        exact ⟨a, xs, rfl, .inl ⟨SqL.of g1, fun p hp => k _ _ _ (rp_new s hp g2 g3) (s.new hp) (ev_new hp s) h⟩⟩
  | isinst =>
    refine ⟨_, call_isi, fun vs ds H S O P Q' s rs h k => ?_⟩
    match ds, h with
    | [x, .ty n], h =>
      obtain ⟨v, u, rfl, r, r2⟩ := rps2 rs
      cases r2
      obtain ⟨t, e, hn, h⟩ := h
      exact ⟨v, .ty n, .type t, .type n, isiB t n, rfl, .ty n, tyx_of s r e, kit_ty (kitB_of e hn), k _ H _ (.bl _) s .refl h⟩
  | repr =>
    refine ⟨_, call_repr_bl.or SkE.call_repr_int, fun vs ds H S O P Q' s rs h k => ?_⟩
    match ds, h with
    | [.bl b], h =>
      obtain ⟨v, rfl, r⟩ := rps1 rs
      cases r
      exact .inl ⟨b, rfl, k _ H _ (.str _) s .refl h⟩
    | [.int i], h =>
      obtain ⟨v, rfl, r⟩ := rps1 rs
      cases r
      exact .inr ⟨i, rfl, h.1, k _ H _ (.str _) s .refl h.2⟩
  | str =>
    refine ⟨_, call_str_int.or SkE.call_str_str, fun vs ds H S O P Q' s rs h k => ?_⟩
    match ds, h with
    | [.int i], h =>
      obtain ⟨v, rfl, r⟩ := rps1 rs
      cases r
      exact .inl ⟨i, rfl, h.1, k _ H _ (.str _) s .refl h.2⟩
    | [.str x], h =>
      obtain ⟨v, rfl, r⟩ := rps1 rs
      cases r
      exact .inr ⟨x, rfl, k _ H _ (.str _) s .refl h⟩
theorem re_bi {L : Lnk} {W : WX} {b : BI} {r : List V → Hp → VK → Prop} {t : TA} {ws : Env → Sto → XD → (List D → Sto → Prop) → Prop} (h : RA L K W t ws) (hb : HB K r b) : RE L K W (tCB r t) fun ρ S R Q => ws ρ S R fun ds S1 => biD b S1 ds fun d => Q d S1 := fun σ H ρ S O R Q Q' A hw k => by
  refine h.go A hw fun vs H1 ds S1 O1 r1 A1 e1 q1 => ?_
  exact hb vs ds H1 S1 O1 _ _ A1.sok r1 q1 fun v H2 d rv s2 e2 q2 => k v H2 d S1 O1 rv s2 (e1.trans A1.sok e2) q2
end
end DL

set_option maxHeartbeats 1000000
/-! DL24: classes with slots whose instances never change: read, made, asked, their methods. -/
namespace DL
open PySem PySem.Spec PyProof.Rows L2
/-- stands behind the slots of a class with an own == and no own != -/
def neS : Str := "!="
/-- what of the text a class with slots must have -/
structure ClsG (K : PySem.W.Frag) (c : String) (sl : List Str) : Prop where
  sc : SlX.SCls K (He.ga K c)
  si : SlX.SIsi K (He.ga K c)
  ne : neS ∈ sl → PySem.W.findIn K (.ref (He.ga K c)) "__ne__" = some (some (.builtin "object.__ne__"))
  sl : ∀ (i : Nat) (f : Str), sl[i]? = some f → f ≠ neS → ∃ p, SlX.Slot1 K (He.ga K c) f p i
  nf : PySem.W.notFirst K (He.ga K c) (.ref (He.ga K c)) = true
def tys7 : List String := ["NoneType", "bool", "int", "str", "tuple", "list", "dict"]
structure ClsA (K : PySem.W.Frag) (cls : List (String × List Str)) : Prop where
  g : ∀ p ∈ cls, ClsG K p.1 p.2
  pr : ∀ p ∈ cls, ∀ r ∈ cls, PySem.W.kitOne K (.ref (He.ga K p.1)) (.ref (He.ga K r.1)) = some (p.1 == r.1)
  ty : ∀ t ∈ tys7, ∀ r ∈ cls, PySem.W.kitOne K (.type t) (.ref (He.ga K r.1)) = some false
section
variable {L : Lnk} {K : PySem.W.Frag} {W : WX} {X : Cx} {t u : TE} {w w2 : WE'} {c : String} {sl : List Str}
theorem re_fld {f : Str} {i : Nat} (G : ClsG K c sl) (hi : sl[i]? = some f) (hn : f ≠ neS) (h : RE L K W t w) : RE L K W (SlX.tSl K t f) fun ρ S R Q => w ρ S R fun x S1 => match x with
    | .obj c' fs => c' = c ∧ (match fs[i]? with
      | some d => Q d S1
      | none => False)
    | _ => False := fun σ H ρ S O R Q Q' A hw k => by
  refine h.go A hw fun x H1 dx S1 O1 r1 A1 e1 q1 => ?_
  cases dx with
  | obj c' fs =>
    obtain ⟨rfl, q⟩ := q1
    cases r1 with
    | obj hs hd n n2 hv rs =>
      cases e : fs[i]? with
      | none => rw [e] at q; exact q.elim
      | some d =>
        rw [e] at q
        obtain ⟨v, h1, h2⟩ := rs.get e
        obtain ⟨p, sp⟩ := G.sl i f hi hn
        exact ⟨_, _, _, p, _, i, v, rfl, hs, G.sc, sp, hv i v h1, k v H1 d S1 O1 h2 A1.sok e1 q⟩
  | _ => exact q1.elim
/-- isinstance(x, C) -/
def rIsC (K : PySem.W.Frag) (C : Addr) : List V → Hp → VK → Prop := fun xs H Q => rIsi K xs H Q ∨ SlX.rIsiSl K (.ref C) xs H Q
theorem call_isC {C : Addr} : CallR X (.builtin "isinstance") (rIsC X.K C) := by
  intro pins s σ H xs us Q I r h
  rcases h with h | h
  · exact call_isi pins s σ H xs us Q I r h
  · exact SlX.call_isiSl (.ref C) pins s σ H xs us Q I r h
theorem has_mem {cls : List (String × List Str)} (h : (cls.any fun p => p.1 == c) = true) : ∃ p ∈ cls, p.1 = c := by
  obtain ⟨p, hp, e⟩ := List.any_eq_true.mp h
  exact ⟨p, hp, eq_of_beq e⟩
theorem re_isC (G : ClsA K L.Γ.cls) (hc : L.Γ.has c = true) (h : RE L K W t w) : RE L K W (tCB (rIsC K (He.ga K c)) (tCons t (tCons (tC (.ref (He.ga K c))) tNil))) fun ρ S R Q => w ρ S R fun x S1 => isCD L.Γ.has c (res S1 x) fun b => Q (.bl b) S1 := fun σ H ρ S O R Q Q' A hw k => by
  refine h.go A hw fun x H1 dx S1 O1 r1 A1 e1 q1 => ?_
  obtain ⟨pc, hpc, rfl⟩ := has_mem hc
  have gen : ∀ t, typD (res S1 dx) = some t → Q (.bl false) S1 → (tCB (rIsC K (He.ga K pc.1)) (tCons (fun σ H Q => Q x H1) (tCons (tC (.ref (He.ga K pc.1))) tNil))) σ H1 Q' := fun t ht q => by
    refine .inl ⟨x, .ref (He.ga K pc.1), .type t, .ref (He.ga K pc.1), false, rfl, .own _, tyx_of A1.sok r1 ht, G.ty t ?_ pc hpc, k _ H1 _ S1 O1 (.bl _) A1.sok e1 q⟩
    have := typD_mem ht
    exact this
  cases e : res S1 dx with
  | obj c' fs =>
    rw [e] at q1
    obtain ⟨hh, q⟩ := q1
    obtain ⟨p', hp', rfl⟩ := has_mem hh
    have e2 : dx = .obj p'.1 fs := by
      cases dx with
      | ref p => simp only [res] at e; split at e <;> cases e
      | _ => exact e
    subst e2
    cases r1 with
    | obj hs hd n n2 hv rs =>
      have G' := G.g p' hp'
      exact .inr ⟨_, _, _, _, .ref (He.ga K pc.1), p'.1 == pc.1, rfl, rfl, fun w' hw' => hw', hs, G'.sc, G'.si, G.pr p' hp' pc hpc, k _ H1 _ S1 O1 (.bl _) A1.sok e1 q⟩
  | _ => rw [e] at q1; obtain ⟨t, ht, q⟩ := q1; exact gen t (by rw [e]; exact ht) q
/-! ### methods -/
theorem meth_eval {o : Expr} {name : Str} {apos pos : Pos} {args : List Expr} {env : PySem.Env} (hbase : attributeBase o name env (eval o env) = eval o env)
    (hfew : methodCallForm (args.length + ([] : List Keyword).length) (backTo pos (starEach args env)) (backToKw pos (keywordEach [] env)) = true) (hline : (apos.endLine == pos.line) = true) :
    eval (.Call (.Attribute o name apos) args [] pos) env = (do
      let ov ← eval o env
      standAt apos.atName
      let (f, first) ← holding [ov] (getMethod ov name (do return (← importBound o env).getD true))
      callWith pos f first (backTo pos (starEach args env)) (backToKw pos (keywordEach [] env))) := by
  rw [arm_eval_Call, hbase]
  have hpos : methodCallPos true o env apos pos = pure pos := by unfold methodCallPos; simp [hline]
  unfold methodCall calleeOf
  rw [hfew, hpos]
  rfl
theorem few_ok {es : List Expr} {env : PySem.Env} {pos : Pos} (hl : es.length < 30) (hs : (backTo pos (starEach es env)).any (·.1) = false) : methodCallForm (es.length + ([] : List Keyword).length) (backTo pos (starEach es env)) (backToKw pos (keywordEach [] env)) = true := by
  have h1 : (backTo pos (starEach es env)).all (fun x => !x.1) = true := by
    rw [List.all_eq_true]
    intro x hx
    have := List.any_eq_false.mp hs x hx
    simpa using this
  have h2 : backToKw pos (keywordEach [] env) = [] := rfl
  unfold methodCallForm
  rw [h1, h2]
  simp [hl]
/-- o.m(e, ..) -/
def tMethS (C : Addr) (sp : Sp) (E : L2.St → XK) (ta : TE) (t : TA) : TE := fun σ H Q => ta σ H fun x H1 => ∃ a dx vs, x = .ref a ∧ SlX.Slt H1 a C dx vs ∧ t σ H1 fun ws H2 => sp (x :: ws) H2 Q (E σ)
theorem pe_methC {o e : Expr} {es : List Expr} {m : Str} {apos pos : Pos} {CX : CXT} {k : Nat} {C g : Addr} {fd : FuncData} {ps : List Str} {sp : Sp} {E : L2.St → XK} {ta : TE} {t : TA} (he : PE X o ta) (c : SlX.SCls X.K C) (hm : Meth X.K C m g)
    (F : FnOk X.prog X.w X.K X.mg X.base CX k g fd ps sp) (hr : Room k X.A) (hb : Binds X.K fd ps []) (hx : ∀ σ, PassesAt CX X σ (E σ)) (ha : PA X (e :: es) t)
    (hbase : attributeBase o m X.env (eval o X.env) = eval o X.env) (hline : (apos.endLine == pos.line) = true) (hlen : (e :: es).length < 30)
    (hst : starEach (e :: es) X.env = (false, eval e X.env) :: starEach es X.env) (hpl : (backTo pos (starEach es X.env)).any (·.1) = false) :
    PE X (.Call (.Attribute o m apos) (e :: es) [] pos) (tMethS C sp E ta t) := by
  refine ⟨fun pins s σ H Q I h => ?_⟩
  refine PySem.W.methodCall_KW (thn (he.run pins s σ H _ I h) fun u s1 ⟨x, H1, I1, rx, a, dx, vs, ex, hsl, q⟩ => ?_) (meth_eval hbase (few_ok hlen (by rw [hst]; exact hpl)) hline)
  subst ex
  obtain rfl : u = Value.ref a := rx
  refine SlX.getmethsl_ok I1 hsl c hm ?_
  refine PySem.W.callWith_K (first := [.ref a]) (h₀ := X.base) I.ok.mod.kin hm.kp (thn (ha.run pos pins s1 σ H1 _ I1 q) fun us s2 ⟨ws, H2, I2, r, q2⟩ => ⟨I2.kIn, ?_⟩) hst hpl
  exact run_fnS (us := .ref a :: us) (vs := .ref a :: ws) F hr hb (hx σ) I2 (.cons rfl r) q2
theorem pe_methC0 {o : Expr} {m : Str} {apos pos : Pos} {CX : CXT} {k : Nat} {C g : Addr} {fd : FuncData} {ps : List Str} {sp : Sp} {E : L2.St → XK} {ta : TE} (he : PE X o ta) (c : SlX.SCls X.K C) (hm : Meth X.K C m g)
    (F : FnOk X.prog X.w X.K X.mg X.base CX k g fd ps sp) (hr : Room k X.A) (hb : Binds X.K fd ps []) (hx : ∀ σ, PassesAt CX X σ (E σ))
    (hbase : attributeBase o m X.env (eval o X.env) = eval o X.env) (hline : (apos.endLine == pos.line) = true) :
    PE X (.Call (.Attribute o m apos) [] [] pos) (tMethS C sp E ta tNil) := by
  refine ⟨fun pins s σ H Q I h => ?_⟩
  refine PySem.W.methodCall_KW (thn (he.run pins s σ H _ I h) fun u s1 ⟨x, H1, I1, rx, a, dx, vs, ex, hsl, q⟩ => ?_) (meth_eval hbase (few_ok (es := []) (by decide) rfl) hline)
  subst ex
  obtain rfl : u = Value.ref a := rx
  refine SlX.getmethsl_ok I1 hsl c hm ?_
  exact PySem.W.callWith_K0 (first := [.ref a]) I1.kIn hm.kp (run_fnS (us := [.ref a]) (vs := [.ref a]) F hr hb (hx σ) I1 (.cons rfl .nil) q)
end
end DL

set_option maxHeartbeats 1000000
/-! DL27: != of instances of a class with an own == and no own !=. -/
namespace DL
open PySem PySem.Spec PyProof.Rows L2
open PySem.W (InstAt findIn isFn mroIn notFirst Looks looks_findIn looks_mroIn looks_subIn subIn)
section
variable {prog : Program} {w : World} {A : Around} {E : Value → Shared → Prop} {s : Shared} {K : PySem.W.Frag} {x C f : Addr} {ox : Obj} {od : Option Obj} {b tb : Value}
theorem objNe_K {Q : PySem.Fin → Shared → Prop} (X : K.In s.heap) (I : InstAt s.heap x ox C od) (he : findIn K (.ref C) "__eq__" = some (some (.ref f))) (hf : isFn K (.ref f) = true) (hu : A.units < cLine)
    (h : wpAny (model prog w) A (call (.ref f) [.ref x, b]) (fun v s' => ∃ t, v = .bool t ∧ Q (.done (.ret (.bool (!t)))) s') E s) : wpAny (model prog w) A (Builtin.«object.__ne__» ⟨[.ref x, b], []⟩) Q E s := by
  unfold Builtin.«object.__ne__»
  repeat (first
    | with_reducible refine wpAny_cRoomFor hu ?_
    | (refine wpAny_bind (m := callSpecialIfBound? (.ref x) (Str.ofString "__eq__") [b])
        (PySem.W.ifBound_K X I he hf (wpAny_mono h (fun r s' hr => by
          obtain ⟨t, rfl, hq⟩ := hr
          repeat (first | exact hq | exact wpAny_pure hq | exact wpAny_truthy_bool hq | (refine wpAny_bind (m := truthy (.bool _)) (wpAny_truthy_bool ?_)) | wp_step)) fun _ _ e => e)))
    | wp_step)
theorem cmpNe_K {Q : Value → Shared → Prop} (hu : A.units + 1 < cLine) (X : K.In s.heap) (I : InstAt s.heap x ox C od) (hb : Looks (model prog w) s.heap (typeOf b) tb) (hn : notFirst K C tb = true)
    (hne : findIn K (.ref C) "__ne__" = some (some (.builtin "object.__ne__"))) (hs : findIn K (.ref C) "__eq__" = some (some (.ref f))) (hf : isFn K (.ref f) = true) (hm : mroIn K C (.type "object") = some true)
    (h : wpAny (model prog w) A.in1 (call (.ref f) [.ref x, b]) (fun v s' => ∃ t, v = .bool t ∧ Q (.bool (!t)) s') E s) : wpAny (model prog w) A (richCompare .NotEq (.ref x) b) Q E s := by
  have sub : Looks (model prog w) s.heap (isInstance (.ref x) (.type "object")) true := I.type.andThen (looks_mroIn X hm)
  have one : wpAny (model prog w) A (tryCompare (.ref x) (cmpInfo .NotEq).2.1 b) (fun r s' => ∃ v, r = some v ∧ Q v s') E s := by
    unfold tryCompare
    refine wpAny_bind ?_
    simp only [callSpecialIfBound?, bindSpecialIfBound?]
    refine wpAny_holding (wpAny_bind (wpAny_bind (wpAny_bind (I.type.here ((looks_findIn X hne).here ?_)))))
    simp only [PySem.F.cmp_object.ne.bind]
    have key : wpAny (model prog w) A (call (.builtin "object.__ne__") [.ref x, b]) (fun v s' => ∃ t : Bool, v = .bool t ∧ Q v s') E s := by
      refine wpAny_call (codeAny_call_builtin PySem.F.cmp_object.ne.plain PySem.F.cmpEntry_ne (@PySem.W.check_slot (model prog w) _ _ s "object.__ne__" "object" "__ne__" (.ref x) [b] [] _ PySem.F.cmpKind_ne PySem.F.cmpSplit_ne sub (PySem.F.cmpArgs_ne _ _) ?_))
      refine objNe_K (A := A.in1) X I hs hf hu (wpAny_mono h (fun v s' hv => ?_) fun _ _ e => e)
      obtain ⟨t, rfl, hq⟩ := hv
      exact ⟨t, rfl, _, rfl, hq⟩
    have fin : ∀ Q2 : Option Value → Shared → Prop, (∀ (t : Bool) s', Q (.bool t) s' → Q2 (some (.bool t)) s') → wpAny (model prog w) A (call (.builtin "object.__ne__") ([.ref x] ++ [b]) >>= fun v => pure (some v)) Q2 E s := fun Q2 k => by
      refine wpAny_bind (wpAny_mono key (fun v s' h' => ?_) fun _ _ h' => h')
      obtain ⟨t, rfl, hq⟩ := h'
      exact wpAny_pure (k t s' hq)
    refine wpAny_bind (wpAny_askSetting (wpAny_ite ?_))
    split
    · exact wpAny_bind (wpAny_pure (wpAny_pure (fin _ fun t s' hq => wpAny_pure ⟨_, rfl, hq⟩)))
    · exact wpAny_tryCatch (wpAny_bind (wpAny_pure (wpAny_pure (fin _ fun t s' hq => wpAny_pure ⟨_, rfl, hq⟩))))
  unfold richCompare
  simp only [oneThing_ref]
  refine wpAny_holding (wpAny_bind (wpAny_cRoomFor (by omega) ?_))
  refine wpAny_bind (I.type.here (wpAny_bind (hb.here ?_)))
  split
  · rename_i q
    have e : subIn K tb (.ref C) = some false := by
      rcases Bool.or_eq_true_iff.mp hn with e | e
      · rw [beq_iff_eq.mp e] at q; simp at q
      · exact beq_iff_eq.mp e
    refine wpAny_bind ((looks_subIn X e).here ?_)
    simp only [Bool.false_eq_true, if_false]
    refine wpAny_bind (wpAny_mono one (fun r s' z => ?_) fun _ _ e => e)
    obtain ⟨v, rfl, hq⟩ := z
    exact wpAny_pure hq
  · refine wpAny_bind (wpAny_pure ?_)
    simp only [Bool.false_eq_true, if_false]
    refine wpAny_bind (wpAny_mono one (fun r s' z => ?_) fun _ _ e => e)
    obtain ⟨v, rfl, hq⟩ := z
    exact wpAny_pure hq
end
section
variable {X : Cx}
/-- x != y, both instances of a class with an own == and no own != -/
def rOwnNe (K : PySem.W.Frag) (C : Addr) (sp : Sp) (E : XK) : R2 := fun x y H Q => ∃ a dx vs b C' dy ws, x = .ref a ∧ y = .ref b ∧ SlX.Slt H a C dx vs ∧ SlX.Slt H b C' dy ws ∧ notFirst K C (.ref C') = true ∧ sp [x, y] H (fun z H' => ∃ t, z = .bl t ∧ Q (.bl (!t)) H') E
theorem op_ownNe {CX : CXT} {C g : Addr} {n : Nat} {sp : Sp} {E : XK} (hne : findIn X.K (.ref C) "__ne__" = some (some (.builtin "object.__ne__"))) (hs : findIn X.K (.ref C) "__eq__" = some (some (.ref g))) (hf : isFn X.K (.ref g) = true) (hm : mroIn X.K C (.type "object") = some true)
    (F : FnR X.prog X.w X.K X.mg X.base CX n g sp) (hr : Room (n + 1) X.A) (hx : Passes CX X E) : OpR X (compareOp .NotEq) (rOwnNe X.K C sp E) := by
  intro pins s σ H x y v u Q I rx ry h
  obtain ⟨a, dx, vs, b, C', dy, ws, rfl, rfl, ha, hb, hn, q⟩ := h
  cases (show v = Value.ref a from rx)
  cases (show u = Value.ref b from ry)
  obtain ⟨sl, od, _, J, _⟩ := SlX.slt_inst I ha
  obtain ⟨sl', od', _, J', _⟩ := SlX.slt_inst I hb
  have hr1 : Room n X.A.in1 := Room.in1 hr
  have hu : X.A.units + 1 < cLine := by have := hr.units; omega
  show wpAny _ _ (richCompare .NotEq (.ref a) (.ref b)) _ _ _
  refine cmpNe_K (tb := .ref C') hu I.kIn J J'.type hn hne hs hf hm ?_
  refine wpAny_mono (wpAny_call (SlX.run_at (us := [.ref a, .ref b]) (ws := [.ref a, .ref b]) F hr1 I.env0.in1 hx I (.cons rfl (.cons rfl .nil)) q)) (fun w s' z => ?_) fun _ _ x => x
  obtain ⟨z', H', I', rz, t, et, qz⟩ := z
  subst et
  cases (show w = Value.bool t from rz)
  exact ⟨t, rfl, .bl (!t), H', I', rfl, qz⟩
end
end DL

/-! DL11: own syntax against the text: the check, and why it is enough (expressions). -/
namespace DL
open PySem PySem.Spec PyProof.Rows L2
structure Ck where
  N : List Str
  sc : Scope
  own : Option Scope
  fns : List (Nat × Str)
  gls : List (Nat × Str)
  cls : List (String × List Str) := []
  mts : List (Nat × String × Str) := []
  prs : List (Nat × String × Str) := []
  nws : List (Nat × String × Str) := []
  xc : List String := []
def xcC (c : Ck) (k : Nat) (x : Str) : Bool := match c.xc[k]? with
  | some n => decide ((n : Str) = x)
  | none => false
def Ck.inn (c : Ck) (scope : Scope) : Ck := { c with sc := relS scope c.sc, own := some scope }
def visC (c : Ck) (x : Str) : Bool := match c.sc.names.lookup x with
  | some .local => true
  | some .cell => true
  | some .free => true
  | _ => false
def locC (c : Ck) (x : Str) : Bool := match c.sc.names.lookup x with
  | some .local => true
  | some .cell => (match c.own with
    | none => true
    | some s => decide (s.names.lookup x = some .cell))
  | _ => false
def dbg (x : Str) : Bool := x == ("__debug__" : Str)
def varC (c : Ck) (i : Nat) (x : Str) : Bool := decide (c.N[i]? = some x) && visC c x && !dbg x && !(x == ("__classdict__" : Str))
def gloC (c : Ck) (x : Str) : Bool := decide (c.sc.names.lookup x = some .globalImplicit) && !dbg x
def noStar : Expr → Bool
  | .Starred _ _ => false
  | _ => true
def noStars : List Expr → Bool
  | [] => true
  | x :: xs => noStar x && noStars xs
def noSet : Expr → Bool
  | .Set _ _ _ => false
  | _ => true
def noSlice : Expr → Bool
  | .Slice _ _ _ _ => false
  | _ => true
def noCall : Expr → Bool
  | .Call _ _ _ _ => false
  | _ => true
def noBase : Expr → Bool
  | .Call (.Name _ _) [] [] _ => false
  | _ => true
def isBO : Expr → Bool
  | .BoolOp _ _ _ => true
  | _ => false
def pairC (l : List (Nat × Str)) (k : Nat) (x : Str) : Bool := match l with
  | [] => false
  | p :: r => (Nat.beq p.1 k && decide (p.2 = x)) || pairC r k x
def mtC (l : List (Nat × String × Str)) (k : Nat) (c : String) (x : Str) : Bool := match l with
  | [] => false
  | p :: r => (Nat.beq p.1 k && decide (p.2.1 = c) && decide (p.2.2 = x)) || mtC r k c x
def hasC (l : List (String × List Str)) (c : String) : Bool := match l with
  | [] => false
  | p :: r => decide (p.1 = c) || hasC r c
def slC (l : List (String × List Str)) (c : String) (i : Nat) (f : Str) : Bool := match l with
  | [] => false
  | p :: r => (decide (p.1 = c) && (decide (p.2[i]? = some f) && decide (f ≠ neS))) || slC r c i f
/-- the class has no own != -/
def neC (l : List (String × List Str)) (c : String) : Bool := match l with
  | [] => false
  | p :: r => (decide (p.1 = c) && decide (neS ∈ p.2)) || neC r c
def isCS : Ex → Str → Bool
  | .cst (.str z), s => decide (z = s)
  | _, _ => false
theorem isCS_ok {e : Ex} {s : Str} (h : isCS e s = true) : e = .cst (.str s) := by
  unfold isCS at h
  split at h
  · rw [of_decide_eq_true h]
  · cases h
def cstC (c : Ck) : D → Expr → Bool
  | .int i, .Constant (.int j) _ _ => decide (i = j)
  | .bl i, .Constant (.bool j) _ _ => decide (i = j)
  | .str i, .Constant (.str j) _ _ => decide (i = j)
  | .non, .Constant .none _ _ => true
  | .ty n, .Name x _ => gloC c x && ((decide (n = "int") && decide (x = "int")) || (decide (n = "bool") && decide (x = "bool")) || (decide (n = "tuple") && decide (x = "tuple")) || (decide (n = "str") && decide (x = "str")) || (decide (n = "list") && decide (x = "list")))
  | _, _ => false
def ownP (c : Ck) : List Nat → List (Str × Nat)
  | [] => []
  | v :: vs => (c.N.getD v "", v) :: ownP c vs
theorem ownP_snd (c : Ck) : ∀ vs, (ownP c vs).map (·.2) = vs
  | [] => rfl
  | v :: vs => by rw [ownP, List.map_cons, ownP_snd c vs]
mutual
def tgV : Tg → List Nat
  | .nm i => [i]
  | .tp ts => tgsV ts
  | .sub _ _ => []
  | .fld _ _ _ => []
def tgsV : Tgs → List Nat
  | .nil => []
  | .cons t r => tgV t ++ tgsV r
end
def subV (us vs : List Nat) : Bool := us.all fun v => vs.contains v
mutual
def okE : Ex → Ck → Expr → Bool
  | .var i, c, x => match x with
    | .Name n _ => varC c i n
    | _ => false
  | .cst d, c, x => cstC c d x
  | .glb k, c, x => match x with
    | .Name n _ => gloC c n && pairC c.gls k n
    | _ => false
  | .bin op a b, c, x => match x with
    | .BinOp x o y _ => decide (o = bop op) && okE a c x && okE b c y
    | _ => false
  | .neg a, c, x => match x with
    | .UnaryOp .USub x _ => okE a c x
    | _ => false
  | .not a, c, x => match x with
    | .UnaryOp .Not x _ => okE a c x
    | _ => false
  | .cmp op a b, c, x => match x with
    | .Compare x [o] [y] _ => decide (o = cop op) && noSet y && okE a c x && okE b c y
    | _ => false
  | .chn o1 o2 a b d, c, x => match x with
    | .Compare x [p1, p2] [y, z] _ => decide (p1 = cop o1) && decide (p2 = cop o2) && noSet z && okE a c x && okE b c y && okE d c z
    | _ => false
  | .and a b, c, x => match x with
    | .BoolOp .And (x :: y :: r) p => okE a c x && (match r with
      | [] => okE b c y
      | z :: r => okE b c (.BoolOp .And (y :: z :: r) p))
    | _ => false
  | .or a b, c, x => match x with
    | .BoolOp .Or (x :: y :: r) p => okE a c x && (match r with
      | [] => okE b c y
      | z :: r => okE b c (.BoolOp .Or (y :: z :: r) p))
    | _ => false
  | .ite a b d, c, x => match x with
    | .IfExp x y z _ => okE a c x && okE b c y && okE d c z
    | _ => false
  | .idx a i, c, x => match x with
    | .Subscript x y _ => noSlice y && okE a c x && okE i c y
    | _ => false
  | .slc a lo hi, c, x => match x with
    | .Subscript x (.Slice l h none _) _ => okE a c x && okO lo c l && okO hi c h
    | _ => false
  | .stp a lo hi st, c, x => match x with
    | .Subscript x (.Slice l h (some s) _) _ => okE a c x && okO lo c l && okO hi c h && okE st c s
    | _ => false
  | .tup es, c, x => match x with
    | .Tuple xs _ _ => okEs es c xs
    | _ => false
  | .frz l, c, x => okL l c x
  | .own l, c, x => okL l c x
  | .call f es, c, x => match x with
    | .Call (.Name n _) (y :: xs) [] _ => gloC c n && pairC c.fns f n && noStars (y :: xs) && okEs es c (y :: xs)
    | .Call (.Name n _) [] [] _ => gloC c n && pairC c.fns f n && okEs es c []
    | _ => false
  | .bi b es, c, x => match x with
    | .Call (.Name n _) (y :: xs) [] _ => decide (n = biName b) && gloC c n && noStars (y :: xs) && okEs es c (y :: xs)
    | _ => false
  | .app o e, c, x => match x with
    | .Call (.Attribute x m ap) [y] [] p => decide (m = ("append" : Str)) && (ap.endLine == p.line) && noCall x && noStar y && okE o c x && okE e c y
    | _ => false
  | .fld cn i e, c, x => match x with
    | .Attribute y f _ => noBase y && slC c.cls cn i f && okE e c y
    | _ => false
  | .isC cn e, c, x => match x with
    | .Call (.Name n _) [y, .Name m _] [] _ => decide (n = ("isinstance" : Str)) && gloC c n && noStar y && okE e c y && decide (m = (cn : Str)) && gloC c m && hasC c.cls cn
    | _ => false
  | .meth f cn o es, c, x => match x with
    | .Call (.Attribute y m ap) xs [] p => mtC c.mts f cn m && hasC c.cls cn && (ap.endLine == p.line) && noBase y && okE o c y && noStars xs && Nat.blt xs.length 30 && okEs es c xs
    | _ => false
  | .prop f cn o, c, x => match x with
    | .Attribute y m _ => mtC c.prs f cn m && hasC c.cls cn && noBase y && okE o c y
    | _ => false
  | .new f cn _ es, c, x => match x with
    | .Call (.Name m _) (y :: xs) [] _ => decide (m = (cn : Str)) && gloC c m && mtC c.nws f cn m && hasC c.cls cn && noStars (y :: xs) && okEs es c (y :: xs)
    | _ => false
  | .cmpO op f cn a b, c, x => match x with
    | .Compare y [o] [z] _ => decide (o = cop op) && ((decide (op = .eq) && mtC c.mts f cn "__eq__") || (decide (op = .ne) && mtC c.mts f cn "__ne__")) && hasC c.cls cn && noSet z && okE a c y && okE b c z
    | _ => false
  | .neO f cn a b, c, x => match x with
    | .Compare y [o] [z] _ => decide (o = cop .ne) && mtC c.mts f cn "__eq__" && neC c.cls cn && noSet z && okE a c y && okE b c z
    | _ => false
  | .cmpOD op f cn a b, c, x => match x with
    | .Compare y [o] [z] _ => decide (o = cop op) && ((decide (op = .eq) && mtC c.mts f cn "__eq__") || (decide (op = .ne) && mtC c.mts f cn "__ne__")) && hasC c.cls cn && noSet z && okE a c y && okE b c z
    | _ => false
  | .lenO f cn o, c, x => match x with
    | .Call (.Name n _) [y] [] _ => decide (n = ("len" : Str)) && gloC c n && mtC c.mts f cn "__len__" && hasC c.cls cn && noStar y && okE o c y
    | _ => false
  | .strO f cn o, c, x => match x with
    | .Call (.Name n _) [y] [] _ => decide (n = ("str" : Str)) && gloC c n && mtC c.mts f cn "__str__" && hasC c.cls cn && noStar y && okE o c y
    | _ => false
  | .fst es, c, x => match x with
    | .JoinedStr (y :: z :: xs) _ => okFs es c (y :: z :: xs)
    | _ => false
  | .dct, c, x => match x with
    | .Dict [] [] _ => true
    | _ => false
def okFs : Exs → Ck → List Expr → Bool
  | .nil, _, xs => match xs with
    | [] => true
    | _ => false
  | .cons e r, c, xs => match xs with
    | .FormattedValue y k none _ :: xs => decide (k = -1) && okE e c y && okFs r c xs
    | .Constant (.str s) _ _ :: xs => isCS e s && okFs r c xs
    | _ => false
  | .star _ _, _, _ => false
def okEs : Exs → Ck → List Expr → Bool
  | .nil, _, xs => match xs with
    | [] => true
    | _ => false
  | .cons e r, c, xs => match xs with
    | x :: xs => noStar x && okE e c x && okEs r c xs
    | _ => false
  | .star e r, c, xs => match xs with
    | .Starred x _ :: xs => okE e c x && okEs r c xs
    | _ => false
def okO : Ox → Ck → Option Expr → Bool
  | .no, _, x => match x with
    | none => true
    | _ => false
  | .so e, c, x => match x with
    | some x => okE e c x
    | none => false
def okL : Lx → Ck → Expr → Bool
  | .disp es, c, x => match x with
    | .List xs _ => okEs es c xs
    | _ => false
  | .comp own tg it ts el, c, x => match x with
    | .ListComp elt [⟨tx, iter, ifs, a⟩] scope _ => decide (a = 0) && blkC c.N c.sc scope (ownP c own) && subV (tgV tg) own && noSet iter && okI it c tx iter && okG tg (c.inn scope) tx && okTs ts (c.inn scope) ifs && okE el (c.inn scope) elt
    | _ => false
  | .comp2 own own2 tg it ts tg2 it2 ts2 el, c, x => match x with
    | .ListComp elt [⟨tx, iter, ifs, a⟩, ⟨tx2, iter2, ifs2, a2⟩] scope _ => decide (a = 0) && decide (a2 = 0) && blkC c.N c.sc scope (ownP c own) && subV (tgV tg) own && subV own2 own && subV (tgV tg2) own2 && noSet iter && noSet iter2 &&
      okI it c tx iter && okG tg (c.inn scope) tx && okTs ts (c.inn scope) ifs && okI it2 (c.inn scope) tx2 iter2 && okG tg2 (c.inn scope) tx2 && okTs ts2 (c.inn scope) ifs2 && okE el (c.inn scope) elt
    | _ => false
  | .rep a n, c, x => match x with
    | .BinOp x .Mult y _ => okE a c x && okE n c y
    | _ => false
  | .cat a b, c, x => match x with
    | .BinOp x .Add y _ => okE a c x && okE b c y
    | _ => false
  | .ofSeq a, c, x => match x with
    | .Call (.Name n _) [y] [] _ => decide (n = ("list" : Str)) && gloC c n && noStar y && okE a c y
    | _ => false
  | .slc a lo hi, c, x => match x with
    | .Subscript x (.Slice l h none _) _ => okE a c x && okO lo c l && okO hi c h
    | _ => false
  | .sorted a, c, x => match x with
    | .Call (.Name n _) [y] [] _ => decide (n = ("sorted" : Str)) && gloC c n && noStar y && okE a c y
    | _ => false
  | .stpL a lo hi st, c, x => match x with
    | .Subscript x (.Slice l h (some s) _) _ => okE a c x && okO lo c l && okO hi c h && okE st c s
    | _ => false
  | .sortSet a, c, x => match x with
    | .Call (.Name n _) [.Call (.Name m _) [y] [] _] [] _ => decide (n = ("sorted" : Str)) && gloC c n && decide (m = ("set" : Str)) && gloC c m && noStar y && okE a c y
    | _ => false
  | .sortI a, c, x => match x with
    | .Call (.Name n _) [y] [] _ => decide (n = ("sorted" : Str)) && gloC c n && noStar y && okE a c y
    | _ => false
  | .sortK f a, c, x => match x with
    | .Call (.Name n _) [y] [⟨kn, .Name m _, _⟩] _ => decide (n = ("sorted" : Str)) && gloC c n && noStar y && okE a c y && decide (kn = some ("key" : Str)) && gloC c m && pairC c.fns f m
    | _ => false
def okI : It → Ck → Expr → Expr → Bool
  | .seq e, c, _, x => okE e c x
  | .rng1 a, c, _, x => match x with
    | .Call (.Name n _) [x] [] _ => decide (n = ("range" : Str)) && gloC c n && noStar x && okE a c x
    | _ => false
  | .rng2 a b, c, _, x => match x with
    | .Call (.Name n _) [x, y] [] _ => decide (n = ("range" : Str)) && gloC c n && noStar x && noStar y && okE a c x && okE b c y
    | _ => false
  | .rng3 a b d, c, _, x => match x with
    | .Call (.Name n _) [x, y, z] [] _ => decide (n = ("range" : Str)) && gloC c n && noStar x && noStar y && noStar z && okE a c x && okE b c y && okE d c z
    | _ => false
  | .enum e, c, t, x => match t with
    | .Tuple _ _ _ => (match x with
      | .Call (.Name n _) [x] [] _ => decide (n = ("enumerate" : Str)) && gloC c n && noStar x && okE e c x
      | _ => false)
    | _ => false
  | .zip a b, c, t, x => match t with
    | .Tuple _ _ _ => (match x with
      | .Call (.Name n _) [x, y] [] _ => decide (n = ("zip" : Str)) && gloC c n && noStar x && noStar y && okE a c x && okE b c y
      | _ => false)
    | _ => false
def okG : Tg → Ck → Expr → Bool
  | .nm i, c, x => match x with
    | .Name n _ => decide (c.N[i]? = some n) && locC c n
    | _ => false
  | .tp ts, c, x => match x with
    | .Tuple xs _ _ => okGs ts c xs
    | _ => false
  | .sub o i, c, x => match x with
    | .Subscript x y _ => noSlice y && okE o c x && okE i c y
    | _ => false
  | .fld o cn i, c, x => match x with
    | .Attribute y f _ => slC c.cls cn i f && okE o c y
    | _ => false
def okGs : Tgs → Ck → List Expr → Bool
  | .nil, _, xs => match xs with
    | [] => true
    | _ => false
  | .cons t r, c, xs => match xs with
    | x :: xs => noStar x && okG t c x && okGs r c xs
    | _ => false
def okTs : Exs → Ck → List Expr → Bool
  | .nil, _, xs => match xs with
    | [] => true
    | _ => false
  | .cons e r, c, xs => match r with
    | .nil => (match xs with
      | [x] => okE e c x
      | _ => false)
    | _ => false
  | .star _ _, _, _ => false
end

/-! ### what is asked of a context -/
/-- a def's promise, from data -/
def spOf (L : Lnk) (K : PySem.W.Frag) (F : FSp) : Sp := fun vs H Q' E => ∃ ds S O R, ∃ Q : QD, Sok K S O H ∧ Rps K O H vs ds ∧ F ds S R Q ∧
  (∀ k d S' O' H' c dd, Sok K S' O' H' → Ev S O H S' O' H' → L.xr O' H' k d c dd → R k d S' → E c dd H') ∧
  (∀ v H' d S' O', Rp K O' H' v d → Sok K S' O' H' → Ev S O H S' O' H' → Q d S' → Q' v H')
def FnSt (L : Lnk) (X : Cx) (k : Nat) (x : Str) : Prop :=
  ∃ (kk : Nat) (f : Addr) (fd : FuncData) (ps : List Str), FnOk X.prog X.w X.K X.mg X.base (L2.CX X.prog X.w) kk f fd ps (spOf L X.K (L.Γ.fn k)) ∧ Room (kk + 2) X.A ∧ X.mg x = some (.ref f) ∧ PySem.W.keepIn X.K (.ref f) = true ∧ Binds X.K fd ps []
def GlSt (L : Lnk) (X : Cx) (k : Nat) (x : Str) : Prop := ∃ (u : Value) (v : V), X.mg x = some u ∧ RelV v u ∧ ∀ O H, Rp X.K O H v (L.Γ.gl k)
def MtSt (L : Lnk) (X : Cx) (k : Nat) (c : String) (m : Str) : Prop :=
  ∃ (kk : Nat) (g : Addr) (fd : FuncData) (ps : List Str), FnOk X.prog X.w X.K X.mg X.base (L2.CX X.prog X.w) kk g fd ps (spOf L X.K (L.Γ.fn k)) ∧ Room (kk + 2) X.A ∧ Meth X.K (He.ga X.K c) m g ∧ Binds X.K fd ps []
def PrSt (L : Lnk) (X : Cx) (k : Nat) (c : String) (m : Str) : Prop :=
  ∃ (kk : Nat) (p g : Addr) (fd : FuncData) (ps : List Str), FnOk X.prog X.w X.K X.mg X.base (L2.CX X.prog X.w) kk g fd ps (spOf L X.K (L.Γ.fn k)) ∧ Room (kk + 2) X.A ∧ PropOf X.K (He.ga X.K c) m p g ∧ Binds X.K fd ps []
def NwSt (L : Lnk) (X : Cx) (k : Nat) (c : String) (m : Str) : Prop :=
  ∃ (kk : Nat) (g : Addr) (fd : FuncData) (ps : List Str), FnOk X.prog X.w X.K X.mg X.base (L2.CX X.prog X.w) kk g fd ps (spOf L X.K (L.Γ.fn k)) ∧ Room (kk + 2) X.A ∧ Mk X.K (He.ga X.K c) g ∧ Binds X.K fd ps []
def blts : List Str := ["len", "abs", "max", "min", "int", "sum", "all", "any", "tuple", "isinstance", "repr", "str", "range", "enumerate", "zip", "list", "bool", "sorted", "set"]
/-- what of the text an error's class over ValueError without own __init__ must have -/
structure XcG (K : PySem.W.Frag) (n : String) : Prop where
  q : PySem.W.excIn K (He.ga K n) [.type "ValueError", .type "Exception", .type "BaseException", .type "object"] "ValueError.__new__" = true
  kp : PySem.W.keepIn K (.ref (He.ga K n)) = true
  sb : PySem.W.subIn K (.ref (He.ga K n)) (.type "BaseException") = some true
  ty : PySem.W.typeIn K (.ref (He.ga K n)) = some (.type "type")
structure XcA (K : PySem.W.Frag) (xc : List String) : Prop where
  g : ∀ n ∈ xc, XcG K n
  pr : ∀ (i j : Nat) (n m : String), xc[i]? = some n → xc[j]? = some m → PySem.W.exmOne K (.ref (He.ga K n)) (.ref (He.ga K m)) = some (decide (i = j))
/-- how an exception lies -/
def xrOf (K : PySem.W.Frag) (xc : List String) : Ow → Hp → Nat → D → Value → Option Addr → Prop := fun _ _ k d c dd => ∃ n, xc[k]? = some n ∧ c = .ref (He.ga K n) ∧ d = .non ∧ dd = none
structure XC (c : Ck) (L : Lnk) (W : WX) (X : Cx) : Prop where
  N : X.N = c.N
  nd : c.N.Nodup
  sc : X.env.scope = c.sc
  calm : X.calm = true
  un : X.A.units + 70 < cLine
  py : PyX X
  tk : Takes X W
  st : ∀ x, locC c x = true → X.fn x = true ∨ X.env.scope.names.lookup x = some .local
  bl : ∀ x ∈ blts, X.mg x = none
  fn : ∀ p ∈ c.fns, FnSt L X p.1 p.2
  gl : ∀ p ∈ c.gls, GlSt L X p.1 p.2
  ca : ClsA X.K L.Γ.cls
  cs : ∀ p ∈ c.cls, p ∈ L.Γ.cls
  cm : ∀ p ∈ c.cls, X.mg p.1 = some (.ref (He.ga X.K p.1))
  mt : ∀ p ∈ c.mts, MtSt L X p.1 p.2.1 p.2.2
  pr : ∀ p ∈ c.prs, PrSt L X p.1 p.2.1 p.2.2
  nw : ∀ p ∈ c.nws, NwSt L X p.1 p.2.1 p.2.2
  xa : XcA X.K c.xc
  xm : ∀ n ∈ c.xc, X.mg n = some (.ref (He.ga X.K n))
  xr : L.xr = xrOf X.K c.xc
section
variable {c : Ck} {L : Lnk} {W : WX} {X : Cx}
theorem XC.blk (x : XC c L W X) (s : Shared) (H : Hp) (scope : Scope) (cl : List (Str × Addr)) (C : Addr) (fp : List Addr) : XC (c.inn scope) L (fun _ _ _ _ => False) (X.blk s H scope (compEnvC scope cl C X.env) fp) where
  N := x.N
  nd := x.nd
  sc := by show relS scope X.env.scope = relS scope c.sc; rw [x.sc]
  calm := x.calm
  un := x.un
  py := ⟨x.py.env, x.py.seer, x.py.tree, x.py.deep⟩
  tk := takes0
  st := fun y h => by
    show (scope.names.lookup y == some NameKind.cell) = true ∨ (relS scope X.env.scope).names.lookup y = some .local
    rw [x.sc]
    unfold locC Ck.inn at h
    simp only at h
    split at h
    · rename_i e; exact .inr e
    · left; simpa using h
    · cases h
  bl := x.bl
  fn := x.fn
  gl := x.gl
  ca := x.ca
  cs := x.cs
  cm := x.cm
  mt := x.mt
  pr := x.pr
  nw := x.nw
  xa := x.xa
  xm := x.xm
  xr := x.xr
theorem XC.tr (x : XC c L W X) {W' : WX} {pn : List (Addr × Obj)} {xe : Value → Shared → Prop} (tk : Takes (X.tr pn xe) W') : XC c L W' (X.tr pn xe) where
  N := x.N
  nd := x.nd
  sc := x.sc
  calm := x.calm
  un := x.un
  py := ⟨x.py.env, x.py.seer, x.py.tree, x.py.deep⟩
  tk := tk
  st := x.st
  bl := x.bl
  fn := x.fn
  gl := x.gl
  ca := x.ca
  cs := x.cs
  cm := x.cm
  mt := x.mt
  pr := x.pr
  nw := x.nw
  xa := x.xa
  xm := x.xm
  xr := x.xr
theorem xcC_ok {k : Nat} {y : Str} (h : xcC c k y = true) : ∃ n : String, c.xc[k]? = some n ∧ (n : Str) = y := by
  unfold xcC at h
  split at h
  · rename_i n e; exact ⟨n, e, of_decide_eq_true h⟩
  · cases h
theorem visC_ok {y : Str} (x : XC c L W X) (h : visC c y = true) : Vis X.env.scope y := by
  unfold visC at h
  unfold Vis
  rw [x.sc]
  split at h
  · rename_i e; exact .inl e
  · rename_i e; exact .inr (.inl e)
  · rename_i e; exact .inr (.inr e)
  · cases h
theorem locC_ok {y : Str} (x : XC c L W X) (h : locC c y = true) : L2.Loc X.env.scope y := by
  unfold locC at h
  unfold L2.Loc
  rw [x.sc]
  split at h
  · rename_i e; exact .inl e
  · rename_i e; exact .inr e
  · cases h
theorem gloC_ok {y : Str} (x : XC c L W X) (h : gloC c y = true) : Gl X y ∧ (y == ("__debug__" : Str)) = false := by
  unfold gloC dbg at h
  simp only [Bool.and_eq_true, decide_eq_true_eq, Bool.not_eq_true'] at h
  refine ⟨?_, h.2⟩
  show X.env.scope.names.lookup y = _
  rw [x.sc]
  exact h.1
theorem pairC_ok : ∀ {l : List (Nat × Str)} {k : Nat} {x : Str}, pairC l k x = true → (k, x) ∈ l
  | p :: r, k, x, h => by
    unfold pairC at h
    rw [Bool.or_eq_true, Bool.and_eq_true] at h
    rcases h with ⟨h1, h2⟩ | h
    · have e1 := Nat.eq_of_beq_eq_true h1
      have e2 := of_decide_eq_true h2
      rw [← e1, ← e2]
      exact List.mem_cons_self
    · exact List.mem_cons_of_mem _ (pairC_ok h)
theorem noStar_each {e : Expr} {es : List Expr} {env : PySem.Env} (h : noStar e = true) : starEach (e :: es) env = (false, eval e env) :: starEach es env := by
  cases e <;> first | rfl | cases h
theorem noStar_assign {e : Expr} {es : List Expr} {env : PySem.Env} (h : noStar e = true) : assignEach (e :: es) env = (false, assign e env) :: assignEach es env := by
  cases e <;> first | rfl | cases h
theorem noStars_each {env : PySem.Env} : ∀ {es : List Expr}, noStars es = true → ∀ pos, (backTo pos (starEach es env)).any (·.1) = false
  | [], _, _ => rfl
  | e :: es, h, pos => by
    unfold noStars at h
    rw [Bool.and_eq_true] at h
    rw [noStar_each h.1]
    show (false || (backTo pos (starEach es env)).any (·.1)) = false
    rw [noStars_each h.2, Bool.false_or]
theorem noSet_marks {e : Expr} (h : noSet e = true) (op : CmpOp) : behindInMarks op e = false := by
  cases e <;> first | rfl | cases h
theorem noSet_last {e f : Expr} (h : noSet f = true) (o1 o2 : CmpOp) : lastMarks [o1, o2] [e, f] = false := by
  show behindInMarks o2 f = false
  exact noSet_marks h o2
theorem noSet_fold {e : Expr} (h : noSet e = true) (env : PySem.Env) (x : Value) : foldedSetIterable e env x = pure x := by
  cases e <;> first | rfl | cases h
theorem noSlice_ix {e : Expr} (h : noSlice e = true) : PlainIx e := fun o i => by
  cases e <;> first | rfl | cases h
theorem noCall_base {e : Expr} (h : noCall e = true) (m : Str) (env : PySem.Env) (t : Sem Value) : attributeBase e m env t = t := by
  cases e <;> first | rfl | cases h
theorem noBase_ok {e : Expr} (h : noBase e = true) (m : Str) (env : PySem.Env) (t : Sem Value) : attributeBase e m env t = t := by
  cases e with
  | Call f args kws pos =>
    cases f with
    | Name n p =>
      cases args with
      | nil =>
        cases kws with
        | nil => cases h
        | cons _ _ => rfl
      | cons _ _ => rfl
    | _ => rfl
  | _ => rfl
theorem mtC_ok : ∀ {l : List (Nat × String × Str)} {k : Nat} {c : String} {x : Str}, mtC l k c x = true → (k, c, x) ∈ l
  | p :: r, k, c, x, h => by
    unfold mtC at h
    simp only [Bool.or_eq_true, Bool.and_eq_true, decide_eq_true_eq] at h
    rcases h with ⟨⟨h1, h2⟩, h3⟩ | h
    · have e1 := Nat.eq_of_beq_eq_true h1
      rw [← e1, ← h2, ← h3]
      exact List.mem_cons_self
    · exact List.mem_cons_of_mem _ (mtC_ok h)
theorem hasC_ok : ∀ {l : List (String × List Str)} {c : String}, hasC l c = true → ∃ p ∈ l, p.1 = c
  | p :: r, c, h => by
    unfold hasC at h
    simp only [Bool.or_eq_true, decide_eq_true_eq] at h
    rcases h with h | h
    · exact ⟨p, List.mem_cons_self, h⟩
    · obtain ⟨q, h1, h2⟩ := hasC_ok h
      exact ⟨q, List.mem_cons_of_mem _ h1, h2⟩
theorem slC_ok : ∀ {l : List (String × List Str)} {c : String} {i : Nat} {f : Str}, slC l c i f = true → ∃ p ∈ l, p.1 = c ∧ p.2[i]? = some f ∧ f ≠ neS
  | p :: r, c, i, f, h => by
    unfold slC at h
    simp only [Bool.or_eq_true, Bool.and_eq_true, decide_eq_true_eq] at h
    rcases h with h | h
    · exact ⟨p, List.mem_cons_self, h⟩
    · obtain ⟨q, h1, h2⟩ := slC_ok h
      exact ⟨q, List.mem_cons_of_mem _ h1, h2⟩
theorem neC_ok : ∀ {l : List (String × List Str)} {c : String}, neC l c = true → ∃ p ∈ l, p.1 = c ∧ neS ∈ p.2
  | p :: r, c, h => by
    unfold neC at h
    simp only [Bool.or_eq_true, Bool.and_eq_true, decide_eq_true_eq] at h
    rcases h with h | h
    · exact ⟨p, List.mem_cons_self, h⟩
    · obtain ⟨q, h1, h2⟩ := neC_ok h
      exact ⟨q, List.mem_cons_of_mem _ h1, h2⟩
theorem neC_g {n : String} (x : XC c L W X) (h : neC c.cls n = true) : ∃ sl, ClsG X.K n sl ∧ neS ∈ sl := by
  obtain ⟨p, hp, rfl, e⟩ := neC_ok h
  exact ⟨_, x.ca.g p (x.cs p hp), e⟩
theorem hasC_has {n : String} (x : XC c L W X) (h : hasC c.cls n = true) : L.Γ.has n = true := by
  obtain ⟨p, hp, e⟩ := hasC_ok h
  exact List.any_eq_true.mpr ⟨p, x.cs p hp, by rw [e]; exact beq_self_eq_true n⟩
theorem hasC_g {n : String} (x : XC c L W X) (h : hasC c.cls n = true) : ∃ sl, ClsG X.K n sl := by
  obtain ⟨p, hp, rfl⟩ := hasC_ok h
  exact ⟨_, x.ca.g p (x.cs p hp)⟩
theorem hasC_mg {n : String} (x : XC c L W X) (h : hasC c.cls n = true) : X.mg n = some (.ref (He.ga X.K n)) := by
  obtain ⟨p, hp, rfl⟩ := hasC_ok h
  exact x.cm p hp
theorem slC_g {n : String} {i : Nat} {f : Str} (x : XC c L W X) (h : slC c.cls n i f = true) : ∃ sl, ClsG X.K n sl ∧ sl[i]? = some f ∧ f ≠ neS := by
  obtain ⟨p, hp, rfl, e⟩ := slC_ok h
  exact ⟨_, x.ca.g p (x.cs p hp), e⟩
theorem subV_ok {us vs : List Nat} (h : subV us vs = true) : ∀ v ∈ us, v ∈ vs := fun v hv => by
  have := List.all_eq_true.mp h v hv
  simpa using this
theorem bl_of (x : XC c L W X) {n : Str} (h : n ∈ blts) : X.mg n = none := x.bl n h
end
end DL

set_option maxHeartbeats 1000000
/-! DL25: readings of methods, properties, new instances, own == and len and str, f-texts, stores into slots. -/
namespace DL
open PySem PySem.Spec PyProof.Rows L2
section
variable {L : Lnk} {K : PySem.W.Frag} {W : WX} {X : Cx} {to ta tb : TE} {t : TA} {wo wa wb : WE'} {ws : Env → Sto → XD → (List D → Sto → Prop) → Prop} {c : String} {f : Nat}
theorem re_meth (h : RE L K W to wo) (hs : RA L K W t ws) : RE L K W (tMethS (He.ga K c) (spOf L K (L.Γ.fn f)) (WE W) to t) fun ρ S R Q => wo ρ S R fun x S1 => (∃ fs, x = .obj c fs) ∧ ws ρ S1 R fun ds S2 => L.Γ.fn f (x :: ds) S2 R Q := fun σ H ρ S O R Q Q' A hw k => by
  refine h.go A hw fun x H1 dx S1 O1 r1 A1 e1 ⟨⟨fs, he⟩, q1⟩ => ?_
  subst he
  have r0 := r1
  cases r1 with
  | obj hsl hd n n2 hv rs =>
    refine ⟨_, _, _, rfl, hsl, hs.go A1 q1 fun vs H2 ds S2 O2 r2 A2 e2 q2 => ?_⟩
    exact ⟨_ :: ds, S2, O2, R, Q, A2.sok, .cons (r0.mono (A1.mo e2)) r2, q2, fun k' d S' O' H' cc dd s' e' x r => A2.x k' d S' O' H' cc dd s' e' x r, fun v H' d S' O' r' s' e' q' => k v H' d S' O' r' s' ((e1.trans A1.sok e2).trans A2.sok e') q'⟩
/-- a promise used where nothing may be raised -/
theorem sp_use {F : FSp} {vs : List V} {ds : List D} {S S1 : Sto} {O O1 : Ow} {H H1 : Hp} {Q : QD} {Q' : VK} (s : Sok K S1 O1 H1) (r : Rps K O1 H1 vs ds) (h : F ds S1 xNo Q) (e : Ev S O H S1 O1 H1)
    (k : ∀ v H' d S' O', Rp K O' H' v d → Sok K S' O' H' → Ev S O H S' O' H' → Q d S' → Q' v H') : spOf L K F vs H1 Q' E0 :=
  ⟨ds, S1, O1, xNo, Q, s, r, h, fun _ _ _ _ _ _ _ _ _ _ z => z.elim, fun v H' d S' O' r' s' e' q' => k v H' d S' O' r' s' (e.trans s e') q'⟩
theorem passE0 {X : Cx} : Passes (L2.CX X.prog X.w) X E0 := fun _ _ _ _ _ _ _ ⟨_, _, _, _, _, _, _, _, _, _, _, _, z⟩ => z.elim
theorem re_prop (h : RE L K W to wo) : RE L K W (SlX.tPropSl (He.ga K c) (spOf L K (L.Γ.fn f)) E0 to) fun ρ S R Q => wo ρ S R fun x S1 => (∃ fs, x = .obj c fs) ∧ L.Γ.fn f [x] S1 xNo Q := fun σ H ρ S O R Q Q' A hw k => by
  refine h.go A hw fun x H1 dx S1 O1 r1 A1 e1 ⟨⟨fs, he⟩, q1⟩ => ?_
  subst he
  have r0 := r1
  cases r1 with
  | obj hsl hd n n2 hv rs => exact ⟨_, _, _, rfl, hsl, sp_use A1.sok (.cons r0 .nil) q1 e1 k⟩
theorem re_cmpO (ha : RE L K W ta wa) (hb : RE L K W tb wb) (nf : PySem.W.notFirst K (He.ga K c) (.ref (He.ga K c)) = true) : RE L K W (tOp (SlX.rOwn K (He.ga K c) (spOf L K (L.Γ.fn f)) E0) ta tb) fun ρ S R Q => wa ρ S R fun x S1 => wb ρ S1 R fun y S2 => (∃ fs, x = .obj c fs) ∧ (∃ fs, y = .obj c fs) ∧ L.Γ.fn f [x, y] S2 xNo Q := fun σ H ρ S O R Q Q' A hw k => by
  refine ha.go A hw fun x H1 dx S1 O1 r1 A1 e1 q1 => ?_
  refine hb.go A1 q1 fun y H2 dy S2 O2 r2 A2 e2 ⟨⟨fs, he⟩, ⟨gs, hg⟩, q2⟩ => ?_
  subst he hg
  have r1 := r1.mono (A1.mo e2)
  have a := r1
  have b := r2
  cases r1 with
  | obj hsl hd n n2 hv rs =>
    cases r2 with
    | obj hsl2 hd2 m m2 hv2 rs2 => exact ⟨_, _, _, _, _, _, _, rfl, rfl, hsl, hsl2, nf, sp_use A2.sok (.cons a (.cons b .nil)) q2 (e1.trans A1.sok e2) k⟩
/-- x op y, x an instance; y of a built-in class -/
def rOwnT (K : PySem.W.Frag) (C : Addr) (sp : Sp) (E : XK) : R2 := fun x y H Q => ∃ a dx vs t, x = .ref a ∧ SlX.Slt H a C dx vs ∧ TyX K H y t ∧ PySem.W.notFirst K C t = true ∧ sp [x, y] H Q E
theorem op_ownT {op : CmpOp} {CX : CXT} {C g : Addr} {n : Nat} {sp : Sp} {E : XK} (hop : ∀ a b, compareOp op a b = richCompare op a b) (hs : PySem.W.findIn X.K (.ref C) (cmpInfo op).2.1 = some (some (.ref g))) (hf : PySem.W.isFn X.K (.ref g) = true) (F : FnR X.prog X.w X.K X.mg X.base CX n g sp)
    (hr : Room n X.A) (hx : Passes CX X E) : OpR X (compareOp op) (rOwnT X.K C sp E) := fun pins s σ H x y v u Q I rx ry ⟨a, dx, vs, t, ex, ha, ty, hn, q⟩ => by
  subst ex
  cases (show v = Value.ref a from rx)
  obtain ⟨_, _, _, J, _⟩ := SlX.slt_inst I ha
  obtain ⟨P, Z, p, _⟩ := kit_of I ry ty
  obtain ⟨_, hF⟩ := I.fr
  rw [hop]
  exact PySem.W.cmp_K (op := op) (tb := t) hr.units0 hF I.ok.mod.kin J (Z.ty _ _ I.kIn p) hn hs hf (wpAny_mono (wpAny_call (run_fnR (us := [.ref a, u]) (vs := [.ref a, y]) F hr hx I (.cons rfl (.cons ry .nil)) q)) (fun w s' (hh : EP X pins σ Q w s') => by obtain ⟨z', H', I', rz, qz⟩ := hh; exact SlX.cmpback rz ⟨z', H', I', rz, qz⟩) fun _ _ x => x)
theorem not_first (G : ClsA K L.Γ.cls) (hc : L.Γ.has c = true) {t : String} (ht : t ∈ tys7) : PySem.W.notFirst K (He.ga K c) (.type t) = true := by
  obtain ⟨p, hp, rfl⟩ := has_mem hc
  have h := G.ty t ht p hp
  unfold PySem.W.kitOne at h
  rw [if_neg (by intro z; exact nomatch (eq_of_beq z))] at h
  unfold PySem.W.kitCls at h
  simp only at h
  split at h
  · unfold PySem.W.notFirst
    rw [h]; simp
  · cases h
theorem re_cmpOD {op : COp} {r : R2} (hr : Hr K r fun S dx dy P => cmpD op (res S dx) (res S dy) fun z => P (.bl z)) (G : ClsA K L.Γ.cls) (hc : L.Γ.has c = true) (ha : RE L K W ta wa) (hb : RE L K W tb wb) (nf : PySem.W.notFirst K (He.ga K c) (.ref (He.ga K c)) = true) :
    RE L K W (tOp (fun x y H Q => (SlX.rOwn K (He.ga K c) (spOf L K (L.Γ.fn f)) E0 x y H Q ∨ rOwnT K (He.ga K c) (spOf L K (L.Γ.fn f)) E0 x y H Q) ∨ r x y H Q) ta tb) fun ρ S R Q => wa ρ S R fun x S1 => wb ρ S1 R fun y S2 => ((∃ fs, x = .obj c fs) ∧ ((∃ fs, y = .obj c fs) ∨ ∃ t, typD (res S2 y) = some t) ∧ L.Γ.fn f [x, y] S2 xNo Q) ∨ cmpD op (res S2 x) (res S2 y) fun z => Q (.bl z) S2 := fun σ H ρ S O R Q Q' A hw k => by
  refine ha.go A hw fun x H1 dx S1 O1 r1 A1 e1 q1 => ?_
  refine hb.go A1 q1 fun y H2 dy S2 O2 r2 A2 e2 q => ?_
  have r1 := r1.mono (A1.mo e2)
  rcases q with ⟨⟨fs, he⟩, hy, q2⟩ | q
  · subst he
    have a := r1
    have b := r2
    have go := sp_use (L := L) (S := S) (O := O) (H := H) A2.sok (.cons a (.cons b .nil)) q2 (e1.trans A1.sok e2) k
    left
    cases r1 with
    | obj hsl hd n n2 hv rs =>
      rcases hy with ⟨gs, hg⟩ | ⟨t, ht⟩
      · subst hg
        cases r2 with
        | obj hsl2 hd2 m m2 hv2 rs2 => exact .inl ⟨_, _, _, _, _, _, _, rfl, rfl, hsl, hsl2, nf, go⟩
      · exact .inr ⟨_, _, _, _, rfl, hsl, tyx_of A2.sok r2 ht, not_first G hc (typD_mem ht), go⟩
  · right
    exact hr x y dx dy H2 S2 O2 (fun d => Q d S2) Q' A2.sok r1 r2 q fun v H' d rv s e qd => k v H' d S2 O2 rv s ((e1.trans A1.sok e2).trans A2.sok e) qd
theorem re_neO (ha : RE L K W ta wa) (hb : RE L K W tb wb) (nf : PySem.W.notFirst K (He.ga K c) (.ref (He.ga K c)) = true) : RE L K W (tOp (rOwnNe K (He.ga K c) (spOf L K (L.Γ.fn f)) E0) ta tb) fun ρ S R Q => wa ρ S R fun x S1 => wb ρ S1 R fun y S2 => (∃ fs, x = .obj c fs) ∧ (∃ fs, y = .obj c fs) ∧ L.Γ.fn f [x, y] S2 xNo fun d S3 => ∃ t, d = .bl t ∧ Q (.bl (!t)) S3 := fun σ H ρ S O R Q Q' A hw k => by
  refine ha.go A hw fun x H1 dx S1 O1 r1 A1 e1 q1 => ?_
  refine hb.go A1 q1 fun y H2 dy S2 O2 r2 A2 e2 ⟨⟨fs, he⟩, ⟨gs, hg⟩, q2⟩ => ?_
  subst he hg
  have r1 := r1.mono (A1.mo e2)
  have a := r1
  have b := r2
  cases r1 with
  | obj hsl hd n n2 hv rs =>
    cases r2 with
    | obj hsl2 hd2 m m2 hv2 rs2 =>
      refine ⟨_, _, _, _, _, _, _, rfl, rfl, hsl, hsl2, nf, sp_use A2.sok (.cons a (.cons b .nil)) q2 (e1.trans A1.sok e2) fun v H' d S' O' r s e q => ?_⟩
      obtain ⟨t, rfl, q⟩ := q
      cases r
      exact ⟨t, rfl, k _ _ _ _ _ (.bl _) s e q⟩
/-! ### a new instance -/
def tMakeS (C : Addr) (sp : Sp) (E : L2.St → XK) (t : TA) : TE := fun σ H Q => t σ H fun vs H1 => ∀ x dx, H1 x = none → H1 dx = none → dx ≠ x → sp (.ref x :: vs) (upd (upd H1 dx (.own x)) x (.ins C dx [])) (fun v H2 => v = .non ∧ Q (.ref x) H2) (E σ)
theorem run_mk {CX : CXT} {k : Nat} {C g : Addr} {fd : FuncData} {ps : List Str} {sp : Sp} {E : L2.St → XK} {pins : List (Addr × Obj)} {σ : L2.St} {H : Hp} {s : Shared} {Q : VK} {us : List Value} {vs : List V} (M : Mk X.K C g)
    (F : FnOk X.prog X.w X.K X.mg X.base CX k g fd ps sp) (hr : Room (k + 1) X.A) (hb : Binds X.K fd ps []) (hx : ∀ σ, PassesAt CX X σ (E σ)) (I : Inv X pins σ H s) (r : Vals vs us)
    (h : ∀ x dx, H x = none → H dx = none → dx ≠ x → sp (.ref x :: vs) (upd (upd H dx (.own x)) x (.ins C dx [])) (fun v H2 => v = .non ∧ Q (.ref x) H2) (E σ)) : wpAny (model X.prog X.w) X.A (call (.ref C) us) (EP X pins σ Q) X.xe s := by
  have i1 := I.hok.fresh (Nat.le_succ s.heap.objs.size)
  have i2 := I.hok.fresh (Nat.le_refl s.heap.objs.size)
  have hq := h (s.heap.objs.size + 1) s.heap.objs.size i1 i2 (Nat.ne_of_lt (Nat.lt_succ_self _))
  have J := Inv.made (C := C) I
  have rr : Vals (V.ref (s.heap.objs.size + 1) :: vs) (Value.ref (s.heap.objs.size + 1) :: us) := .cons rfl r
  have hl : (Value.ref (s.heap.objs.size + 1) :: us).length = ps.length := by
    rw [← rr.length]
    exact F.len _ _ _ _ hq
  have bb := hb _ (Value.ref (s.heap.objs.size + 1) :: us) J.kIn (by rw [List.append_nil]; exact hl)
  rw [List.append_nil] at bb
  refine wpAny_call (make_map (f := g) I.kIn M.makes M.init (beq_iff_eq.mp M.fn) (codeAny_mono (F.run _ X.stack _ _ ⟨_ :: us, []⟩ _ _ _ (E σ) (hr.make C us []) (J.env0.make C us []) bb rr hq) fun r s' z => ?_))
  cases r with
  | error e => exact hx σ pins _ _ e s' J z
  | ok fl =>
    cases fl with
    | ret u =>
      obtain ⟨v, H', J2, rv, ev, q3⟩ := J.after z
      cases ev
      exact ⟨rv, .ref (s.heap.objs.size + 1), H', J2, rfl, q3⟩
    | _ => exact z.elim
theorem pe_new {CX : CXT} {k : Nat} {C g : Addr} {fd : FuncData} {ps : List Str} {sp : Sp} {E : L2.St → XK} {x : Str} {p pos : Pos} {e : Expr} {es : List Expr} (M : Mk X.K C g)
    (F : FnOk X.prog X.w X.K X.mg X.base CX k g fd ps sp) (hr : Room (k + 1) X.A) (hb : Binds X.K fd ps []) (hx : ∀ σ, PassesAt CX X σ (E σ)) (hg : Gl X x) (hm : X.mg x = some (.ref C)) (ha : PA X (e :: es) t) (hdb : (x == ("__debug__" : Str)) = false)
    (he : starEach (e :: es) X.env = (false, eval e X.env) :: starEach es X.env) (hpl : (backTo pos (starEach es X.env)).any (·.1) = false) : PE X (.Call (.Name x p) (e :: es) [] pos) (tMakeS C sp E t) := by
  refine ⟨fun pins s σ H Q I h => wpAny_Call_Name_kw (ld_glob I hg hm ?_ hdb)⟩
  exact PySem.W.callWith_K (h₀ := X.base) I.ok.mod.kin M.kp (thn (ha.run pos pins s σ H _ I h) fun us s1 ⟨vs, H1, I1, r, q⟩ => ⟨I1.kIn, run_mk M F hr hb hx I1 r q⟩) he hpl
theorem fs_of {O : Ow} {H : Hp} : ∀ {vs : List (Option V)} (fs : List D), (∀ (i : Nat) (d : D), (fs.map some)[i]? = some (some d) → ∃ v, vs[i]? = some (some v) ∧ Rp K O H v d) → ∃ us : List V, (∀ (i : Nat) (v : V), us[i]? = some v → vs[i]? = some (some v)) ∧ Rps K O H us fs
  | vs, [], _ => ⟨[], fun _ _ h => by simp at h, .nil⟩
  | vs, d :: fs, h => by
    obtain ⟨v, h1, h2⟩ := h 0 d rfl
    obtain ⟨us, h3, h4⟩ := fs_of (vs := vs.drop 1) fs fun i d e => by
      obtain ⟨v, h1, h2⟩ := h (i + 1) d e
      exact ⟨v, by rw [List.getElem?_drop, Nat.add_comm]; exact h1, h2⟩
    refine ⟨v :: us, fun i w e => ?_, .cons h2 h4⟩
    cases i with
    | zero => cases e; exact h1
    | succ i =>
      have := h3 i w e
      rwa [List.getElem?_drop, Nat.add_comm] at this
theorem no_imm_own {x : Addr} : ¬ Imm (.own x) := fun z => by rcases z with ⟨_, e⟩ | ⟨_, _, e⟩ <;> cases e
theorem no_imm_ins {C dx : Addr} {fs : List (Str × V)} : ¬ Imm (.ins C dx fs) := fun z => by rcases z with ⟨_, e⟩ | ⟨_, _, e⟩ <;> cases e
/-- the store behind the making of an instance -/
theorem new_sok {S : Sto} {O : Ow} {H : Hp} {x dx : Addr} (n : Nat) (s : Sok K S O H) (hx : H x = none) (hd : H dx = none) (ne : dx ≠ x) :
    Sok K (sup (sup S dx .dx) x (.obj c dx (List.replicate n none))) (oadd (oadd O dx) x) (upd (upd H dx (.own x)) x (.ins (He.ga K c) dx [])) ∧
    Ev S O H (sup (sup S dx .dx) x (.obj c dx (List.replicate n none))) (oadd (oadd O dx) x) (upd (upd H dx (.own x)) x (.ins (He.ga K c) dx [])) := by
  have hx1 : upd H dx (.own x) x = none := by rw [upd_ne (Ne.symm ne)]; exact hx
  have s1 := s.resvU (u := .own x) hd no_imm_own
  have s2 := s1.resvU (u := .ins (He.ga K c) dx []) hx1 no_imm_ins
  have e1 := ev_resU (u := .own x) hd s
  have e2 := e1.trans s1 (ev_resU (u := .ins (He.ga K c) dx []) hx1 s1)
  have nx := s.noneH hx
  have nd := s.noneH hd
  refine ⟨⟨fun a ds h => ?_, s2.ex, fun a c' q fs h => ?_, fun a h => ?_, fun a a' c' c'' q fs fs' h h' => ?_⟩, ⟨fun a u h n => e2.keep a u h ?_, e2.own, fun a h n => ⟨(e2.res a h n).1, ?_⟩, e2.there⟩⟩
  · by_cases z : a = x
    · rw [z, sup_same] at h; cases h
    · rw [sup_ne z] at h
      by_cases z2 : a = dx
      · rw [z2, sup_same] at h; cases h
      · rw [sup_ne z2] at h; exact s2.dom a ds h
  · by_cases z : a = x
    · rw [z, sup_same] at h; cases h
      subst z
      refine ⟨.inr rfl, ⟨.own a, by rw [upd_ne ne]; exact upd_same⟩, [], .inl ⟨upd_same, rfl⟩, fun i d e => ?_⟩
      rw [List.getElem?_replicate] at e
      split at e <;> cases e
    · rw [sup_ne z] at h
      by_cases z2 : a = dx
      · rw [z2, sup_same] at h; cases h
      · rw [sup_ne z2] at h; exact s2.obj a c' q fs h
  · by_cases z : a = x
    · rw [z, sup_same] at h; cases h
    · rw [sup_ne z] at h
      by_cases z2 : a = dx
      · subst z2; exact ⟨.inl (.inr rfl), .inl ⟨x, by rw [upd_ne z]; exact upd_same⟩⟩
      · rw [sup_ne z2] at h; exact s2.dx a h
  · have old : ∀ a c' q fs, sup (sup S dx .dx) x (.obj c dx (List.replicate n none)) a = some (.obj c' q fs) → (a = x ∧ q = dx) ∨ (S a = some (.obj c' q fs) ∧ q ≠ dx) := fun a c' q fs h => by
      by_cases z : a = x
      · rw [z, sup_same] at h; cases h; exact .inl ⟨z, rfl⟩
      · rw [sup_ne z] at h
        by_cases z2 : a = dx
        · rw [z2, sup_same] at h; cases h
        · rw [sup_ne z2] at h
          refine .inr ⟨h, fun e => ?_⟩
          obtain ⟨_, ⟨u, hu⟩, _⟩ := s.obj a c' q fs h
          rw [e, hd] at hu; cases hu
    rcases old a c' q fs h with ⟨h1, h2⟩ | ⟨h1, h2⟩ <;> rcases old a' c'' q fs' h' with ⟨g1, g2⟩ | ⟨g1, g2⟩
    · rw [h1, g1]
    · exact absurd h2 g2
    · exact absurd g2 h2
    · exact s.inj a a' c' c'' q fs fs' h1 g1
  · exact n
  · rw [sup_ne, sup_ne]
    · exact n
    · intro z; rw [z] at h; exact s.notO hd h
    · intro z; rw [z] at h; exact s.notO hx h
theorem re_new {n : Nat} (hs : RA L K W t ws) : RE L K W (tMakeS (He.ga K c) (spOf L K (L.Γ.fn f)) (WE W) t) fun ρ S R Q => ws ρ S R fun ds S1 => ∀ p q, S1 p = none → S1 q = none → q ≠ p → L.Γ.fn f (.ref p :: ds) (sup (sup S1 q .dx) p (.obj c q (List.replicate n none))) R fun v S2 => v = .non ∧ ∃ fs, S2 p = some (.obj c q (fs.map some)) ∧ S2 q = some .dx ∧ Q (.obj c fs) (sdel (sdel S2 p) q) := fun σ H ρ S O R Q Q' A hw k => by
  refine hs.go A hw fun vs H1 ds S1 O1 r1 A1 e1 q1 => ?_
  intro x dx hx hd ne
  obtain ⟨s2, e2⟩ := new_sok (c := c) n A1.sok hx hd ne
  have ee := e1.trans A1.sok e2
  refine ⟨.ref x :: ds, _, _, R, _, s2, .cons .ref (r1.mono (A1.mo e2)), q1 x dx (A1.sok.noneH hx) (A1.sok.noneH hd) ne, fun k' d S' O' H' cc dd s' e' xr r => A1.x k' d S' O' H' cc dd s' (e2.trans s2 e') xr r, fun v H' d S' O' rv s' e' ⟨hv, fs, hp, hq, q⟩ => ?_⟩
  subst hv
  cases rv
  refine ⟨rfl, ?_⟩
  have e3 := ee.trans s2 e'
  obtain ⟨ho, hdx, us, sl, fr⟩ := s'.obj _ _ _ _ hp
  have hodx := (s'.dx _ hq).1
  obtain ⟨zs, z1, z2⟩ := fs_of fs fr
  have s4 : Sok K (sdel (sdel S' x) dx) (orem (orem O' x) dx) H' := ((s'.sdel (p := x)).sdel (p := dx)).free (p := x) (by rw [sdel_ne (Ne.symm ne)]; exact sdel_same) |>.free (p := dx) sdel_same
  refine k (.ref x) H' (.obj c fs) _ _ ?_ s4 ⟨e3.keep, fun a h => e3.own a h.1.1, fun a h n => ?_, e3.there⟩ q
  · exact .obj sl hdx (fun h => h.1.2 rfl) (fun h => h.2 rfl) z1 ((z2.mono mo_free).mono mo_free)
  · have nx : a ≠ x := fun z => by rw [z] at h; exact A.sok.notO (e1.there x hx) h
    have nd : a ≠ dx := fun z => by rw [z] at h; exact A.sok.notO (e1.there dx hd) h
    exact ⟨⟨⟨(e3.res a h n).1, nx⟩, nd⟩, by rw [sdel_ne nd, sdel_ne nx]; exact (e3.res a h n).2⟩
/-! ### a slot stored -/
def gFld (K : PySem.W.Frag) (to : TE) (f : Str) : TG := fun v σ H Q => to σ H fun x H1 => ∃ a C dx p vs i, x = .ref a ∧ SlX.Slt H1 a C dx vs ∧ SlX.SCls K C ∧ SlX.Slot1 K C f p i ∧ Q σ (SlX.slH H1 a C dx (SlX.putS i v vs))
theorem pg_fld {o : Expr} {f : Str} {pos : Pos} (ho : PE X o to) : PG X (.Attribute o f pos) (gFld X.K to f) := by
  refine ⟨fun pins s σ H v u Q I r h => ?_⟩
  rw [arm_assign_Attribute]
  refine wpAny_bind (wpAny_holding (thn (ho.run pins s σ H _ I h) fun ov s1 ⟨x, H1, I1, rx, a, C, dx, p, vs, i, ex, hsl, cl, sl, q⟩ => ?_))
  subst ex
  obtain rfl : ov = Value.ref a := rx
  refine wpAny_bind (wpAny_standAt (wpAny_bind (wpAny_holding (SlX.setslot_ok I1 hsl cl sl r fun s2 I2 => ?_))))
  exact wpAny_release ⟨σ, _, I2, q⟩
theorem slH_none {H : Hp} {a C dx b : Addr} {vs : List (Option V)} (h : SlX.slH H a C dx vs b = none) : H b = none ∨ b = a ∨ b = dx := by
  by_cases h1 : b = a
  · exact .inr (.inl h1)
  · by_cases h2 : b = dx
    · exact .inr (.inr h2)
    · rw [SlX.slH_ne h1 h2] at h; exact .inl h
theorem rg_fld {f : Str} {i : Nat} {sl : List Str} (G : ClsG K c sl) (hi : sl[i]? = some f) (hn : f ≠ neS) (h : RE L K W to wo) : RG L K W [] (gFld K to f) fun d ρ S R Q => wo ρ S R fun x S1 => ∃ p q fs, x = .ref p ∧ S1 p = some (.obj c q fs) ∧ S1 q = some .dx ∧ i < fs.length ∧ Q ρ (sup S1 p (.obj c q (fs.set i (some d)))) := fun v d σ H ρ S O Q Q' A r hw k => by
  refine h.go A hw fun x H1 dx S1 O1 r1 A1 e1 ⟨p, q, fs, hx, hp, hq, hi', q1⟩ => ?_
  subst hx
  cases r1
  obtain ⟨ho, hu, vs, slt, fr⟩ := A1.sok.obj _ _ _ _ hp
  obtain ⟨hoq, hqd⟩ := A1.sok.dx _ hq
  obtain ⟨pd, sd⟩ := G.sl i f hi hn
  have ne : q ≠ p := fun z => by rw [z, hp] at hq; cases hq
  have ia : ∃ u, H1 p = some u ∧ ¬ Imm u := slt_some slt
  have iq : ∃ u, H1 q = some u ∧ ¬ Imm u := by
    rcases hqd with ⟨y, e⟩ | e
    · exact ⟨_, e, no_imm_own⟩
    · exact ⟨_, e, fun z => by rcases z with ⟨_, e⟩ | ⟨_, _, e⟩ <;> cases e⟩
  have rv := r.mono (A.mo e1)
  have ev : Ev S1 O1 H1 (sup S1 p (.obj c q (fs.set i (some d)))) O1 (SlX.slH H1 p (He.ga K c) q (SlX.putS i v vs)) := by
    refine ⟨fun a u h n => ?_, fun _ h => .inl h, fun a h n => ⟨h, ?_⟩, fun a h => ?_⟩
    · rw [SlX.slH_ne (fun z => by rw [z, hp] at n; cases n) (fun z => by rw [z, hq] at n; cases n)]; exact h
    · rw [sup_ne (fun z => by rw [z, hp] at n; cases n)]; exact n
    · rcases slH_none h with e | e | e
      · exact e
      · rw [e] at h; unfold SlX.slH at h; rw [upd_same] at h; cases h
      · rw [e] at h; unfold SlX.slH at h; rw [upd_ne ne, upd_same] at h; cases h
  have m : Mo O1 H1 O1 (SlX.slH H1 p (He.ga K c) q (SlX.putS i v vs)) := by
    obtain ⟨u, hu, nu⟩ := ia
    obtain ⟨w, hw, nw⟩ := iq
    refine ⟨fun a z h n => ?_, fun a z h n => ?_, fun _ _ _ z => z⟩
    · rw [SlX.slH_ne (fun e => n (by rw [e]; exact ho)) (fun e => n (by rw [e]; exact hoq))]; exact h
    · rw [SlX.slH_ne (fun e => by rw [e, hu] at h; cases h; exact nu n) (fun e => by rw [e, hw] at h; cases h; exact nw n)]; exact h
  have keepH : ∀ a, a ≠ p → a ≠ q → SlX.slH H1 p (He.ga K c) q (SlX.putS i v vs) a = H1 a := fun a h1 h2 => SlX.slH_ne h1 h2
  have sk : Sok K (sup S1 p (.obj c q (fs.set i (some d)))) O1 (SlX.slH H1 p (He.ga K c) q (SlX.putS i v vs)) := by
    refine ⟨fun a ds h => ?_, fun a h => ?_, fun a c' q' fs' h => ?_, fun a h => ?_, fun a a' c' c'' q' fs' fs'' h h' => ?_⟩
    · have n1 : a ≠ p := fun z => by rw [z, sup_same] at h; cases h
      rw [sup_ne n1] at h
      have n2 : a ≠ q := fun z => by rw [z, hq] at h; cases h
      obtain ⟨o, xs, e, z, rr⟩ := A1.sok.dom a ds h
      exact ⟨o, xs, by rw [keepH a n1 n2]; exact e, z, rr.mono m⟩
    · by_cases n1 : a = p
      · exact ⟨SlX.SlO p (He.ga K c) q (SlX.putS i v vs), by rw [n1]; exact upd_same, fun z => by rcases z with ⟨_, e⟩ | ⟨_, _, e⟩ <;> (unfold SlX.SlO at e; cases e)⟩
      · by_cases n2 : a = q
        · exact ⟨.xd [], by rw [n2]; unfold SlX.slH; rw [upd_ne ne, upd_same], fun z => by rcases z with ⟨_, e⟩ | ⟨_, _, e⟩ <;> cases e⟩
        · obtain ⟨u, e, n⟩ := A1.sok.ex a h
          exact ⟨u, by rw [keepH a n1 n2]; exact e, n⟩
    · by_cases n1 : a = p
      · rw [n1, sup_same] at h; cases h
        subst n1
        refine ⟨ho, ⟨.xd [], by unfold SlX.slH; rw [upd_ne ne, upd_same]⟩, _, SlX.slH_slt ne, fun j d' e => ?_⟩
        by_cases ej : j = i
        · subst ej
          rw [List.getElem?_set_self hi'] at e
          cases e
          exact ⟨v, SlX.putS_get _ _ _, rv.mono m⟩
        · rw [List.getElem?_set_ne (Ne.symm ej)] at e
          obtain ⟨v', h1, h2⟩ := fr j d' e
          exact ⟨v', (SlX.putS_ne ej).mpr h1, h2.mono m⟩
      · rw [sup_ne n1] at h
        have n2 : a ≠ q := fun z => by rw [z, hq] at h; cases h
        have n3 : q' ≠ q := fun z => n1 (A1.sok.inj _ _ _ _ _ _ _ (z ▸ h) hp)
        obtain ⟨o, hu', vs', sl', fr'⟩ := A1.sok.obj a c' q' fs' h
        by_cases n4 : q' = p
        · refine ⟨o, ⟨SlX.SlO p (He.ga K c) q (SlX.putS i v vs), by rw [n4]; exact upd_same⟩, [], ?_, fun j d' e => ?_⟩
          · rcases sl' with ⟨e, _⟩ | ⟨e, e2⟩
            · exact .inl ⟨by rw [keepH a n1 n2]; exact e, rfl⟩
            · obtain ⟨u, hu2, _⟩ := ia
              rw [n4] at e2
              rcases slt with ⟨z, _⟩ | ⟨z, _⟩
              · rw [z] at e2; cases e2
              · rw [z] at e2; exact absurd (Option.some.inj e2) SlX.slO_not
          · obtain ⟨v', h1, h2⟩ := fr' j d' e
            rcases sl' with ⟨_, e3⟩ | ⟨_, e2⟩
            · rw [e3] at h1; simp at h1
            · rw [n4] at e2
              rcases slt with ⟨z, _⟩ | ⟨z, _⟩
              · rw [z] at e2; cases e2
              · rw [z] at e2; exact absurd (Option.some.inj e2) SlX.slO_not
        · refine ⟨o, ?_, vs', ?_, fr'.mono m⟩
          · obtain ⟨u, hu'⟩ := hu'; exact ⟨u, by rw [keepH q' n4 n3]; exact hu'⟩
          · rcases sl' with ⟨e, z⟩ | ⟨e, z⟩
            · exact .inl ⟨by rw [keepH a n1 n2]; exact e, z⟩
            · exact .inr ⟨by rw [keepH a n1 n2]; exact e, by rw [keepH q' n4 n3]; exact z⟩
    · have n1 : a ≠ p := fun z => by rw [z, sup_same] at h; cases h
      rw [sup_ne n1] at h
      by_cases n2 : a = q
      · exact ⟨(A1.sok.dx a h).1, .inr (by rw [n2]; unfold SlX.slH; rw [upd_ne ne, upd_same])⟩
      · have := A1.sok.dx a h
        rw [keepH a n1 n2]; exact this
    · have old : ∀ a c' q' fs', sup S1 p (.obj c q (fs.set i (some d))) a = some (.obj c' q' fs') → ∃ g, S1 a = some (.obj c' q' g) := fun a c' q' fs' h => by
        by_cases z : a = p
        · rw [z, sup_same] at h; cases h; rw [z]; exact ⟨_, hp⟩
        · rw [sup_ne z] at h; exact ⟨_, h⟩
      obtain ⟨g1, h1⟩ := old _ _ _ _ h
      obtain ⟨g2, h2⟩ := old _ _ _ _ h'
      exact A1.sok.inj _ _ _ _ _ _ _ h1 h2
  exact ⟨p, _, q, pd, vs, i, rfl, slt, G.sc, sd, k σ _ ρ _ O1 sk (e1.trans A1.sok ev) (A1.env.mono (ev.mo A1.sok)) .refl q1⟩
end
end DL

set_option maxHeartbeats 1000000
/-! DL26: len and str of own instances, f-texts, the empty dict. -/
namespace DL
open PySem PySem.Spec PyProof.Rows L2
section
variable {L : Lnk} {K : PySem.W.Frag} {W : WX} {X : Cx} {to : TE} {wo : WE'} {c : String} {f : Nat}
theorem fnR_of {P : Program} {w : World} {mg : Str → Option Value} {base : Heap} {CX : CXT} {k : Nat} {g : Addr} {sp : Sp} {fd : FuncData} {ps : List Str} (F : FnOk P w K mg base CX k g fd ps sp) (hb : Binds K fd ps []) : FnR P w K mg base CX k g sp :=
  (F.raw hb .nil).imp fun vs H Q E h => by rw [List.append_nil]; exact h
def rLenO (C : Addr) (sp : Sp) : List V → Hp → VK → Prop := fun xs H Q => ∃ a dx vs, xs = [V.ref a] ∧ SlX.Slt H a C dx vs ∧ sp [.ref a] H (fun v H' => ∃ i, v = .int i ∧ 0 ≤ i ∧ i < 2 ^ 62 ∧ Q v H') E0
theorem call_lenO {CX : CXT} {k : Nat} {C g : Addr} {sp : Sp} (hm : Meth X.K C "__len__" g) (F : FnR X.prog X.w X.K X.mg X.base CX k g sp) (hr : Room (k + 1) X.A) (hx : Passes CX X E0) : CallR X (.builtin "len") (rLenO C sp) := by
  intro pins s σ H xs us Q I r h
  obtain ⟨a, dx, vs, rfl, hsl, q⟩ := h
  obtain ⟨u, rfl, ru⟩ := r.one
  cases (show u = Value.ref a from ru)
  obtain ⟨sl, od, _, J, _⟩ := SlX.slt_inst I hsl
  obtain ⟨m, Fm⟩ := I.fr
  refine PySem.W.len_K Fm I.ok.mod.kin J hm.at_ hm.fn (wpAny_mono (wpAny_call (SlX.run_at (us := [.ref a]) (ws := [.ref a]) F hr.in1 I.env0.in1 hx I (.cons rfl .nil) q)) (fun w s' z => ?_) fun _ _ x => x)
  obtain ⟨v, H', I', rv, i, e, h0, h1, q⟩ := z
  subst e
  obtain ⟨t, e⟩ := rv
  subst e
  exact ⟨⟨h0, by omega⟩, .int i, H', I'.tok _, ⟨_, rfl⟩, q⟩
theorem re_lenO (h : RE L K W to wo) : RE L K W (tCB (rLenO (He.ga K c) (spOf L K (L.Γ.fn f))) (tCons to tNil)) fun ρ S R Q => wo ρ S R fun x S1 => (∃ fs, x = .obj c fs) ∧ L.Γ.fn f [x] S1 xNo fun v S2 => ∃ i : Int, v = .int i ∧ 0 ≤ i ∧ i < 2 ^ 62 ∧ Q v S2 := fun σ H ρ S O R Q Q' A hw k => by
  refine h.go A hw fun x H1 dx S1 O1 r1 A1 e1 ⟨⟨fs, he⟩, q1⟩ => ?_
  subst he
  have r0 := r1
  cases r1 with
  | obj hsl hd n n2 hv rs =>
    refine ⟨_, _, _, rfl, hsl, sp_use A1.sok (.cons r0 .nil) q1 e1 fun v H' d S' O' rv s' e' ⟨i, hd, h0, h1, q⟩ => ?_⟩
    subst hd
    cases rv
    exact ⟨i, rfl, h0, h1, k _ _ _ _ _ (.int i) s' e' q⟩
def rStrO (C : Addr) (sp : Sp) : List V → Hp → VK → Prop := fun xs H Q => ∃ a dx vs, xs = [V.ref a] ∧ SlX.Slt H a C dx vs ∧ sp [.ref a] H (fun v H' => ∃ z, v = .str z ∧ Q v H') E0
theorem call_strO {CX : CXT} {k : Nat} {C g : Addr} {sp : Sp} (hu : X.A.units + 70 < cLine) (hm : Meth X.K C "__str__" g) (F : FnR X.prog X.w X.K X.mg X.base CX k g sp) (hr : Room (k + 2) X.A) (hx : Passes CX X E0) : CallR X (.type "str") (rStrO C sp) := by
  intro pins s σ H xs us Q I r h
  obtain ⟨a, dx, vs, rfl, hsl, q⟩ := h
  obtain ⟨u, rfl, ru⟩ := r.one
  cases (show u = Value.ref a from ru)
  obtain ⟨sl, od, _, J, _⟩ := SlX.slt_inst I hsl
  have hr1 : Room (k + 1) X.A.in1 := Room.in1 hr
  refine PySem.W.kso_call (by have := hr1.in1.units0; exact this) I.kIn J hm.at_ hm.fn (wpAny_mono (wpAny_call (SlX.run_at (us := [.ref a]) (ws := [.ref a]) F hr1.in1 I.env0.in1.in1 hx I (.cons rfl .nil) q)) (fun w s' z => ?_) fun _ _ x => x)
  obtain ⟨v, H', I', rv, y, e, q⟩ := z
  subst e
  obtain ⟨t, e⟩ := rv
  subst e
  exact ⟨.str y, H', I', ⟨_, rfl⟩, q⟩
theorem re_strO (h : RE L K W to wo) : RE L K W (tCB (rStrO (He.ga K c) (spOf L K (L.Γ.fn f))) (tCons to tNil)) fun ρ S R Q => wo ρ S R fun x S1 => (∃ fs, x = .obj c fs) ∧ L.Γ.fn f [x] S1 xNo fun v S2 => ∃ s, v = .str s ∧ Q v S2 := fun σ H ρ S O R Q Q' A hw k => by
  refine h.go A hw fun x H1 dx S1 O1 r1 A1 e1 ⟨⟨fs, he⟩, q1⟩ => ?_
  subst he
  have r0 := r1
  cases r1 with
  | obj hsl hd n n2 hv rs =>
    refine ⟨_, _, _, rfl, hsl, sp_use A1.sok (.cons r0 .nil) q1 e1 fun v H' d S' O' rv s' e' ⟨i, hd, q⟩ => ?_⟩
    subst hd
    cases rv
    exact ⟨i, rfl, k _ _ _ _ _ (.str i) s' e' q⟩
/-! ### f-texts -/
abbrev WF := Env → Sto → XD → Str → (Str → Sto → Prop) → Prop
def RJ (L : Lnk) (K : PySem.W.Frag) (W : WX) (ts : List TE) (w : WF) : Prop :=
  ∀ (acc : Str) (σ : L2.St) (H : Hp) (ρ : Env) (S : Sto) (O : Ow) (R : XD) (Q : Str → Sto → Prop) (Q' : Str → Hp → Prop), At L K W σ H ρ S O R → w ρ S R acc Q →
    (∀ z H' S' O', Sok K S' O' H' → Ev S O H S' O' H' → Q z S' → Q' z H') → tJs ts acc σ H Q'
theorem rj_nil : RJ L K W [] fun _ S _ acc Q => Q acc S := fun acc σ H ρ S O R Q Q' A hw k => k acc H S O A.sok .refl hw
theorem rj_str {ts : List TE} {wr : WF} (h : RE L K W to wo) (hr : RJ L K W ts wr) : RJ L K W (to :: ts) fun ρ S R acc Q => wo ρ S R fun x S1 => match x with
    | .str y => y.length ≤ sizeLine ∧ (acc ++ y).length ≤ sizeLine ∧ wr ρ S1 R (acc ++ y) Q
    | .int i => False
    | _ => False := fun acc σ H ρ S O R Q Q' A hw k => by
  refine h.go A hw fun x H1 dx S1 O1 r1 A1 e1 q1 => ?_
  cases dx with
  | str y =>
    cases r1
    exact ⟨y, rfl, q1.2.1, hr _ σ H1 ρ S1 O1 R Q Q' A1 q1.2.2 fun z H' S' O' s' e' q' => k z H' S' O' s' (e1.trans A1.sok e') q'⟩
  | _ => exact q1.elim
theorem rj_fmt {ts : List TE} {wr : WF} (h : RE L K W to wo) (hr : RJ L K W ts wr) : RJ L K W (tFmt to :: ts) fun ρ S R acc Q => wo ρ S R fun x S1 => match x with
    | .str y => y.length ≤ sizeLine ∧ (acc ++ y).length ≤ sizeLine ∧ wr ρ S1 R (acc ++ y) Q
    | .int i => i.natAbs.log2 < 1920 ∧ (acc ++ (toString i : Str)).length ≤ sizeLine ∧ wr ρ S1 R (acc ++ (toString i : Str)) Q
    | _ => False := fun acc σ H ρ S O R Q Q' A hw k => by
  refine h.go A hw fun x H1 dx S1 O1 r1 A1 e1 q1 => ?_
  have fin : ∀ z, wr ρ S1 R z Q → tJs ts z σ H1 Q' := fun z hz => hr _ σ H1 ρ S1 O1 R Q Q' A1 hz fun z H' S' O' s' e' q' => k z H' S' O' s' (e1.trans A1.sok e') q'
  cases dx with
  | str y =>
    cases r1
    exact .inl ⟨y, rfl, q1.1, y, rfl, q1.2.1, fin _ q1.2.2⟩
  | int i =>
    cases r1
    exact .inr ⟨i, rfl, q1.1, _, rfl, q1.2.1, fin _ q1.2.2⟩
  | _ => exact q1.elim
theorem re_fst {ts : List TE} {wf : WF} (h : RJ L K W ts wf) : RE L K W (fun σ H Q => tJs ts Str.empty σ H fun out H1 => Q (.str out) H1) fun ρ S R Q => wf ρ S R Str.empty fun s S1 => Q (.str s) S1 := fun σ H ρ S O R Q Q' A hw k =>
  h Str.empty σ H ρ S O R _ _ A hw fun z H' S' O' s' e' q' => k _ H' _ S' O' (.str z) s' e' q'
theorem re_dct : RE L K W L2.tDNewK fun _ S _ Q => Q .dct S := fun σ H ρ S O R Q Q' A hw k => by
  intro p hp
  exact k (.ref p) _ .dct S O (.dct upd_same (A.sok.notO hp)) (A.sok.new hp) (ev_new hp A.sok) hw
end
end DL

set_option maxHeartbeats 4000000
/-! DL19: sorted(xs, key=f) where f's calls may leave new objects: whatever J says of the state stays true. -/
namespace DL
open PySem PySem.W PySem.Calls PyProof.Rows
section
variable {prog : Program} {w : World} {A : Around} {E : Value → Shared → Prop} {J : Shared → Prop} {lst kst : Addr}
/-- J does not look at the two lists that the sort works at -/
def Still (J : Shared → Prop) (lst kst : Addr) : Prop := ∀ (t : Shared) (c : Addr) (g : Heap) (tk : Nat), c = kst ∨ c = lst → J t → Heap.SameBut c t.heap g → (∃ o, g.get? c = some o) → J { t with heap := g, toks := tk }
theorem sortG_tail {s : Shared} {st : SortSt} {out : List Value} {ks : Array Value} {e1 e2 : Nat} {rev : Bool} {Z : PySem.Fin → Shared → Prop} (hJ : Still J lst kst) (j : J s) (gk : s.heap.get? kst = some (seqObj "list" ks e2)) (gl : s.heap.get? lst = some (seqObj "list" #[] e1))
    (ne : kst ≠ lst) (zk : ks.size ≤ sizeLine) (zo : out.length ≤ sizeLine) (nf : failedOf st = none) (ho : (if rev = true then ((arrOf st).map (·.2)).reverse else (arrOf st).map (·.2)) = out.toArray)
    (done : ∀ s' c, J s' → s'.heap.get? lst = some (seqObj "list" out.toArray c) → Z (.done (.ret .none)) s') :
    wpAny (model prog w) A (ksk_tail lst rev e1 (.ref kst) st) Z E s := by
  have b1 := Heap.SameBut.update s.heap kst (Obj.mapSeq fun _ => (#[] : Array Value))
  have gl1 := (b1.2 lst ne.symm).trans gl
  have b2 := Heap.SameBut.update (s.heap.update kst (Obj.mapSeq fun _ => (#[] : Array Value))) lst (Obj.mapSeq fun _ => out.toArray)
  have g2 := get?_update_seq gl1 fun _ => out.toArray
  unfold ksk_tail; dsimp only; rw [ho]
  refine wpAny_bind (listUpdate_at gk rfl ?_ zk (Nat.zero_le _))
  refine wpAny_bind (wpAny_letGo ?_)
  refine wpAny_bind (seqEpoch_at gl1 rfl ?_)
  refine wpAny_bind (listUpdate_at gl1 rfl ?_ (Nat.zero_le _) (by
    rw [List.size_toArray]
    omega))
  rw [nf]; simp only [bne_self_eq_false, Bool.false_eq_true, if_false]
  have j1 := hJ s kst _ s.toks (.inl rfl) j b1 ⟨_, get?_update_seq gk fun _ => (#[] : Array Value)⟩
  have j2 := hJ { s with heap := s.heap.update kst (Obj.mapSeq fun _ => (#[] : Array Value)), toks := s.toks } lst _ s.toks (.inr rfl) j1 b2 ⟨_, g2⟩
  exact wpAny_pure (done _ _ j2 g2)
theorem sortG_end {s : Shared} {vs : List Value} {ks : Array Value} {e1 e2 : Nat} {rev : Bool} {Z : PySem.Fin → Shared → Prop} {κ : PyProof.Rows.KeyKind} (hJ : Still J lst kst) (j : J s) (gk : s.heap.get? kst = some (seqObj "list" ks e2)) (gl : s.heap.get? lst = some (seqObj "list" #[] e1)) (ne : kst ≠ lst)
    (so : SortsAt prog w A s κ ks.toList) (hs : ks.size = vs.length) (hv : vs.length ≤ sizeLine) (done : ∀ s' c, J s' → s'.heap.get? lst = some (seqObj "list" (sortVals κ rev ks.toList vs).toArray c) → Z (.done (.ret .none)) s') :
    wpAny (model prog w) A (ksk_end lst rev vs.toArray e1 (.ref kst) ks) Z E s := by
  obtain ⟨kd, q1, q2⟩ := so.kind
  have lk : ks.toList.length = vs.length := by rw [Array.length_toList, hs]
  have kz : PyProof.Rows.KeysOf κ (ks.zip vs.toArray) := keysOf_zip so.keys
  have lo : (sortVals κ rev ks.toList vs).length = vs.length := sortVals_length rev lk
  generalize hA : (if rev = true then (ks.zip vs.toArray).reverse else ks.zip vs.toArray) = arr0
  have pm : arr0.Perm (ks.zip vs.toArray) := by
    rw [← hA]
    cases rev with
    | false => exact Array.Perm.refl _
    | true =>
      refine Array.perm_iff_toList_perm.mpr ?_
      rw [if_pos rfl, Array.toList_reverse]
      exact List.reverse_perm _
  have sz : arr0.size = vs.length := by rw [pm.size_eq, Array.size_zip, hs, List.size_toArray, Nat.min_self]
  have res : ∀ t : SortSt, (arrOf t).Perm arr0 → SortedToK κ (arrOf t) arr0.size → Stable κ (arrOf t) arr0 → (if rev = true then ((arrOf t).map (·.2)).reverse else (arrOf t).map (·.2)) = (sortVals κ rev ks.toList vs).toArray := fun t p1 p2 p3 => by
    subst hA
    have := congrArg List.toArray (sort_out (rev := rev) (keys := ks) (items := vs.toArray) (xs := arrOf t) (κ := κ) kz p1 p2 p3)
    rwa [Array.toArray_toList] at this
  have ahead : ∀ m : Sem PySem.Fin, wpAny (model prog w) A m Z E s → wpAny (model prog w) A (if rev = true then (do let _ ← rule "list.sort.reverse"; m) else m) Z E s := fun m hm => by
    split
    · exact wpAny_bind (wpAny_rule hm)
    · exact hm
  unfold ksk_end; dsimp only
  refine ahead _ ?_
  rw [hA]
  by_cases two : vs.toArray.size < 2
  · rw [if_pos two, if_pos two]
    refine wpAny_bind (wpAny_pure ?_)
    rw [StateT.run_pure]
    refine wpAny_bind (wpAny_pure ?_)
    dsimp only
    refine sortG_tail (st := SortSt.mk' general' arr0 #[] 7 none) hJ j gk gl ne (by rw [hs]; exact hv) (by rw [lo]; exact hv) rfl (res _ (Array.Perm.refl _) (fun i k ik hk => ?_) (Stable.refl _)) done
    rw [sz] at hk
    rw [List.size_toArray] at two
    have : i = k := by omega
    subst this
    exact KeyOrd.kle_refl _
  · rw [if_neg two, if_neg two]
    rw [List.size_toArray] at two
    refine wpAny_bind (q2 (by omega) _ ?_)
    refine wpAny_bind (wpAny_mono (H.wpS_sortRunsSt (κ := κ) (kd := kd) (a₀ := arr0) (st := SortSt.mk' kd arr0 #[] 7 none) (Q := fun _ t => failedOf t = none ∧ (if rev = true then ((arrOf t).map (·.2)).reverse else (arrOf t).map (·.2)) = (sortVals κ rev ks.toList vs).toArray)
      q1 (kz.perm pm) ⟨Array.Perm.refl _, rfl, rfl⟩ rfl (Stable.refl _) (by rw [sz]; omega) fun t p1 p2 p3 p4 => ⟨p2, res t p1 p3 p4⟩) ?_ fun _ _ z => z)
    rintro ⟨⟨⟩, t⟩ s' ⟨rfl, nf, eo⟩
    dsimp only at eo ⊢
    exact sortG_tail hJ j gk gl ne (by rw [hs]; exact hv) (by rw [lo]; exact hv) nf eo done
/-- the items by their keys -/
def KeyInt (v : Value) (k : Int) : Prop := ∃ t, v = Value.int k t
theorem keyInt_reads {h : Heap} {v : Value} {k : Int} (x : KeyInt v k) : Reads h v (.int k) [] := by
  obtain ⟨t, rfl⟩ := x
  first | exact Reads.int | exact .int | constructor
theorem sortG_rest {s : Shared} {f : Value} {vs : List Value} {kz : List Int} {e1 : Nat} {rev : Bool} {Z : PySem.Fin → Shared → Prop} (hJ : Still J lst kst) (j : J s) (gk : s.heap.get? kst = some (seqObj "list" #[] 0)) (gl : s.heap.get? lst = some (seqObj "list" #[] e1)) (ne : kst ≠ lst)
    (hl : kz.length = vs.length) (hv : vs.length ≤ sizeLine) (hu : A.units + 3 < cLine)
    (turn : ∀ (i : Nat) (v : Value) (k : Int), vs[i]? = some v → kz[i]? = some k → ∀ t : Shared, J t → wpAny (model prog w) A (call f [v]) (fun u t' => J t' ∧ (∀ c o, c = kst ∨ c = lst → t.heap.get? c = some o → t'.heap.get? c = some o) ∧ KeyInt u k) (fun _ _ => False) t)
    (done : ∀ s' out c, J s' → s'.heap.get? lst = some (seqObj "list" (List.toArray out) c) → KeyedOut rev (kz.map PyData.int) vs out → Z (.done (.ret .none)) s') :
    wpAny (model prog w) A (ksk_rest lst f rev vs.toArray e1 (.ref kst)) Z E s := by
  unfold ksk_rest
  refine wpAny_bind (wpAny_rule ?_)
  first
    | rw [List.forIn_toArray]
    | (rw [← Array.forIn_toList]; simp only [List.toList_toArray])
    | rw [← Array.forIn_toList]
  refine wpAny_bind (ksk_fold (fun i t => J t ∧ ∃ kA e, t.heap.get? kst = some (seqObj "list" kA e) ∧ t.heap.get? lst = some (seqObj "list" #[] e1) ∧ EachIs KeyInt kA.toList (kz.take i)) vs 0 s ⟨j, #[], 0, gk, gl, by rw [List.take_zero]; exact EachIs.nil⟩ ?step ?fin)
  case step =>
    rintro i x t hx ⟨jt, kA, e, nk, na, hk⟩
    simp only [Nat.zero_add] at hk ⊢
    have hi : i < vs.length := (List.getElem?_eq_some_iff.mp hx).1
    obtain ⟨k, hki⟩ : ∃ k, kz[i]? = some k := ⟨_, List.getElem?_eq_getElem (by omega)⟩
    have hz : kA.size ≤ vs.length := by
      have := hk.length
      rw [Array.length_toList, List.length_take] at this
      omega
    refine wpAny_bind (wpAny_attempt (wpAny_mono (turn i x k hx hki t jt) (fun u t' he => ?_) fun _ _ z => z.elim))
    obtain ⟨jt', kp, ku⟩ := he
    dsimp only
    have nk2 := kp _ _ (.inl rfl) nk
    have na2 := kp _ _ (.inr rfl) na
    have b1 := Heap.SameBut.update t'.heap kst (Obj.mapSeq (·.push u))
    have nk3 := get?_update_seq nk2 (·.push u)
    refine wpAny_bind (listUpdate_at nk2 rfl ?_ (Nat.le_trans hz hv) (Nat.le_trans (Nat.le_of_eq (Array.size_push ..)) (Nat.succ_le_succ (Nat.le_trans hz hv))))
    refine wpAny_pure ⟨rfl, hJ _ _ _ _ (.inl rfl) jt' b1 ⟨_, nk3⟩, kA.push u, _, nk3, (b1.2 lst ne.symm).trans na2, ?_⟩
    have ek : kz.take (i + 1) = kz.take i ++ [k] := by rw [List.take_add_one, hki]; simp
    have ea : (kA.push u).toList = kA.toList ++ [u] := by simp
    rw [ea, ek]
    exact each_snoc ku hk
  case fin =>
    rintro t ⟨jt, kA, e, nk, na, hk⟩
    have e3 : kz.take (0 + vs.length) = kz := List.take_of_length_le (by omega)
    rw [e3] at hk
    have hk' : EachIs (fun v d => ∃ as, Reads t.heap v d as) kA.toList (kz.map PyData.int) := by
      have : ∀ {l : List Value} {m : List Int}, EachIs KeyInt l m → EachIs (fun v d => ∃ as, Reads t.heap v d as) l (m.map PyData.int) := fun {l m} x => by
        induction x with
        | nil => exact EachIs.nil
        | cons a _ ih => exact EachIs.cons ⟨[], keyInt_reads a⟩ ih
      exact this hk
    have hs : kA.size = vs.length := by
      have := hk.length
      rw [Array.length_toList] at this
      omega
    have al : AllAlike (kz.map PyData.int) := fun d hd d' hd' => by
      obtain ⟨a, _, rfl⟩ := List.mem_map.mp hd
      obtain ⟨b, _, rfl⟩ := List.mem_map.mp hd'
      rfl
    have sk : Sortable (kz.map PyData.int) := .inr fun d hd => by
      obtain ⟨a, _, rfl⟩ := List.mem_map.mp hd
      exact ⟨fun z => (nomatch z), fun _ z => (nomatch z)⟩
    have du : ∀ d, d ∈ kz.map PyData.int → A.units + d.depth < cLine := fun d hd => by
      obtain ⟨a, _, rfl⟩ := List.mem_map.mp hd
      show A.units + PyData.depth (.int a) < cLine
      have : PyData.depth (.int a) = 0 := by first | rfl | simp [PyData.depth]
      omega
    refine wpAny_bind (listItems_at nk rfl ?_)
    exact sortG_end (κ := dataKind t.heap (kz.map PyData.int)) hJ jt nk na ne (SortsAt.data (s := t) hk' al sk du) hs hv fun s' c j' g' => done s' _ c j' g' ⟨t.heap, kA.toList, al, rfl, hk'⟩
end
end DL

set_option maxHeartbeats 4000000
/-! DL20: sorted(xs, key=f), f a def: the rule. -/
namespace DL
open PySem PySem.Spec PyProof.Rows L2
/-- sorted(xs, key=f): I stays true of the abstract heap through the calls of f -/
def rSortK (K : PySem.W.Frag) (f : Addr) (sp : Sp) : List V → List V → Hp → VK → Prop := fun vs zs H Q => ∃ (a : Addr) (xs : List V) (kz : List Int) (I : Hp → Prop), vs = [.ref a] ∧ zs = [.ref f] ∧ SqL K H a xs ∧ kz.length = xs.length ∧ I H ∧
  (∀ (H' : Hp) (i : Nat) (x : V) (k : Int), I H' → xs[i]? = some x → kz[i]? = some k → sp [x] H' (fun v H2 => v = .int k ∧ I H2) E0) ∧ ∀ H' p, I H' → H' p = none → Q (.ref p) (upd H' p (.lst (byKeys xs kz)))
section
variable {X : Cx}
theorem room_two {k : Nat} {A : Around} (r : Room (k + 2) A) : Room k A.in1.in1 := ((r.mono (show k + 1 + 1 ≤ k + 2 by omega)).in1).in1
theorem vals_each : ∀ {xs : List V} {vs : List Value} {kz : List Int}, Vals xs vs → kz.length = xs.length → PySem.W.EachIs (fun (v : Value) (p : V × Int) => RelV p.1 v) vs (xs.zip kz)
  | _, _, kz, .nil, h => by
    have : kz = [] := List.eq_nil_of_length_eq_zero h
    rw [this]; exact .nil
  | _, _, [], .cons _ _, h => by simp at h
  | _, _, k :: kz, .cons r rs, h => .cons r (vals_each rs (by simpa using h))
theorem each_vals : ∀ {vs : List Value} {ps : List (V × Int)}, PySem.W.EachIs (fun (v : Value) (p : V × Int) => RelV p.1 v) vs ps → Vals (ps.map Prod.fst) vs
  | _, _, .nil => .nil
  | _, _, .cons r rs => .cons r (each_vals rs)
theorem vals_at {xs : List V} {vs : List Value} (r : Vals xs vs) : ∀ {i : Nat} {v : Value}, vs[i]? = some v → ∃ x, xs[i]? = some x ∧ RelV x v := by
  induction r with
  | nil => intro i v h; simp at h
  | cons a b ih =>
    intro i v h
    cases i with
    | zero => exact ⟨_, rfl, by simpa using (show _ = _ from Option.some.inj h) ▸ a⟩
    | succ i => exact ih (by simpa using h)
theorem cr_sortK {k : Nat} {f : Addr} {fd : FuncData} {ps : List Str} {sp : Sp} (F : FnOk X.prog X.w X.K X.mg X.base (L2.CX X.prog X.w) k f fd ps sp) (hr : Room (k + 2) X.A) (hu : X.A.units + 70 < cLine) (hb : Binds X.K fd ps []) :
    CallRK X (.builtin "sorted") [Str.ofString "key"] (rSortK X.K f sp) := by
  intro pins s σ H xs zs us ws Q I r rz h
  obtain ⟨a, xs, kz, J, rfl, rfl, hs, hl, j0, hc, hq⟩ := h
  obtain ⟨its, rv, pl, hz⟩ := I.list hs
  obtain ⟨u, rfl, ru⟩ := vals1 r
  obtain rfl : u = Value.ref a := ru
  obtain ⟨g, rfl, rg⟩ := vals1 rz
  obtain rfl : g = Value.ref f := rg
  have hlv : kz.length = its.length := by rw [hl, rv.length]
  have hzv : its.length ≤ sizeLine := by rw [← rv.length]; exact hz
  show wpAny _ _ (call (.builtin "sorted") [.ref a] [(Str.ofString "key", .ref f)]) _ _ _
  refine PySem.W.sorted_of_sort pl.isList hzv (ksk_s1 _ _) (fun x => ksk_l1 _ _) fun E' => ?_
  rw [ksk_t1]
  generalize hlst : s.heap.objs.size + 1 = lst
  have ho := PySem.W.copyHeap_at s.heap its
  rw [hlst] at ho
  have below : ∀ {b : Addr} {o : Obj}, s.heap.get? b = some o → b < lst := fun {b o} q => hlst ▸ Nat.lt_succ_of_lt (Heap.lt_size q)
  have hla : lst < (PySem.W.copyHeap s.heap its).objs.size := Heap.lt_size ho
  -- the sort's own objects
  have go1 := get?_update_seq ho fun _ => (#[] : Array Value)
  generalize hk0 : (((PySem.W.copyHeap s.heap its).update lst (Obj.mapSeq fun _ => (#[] : Array Value))).push (seqObj "tuple" its.toArray 0)).objs.size = kst
  have hks : kst = (PySem.W.copyHeap s.heap its).objs.size + 1 := by rw [← hk0, size_push', Heap.size_update]
  have llt : lst < kst := by rw [hks]; exact Nat.lt_succ_of_lt hla
  have ne : kst ≠ lst := Nat.ne_of_gt llt
  have old : ∀ b o, s.heap.get? b = some o → (PySem.W.sortingHeap (PySem.W.copyHeap s.heap its) lst its).get? b = some o := fun b o q =>
    PySem.W.sortingHeap_old (Nat.ne_of_lt (below q)) (PySem.W.copyHeap_old q)
  let JJ : Shared → Prop := fun t => t.os = s.os ∧ AllBare t.gens ∧ (∃ o, t.heap.get? kst = some o) ∧ (∃ o, t.heap.get? lst = some o) ∧ ∃ H', Un (frs X.stack) [] H H' s.heap t.heap ∧ HOk X.prog X.w H' t.heap ∧ J H' ∧ H' kst = none ∧ H' lst = none
  have fresh : ∀ c, c = kst ∨ c = lst → s.heap.get? c = none := fun c hc => Heap.get?_none_of_le (by
    have hs : s.heap.objs.size ≤ lst := hlst ▸ Nat.le_succ _
    rcases hc with e | e
    · rw [e]; exact Nat.le_trans hs (Nat.le_of_lt llt)
    · rw [e]; exact hs)
  have still : Still JJ lst kst := fun t c g tk hc ⟨os, bare, ⟨o1, g1⟩, ⟨o2, g2⟩, H', un, hok, j, n1, n2⟩ sb gc => by
    have nc : H' c = none := by rcases hc with e | e <;> rw [e] <;> assumption
    have old' : ∀ {b : Addr} {o : Obj}, s.heap.get? b = some o → b ≠ c := fun {b o} q e => by rw [e, fresh c hc] at q; cases q
    have get : ∀ b, b ≠ c → g.get? b = t.heap.get? b := fun b hb => sb.2 b hb
    have there : ∀ b o, t.heap.get? b = some o → ∃ o', g.get? b = some o' := fun b o q => by
      by_cases hb : b = c
      · rw [hb]; exact gc
      · exact ⟨o, by rw [get b hb]; exact q⟩
    refine ⟨os, bare, there _ _ g1, there _ _ g2, H', ⟨fun b o q h1 h2 h3 => ?_, fun b o q h1 h2 h3 => ?_, un.free, fun b o q h1 => ?_, un.tups, un.frzs, un.tbls⟩, fun b o q => ?_, j, n1, n2⟩
    · rw [get b (old' q)]; exact un.keep b o q h1 h2 h3
    · rw [get b (old' q)]; exact un.slot b o q h1 h2 h3
    · obtain ⟨o', q'⟩ := un.there b o q h1
      exact there b o' q'
    · refine (hok b o q).stay (fun d u hd qd => ?_) (fun _ z => z) fun _ _ z => z
      have : d ≠ c := fun e => by
        subst e
        rcases hd with e | e
        · rw [← e] at q; rw [q] at nc; cases nc
        · rw [e] at nc; cases nc
      rw [get d this]; exact qd
  have fr : ∀ c, c = kst ∨ c = lst → c ∉ frs X.stack := fun c hc z => by
    obtain ⟨_, o, q, _⟩ := I.stack.mem z
    rw [fresh c hc] at q; cases q
  have init : JJ { s with heap := PySem.W.sortingHeap (PySem.W.copyHeap s.heap its) lst its } :=
    ⟨rfl, I.bare, ⟨seqObj "list" #[] 0, by rw [← hk0]; exact Heap.get?_push_size _ rfl⟩, ⟨_, Heap.get?_push_of_some _ (Heap.get?_push_of_some _ go1)⟩, H, Un.kept old, I.hok.kept old, j0,
      I.hok.fresh (Nat.le_trans (hlst ▸ Nat.le_succ _) (Nat.le_of_lt llt)), I.hok.fresh (hlst ▸ Nat.le_succ _)⟩
  have inv : ∀ t H', t.os = s.os → AllBare t.gens → Un (frs X.stack) [] H H' s.heap t.heap → HOk X.prog X.w H' t.heap → Inv X pins σ H' t := fun t H' os bare un hok => I.call' (ch := []) os un hok bare fun b z => nomatch z
  unfold ksk_tree
  refine wpAny_bind (listItems_at ho rfl ?_)
  refine wpAny_bind (listUpdate_at ho rfl ?_ (by rw [List.size_toArray]; exact hzv) (Nat.zero_le _))
  refine wpAny_bind (seqEpoch_at go1 rfl ?_)
  refine wpAny_bind (wpAny_newTuple ?_ (by show its.length ≤ _; exact hzv))
  refine wpAny_bind (wpAny_newList ?_ (Nat.zero_le _))
  refine wpAny_holding ?_
  have hkk : (((PySem.W.copyHeap s.heap its).update lst (Obj.mapSeq fun _ => (#[] : Array Value))).push (seqObj "tuple" its.toArray 0)).get? lst = some (seqObj "list" #[] _) := Heap.get?_push_of_some _ go1
  have hu2 : X.A.in1.in1.units + 3 < cLine := by show X.A.units + 1 + 1 + 3 < _; omega
  subst hk0
  refine sortG_rest (prog := X.prog) (w := X.w) (A := X.A.in1.in1) (J := JJ) (f := .ref f) (rev := false) (kz := kz) (s := { s with heap := PySem.W.sortingHeap (PySem.W.copyHeap s.heap its) lst its }) still init (Heap.get?_push_size _ rfl) (Heap.get?_push_of_some _ hkk) ne hlv hzv
    hu2 (fun i v k hv hk t jt => ?_) fun s' out c jt hg ko => ?_
  · obtain ⟨os, bare, ⟨o1, g1⟩, ⟨o2, g2⟩, H', un, hok, j, n1, n2⟩ := jt
    obtain ⟨x, hx, rx⟩ := vals_at rv hv
    have It := inv t H' os bare un hok
    have b := hb t [v] It.kIn (F.len _ _ _ _ (hc H' i x k j hx hk))
    refine wpAny_call (codeAny_mono (F.run X.A.in1.in1 X.stack t H' ⟨[v], []⟩ [v] [x] _ E0 (room_two hr) It.env0.in1.in1 b (.cons rx .nil) (hc H' i x k j hx hk)) fun r t' hq => ?_)
    cases r with
    | error e =>
      have hq : L2.CX X.prog X.w X.stack H' t E0 e t' := hq
      obtain ⟨_, _, _, _, _, _, _, _, _, _, _, _, z⟩ := hq
      exact z.elim
    | ok fl =>
      cases fl with
      | next => exact False.elim hq
      | brk => exact False.elim hq
      | cont => exact False.elim hq
      | ret u =>
        have hq : CE X.stack X.prog X.w H' t _ u t' := hq
        obtain ⟨y, H2, os2, bare2, un2, hok2, ru, rfl, j2⟩ := hq
        have kp : ∀ (c : Addr) (o : Obj), H' c = none → c ∉ frs X.stack → t.heap.get? c = some o → t'.heap.get? c = some o := fun c o h1 h2 q => un2.keep c o q h1 h2 (by simp)
        refine ⟨⟨os2.trans os, bare2, ⟨_, kp _ _ n1 (fr _ (.inl rfl)) g1⟩, ⟨_, kp _ _ n2 (fr _ (.inr rfl)) g2⟩, H2, un.trans un2, hok2, j2, un2.free _ _ g1 n1 (by simp), un2.free _ _ g2 n2 (by simp)⟩, fun c o hc q => ?_, ?_⟩
        · rcases hc with e | e
          · rw [e] at q ⊢; exact kp _ _ n1 (fr _ (.inl rfl)) q
          · rw [e] at q ⊢; exact kp _ _ n2 (fr _ (.inr rfl)) q
        obtain ⟨tt, rfl⟩ := (show ∃ tt, u = Value.int k tt from ru)
        exact ⟨tt, rfl⟩
  · obtain ⟨os, bare, ⟨o1, g1⟩, ⟨o2, g2⟩, H', un, hok, j, n1, n2⟩ := jt
    have ek : kz.map PyData.int = (xs.zip kz).map fun p => PyData.int p.2 := by
      have : kz = (xs.zip kz).map Prod.snd := (List.map_snd_zip (Nat.le_of_eq hl)).symm
      conv => lhs; rw [this]
      rw [List.map_map]; rfl
    rw [ek] at ko
    have ev := PySem.W.keyedOut_each (R := fun (v : Value) (p : V × Int) => RelV p.1 v) (fun p => PyData.int p.2) ko (vals_each rv hl)
    rw [PySem.W.dataLe_int (fun p : V × Int => p.2)] at ev
    have rv2 : Vals (byKeys xs kz) out := each_vals ev
    have lo : (byKeys xs kz).length = xs.length := by
      unfold byKeys
      rw [List.length_map, List.length_mergeSort, List.length_zip, hl, Nat.min_self]
    refine ⟨rfl, .ref lst, upd H' lst (.lst (byKeys xs kz)), ?_, rfl, hq H' lst j n2⟩
    have new : ObjOk X.prog X.w (upd H' lst (.lst (byKeys xs kz))) s'.heap lst (.lst (byKeys xs kz)) := ⟨by rw [lo]; exact hz, out, c, rv2, hg⟩
    have nl : ∀ {b : Addr} {o : HO}, H' b = some o → b ≠ lst := fun {b o} q e => by rw [e, n2] at q; cases q
    have hok2 : HOk X.prog X.w (upd H' lst (.lst (byKeys xs kz))) s'.heap := fun b o q => by
      by_cases e : b = lst
      · subst e; rw [upd_same] at q; cases q; exact new
      · rw [upd_ne e] at q
        exact (hok b o q).stay (fun _ _ _ z => z) (fun d z => by rw [upd_ne (nl z)]; exact z) fun d ys z => by rw [upd_ne (nl z)]; exact z
    refine inv s' _ os bare ⟨un.keep, un.slot, fun b o q h1 h2 => ?_, un.there, fun b ys q => ?_, fun b o u q => ?_, fun b ps q => ?_⟩ hok2
    · have : b ≠ lst := fun e => by rw [e, fresh lst (.inr rfl)] at q; cases q
      rw [upd_ne this]; exact un.free b o q h1 h2
    · have z := un.tups b ys q
      rw [upd_ne (nl z)]; exact z
    · have z := un.frzs b o u q
      rw [upd_ne (nl z)]; exact z
    · obtain ⟨more, z⟩ := un.tbls b ps q
      exact ⟨more, by rw [upd_ne (nl z)]; exact z⟩
end
end DL

/-! DL21: sorted(xs, key=f) over data. -/
namespace DL
open PySem PySem.Spec PyProof.Rows L2
section
variable {L : Lnk} {K : PySem.W.Frag} {W : WX} {wa : WE'}
def tCon (vs : List V) : TA := fun _ H Q => Q vs H
theorem zip_rps {O : Ow} {H : Hp} : ∀ {xs : List V} {ds : List D} {kz : List Int}, Rps K O H xs ds → ∃ ps : List ((V × D) × Int), xs.zip kz = ps.map (fun p => (p.1.1, p.2)) ∧ ds.zip kz = ps.map (fun p => (p.1.2, p.2)) ∧ ∀ p ∈ ps, Rp K O H p.1.1 p.1.2
  | _, _, kz, .nil => ⟨[], by simp, by simp, fun _ h => nomatch h⟩
  | _, _, [], .cons _ _ => ⟨[], by simp, by simp, fun _ h => nomatch h⟩
  | _, _, k :: kz, .cons (v := v) (d := d) r rs => by
    obtain ⟨ps, e1, e2, h⟩ := zip_rps (kz := kz) rs
    refine ⟨((v, d), k) :: ps, by rw [List.zip_cons_cons, e1]; rfl, by rw [List.zip_cons_cons, e2]; rfl, fun p hp => ?_⟩
    rcases List.mem_cons.mp hp with e | e
    · rw [e]; exact r
    · exact h p e
theorem rps_of {O : Ow} {H : Hp} : ∀ {ps : List ((V × D) × Int)}, (∀ p ∈ ps, Rp K O H p.1.1 p.1.2) → Rps K O H (ps.map fun p => p.1.1) (ps.map fun p => p.1.2)
  | [], _ => .nil
  | p :: ps, h => .cons (h p List.mem_cons_self) (rps_of fun q hq => h q (List.mem_cons_of_mem _ hq))
theorem Rps.byKeys {O : Ow} {H : Hp} {xs : List V} {ds : List D} {kz : List Int} (r : Rps K O H xs ds) : Rps K O H (DL.byKeys xs kz) (DL.byKeys ds kz) := by
  obtain ⟨ps, e1, e2, h⟩ := zip_rps (kz := kz) r
  unfold DL.byKeys
  rw [e1, e2]
  have m : ∀ {α : Type} (f : (V × D) × Int → α × Int), (∀ p, (f p).2 = p.2) → (ps.map f).mergeSort (fun p q => decide (p.2 ≤ q.2)) = (ps.mergeSort fun p q => decide (p.2 ≤ q.2)).map f := fun {α} f hf => by
    rw [List.map_mergeSort]
    intro a _ b _
    rw [hf, hf]
  rw [m (fun p => (p.1.1, p.2)) fun _ => rfl, m (fun p => (p.1.2, p.2)) fun _ => rfl, List.map_map, List.map_map]
  exact rps_of (ps := ps.mergeSort fun p q => decide (p.2 ≤ q.2)) fun p hp => h p (List.mem_mergeSort.mp hp)
theorem byKeys_len {α : Type} {xs : List α} {kz : List Int} (h : kz.length = xs.length) : (byKeys xs kz).length = xs.length := by
  unfold byKeys
  rw [List.length_map, List.length_mergeSort, List.length_zip, h, Nat.min_self]
theorem rps_at {O : Ow} {H : Hp} {xs : List V} {ds : List D} (r : Rps K O H xs ds) : ∀ {i : Nat} {x : V}, xs[i]? = some x → ∃ d, ds[i]? = some d ∧ Rp K O H x d := by
  induction xs generalizing ds with
  | nil => intro i x h; simp at h
  | cons v vs ih =>
    cases r with
    | cons r rs =>
      intro i x h
      cases i with
      | zero => cases Option.some.inj h; exact ⟨_, rfl, r⟩
      | succ i => exact ih rs (by simpa using h)
theorem rl_sortK {ta : TE} {f : Addr} {F : FSp} (ha : RE L K W ta wa) : RL L K W (tCKw (rSortK K f (spOf L K F)) (tCons ta tNil) (tCon [.ref f])) fun ρ S R Q => wa ρ S R fun x S1 => match res S1 x with
    | .lst xs => ∃ kz : List Int, kz.length = xs.length ∧ (∀ (i : Nat) (d : D) (k : Int), xs[i]? = some d → kz[i]? = some k → F [d] S1 xNo fun v S2 => v = .int k ∧ ∀ a o, S1 a = some o → S2 a = some o) ∧ Q (byKeys xs kz) S1
    | _ => False := fun σ H ρ S O R Q Q' A hw k => by
  refine ha.go A hw fun x H1 dx S1 O1 r1 A1 e1 q1 => ?_
  obtain ⟨hl, _, _⟩ := seq_of r1 A1.sok
  cases e : res S1 dx <;> rw [e] at q1 <;> try exact q1.elim
  obtain ⟨a, xs, rfl, g1, g2, g3⟩ := hl _ e
  obtain ⟨kz, l1, hk, q1⟩ := q1
  refine ⟨a, xs, kz, fun H' => ∃ O', Sok K S1 O' H' ∧ Ev S1 O1 H1 S1 O' H', rfl, rfl, SqL.of g1, by rw [l1, g3.len], ⟨O1, A1.sok, .refl⟩, fun H' i x j ⟨O', sk, ev⟩ hx hj => ?_, fun H' p ⟨O', sk, ev⟩ hp => ?_⟩
  · obtain ⟨d, hd, rd⟩ := rps_at g3 hx
    refine ⟨[d], S1, O', xNo, _, sk, .cons (rd.mono (ev.mo A1.sok)) .nil, hk i d j hd hj, fun _ _ _ _ _ _ _ _ _ _ z => z.elim, fun v H2 dv S2 O2 rv s2 e2 ⟨qv, sb⟩ => ?_⟩
    subst qv
    cases rv
    refine ⟨rfl, O2, s2.less sb, ev.trans sk ⟨e2.keep, e2.own, fun a h n => ⟨(e2.res a h n).1, n⟩, e2.there⟩⟩
  · have A2 := A1.next sk ev
    have r2 : Rps K O' H' (byKeys xs kz) (byKeys _ kz) := (g3.mono (ev.mo A1.sok)).byKeys
    refine rl_new A2 (e1.trans A1.sok ev) (by rw [byKeys_len (by rw [l1, g3.len])]; exact g2) r2 trivial (fun p xs H' ds' S' O' a b c d e f g i j => k p xs H' ds' S' O' a b c d e f g i (by rw [j.1, j.2]; exact q1)) p hp
end
end DL

set_option maxHeartbeats 4000000
/-! DL22: set(xs) of a list of ints, as it stands in the heap; sorted(set(xs)). -/
namespace DL
open PySem PySem.Spec PyProof.Rows L2
def freshO (w : World) : Obj := { cls := .type "set", dict := none, data := .set #[] 0 (.fresh 0 0 (!w.params.followText "set-order")) }
section
variable {P : Program} {w : World} {A : Around} {E : Value → Shared → Prop} {s : Shared}
set_option maxHeartbeats 8000000 in
theorem set_of_list {a : Addr} {xs : Array Value} (ns : List Int) {Q : Value → Shared → Prop} (quiet : A.handled = none) (at_ : s.heap.IsList a xs) (iv : IntsAre xs.toList ns) (few : ns.length + 1 < scanBound)
    (done : ∀ (g : Heap) (tk c : Nat), SetR w g s.heap.objs.size (fun j => decide (j ∈ ns)) c → c ≤ ns.length → (∀ b o, s.heap.get? b = some o → g.get? b = some o) → Q (.ref s.heap.objs.size) { s with heap := g, toks := tk }) :
    wpAny (model P w) A (call (.type "set") [.ref a]) Q E s := by
  have xsz : xs.size = ns.length := (Array.length_toList (xs := xs)).symm.trans (IntsAre.length iv)
  have f1 := F.called_set.mro
  have f2 := F.called_set.made
  have f3 := F.called_set.sub
  have f4 := F.called_set.notType
  have f5 := F.called_set.canCreate
  have f6 := F.typeCall_set_1 (.ref a)
  obtain ⟨c0, tl0, f1⟩ := f1
  refine wpAny_call (codeAny_of_tree ?_)
  show wpAny _ _ (callAny (.type "set") _) _ _ _
  refine wpAny_pure ⟨Code.quiet_builtin _ (by decide +kernel), codeAny_builtin F.entry_type_call ?_⟩
  rw [Around.under_plain (weight_type_call_type "set" [.ref a] []) rfl]
  repeat (any_goals (first | assumption | wp_step))
  generalize hfo : freshO w = fo
  refine codeAny_mono (code_set_led1 (.ref a) (E := E) (Q₁ := fun u t => u = .ref s.heap.objs.size ∧ t = { s with heap := s.heap.push fo }) ⟨rfl, by rw [← hfo]; rfl⟩) fun r1 t1 q1 => ?_
  match r1, q1 with
  | .ok (.ret u), q1 => ?_
  | .error e, q1 => exact q1
  | .ok .next, q1 => exact q1.elim
  | .ok .brk, q1 => exact q1.elim
  | .ok .cont, q1 => exact q1.elim
  obtain ⟨rfl, rfl⟩ := q1
  have new : (s.heap.push fo).get? s.heap.objs.size = some fo := Heap.get?_push_size _ (by rw [← hfo]; rfl)
  have kind : Shared.TypeIs { s with heap := s.heap.push fo } (.ref s.heap.objs.size) "set" := ⟨_, new, by rw [← hfo]; rfl⟩
  have f7 := F.called_set.init.lookup
  have f8 := F.called_set.init.bind (.ref s.heap.objs.size)
  repeat (any_goals (first | assumption | wp_step))
  refine codeAny_mono (codeAny_call_builtin (R := wants (fun u t => u = .none ∧ ∃ g tk c, t = { s with heap := g, toks := tk } ∧ SetR w g s.heap.objs.size (fun j => decide (j ∈ ns)) c ∧ c ≤ ns.length ∧
      ∀ b o, s.heap.get? b = some o → g.get? b = some o) E) F.called_set.init.plain F.entry_set_init (check_set_init_1 kind ?_)) fun r2 t2 q2 => ?_
  · obtain ⟨⟨cl, di, da, sl⟩, at1, at2, k0, at3⟩ := at_
    simp only at at2 at3
    subst at2 at3
    have old : a < s.heap.objs.size := Heap.lt_size at1
    have at4 : (s.heap.push fo).get? a = some { cls := .type "list", dict := di, data := .seq xs k0, slots := sl } := Heap.get?_push_of_some _ at1
    have il : (s.heap.push fo).IsList a xs := ⟨_, at4, rfl, k0, rfl⟩
    have g1 := F.sub_list_set
    have g2 := F.sub_list_frozenset
    have g3 : (Value.type "list" == Value.type "dict") = false := by decide
    subst hfo
    unfold freshO at il new ⊢
    unfold Builtin.«set.__init__» noKeywords Builtin.Frozenset.updateFrom
    generalize hpi : pyIter = pI
    wp_walk
    subst hpi
    refine wpAny_pyIter_list il ?_
    refine wpAny_bind (wpAny_runValue ?_)
    have sz : (s.heap.push (freshO w)).objs.size = s.heap.objs.size + 1 := Heap.size_push ..
    unfold freshO at sz
    have far : s.heap.objs.size ∉ [s.heap.objs.size + 1, a] := by
      simp only [List.mem_cons, List.not_mem_nil, or_false, not_or]
      exact ⟨Nat.ne_of_lt (Nat.lt_succ_self _), Nat.ne_of_gt old⟩
    rw [← sz] at far
    have vals : ∀ (i : Nat) (v : Value), xs[i]? = some v → ∃ k t, ns[i]? = some k ∧ v = .int k t := fun i v hv => by
      have lt : i < ns.length := xsz ▸ (Array.getElem?_eq_some_iff.mp hv).1
      obtain ⟨t, e⟩ := IntsAre.int_at iv i v (by rw [Array.getElem?_toList]; exact hv)
      exact ⟨ns[i], t, List.getElem?_eq_getElem lt, by rw [e, List.getD_eq_getElem?_getD, List.getElem?_eq_getElem lt]; rfl⟩
    refine set_update_ints ((Walks.list (by simp [quiet]) _ a (by rw [sz]; exact Nat.ne_of_lt (Nat.lt_succ_of_lt old)) xs).toS) s.heap.objs.size far ns xsz few vals (xs.size - 0) 0 _ (by omega) (Nat.zero_le _)
      ⟨⟨_, Heap.get?_push_size _ rfl, rfl, rfl⟩, il.push _⟩ ⟨0, Nat.le_refl 0, setR_new_at (Heap.get?_push_of_some _ new)⟩ ?_
    rintro ⟨g, g', d', tk', os'⟩ c mv cn sr
    have e1 : g' = s.gens := mv.gens
    have e2 : d' = s.drawn := mv.drawn
    have e3 : os' = s.os := mv.os
    subst e1 e2 e3
    show wpAny _ _ _ _ _ _
    refine wpAny_pure ?_
    show wpAny _ _ (ret Value.none) _ _ _
    refine wpAny_pure ⟨rfl, g, tk', c, rfl, sr, xsz ▸ cn, fun b o e => ?_⟩
    have bl : b < s.heap.objs.size := Heap.lt_size e
    exact mv.heap b o (by rw [sz]; simp only [List.mem_cons, List.not_mem_nil, or_false, not_or]; exact ⟨Nat.ne_of_lt bl, Nat.ne_of_lt (Nat.lt_succ_of_lt bl)⟩) (Heap.get?_push_of_some _ (Heap.get?_push_of_some _ e))
  · subst hfo
    match r2, q2 with
    | .ok (.ret u), q2 => ?_
    | .error e, q2 => exact q2
    | .ok .next, q2 => exact q2.elim
    | .ok .brk, q2 => exact q2.elim
    | .ok .cont, q2 => exact q2.elim
    obtain ⟨rfl, g, tk, c, rfl, sr, cn, kp⟩ := q2
    repeat (any_goals (first | assumption | wp_step))
    exact done g tk c sr cn kp
end
end DL

set_option maxHeartbeats 4000000
/-! DL23: sorted(set(ints)); sorted of a list of tuples that begin with ints of which no two are the same. -/
namespace DL
open PySem PySem.Spec PyProof.Rows L2
section
variable {X : Cx}
def tSortSet (K : PySem.W.Frag) (ta : TE) : TE := fun σ H Q => ta σ H fun x H1 => ∃ (l : Addr) (ns : List Int), x = .ref l ∧ SqL K H1 l (ns.map V.int) ∧ ns.length < 64 ∧
  ∀ (ms : List Int), ms.Pairwise (· < ·) → (∀ k, k ∈ ms ↔ k ∈ ns) → ms.length ≤ ns.length → ∀ p, H1 p = none → Q (.ref p) (upd H1 p (.lst (ms.map V.int)))
theorem pe_sortSet {a : Expr} {ta : TE} {p p2 q pos : Pos} (hc : X.calm = true) (hg : Gl X "sorted") (hm : X.mg "sorted" = none) (hg2 : Gl X "set") (hm2 : X.mg "set" = none) (ha : PE X a ta)
    (na : starEach [a] X.env = (false, eval a X.env) :: starEach [] X.env) : PE X (.Call (.Name "sorted" p) [.Call (.Name "set" p2) [a] [] q] [] pos) (tSortSet X.K ta) := by
  refine ⟨fun pins s σ H Q I h => ?_⟩
  refine Call_ (ld_blt I hg hm boot_sorted ?_)
  refine callWith_builtin1 (args_cons ?_ rfl) rfl rfl
  refine Call_ (ld_blt I hg2 hm2 boot_set ?_)
  refine callWith_type1 (args_cons (thn (ha.run pins s σ H _ I h) fun v s1 ⟨x, H1, I1, r1, q1⟩ => args_nil ?_) na) na rfl
  obtain ⟨l, ns, rfl, hq, few, q1⟩ := q1
  cases r1
  obtain ⟨its, rv, pl, hz⟩ := I1.list hq
  refine set_of_list ns (I1.ok.hd hc) pl.isList (by simpa using rv.ints) (by unfold scanBound; omega) fun g tk c sr cn kp => ?_
  refine args_nil ?_
  have fresh : s1.heap.get? s1.heap.objs.size = none := Heap.get?_none_of_le (Nat.le_refl _)
  refine sorted_set (s := { s1 with heap := g, toks := tk }) sr (I1.ok.hd hc) (by omega) fun s' b out e ms k2 g2 o hb hg3 hi hs hm3 hl => ?_
  have kall : ∀ b u, s1.heap.get? b = some u → s'.heap.get? b = some u := fun b u z => k2 b u (kp b u z)
  have hb1 : s1.heap.objs.size ≤ b := Nat.le_trans (Nat.le_of_lt sr.lt) hb
  have hlen : (ms.map V.int).length ≤ sizeLine := by rw [List.length_map, hl, sizeLine_eq]; omega
  have hn : H1 b = none := I1.hok.fresh hb1
  have J : Inv X pins σ (upd H1 b (.lst (ms.map V.int))) { s1 with heap := s'.heap, gens := s'.gens, drawn := s'.drawn, toks := s'.toks } :=
    I1.call (ch := []) (Un.laid kall hb1 hn) (I1.hok.laid kall hb1 ⟨hlen, out.toList, e, vals_of_ints hi, hg3⟩) (by rw [g2]; exact I1.bare) (fun _ z => nomatch z)
  have es : s' = { s1 with heap := s'.heap, gens := s'.gens, drawn := s'.drawn, toks := s'.toks } := by
    have o' : s'.os = s1.os := o
    cases s'; cases s1; cases o'; rfl
  rw [es]
  exact ⟨.ref b, _, J, rfl, q1 ms hs (fun k => (hm3 k).trans decide_eq_true_iff) (by omega) b hn⟩
/-- sorted(xs): the items are tuples that begin with ints, no two alike -/
def rSortI (K : PySem.W.Frag) : List V → Hp → VK → Prop := fun vs H Q => ∃ (a : Addr) (xs : List V) (kz : List Int) (ps : List PyData), vs = [.ref a] ∧ SqL K H a xs ∧ kz.length = xs.length ∧ kz.Nodup ∧ DpAll K H xs ps ∧ PySem.W.AllAlike ps ∧
  (∀ p ∈ ps, p.depth ≤ 8) ∧ (∀ (i : Nat) (d : PyData) (k : Int), ps[i]? = some d → kz[i]? = some k → ∃ r, d = .tuple (.int k :: r)) ∧ ∀ p, H p = none → Q (.ref p) (upd H p (.lst (byKeys xs kz)))
theorem dpAll_len {K : PySem.W.Frag} {H : Hp} : ∀ {xs : List V} {ps : List PyData}, DpAll K H xs ps → ps.length = xs.length
  | _, _, .nil => rfl
  | _, _, .cons _ t => by rw [List.length_cons, List.length_cons, dpAll_len t]
/-- one by one, with keys and data -/
theorem each_three : ∀ {xs : List V} {vs : List Value} {kz : List Int} {ps : List PyData}, Vals xs vs → kz.length = xs.length → ps.length = xs.length → PySem.W.EachIs (fun (v : Value) (b : (V × Int) × PyData) => RelV b.1.1 v) vs ((xs.zip kz).zip ps)
  | [], _, [], [], .nil, _, _ => .nil
  | x :: xs, _, k :: kz, p :: ps, .cons r t, h, h2 => .cons r (each_three t (by simpa using h) (by simpa using h2))
theorem each_reads {h : Heap} : ∀ {xs : List V} {vs : List Value} {kz : List Int} {ps : List PyData} {as : List Addr}, ReadsAll h vs ps as → kz.length = xs.length → ps.length = xs.length → PySem.W.EachIs (fun (v : Value) (b : (V × Int) × PyData) => ∃ as, Reads h v b.2 as) vs ((xs.zip kz).zip ps)
  | [], _, [], [], _, .nil, _, _ => .nil
  | x :: xs, _, k :: kz, p :: ps, _, .cons r t, h, h2 => .cons ⟨_, r⟩ (each_reads t (by simpa using h) (by simpa using h2))
theorem zip3_map : ∀ {xs : List V} {kz : List Int} {ps : List PyData}, kz.length = xs.length → ps.length = xs.length → ((xs.zip kz).zip ps).map Prod.fst = xs.zip kz ∧ ((xs.zip kz).zip ps).map Prod.snd = ps := fun {xs kz ps} h h2 => by
  have l : (xs.zip kz).length = ps.length := by rw [List.length_zip, h, h2, Nat.min_self]
  exact ⟨List.map_fst_zip (Nat.le_of_eq l), List.map_snd_zip (Nat.le_of_eq l.symm)⟩
theorem vals_three : ∀ {vs : List Value} {bs : List ((V × Int) × PyData)}, PySem.W.EachIs (fun (v : Value) (b : (V × Int) × PyData) => RelV b.1.1 v) vs bs → Vals (bs.map fun b => b.1.1) vs
  | _, _, .nil => .nil
  | _, _, .cons r rs => .cons r (vals_three rs)
theorem sort_agree {xs : List V} {kz : List Int} {ps : List PyData} (l1 : kz.length = xs.length) (l2 : ps.length = xs.length) (nd : kz.Nodup) (hd : ∀ (i : Nat) (d : PyData) (k : Int), ps[i]? = some d → kz[i]? = some k → ∃ r, d = .tuple (.int k :: r)) :
    ((xs.zip kz).zip ps).mergeSort (PySem.W.dataLe false fun b => b.2) = ((xs.zip kz).zip ps).mergeSort fun b c => decide (b.1.2 ≤ c.1.2) := by
  have at_ : ∀ b ∈ (xs.zip kz).zip ps, ∃ i : Nat, kz[i]? = some b.1.2 ∧ ps[i]? = some b.2 ∧ xs[i]? = some b.1.1 := fun b hb => by
    obtain ⟨i, hi⟩ := List.mem_iff_getElem?.mp hb
    obtain ⟨z1, z2⟩ := List.getElem?_zip_eq_some.mp hi
    obtain ⟨z3, z4⟩ := List.getElem?_zip_eq_some.mp z1
    exact ⟨i, z4, z2, z3⟩
  have m := List.map_mergeSort (f := id) (r := PySem.W.dataLe false fun b : (V × Int) × PyData => b.2) (s := fun b c => decide (b.1.2 ≤ c.1.2)) (l := (xs.zip kz).zip ps) ?_
  · rw [List.map_id, List.map_id] at m; exact m
  intro b hb c hc
  obtain ⟨i, b1, b2, b3⟩ := at_ b hb
  obtain ⟨j, c1, c2, c3⟩ := at_ c hc
  obtain ⟨r, e⟩ := hd i _ _ b2 b1
  obtain ⟨u, f⟩ := hd j _ _ c2 c1
  show (!PySem.W.dataLt c.2 b.2) = decide (b.1.2 ≤ c.1.2)
  by_cases ek : b.1.2 = c.1.2
  · have ij : i = j := by
      obtain ⟨hi, _⟩ := List.getElem?_eq_some_iff.mp b1
      rw [← ek] at c1
      exact (List.getElem?_inj hi nd).mp (b1.trans c1.symm)
    subst ij
    have : b.2 = c.2 := Option.some.inj (b2.symm.trans c2)
    have ir : PySem.W.dataLt c.2 c.2 = false := PyProof.Rows.lex_irrefl _
    rw [this, ir, ek]; simp
  · rw [e, f, PySem.W.dataLt_tuple, PySem.W.dataLt_cons (by simp [PySem.W.alike]), PySem.W.dataLt_int]
    have : PyData.eqv (.int c.1.2) (.int b.1.2) = false := by simp [PyData.eqv]; exact fun z => ek z.symm
    rw [this, if_neg Bool.false_ne_true]
    by_cases z : c.1.2 < b.1.2
    · have : ¬ b.1.2 ≤ c.1.2 := by omega
      simp [z, this]
    · have : b.1.2 ≤ c.1.2 := by omega
      simp [z, this]
theorem cr_sortI (hu : X.A.units + 70 < cLine) : CallR X (.builtin "sorted") (rSortI X.K) := by
  intro pins s σ H vs us Q I r h
  obtain ⟨a, xs, kz, ps, rfl, hs, l1, nd, dp, al, dep, hd, hq⟩ := h
  have l2 := dpAll_len dp
  obtain ⟨its, rv, pl, hz⟩ := I.list hs
  obtain ⟨u, rfl, ru⟩ := vals1 r
  obtain rfl : u = Value.ref a := ru
  obtain ⟨as, ra⟩ := Dp.readsAll I ps _ its dp rv
  obtain ⟨e1, e2⟩ := zip3_map l1 l2
  have lb : ((xs.zip kz).zip ps).length = xs.length := by rw [List.length_zip, List.length_zip, l1, l2, Nat.min_self, Nat.min_self]
  have tup : ∀ d ∈ ps, ∃ x r, d = PyData.tuple (x :: r) := fun d m => by
    obtain ⟨i, hi⟩ := List.mem_iff_getElem?.mp m
    obtain ⟨li, _⟩ := List.getElem?_eq_some_iff.mp hi
    obtain ⟨r, e⟩ := hd i d kz[i] hi (List.getElem?_eq_getElem (by omega))
    exact ⟨_, _, e⟩
  refine PySem.W.sorted_data (R := fun (v : Value) (b : (V × Int) × PyData) => RelV b.1.1 v) (bs := (xs.zip kz).zip ps) (enc := fun b => b.2) (vs := its) pl.isList (each_three rv l1 l2) (each_reads ra l1 l2)
    (by rw [e2]; exact al) (by rw [e2]; exact .inl tup) (by rw [lb]; exact hz) (fun b hb => ?_) fun out lo eo => ?_
  · have : b.2 ∈ ps := e2 ▸ List.mem_map.mpr ⟨b, hb, rfl⟩
    have := dep _ this
    omega
  · obtain ⟨c, hc⟩ := sortedAll_at s.heap its out.toArray
    have kp : ∀ b u, s.heap.get? b = some u → (sortedAll s.heap its out.toArray).get? b = some u := fun b u z => sortedAll_old z
    rw [sort_agree l1 l2 nd hd] at eo
    have eb : (((xs.zip kz).zip ps).mergeSort fun b c => decide (b.1.2 ≤ c.1.2)).map (fun b => b.1.1) = byKeys xs kz := by
      have m := List.map_mergeSort (f := Prod.fst) (r := fun b c : (V × Int) × PyData => decide (b.1.2 ≤ c.1.2)) (s := fun p q : V × Int => decide (p.2 ≤ q.2)) (l := (xs.zip kz).zip ps) fun _ _ _ _ => rfl
      rw [e1] at m
      unfold byKeys
      rw [← m, List.map_map]; rfl
    have rv2 : Vals (byKeys xs kz) out := eb ▸ vals_three eo
    exact ⟨.ref (s.heap.objs.size + 1), upd H (s.heap.objs.size + 1) (.lst (byKeys xs kz)), I.laid (t' := s.toks) kp (Nat.le_succ _) ⟨by rw [byKeys_len l1]; exact hz, out, c, rv2, hc⟩, rfl, hq _ (I.hok.fresh (Nat.le_succ _))⟩
end
/-- xs[::-1] of a list: a new list -/
def tStpL (K : PySem.W.Frag) (te : TE) (tl th ts : TO) : TE := fun σ H Q => te σ H fun x H1 => tl σ H1 fun l H2 => th σ H2 fun u H3 => ts σ H3 fun o H4 => ∃ a xs, x = .ref a ∧ l = none ∧ u = none ∧ o = some (-1) ∧ SqL K H4 a xs ∧ ∀ p, H4 p = none → Q (.ref p) (upd H4 p (.lst xs.reverse))
theorem vals_rev {xs : List V} {us : List Value} (r : Vals xs us) : Vals xs.reverse us.reverse := by
  induction r with
  | nil => exact .nil
  | cons a t ih => rw [List.reverse_cons, List.reverse_cons]; exact ih.append (.cons a .nil)
theorem pe_stpL {X : Cx} {e st : Expr} {lo hi : Option Expr} {te : TE} {tl th ts : TO} {p3 pos : Pos} (he : PE X e te) (hl : PO X lo tl) (hh : PO X hi th) (hst : PO X (some st) ts) : PE X (.Subscript e (.Slice lo hi (some st) p3) pos) (tStpL X.K te tl th ts) := by
  refine ⟨fun pins s σ H Q I h => ?_⟩
  refine Subscript_ (thn (he.run pins s σ H _ I h) fun v s1 ⟨x, H1, I1, r1, q1⟩ => ?_)
  refine wpAny_Slice (thn (hl.run pins s1 σ H1 _ I1 q1) fun vl s2 ⟨l, H2, I2, pl, q2⟩ => ?_)
  refine thn (hh.run pins s2 σ H2 _ I2 q2) fun vu s3 ⟨u, H3, I3, pu, q3⟩ => ?_
  refine thn (hst.run pins s3 σ H3 _ I3 q3) fun vs s4 ⟨o, H4, I4, ps, a, xs, ex, e1, e2, e3, hx, q⟩ => ?_
  subst ex e1 e2 e3
  cases r1
  have I5 : Inv X pins σ H4 { s4 with heap := s4.heap.push { cls := .type "slice", data := .fields #[vl, vu, vs] } } := I4.kept (t' := s4.toks) fun b ob q => Heap.get?_push_of_some _ q
  obtain ⟨its, r, ht, hz⟩ := I5.list hx
  show wpAny (model X.prog X.w) X.A (subscriptTail e (.Slice lo hi (some st) p3) (.ref a) (.ref s4.heap.objs.size)) (EP X pins σ Q) X.xe { s4 with heap := s4.heap.push { cls := .type "slice", data := .fields #[vl, vu, vs] } }
  refine tail_any (ops := [.ref a, .ref s4.heap.objs.size]) ht.isList.typeIs (slot_list_getitem.lookup) ?_ (by with_unfolding_all rfl)
  refine wpAny_getItem_list_slice ht.isList (Heap.IsSliceOf.new _ vl vu vs) pl pu ps (by decide) ?_ (by rw [List.size_toArray, ← r.length]; exact hz)
  rw [PySem.W.krv_pick]
  exact ⟨.ref _, _, I5.laid (t' := s4.toks) (o := .lst xs.reverse) (fun b ob q => Heap.get?_push_of_some _ q) (Nat.le_refl _) ⟨by rw [List.length_reverse]; exact hz, _, 0, vals_rev r, Heap.get?_push_size _ rfl⟩, rfl, q _ (I5.hok.fresh (Nat.le_refl _))⟩
theorem Rps.rev {K : PySem.W.Frag} {O : Ow} {H : Hp} {xs : List V} {ds : List D} (r : Rps K O H xs ds) : Rps K O H xs.reverse ds.reverse := by
  induction xs generalizing ds with
  | nil => cases r; exact .nil
  | cons x xs ih => cases r with | cons a t => rw [List.reverse_cons, List.reverse_cons]; exact (ih t).append (.cons a .nil)
section
variable {L : Lnk} {K : PySem.W.Frag} {W : WX} {wa ws : WE'}
theorem rl_stpL {te : TE} {tl th : TO} {ts : TE} {wl wh : Env → Sto → XD → (Option Int → Sto → Prop) → Prop} (ha : RE L K W te wa) (hl : RO L K W tl wl) (hh : RO L K W th wh) (hs : RE L K W ts ws) : RL L K W (tStpL K te tl th (tPart ts)) fun ρ S R Q => wa ρ S R fun x S1 => wl ρ S1 R fun l S2 => wh ρ S2 R fun h S3 => ws ρ S3 R fun y S4 => match res S4 x, y with
    | .lst xs, .int k => l = none ∧ h = none ∧ k = -1 ∧ Q xs.reverse S4
    | _, _ => False := fun σ H ρ S O R Q Q' A hw k => by
  refine ha.go A hw fun x H1 dx S1 O1 r1 A1 e1 q1 => ?_
  refine hl.go A1 q1 fun l H2 S2 O2 A2 e2 q2 => ?_
  refine hh.go A2 q2 fun h H3 S3 O3 A3 e3 q3 => ?_
  refine hs.go A3 q3 fun y H4 dy S4 O4 r4 A4 e4 q4 => ?_
  have r1 := ((r1.mono (A1.mo e2)).mono (A2.mo e3)).mono (A3.mo e4)
  have ev := ((e1.trans A1.sok e2).trans A2.sok e3).trans A3.sok e4
  obtain ⟨hl, _, _⟩ := seq_of r1 A4.sok
  cases e : res S4 dx <;> rw [e] at q4 <;> cases dy <;> try exact q4.elim
  cases r4
  obtain ⟨a, xs, rfl, g1, g2, g3⟩ := hl _ e
  obtain ⟨rfl, rfl, rfl, q⟩ := q4
  refine ⟨_, rfl, a, xs, rfl, rfl, rfl, rfl, SqL.of g1, fun p hp => ?_⟩
  exact rl_new A4 ev (by rw [List.length_reverse]; exact g2) g3.rev trivial (fun p xs H' ds' S' O' a b c d e f g i j => k p xs H' ds' S' O' a b c d e f g i (by rw [j.1, j.2]; exact q)) p hp
end
section
variable {L : Lnk} {K : PySem.W.Frag} {W : WX} {wa : WE'}
theorem rl_sortSet {ta : TE} (ha : RE L K W ta wa) : RL L K W (tSortSet K ta) fun ρ S R Q => wa ρ S R fun x S1 => match res S1 x with
    | .lst xs => ∃ ns : List Int, xs = ns.map .int ∧ ns.length < 64 ∧ ∀ ms : List Int, ms.Pairwise (· < ·) → (∀ k, k ∈ ms ↔ k ∈ ns) → Q (ms.map .int) S1
    | _ => False := fun σ H ρ S O R Q Q' A hw k => by
  refine ha.go A hw fun x H1 dx S1 O1 r1 A1 e1 q1 => ?_
  obtain ⟨hl, _, _⟩ := seq_of r1 A1.sok
  cases e : res S1 dx <;> rw [e] at q1 <;> try exact q1.elim
  obtain ⟨a, xs, rfl, g1, g2, g3⟩ := hl _ e
  obtain ⟨ns, rfl, few, q1⟩ := q1
  obtain rfl := g3.ints
  refine ⟨a, ns, rfl, SqL.of g1, few, fun ms h1 h2 h3 => ?_⟩
  exact rl_new A1 e1 (by rw [List.length_map, sizeLine_eq]; omega) (Rps.ofInts ms) trivial (fun p xs H' ds' S' O' a b c d e f g i j => k p xs H' ds' S' O' a b c d e f g i (by rw [j.1, j.2]; exact q1 ms h1 h2))
theorem rl_sortInts {ta : TE} (ha : RE L K W ta wa) : RL L K W (tCB (rSortedI K) (tCons ta tNil)) fun ρ S R Q => wa ρ S R fun x S1 => match res S1 x with
    | .lst xs => ∃ ns : List Int, xs = ns.map .int ∧ ∀ ms : List Int, ms.Perm ns → ms.Pairwise (· ≤ ·) → Q (ms.map .int) S1
    | _ => False := fun σ H ρ S O R Q Q' A hw k => by
  refine ha.go A hw fun x H1 dx S1 O1 r1 A1 e1 q1 => ?_
  obtain ⟨hl, _, _⟩ := seq_of r1 A1.sok
  cases e : res S1 dx <;> rw [e] at q1 <;> try exact q1.elim
  obtain ⟨a, xs, rfl, g1, g2, g3⟩ := hl _ e
  obtain ⟨ns, rfl, q1⟩ := q1
  obtain rfl := g3.ints
  refine ⟨a, ns, rfl, SqL.of g1, fun ms p h1 h2 h3 => ?_⟩
  have lm : (ms.map V.int).length ≤ sizeLine := by
    rw [List.length_map] at g2 ⊢
    rw [h1.length_eq]; exact g2
  exact rl_new A1 e1 lm (Rps.ofInts ms) trivial (fun p xs H' ds' S' O' a b c d e f g i j => k p xs H' ds' S' O' a b c d e f g i (by rw [j.1, j.2]; exact q1 ms h1 h2)) p h3
theorem rl_sortI {ta : TE} (ha : RE L K W ta wa) : RL L K W (tCB (rSortI K) (tCons ta tNil)) fun ρ S R Q => wa ρ S R fun x S1 => match res S1 x with
    | .lst xs => ∃ (kz : List Int) (ps : List PyData), kz.length = xs.length ∧ kz.Nodup ∧ D.py.pys xs = some ps ∧ PySem.W.AllAlike ps ∧ (∀ p ∈ ps, p.depth ≤ 8) ∧
      (∀ (i : Nat) (d : PyData) (k : Int), ps[i]? = some d → kz[i]? = some k → ∃ r, d = .tuple (.int k :: r)) ∧ Q (byKeys xs kz) S1
    | _ => False := fun σ H ρ S O R Q Q' A hw k => by
  refine ha.go A hw fun x H1 dx S1 O1 r1 A1 e1 q1 => ?_
  obtain ⟨hl, _, _⟩ := seq_of r1 A1.sok
  cases e : res S1 dx <;> rw [e] at q1 <;> try exact q1.elim
  obtain ⟨a, xs, rfl, g1, g2, g3⟩ := hl _ e
  obtain ⟨kz, ps, l1, nd, hp, al, dep, hd, q1⟩ := q1
  refine ⟨a, xs, kz, ps, rfl, SqL.of g1, by rw [l1, g3.len], nd, dps_of g3 hp, al, dep, hd, ?_⟩
  exact rl_new A1 e1 (by rw [byKeys_len (by rw [l1, g3.len])]; exact g2) g3.byKeys trivial (fun p xs H' ds' S' O' a b c d e f g i j => k p xs H' ds' S' O' a b c d e f g i (by rw [j.1, j.2]; exact q1))
end
end DL

/-! DL12: the check is enough: expressions. -/
namespace DL
open PySem PySem.Spec PyProof.Rows L2
/-- the three readings of an expression -/
def Th (L : Lnk) (W : WX) (X : Cx) (x : Expr) (w : WE') : Prop := PE X x (tO L X.K W w) ∧ PT X x (tOT L X.K W w) ∧ (isBO x = true → PW X x (tOT L X.K W w))
section
variable {c : Ck} {L : Lnk} {W : WX} {X : Cx}
theorem th_val {x : Expr} {w : WE'} (pe : PE X x (tO L X.K W w)) (he : ∀ whole, isTrue x X.env whole = (do let v ← whole; standAt x.pos; holding [v] (truthy v))) (nb : isBO x = false) : Th L W X x w :=
  ⟨pe, (pt_val pe he).can (re_tO).tB, fun h => by rw [nb] at h; cases h⟩
theorem pe_callS0 {X : Cx} {CX : CXT} {k : Nat} {f : Addr} {fd : FuncData} {ps : List Str} {sp : Sp} {E : L2.St → XK} {x : Str} {p pos : Pos} (F : FnOk X.prog X.w X.K X.mg X.base CX k f fd ps sp) (hr : Room k X.A) (hg : Gl X x) (hm : X.mg x = some (.ref f)) (hk : PySem.W.keepIn X.K (.ref f) = true) (hb : Binds X.K fd ps []) (hx : ∀ σ, PassesAt CX X σ (E σ))
    (hdb : (x == ("__debug__" : Str)) = false) : PE X (.Call (.Name x p) [] [] pos) (tCallS sp E tNil) := by
  refine ⟨fun pins s σ H Q I h => ?_⟩
  refine wpAny_Call_Name_kw (ld_glob I hg hm ?_ hdb)
  exact PySem.W.callWith_K0 I.kIn hk (run_fnS (us := []) F hr hb (hx σ) I .nil h)
theorem re_callS {f : Nat} {t : TA} {ws : Env → Sto → XD → (List D → Sto → Prop) → Prop} {K : PySem.W.Frag} (h : RA L K W t ws) : RE L K W (tCallS (spOf L K (L.Γ.fn f)) (WE W) t) fun ρ S R Q => ws ρ S R fun ds S1 => L.Γ.fn f ds S1 R Q := fun σ H ρ S O R Q Q' A hw k => by
  refine h.go A hw fun vs H1 ds S1 O1 r1 A1 e1 q1 => ?_
  refine ⟨ds, S1, O1, R, Q, A1.sok, r1, q1, fun k' d S' O' H' c dd s' e' x r => A1.x k' d S' O' H' c dd s' e' x r, fun v H' d S' O' r' s' e' q' => k v H' d S' O' r' s' (e1.trans A1.sok e') q'⟩
theorem cst_ok {d : D} {x : Expr} (hx : XC c L W X) (h : cstC c d x = true) : PE X x (tO L X.K W fun _ S _ Q => Q d S) ∧ (∀ whole, isTrue x X.env whole = (do let v ← whole; standAt x.pos; holding [v] (truthy v))) ∧ isBO x = false := by
  unfold cstC at h
  split at h
  · have e := of_decide_eq_true h; subst e
    exact ⟨pe_int.can (re_c fun _ _ => .int _), fun _ => rfl, rfl⟩
  · have e := of_decide_eq_true h; subst e
    exact ⟨pe_bl.can (re_c fun _ _ => .bl _), fun _ => rfl, rfl⟩
  · have e := of_decide_eq_true h; subst e
    exact ⟨pe_str.can (re_c fun _ _ => .str _), fun _ => rfl, rfl⟩
  · exact ⟨pe_non.can (re_c fun _ _ => .non), fun _ => rfl, rfl⟩
  · rw [Bool.and_eq_true] at h
    obtain ⟨hg, hd⟩ := gloC_ok hx h.1
    have h2 := h.2
    simp only [Bool.or_eq_true, Bool.and_eq_true, decide_eq_true_eq] at h2
    rcases h2 with (((⟨e1, e2⟩ | ⟨e1, e2⟩) | ⟨e1, e2⟩) | ⟨e1, e2⟩) | ⟨e1, e2⟩ <;> subst e1 <;> subst e2
    · exact ⟨L2.PE.can (pe_bltn hg (bl_of hx (by decide +kernel)) (u := .type "int") (v := .ty "int") (by decide +kernel) rfl) (re_c fun _ _ => .ty _), fun _ => rfl, rfl⟩
    · exact ⟨L2.PE.can (pe_bltn hg (bl_of hx (by decide +kernel)) (u := .type "bool") (v := .ty "bool") (by decide +kernel) rfl) (re_c fun _ _ => .ty _), fun _ => rfl, rfl⟩
    · exact ⟨L2.PE.can (pe_bltn hg (bl_of hx (by decide +kernel)) (u := .type "tuple") (v := .ty "tuple") (by decide +kernel) rfl) (re_c fun _ _ => .ty _), fun _ => rfl, rfl⟩
    · exact ⟨L2.PE.can (pe_bltn hg (bl_of hx (by decide +kernel)) (u := .type "str") (v := .ty "str") (by decide +kernel) rfl) (re_c fun _ _ => .ty _), fun _ => rfl, rfl⟩
    · exact ⟨L2.PE.can (pe_bltn hg (bl_of hx (by decide +kernel)) (u := .type "list") (v := .ty "list") (by decide +kernel) rfl) (re_c fun _ _ => .ty _), fun _ => rfl, rfl⟩
  · cases h
theorem starEach_len (env : PySem.Env) : ∀ xs : List Expr, (starEach xs env).length = xs.length
  | [] => rfl
  | x :: xs => by cases x <;> exact congrArg (· + 1) (starEach_len env xs)
theorem okGs_len (env : PySem.Env) : ∀ {ts : Tgs} {xs : List Expr}, okGs ts c xs = true → (assignEach xs env).length = tgsLen ts ∧ ∀ p ∈ assignEach xs env, p.1 = false
  | .nil, [], _ => ⟨rfl, fun _ h => nomatch h⟩
  | .nil, _ :: _, h => by cases h
  | .cons t r, [], h => by cases h
  | .cons t r, x :: xs, h => by
    unfold okGs at h
    simp only [Bool.and_eq_true] at h
    obtain ⟨h1, h2⟩ := okGs_len env (ts := r) (xs := xs) h.2
    rw [noStar_assign h.1.1]
    refine ⟨by rw [List.length_cons, h1]; rfl, fun p hp => ?_⟩
    rcases List.mem_cons.mp hp with e | e
    · rw [e]
    · exact h2 p e
/-- targets, tests: canonical readings -/
def tOGt (L : Lnk) (K : PySem.W.Frag) (W : WX) (vs : List Nat) (w : WG) : TG := fun v σ H Q' => ∃ d ρ S O, ∃ Q : Env → Sto → Prop, At L K W σ H ρ S O xNo ∧ Rp K O H v d ∧ w d ρ S xNo Q ∧ ∀ σ' H' ρ' S' O', Sok K S' O' H' → Ev S O H S' O' H' → REnv K O' H' ρ' σ' → SetIn vs σ σ' → Q ρ' S' → Q' σ' H'
def tOTs (L : Lnk) (K : PySem.W.Frag) (W : WX) (w : WTs) : TT := fun σ H Q' => ∃ ρ S O, ∃ Q : Bool → Sto → Prop, At L K W σ H ρ S O xNo ∧ w ρ S Q ∧ ∀ b H' S' O', Sok K S' O' H' → Ev S O H S' O' H' → Q b S' → Q' b H'
theorem rg_tO {K : PySem.W.Frag} {vs : List Nat} {w : WG} : RG L K W vs (tOGt L K W vs w) w := fun v d σ H ρ S O Q Q' A r hw k => ⟨d, ρ, S, O, Q, A, r, hw, k⟩
theorem rts_tO {K : PySem.W.Frag} {w : WTs} : RTs L K W (tOTs L K W w) w := fun σ H ρ S O Q Q' A hw k => ⟨ρ, S, O, Q, A, hw, k⟩
theorem _root_.L2.PG.can {K : PySem.W.Frag} {vs : List Nat} {w : WG} {x : Expr} {g : TG} (h : PG X x g) (r : RG L K W vs g w) : PG X x (tOGt L K W vs w) := ⟨fun pins s σ H v u Q' I rv ⟨d, ρ, S, O, Q, A, rd, hw, k⟩ => h.run pins s σ H v u Q' I rv (r v d σ H ρ S O Q Q' A rd hw k)⟩
theorem _root_.L2.PTs.can {K : PySem.W.Frag} {w : WTs} {xs : List Expr} {t : TT} (h : PTs X xs t) (r : RTs L K W t w) : PTs X xs (tOTs L K W w) := ⟨fun pins s σ H Q' I ⟨ρ, S, O, Q, A, hw, k⟩ => h.run pins s σ H Q' I (r σ H ρ S O Q Q' A hw k)⟩
set_option maxHeartbeats 1000000
mutual
theorem sE : ∀ (e : Ex) {c : Ck} {W : WX} {X : Cx} {x : Expr}, XC c L W X → okE e c x = true → Th L W X x (wpE L.Γ e)
  | .var i, c, W, X, x, hx, h => by
    unfold okE at h
    split at h
    · rename_i n p
      unfold varC dbg at h
      simp only [Bool.and_eq_true, decide_eq_true_eq, Bool.not_eq_true'] at h
      exact th_val ((pe_var (by rw [hx.N]; exact h.1.1.1) (visC_ok hx h.1.1.2) h.1.2 h.2).can re_var) (fun _ => rfl) rfl
    · cases h
  | .cst d, c, W, X, x, hx, h => by
    obtain ⟨h1, h2, h3⟩ := cst_ok hx h
    exact th_val h1 h2 h3
  | .glb k, c, W, X, x, hx, h => by
    unfold okE at h
    split at h
    · rename_i n p
      rw [Bool.and_eq_true] at h
      obtain ⟨hg, hd⟩ := gloC_ok hx h.1
      obtain ⟨u, v, hm, r, rp⟩ := hx.gl _ (pairC_ok h.2)
      exact th_val ((pe_glob hg hm r hd).can (re_c rp)) (fun _ => rfl) rfl
    · cases h
  | .bin op a b, c, W, X, x, hx, h => by
    unfold okE at h
    split at h
    · simp only [Bool.and_eq_true, decide_eq_true_eq] at h
      obtain ⟨⟨e, ha⟩, hb⟩ := h
      subst e
      obtain ⟨r, ho, hr⟩ := bin_ok (X := X) hx.py op
      exact th_val ((pe_op ho (sE a hx ha).1 (sE b hx hb).1).can (re_op (f := fun _ dx dy P => binD op dx dy P) re_tO re_tO hr)) (fun _ => rfl) rfl
    · cases h
  | .neg a, c, W, X, x, hx, h => by
    unfold okE at h
    split at h
    · exact th_val ((pe_un un_neg (sE a hx h).1).can (re_neg re_tO)) (fun _ => rfl) rfl
    · cases h
  | .not a, c, W, X, x, hx, h => by
    unfold okE at h
    split at h
    · have t := sE a hx h
      exact ⟨(pe_not t.1).can (re_not re_tO), (pt_not t.2.1).can (rt_not rt_tO), fun h => by cases h⟩
    · cases h
  | .cmp op a b, c, W, X, x, hx, h => by
    unfold okE at h
    split at h
    · simp only [Bool.and_eq_true, decide_eq_true_eq] at h
      obtain ⟨⟨⟨e, hn⟩, ha⟩, hb⟩ := h
      subst e
      obtain ⟨r, ho, hr⟩ := cmp_ok (X := X) op (by have := hx.un; omega)
      have re := re_op (f := fun S dx dy P => cmpD op (res S dx) (res S dy) fun z => P (.bl z)) (re_tO (L := L) (K := X.K) (W := W) (w := wpE L.Γ a)) (re_tO (w := wpE L.Γ b)) hr
      exact ⟨(pe_cmpR ho (sE a hx ha).1 (sE b hx hb).1 (noSet_marks hn _)).can re, (pt_cmpR ho (sE a hx ha).1 (sE b hx hb).1 (noSet_marks hn _)).can re.tB, fun h => by cases h⟩
    · cases h
  | .chn o1 o2 a b d, c, W, X, x, hx, h => by
    unfold okE at h
    split at h
    · simp only [Bool.and_eq_true, decide_eq_true_eq] at h
      obtain ⟨⟨⟨⟨⟨e1, e2⟩, hn⟩, ha⟩, hb⟩, hd⟩ := h
      subst e1 e2
      obtain ⟨r, ho, hr⟩ := cmp_ok (X := X) o1 (by have := hx.un; omega)
      obtain ⟨r2, ho2, hr2⟩ := cmp_ok (X := X) o2 (by have := hx.un; omega)
      have re := re_chn (re_tO (L := L) (K := X.K) (W := W) (w := wpE L.Γ a)) (re_tO (w := wpE L.Γ b)) (re_tO (w := wpE L.Γ d)) hr hr2
      exact ⟨(pe_chain ho ho2 (sE a hx ha).1 (sE b hx hb).1 (sE d hx hd).1 (noSet_last hn _ _)).can re, (pt_chain ho ho2 (sE a hx ha).1 (sE b hx hb).1 (sE d hx hd).1 (noSet_last hn _ _)).can re.tB, fun h => by cases h⟩
    · cases h
  | .and a b, c, W, X, x, hx, h => by
    unfold okE at h
    split at h
    · rw [Bool.and_eq_true] at h
      obtain ⟨ha, hb⟩ := h
      have ta := sE a hx ha
      split at hb
      · have tb := sE b hx hb
        exact ⟨(pe_and ta.1 (pe_one tb.1)).can (re_and re_tO re_tO), ((pw_and ta.2.1 (pw_and1 tb.2.1)).can (rt_and rt_tO rt_tO)).pt, fun _ => (pw_and ta.2.1 (pw_and1 tb.2.1)).can (rt_and rt_tO rt_tO)⟩
      · have tb := sE b hx hb
        exact ⟨(pe_and ta.1 tb.1).can (re_and re_tO re_tO), ((pw_and ta.2.1 (tb.2.2 rfl)).can (rt_and rt_tO rt_tO)).pt, fun _ => (pw_and ta.2.1 (tb.2.2 rfl)).can (rt_and rt_tO rt_tO)⟩
    · cases h
  | .or a b, c, W, X, x, hx, h => by
    unfold okE at h
    split at h
    · rw [Bool.and_eq_true] at h
      obtain ⟨ha, hb⟩ := h
      have ta := sE a hx ha
      split at hb
      · have tb := sE b hx hb
        exact ⟨(pe_or ta.1 (pe_one tb.1)).can (re_or re_tO re_tO), ((pw_or ta.2.1 (pw_or1 tb.2.1)).can (rt_or rt_tO rt_tO)).pt, fun _ => (pw_or ta.2.1 (pw_or1 tb.2.1)).can (rt_or rt_tO rt_tO)⟩
      · have tb := sE b hx hb
        exact ⟨(pe_or ta.1 tb.1).can (re_or re_tO re_tO), ((pw_or ta.2.1 (tb.2.2 rfl)).can (rt_or rt_tO rt_tO)).pt, fun _ => (pw_or ta.2.1 (tb.2.2 rfl)).can (rt_or rt_tO rt_tO)⟩
    · cases h
  | .ite a b d, c, W, X, x, hx, h => by
    unfold okE at h
    split at h
    · simp only [Bool.and_eq_true] at h
      obtain ⟨⟨ha, hb⟩, hd⟩ := h
      have ta := sE a hx ha
      have tb := sE b hx hb
      have td := sE d hx hd
      exact ⟨(pe_ifExp ta.2.1 tb.1 td.1).can (re_ite rt_tO re_tO re_tO), (pt_ite ta.2.1 tb.2.1 td.2.1).can (rt_ite rt_tO rt_tO rt_tO), fun h => by cases h⟩
    · cases h
  | .idx a i, c, W, X, x, hx, h => by
    unfold okE at h
    split at h
    · simp only [Bool.and_eq_true] at h
      obtain ⟨⟨hn, ha⟩, hi⟩ := h
      exact th_val ((pe_ix ix_seq (sE a hx ha).1 (sE i hx hi).1 (noSlice_ix hn)).can (re_op (f := fun S dx dy P => ixD S dx dy P) re_tO re_tO hr_ix)) (fun _ => rfl) rfl
    · cases h
  | .slc a lo hi, c, W, X, x, hx, h => by
    unfold okE at h
    split at h
    · simp only [Bool.and_eq_true] at h
      obtain ⟨⟨ha, hl⟩, hh⟩ := h
      exact th_val ((pe_slice (sl_tupA.or sl_list) (sE a hx ha).1 (sO lo hx hl) (sO hi hx hh)).can (re_slcG re_tO ro_tO ro_tO)) (fun _ => rfl) rfl
    · cases h
  | .stp a lo hi st, c, W, X, x, hx, h => by
    unfold okE at h
    split at h
    · simp only [Bool.and_eq_true] at h
      obtain ⟨⟨⟨ha, hl⟩, hh⟩, hs⟩ := h
      exact th_val ((pe_stp (sE a hx ha).1 (sO lo hx hl) (sO hi hx hh) (po_some (sE st hx hs).1)).can (re_stp re_tO ro_tO ro_tO re_tO)) (fun _ => rfl) rfl
    · cases h
  | .tup es, c, W, X, x, hx, h => by
    unfold okE at h
    split at h
    · exact th_val ((pe_tup (sEs es hx h)).can (re_tup ra_tO)) (fun _ => rfl) rfl
    · cases h
  | .frz l, c, W, X, x, hx, h => by
    unfold okE at h
    obtain ⟨h1, h2, h3⟩ := sL l hx h
    exact th_val (h1.can (re_frz rl_tO)) h2 h3
  | .own l, c, W, X, x, hx, h => by
    unfold okE at h
    obtain ⟨h1, h2, h3⟩ := sL l hx h
    exact th_val (h1.can (re_own rl_tO)) h2 h3
  | .call f es, c, W, X, x, hx, h => by
    unfold okE at h
    split at h
    · rename_i n p y xs pos
      simp only [Bool.and_eq_true] at h
      obtain ⟨⟨⟨hg, hp⟩, hs⟩, he⟩ := h
      obtain ⟨hg, hd⟩ := gloC_ok hx hg
      obtain ⟨kk, g, fd, ps, F, hr2, hm, hk, hb⟩ := hx.fn _ (pairC_ok hp)
      have hr := hr2.mono (show kk ≤ kk + 2 by omega)
      have hs' := hs
      unfold noStars at hs'
      rw [Bool.and_eq_true] at hs'
      exact th_val ((pe_callS F hr hg hm hk hb (passAt hx.tk) (sEs es hx he) hd (noStar_each hs'.1) (noStars_each hs'.2 _)).can (re_callS ra_tO)) (fun _ => rfl) rfl
    · rename_i n p pos
      simp only [Bool.and_eq_true] at h
      obtain ⟨⟨hg, hp⟩, he⟩ := h
      obtain ⟨hg, hd⟩ := gloC_ok hx hg
      obtain ⟨kk, g, fd, ps, F, hr2, hm, hk, hb⟩ := hx.fn _ (pairC_ok hp)
      have hr := hr2.mono (show kk ≤ kk + 2 by omega)
      cases es with
      | nil => exact th_val ((pe_callS0 F hr hg hm hk hb (passAt hx.tk) hd).can (re_callS ra_nil)) (fun _ => rfl) rfl
      | cons e r => unfold okEs at he; cases he
      | star e r => unfold okEs at he; cases he
    · cases h
  | .bi b es, c, W, X, x, hx, h => by
    unfold okE at h
    split at h
    · rename_i n p y xs pos
      simp only [Bool.and_eq_true, decide_eq_true_eq] at h
      obtain ⟨⟨⟨hn, hg⟩, hs⟩, he⟩ := h
      obtain ⟨hg, hd⟩ := gloC_ok hx hg
      have hs' := hs
      unfold noStars at hs'
      rw [Bool.and_eq_true] at hs'
      have hm : X.mg n = none := bl_of hx (by rw [hn]; cases b <;> decide +kernel)
      have hnn : n ≠ ("__name__" : Str) := by rw [hn]; cases b <;> decide +kernel
      obtain ⟨r, hc, hb⟩ := bi_ok (X := X) b hx.calm
      have hv : bootBuiltins n = some (biVal b) := by rw [hn]; exact bi_boot b
      have pa := sEs es hx he
      have pe : PE X (.Call (.Name n p) (y :: xs) [] pos) (tCB r (tOA L X.K W (wpEs L.Γ es))) := by
        cases hb2 : biVal b with
        | builtin id =>
          rw [hb2] at hc hv
          exact pe_callB hc hg hm hv pa hnn hd (noStar_each hs'.1) (noStars_each hs'.2 _)
        | type T =>
          rw [hb2] at hc hv
          exact pe_callTy hc hg hm hv pa hnn hd (noStar_each hs'.1) (noStars_each hs'.2 _)
        | _ => cases b <;> cases hb2
      exact th_val (pe.can (re_bi ra_tO hb)) (fun _ => rfl) rfl
    · cases h
  | .app o e, c, W, X, x, hx, h => by
    unfold okE at h
    split at h
    · rename_i x m ap y p
      simp only [Bool.and_eq_true, decide_eq_true_eq] at h
      obtain ⟨⟨⟨⟨⟨hm, hl⟩, hc⟩, hn⟩, ho⟩, he⟩ := h
      subst hm
      have pa : PA X [y] (tCons (tO L X.K W (wpE L.Γ e)) tNil) := pa_cons (sE e hx he).1 pa_nil (noStar_each hn)
      refine th_val ((pe_bm PySem.F.plainAttrs_list PySem.F.slot_list_append PySem.F.type_list_append mt_append (sE o hx ho).1 pa (noCall_base hc _ _ _) ?_ hl (noStar_each hn) rfl).can (re_app re_tO re_tO)) (fun _ => rfl) rfl
      rw [noStar_each hn]
      rfl
    · cases h
  | .fld cn i e, c, W, X, x, hx, h => by
    unfold okE at h
    split at h
    · simp only [Bool.and_eq_true] at h
      obtain ⟨⟨hb, hs⟩, he⟩ := h
      obtain ⟨sl, G, hi, hn⟩ := slC_g hx hs
      exact th_val ((SlX.pe_sl (sE e hx he).1 (noBase_ok hb _ _ _)).can (re_fld G hi hn re_tO)) (fun _ => rfl) rfl
    · cases h
  | .isC cn e, c, W, X, x, hx, h => by
    unfold okE at h
    split at h
    · rename_i n p1 y m pm p2
      simp only [Bool.and_eq_true, decide_eq_true_eq] at h
      obtain ⟨⟨⟨⟨⟨⟨hn, hg⟩, hs⟩, he⟩, hm⟩, hgm⟩, hc⟩ := h
      subst hn hm
      obtain ⟨hg, hd⟩ := gloC_ok hx hg
      obtain ⟨hgm, hdm⟩ := gloC_ok hx hgm
      have pa := pa_cons (sE e hx he).1 (pa_cons (pe_glob (pos := pm) (u := .ref (He.ga X.K cn)) (v := .ref (He.ga X.K cn)) hgm (hasC_mg hx hc) rfl hdm) pa_nil) (noStar_each hs)
      exact th_val ((pe_callB call_isC hg (bl_of hx (by decide +kernel)) boot_isinstance pa (by decide) hd (noStar_each hs) rfl).can (re_isC hx.ca (hasC_has hx hc) re_tO)) (fun _ => rfl) rfl
    · cases h
  | .meth f cn o es, c, W, X, x, hx, h => by
    unfold okE at h
    split at h
    · rename_i y m ap xs p
      simp only [Bool.and_eq_true] at h
      obtain ⟨⟨⟨⟨⟨⟨⟨hm, hc⟩, hl⟩, hb⟩, ho⟩, hs⟩, h30⟩, he⟩ := h
      obtain ⟨kk, g, fd, ps, F, hr, M, hB⟩ := hx.mt _ (mtC_ok hm)
      obtain ⟨sl, G⟩ := hasC_g hx hc
      have hr1 := hr.mono (show kk ≤ kk + 2 by omega)
      cases xs with
      | nil =>
        have en : es = .nil := by cases es <;> first | rfl | (unfold okEs at he; cases he)
        subst en
        exact th_val ((pe_methC0 (sE o hx ho).1 G.sc M F hr1 hB (passAt hx.tk) (noBase_ok hb _ _ _) hl).can (re_meth re_tO ra_nil)) (fun _ => rfl) rfl
      | cons z zs =>
        have hs' := hs
        unfold noStars at hs'
        rw [Bool.and_eq_true] at hs'
        exact th_val ((pe_methC (sE o hx ho).1 G.sc M F hr1 hB (passAt hx.tk) (sEs es hx he) (noBase_ok hb _ _ _) hl (Nat.le_of_ble_eq_true h30) (noStar_each hs'.1) (noStars_each hs'.2 _)).can (re_meth re_tO ra_tO)) (fun _ => rfl) rfl
    · cases h
  | .prop f cn o, c, W, X, x, hx, h => by
    unfold okE at h
    split at h
    · rename_i y m p
      simp only [Bool.and_eq_true] at h
      obtain ⟨⟨⟨hm, hc⟩, hb⟩, ho⟩ := h
      obtain ⟨kk, pp, g, fd, ps, F, hr, M, hB⟩ := hx.pr _ (mtC_ok hm)
      obtain ⟨sl, G⟩ := hasC_g hx hc
      have hr1 := hr.mono (show kk + 1 ≤ kk + 2 by omega)
      exact th_val ((SlX.pe_propSl (sE o hx ho).1 G.sc M.at_ M.get M.tak M.rec_ (fnR_of F hB) hr1 (fun _ _ _ _ ⟨_, _, _, _, _, _, _, _, _, _, _, _, z⟩ => z.elim) (noBase_ok hb _ _ _)).can (re_prop re_tO)) (fun _ => rfl) rfl
    · cases h
  | .new f cn n es, c, W, X, x, hx, h => by
    unfold okE at h
    split at h
    · rename_i m p y xs pos
      simp only [Bool.and_eq_true, decide_eq_true_eq] at h
      obtain ⟨⟨⟨⟨⟨hm, hg⟩, hw⟩, hc⟩, hs⟩, he⟩ := h
      subst hm
      obtain ⟨hg, hd⟩ := gloC_ok hx hg
      obtain ⟨kk, g, fd, ps, F, hr, M, hB⟩ := hx.nw _ (mtC_ok hw)
      have hr1 := hr.mono (show kk + 1 ≤ kk + 2 by omega)
      have hs' := hs
      unfold noStars at hs'
      rw [Bool.and_eq_true] at hs'
      exact th_val ((pe_new M F hr1 hB (passAt hx.tk) hg (hasC_mg hx hc) (sEs es hx he) hd (noStar_each hs'.1) (noStars_each hs'.2 _)).can (re_new ra_tO)) (fun _ => rfl) rfl
    · cases h
  | .cmpO op f cn a b, c, W, X, x, hx, h => by
    unfold okE at h
    split at h
    · simp only [Bool.and_eq_true, decide_eq_true_eq, Bool.or_eq_true] at h
      obtain ⟨⟨⟨⟨⟨e, hm⟩, hc⟩, hn⟩, ha⟩, hb⟩ := h
      subst e
      obtain ⟨sl, G⟩ := hasC_g hx hc
      have key : ∀ (m : Str) (kk : Nat) (g : Addr) (fd : FuncData) (ps : List Str), FnOk X.prog X.w X.K X.mg X.base (L2.CX X.prog X.w) kk g fd ps (spOf L X.K (L.Γ.fn f)) → Room (kk + 2) X.A → Meth X.K (He.ga X.K cn) m g → Binds X.K fd ps [] →
          (∀ a b, compareOp (cop op) a b = richCompare (cop op) a b) → (cmpInfo (cop op)).2.1 = m → OpR X (compareOp (cop op)) (SlX.rOwn X.K (He.ga X.K cn) (spOf L X.K (L.Γ.fn f)) E0) := fun m kk g fd ps F hr M hB hop e =>
        SlX.op_own hop (by rw [e]; exact M.at_) M.fn (fnR_of F hB) (hr.mono (by omega)) passE0
      have ho : OpR X (compareOp (cop op)) (SlX.rOwn X.K (He.ga X.K cn) (spOf L X.K (L.Γ.fn f)) E0) := by
        rcases hm with ⟨e, hm⟩ | ⟨e, hm⟩
        · subst e
          obtain ⟨kk, g, fd, ps, F, hr, M, hB⟩ := hx.mt _ (mtC_ok hm)
          exact key _ kk g fd ps F hr M hB (fun _ _ => rfl) rfl
        · subst e
          obtain ⟨kk, g, fd, ps, F, hr, M, hB⟩ := hx.mt _ (mtC_ok hm)
          exact key _ kk g fd ps F hr M hB (fun _ _ => rfl) rfl
      have re := re_cmpO (L := L) (W := W) (c := cn) (f := f) (re_tO (w := wpE L.Γ a)) (re_tO (w := wpE L.Γ b)) G.nf
      exact ⟨(pe_cmpR ho (sE a hx ha).1 (sE b hx hb).1 (noSet_marks hn _)).can re, (pt_cmpR ho (sE a hx ha).1 (sE b hx hb).1 (noSet_marks hn _)).can re.tB, fun h => by cases h⟩
    · cases h
  | .neO f cn a b, c, W, X, x, hx, h => by
    unfold okE at h
    split at h
    · simp only [Bool.and_eq_true, decide_eq_true_eq] at h
      obtain ⟨⟨⟨⟨⟨e, hm⟩, hc⟩, hn⟩, ha⟩, hb⟩ := h
      subst e
      obtain ⟨sl, G, hne⟩ := neC_g hx hc
      obtain ⟨kk, g, fd, ps, F, hr, M, hB⟩ := hx.mt _ (mtC_ok hm)
      have ho : OpR X (compareOp (cop .ne)) (rOwnNe X.K (He.ga X.K cn) (spOf L X.K (L.Γ.fn f)) E0) := op_ownNe (G.ne hne) M.at_ M.fn G.si.cm (fnR_of F hB) (hr.mono (by omega)) passE0
      have re := re_neO (L := L) (W := W) (c := cn) (f := f) (re_tO (w := wpE L.Γ a)) (re_tO (w := wpE L.Γ b)) G.nf
      exact ⟨(pe_cmpR ho (sE a hx ha).1 (sE b hx hb).1 (noSet_marks hn _)).can re, (pt_cmpR ho (sE a hx ha).1 (sE b hx hb).1 (noSet_marks hn _)).can re.tB, fun h => by cases h⟩
    · cases h
  | .cmpOD op f cn a b, c, W, X, x, hx, h => by
    unfold okE at h
    split at h
    · simp only [Bool.and_eq_true, decide_eq_true_eq, Bool.or_eq_true] at h
      obtain ⟨⟨⟨⟨⟨e, hm⟩, hc⟩, hn⟩, ha⟩, hb⟩ := h
      subst e
      obtain ⟨sl, G⟩ := hasC_g hx hc
      have key : ∀ (m : Str) (kk : Nat) (g : Addr) (fd : FuncData) (ps : List Str), FnOk X.prog X.w X.K X.mg X.base (L2.CX X.prog X.w) kk g fd ps (spOf L X.K (L.Γ.fn f)) → Room (kk + 2) X.A → Meth X.K (He.ga X.K cn) m g → Binds X.K fd ps [] →
          (∀ a b, compareOp (cop op) a b = richCompare (cop op) a b) → (cmpInfo (cop op)).2.1 = m → OpR X (compareOp (cop op)) (fun x y H Q => SlX.rOwn X.K (He.ga X.K cn) (spOf L X.K (L.Γ.fn f)) E0 x y H Q ∨ rOwnT X.K (He.ga X.K cn) (spOf L X.K (L.Γ.fn f)) E0 x y H Q) := fun m kk g fd ps F hr M hB hop e =>
        (SlX.op_own hop (by rw [e]; exact M.at_) M.fn (fnR_of F hB) (hr.mono (by omega)) passE0).or (op_ownT hop (by rw [e]; exact M.at_) M.fn (fnR_of F hB) (hr.mono (by omega)) passE0)
      have ho : OpR X (compareOp (cop op)) (fun x y H Q => SlX.rOwn X.K (He.ga X.K cn) (spOf L X.K (L.Γ.fn f)) E0 x y H Q ∨ rOwnT X.K (He.ga X.K cn) (spOf L X.K (L.Γ.fn f)) E0 x y H Q) := by
        rcases hm with ⟨e, hm⟩ | ⟨e, hm⟩
        · subst e
          obtain ⟨kk, g, fd, ps, F, hr, M, hB⟩ := hx.mt _ (mtC_ok hm)
          exact key _ kk g fd ps F hr M hB (fun _ _ => rfl) rfl
        · subst e
          obtain ⟨kk, g, fd, ps, F, hr, M, hB⟩ := hx.mt _ (mtC_ok hm)
          exact key _ kk g fd ps F hr M hB (fun _ _ => rfl) rfl
      obtain ⟨r3, ho3, hr3⟩ := cmp_ok (X := X) op (by have := hx.un; omega)
      have ho := ho.or ho3
      have re := re_cmpOD (L := L) (W := W) (c := cn) (f := f) hr3 hx.ca (hasC_has hx hc) (re_tO (w := wpE L.Γ a)) (re_tO (w := wpE L.Γ b)) G.nf
      exact ⟨(pe_cmpR ho (sE a hx ha).1 (sE b hx hb).1 (noSet_marks hn _)).can re, (pt_cmpR ho (sE a hx ha).1 (sE b hx hb).1 (noSet_marks hn _)).can re.tB, fun h => by cases h⟩
    · cases h
  | .lenO f cn o, c, W, X, x, hx, h => by
    unfold okE at h
    split at h
    · simp only [Bool.and_eq_true, decide_eq_true_eq] at h
      obtain ⟨⟨⟨⟨⟨hn, hg⟩, hm⟩, hc⟩, hs⟩, ho⟩ := h
      subst hn
      obtain ⟨hg, hd⟩ := gloC_ok hx hg
      obtain ⟨kk, g, fd, ps, F, hr, M, hB⟩ := hx.mt _ (mtC_ok hm)
      exact th_val ((pe_callB (call_lenO M (fnR_of F hB) (hr.mono (by omega)) passE0) hg (bl_of hx (by decide +kernel)) (bi_boot .len) (pa_cons (sE o hx ho).1 pa_nil (noStar_each hs)) (by decide) hd (noStar_each hs) rfl).can (re_lenO re_tO)) (fun _ => rfl) rfl
    · cases h
  | .strO f cn o, c, W, X, x, hx, h => by
    unfold okE at h
    split at h
    · simp only [Bool.and_eq_true, decide_eq_true_eq] at h
      obtain ⟨⟨⟨⟨⟨hn, hg⟩, hm⟩, hc⟩, hs⟩, ho⟩ := h
      subst hn
      obtain ⟨hg, hd⟩ := gloC_ok hx hg
      obtain ⟨kk, g, fd, ps, F, hr, M, hB⟩ := hx.mt _ (mtC_ok hm)
      exact th_val ((pe_callTy (call_strO hx.un M (fnR_of F hB) hr passE0) hg (bl_of hx (by decide +kernel)) (bi_boot .str) (pa_cons (sE o hx ho).1 pa_nil (noStar_each hs)) (by decide) hd (noStar_each hs) rfl).can (re_strO re_tO)) (fun _ => rfl) rfl
    · cases h
  | .fst es, c, W, X, x, hx, h => by
    unfold okE at h
    split at h
    · obtain ⟨ts, h1, h2⟩ := sFs es hx h
      exact th_val ((pe_joined h1).can (re_fst h2)) (fun _ => rfl) rfl
    · cases h
  | .dct, c, W, X, x, hx, h => by
    unfold okE at h
    split at h
    · exact th_val (pe_dnewK.can re_dct) (fun _ => rfl) rfl
    · cases h
theorem sFs : ∀ (es : Exs) {c : Ck} {W : WX} {X : Cx} {xs : List Expr}, XC c L W X → okFs es c xs = true → ∃ ts, PJ X xs ts ∧ RJ L X.K W ts (wpFs L.Γ es)
  | .nil, c, W, X, xs, hx, h => by
    unfold okFs at h
    split at h
    · exact ⟨[], .nil, rj_nil⟩
    · cases h
  | .cons e r, c, W, X, xs, hx, h => by
    unfold okFs at h
    split at h
    · simp only [Bool.and_eq_true, decide_eq_true_eq] at h
      obtain ⟨⟨hk, he⟩, hr⟩ := h
      subst hk
      obtain ⟨ts, h1, h2⟩ := sFs r hx hr
      exact ⟨_, .cons (pe_fmt (sE e hx he).1) h1, rj_fmt re_tO h2⟩
    · simp only [Bool.and_eq_true] at h
      obtain ⟨hc, hr⟩ := h
      have := isCS_ok hc
      subst this
      obtain ⟨ts, h1, h2⟩ := sFs r hx hr
      exact ⟨_, .cons pe_str h1, rj_str (wo := fun _ S _ Q => Q (.str _) S) (re_c fun _ _ => .str _) h2⟩
    · cases h
  | .star _ _, c, W, X, xs, hx, h => by cases h
theorem sEs : ∀ (es : Exs) {c : Ck} {W : WX} {X : Cx} {xs : List Expr}, XC c L W X → okEs es c xs = true → PA X xs (tOA L X.K W (wpEs L.Γ es))
  | .nil, c, W, X, xs, hx, h => by
    unfold okEs at h
    split at h
    · exact pa_nil.can ra_nil
    · cases h
  | .cons e r, c, W, X, xs, hx, h => by
    unfold okEs at h
    split at h
    · simp only [Bool.and_eq_true] at h
      obtain ⟨⟨hn, he⟩, hr⟩ := h
      exact (pa_cons (sE e hx he).1 (sEs r hx hr) (noStar_each hn)).can (ra_cons re_tO ra_tO)
    · cases h
  | .star e r, c, W, X, xs, hx, h => by
    unfold okEs at h
    split at h
    · simp only [Bool.and_eq_true] at h
      exact (StX.pa_star (sE e hx h.1).1 (sEs r hx h.2)).can (ra_star re_tO ra_tO)
    · cases h
theorem sO : ∀ (o : Ox) {c : Ck} {W : WX} {X : Cx} {x : Option Expr}, XC c L W X → okO o c x = true → PO X x (tOO L X.K W (wpO L.Γ o))
  | .no, c, W, X, x, hx, h => by
    unfold okO at h
    split at h
    · exact po_none.can ro_no
    · cases h
  | .so e, c, W, X, x, hx, h => by
    unfold okO at h
    split at h
    · exact (po_some (sE e hx h).1).can (ro_so re_tO)
    · cases h
theorem sL : ∀ (l : Lx) {c : Ck} {W : WX} {X : Cx} {x : Expr}, XC c L W X → okL l c x = true → PE X x (tOL L X.K W (wpL L.Γ l)) ∧ (∀ whole, isTrue x X.env whole = (do let v ← whole; standAt x.pos; holding [v] (truthy v))) ∧ isBO x = false
  | .disp es, c, W, X, x, hx, h => by
    unfold okL at h
    split at h
    · exact ⟨(pe_lst (sEs es hx h)).canL (rl_disp ra_tO), fun _ => rfl, rfl⟩
    · cases h
  | .comp own tg it ts el, c, W, X, x, hx, h => by
    unfold okL at h
    split at h
    · rename_i elt tx iter ifs a scope pos
      simp only [Bool.and_eq_true, decide_eq_true_eq] at h
      obtain ⟨⟨⟨⟨⟨⟨⟨ha, hb⟩, hv⟩, hn⟩, hi⟩, hg⟩, ht⟩, he⟩ := h
      subst ha
      have hB : BlkOk X.N X.env.scope scope (ownP c own) := by rw [hx.N, hx.sc]; exact blkOk_by hb
      have p := pe_lc (pos := pos) (elt := elt) (g := tOGt L X.K (fun _ _ _ _ => False) (tgV tg) (wpG L.Γ tg)) (tt := tOTs L X.K (fun _ _ _ _ => False) (wpTs L.Γ ts)) (te := tO L X.K (fun _ _ _ _ => False) (wpE L.Γ el)) hx.calm (by rw [hx.N]; exact hx.nd) (sI it hx hi) hB (fun s H C cl fp => sG tg (hx.blk s H scope cl C fp) hg) (fun s H C cl fp => sTs ts (hx.blk s H scope cl C fp) ht) (fun s H C cl fp => (sE el (hx.blk s H scope cl C fp) he).1) (noSet_fold hn _)
      rw [ownP_snd] at p
      exact ⟨p.canL (rl_comp ri_tO rg_tO rts_tO re_tO (subV_ok hv)), fun _ => rfl, rfl⟩
    · cases h
  | .comp2 own own2 tg it ts tg2 it2 ts2 el, c, W, X, x, hx, h => by
    unfold okL at h
    split at h
    · rename_i elt tx iter ifs a tx2 iter2 ifs2 a2 scope pos
      simp only [Bool.and_eq_true, decide_eq_true_eq] at h
      obtain ⟨⟨⟨⟨⟨⟨⟨⟨⟨⟨⟨⟨⟨⟨ha, ha2⟩, hb⟩, hv⟩, hv1⟩, hv2⟩, hn⟩, hn2⟩, hi⟩, hg⟩, ht⟩, hi2⟩, hg2⟩, ht2⟩, he⟩ := h
      subst ha ha2
      have hB : BlkOk X.N X.env.scope scope (ownP c own) := by rw [hx.N, hx.sc]; exact blkOk_by hb
      have p := pe_lc2 (pos := pos) (elt := elt) (vs1 := own2) (g := tOGt L X.K (fun _ _ _ _ => False) (tgV tg) (wpG L.Γ tg)) (tt := tOTs L X.K (fun _ _ _ _ => False) (wpTs L.Γ ts)) (te := tO L X.K (fun _ _ _ _ => False) (wpE L.Γ el))
        (wi1 := tOI L X.K (fun _ _ _ _ => False) (wpI L.Γ it2)) (g1 := tOGt L X.K (fun _ _ _ _ => False) (tgV tg2) (wpG L.Γ tg2)) (tt1 := tOTs L X.K (fun _ _ _ _ => False) (wpTs L.Γ ts2)) hx.calm (by rw [hx.N]; exact hx.nd) (sI it hx hi) hB (by rw [ownP_snd]; exact subV_ok hv1)
        (fun s H C cl fp => sG tg (hx.blk s H scope cl C fp) hg) (fun s H C cl fp => sTs ts (hx.blk s H scope cl C fp) ht)
        (fun s H C cl fp => sI it2 (hx.blk s H scope cl C fp) hi2) (fun s H C cl fp => sG tg2 (hx.blk s H scope cl C fp) hg2) (fun s H C cl fp => sTs ts2 (hx.blk s H scope cl C fp) ht2)
        (fun s H C cl fp => (sE el (hx.blk s H scope cl C fp) he).1) (noSet_fold hn _) (fun env => noSet_fold hn2 env)
      rw [ownP_snd] at p
      exact ⟨p.canL (rl_comp2 ri_tO rg_tO rts_tO ri_tO rg_tO rts_tO re_tO (subV_ok hv) (subV_ok hv2)), fun _ => rfl, rfl⟩
    · cases h
  | .rep a n, c, W, X, x, hx, h => by
    unfold okL at h
    split at h
    · simp only [Bool.and_eq_true] at h
      exact ⟨(pe_op op_rep (sE a hx h.1).1 (sE n hx h.2).1).canL (rl_rep re_tO re_tO), fun _ => rfl, rfl⟩
    · cases h
  | .cat a b, c, W, X, x, hx, h => by
    unfold okL at h
    split at h
    · simp only [Bool.and_eq_true] at h
      exact ⟨(pe_op op_cat (sE a hx h.1).1 (sE b hx h.2).1).canL (rl_cat re_tO re_tO), fun _ => rfl, rfl⟩
    · cases h
  | .ofSeq a, c, W, X, x, hx, h => by
    unfold okL at h
    split at h
    · simp only [Bool.and_eq_true, decide_eq_true_eq] at h
      obtain ⟨⟨⟨hn, hg⟩, hs⟩, ha⟩ := h
      subst hn
      obtain ⟨hg, hd⟩ := gloC_ok hx hg
      exact ⟨(pe_callTy call_list_of hg (bl_of hx (by decide +kernel)) boot_list (pa_cons (sE a hx ha).1 pa_nil (noStar_each hs)) (by decide) hd (noStar_each hs) rfl).canL (rl_ofSeq re_tO), fun _ => rfl, rfl⟩
    · cases h
  | .slc a lo hi, c, W, X, x, hx, h => by
    unfold okL at h
    split at h
    · simp only [Bool.and_eq_true] at h
      obtain ⟨⟨ha, hl⟩, hh⟩ := h
      exact ⟨(pe_slice sl_list (sE a hx ha).1 (sO lo hx hl) (sO hi hx hh)).canL (rl_slc re_tO ro_tO ro_tO), fun _ => rfl, rfl⟩
    · cases h
  | .sorted a, c, W, X, x, hx, h => by
    unfold okL at h
    split at h
    · simp only [Bool.and_eq_true, decide_eq_true_eq] at h
      obtain ⟨⟨⟨hn, hg⟩, hs⟩, ha⟩ := h
      subst hn
      obtain ⟨hg, hd⟩ := gloC_ok hx hg
      exact ⟨(pe_callB (cr_sortI hx.un) hg (bl_of hx (by decide +kernel)) PyProof.Rows.boot_sorted (pa_cons (sE a hx ha).1 pa_nil (noStar_each hs)) (by decide) hd (noStar_each hs) rfl).canL (rl_sortI re_tO), fun _ => rfl, rfl⟩
    · cases h
  | .sortI a, c, W, X, x, hx, h => by
    unfold okL at h
    split at h
    · simp only [Bool.and_eq_true, decide_eq_true_eq] at h
      obtain ⟨⟨⟨hn, hg⟩, hs⟩, ha⟩ := h
      subst hn
      obtain ⟨hg, hd⟩ := gloC_ok hx hg
      exact ⟨(pe_callB cr_sortedI hg (bl_of hx (by decide +kernel)) PyProof.Rows.boot_sorted (pa_cons (sE a hx ha).1 pa_nil (noStar_each hs)) (by decide) hd (noStar_each hs) rfl).canL (rl_sortInts re_tO), fun _ => rfl, rfl⟩
    · cases h
  | .stpL a lo hi st, c, W, X, x, hx, h => by
    unfold okL at h
    split at h
    · simp only [Bool.and_eq_true] at h
      obtain ⟨⟨⟨ha, hl⟩, hh⟩, hs⟩ := h
      exact ⟨(pe_stpL (sE a hx ha).1 (sO lo hx hl) (sO hi hx hh) (po_some (sE st hx hs).1)).canL (rl_stpL re_tO ro_tO ro_tO re_tO), fun _ => rfl, rfl⟩
    · cases h
  | .sortSet a, c, W, X, x, hx, h => by
    unfold okL at h
    split at h
    · simp only [Bool.and_eq_true, decide_eq_true_eq] at h
      obtain ⟨⟨⟨⟨⟨hn, hg⟩, hm⟩, hgm⟩, hs⟩, ha⟩ := h
      subst hn hm
      obtain ⟨hg, hd⟩ := gloC_ok hx hg
      obtain ⟨hgm, hdm⟩ := gloC_ok hx hgm
      exact ⟨(pe_sortSet hx.calm hg (bl_of hx (by decide +kernel)) hgm (bl_of hx (by decide +kernel)) (sE a hx ha).1 (noStar_each hs)).canL (rl_sortSet re_tO), fun _ => rfl, rfl⟩
    · cases h
  | .sortK f a, c, W, X, x, hx, h => by
    unfold okL at h
    split at h
    · rename_i n p1 y kn m p2 p3 p4
      simp only [Bool.and_eq_true, decide_eq_true_eq] at h
      obtain ⟨⟨⟨⟨⟨⟨hn, hg⟩, hs⟩, ha⟩, hk⟩, hgm⟩, hp⟩ := h
      subst hn hk
      obtain ⟨hg, hd⟩ := gloC_ok hx hg
      obtain ⟨hgm, hdm⟩ := gloC_ok hx hgm
      obtain ⟨kk, g, fd, ps, F, hr, hm, _, hb⟩ := hx.fn _ (pairC_ok hp)
      have pk : PK X [⟨some ("key" : Str), .Name m p2, p3⟩] (tCons (fun _ H Q => Q (.ref g) H) tNil) := pk_cons (pe_glob (u := .ref g) (v := .ref g) hgm hm rfl hdm) pk_nil
      exact ⟨(pe_callBK (cr_sortK F hr hx.un hb) hg (bl_of hx (by decide +kernel)) (by decide +kernel) (pa_cons (sE a hx ha).1 pa_nil (noStar_each hs)) pk (by decide) hd (by rw [noStar_each hs]; rfl) (noStars_each (show noStars [y] = true by unfold noStars; rw [hs]; rfl) _)).canL (rl_sortK re_tO), fun _ => rfl, rfl⟩
    · cases h
theorem sI : ∀ (it : It) {c : Ck} {W : WX} {X : Cx} {t x : Expr}, XC c L W X → okI it c t x = true → PI X t x (tOI L X.K W (wpI L.Γ it))
  | .seq e, c, W, X, t, x, hx, h => by
    unfold okI at h
    exact (pi_seqG (sE e hx h).1).can (ri_seq re_tO)
  | .rng1 a, c, W, X, t, x, hx, h => by
    unfold okI at h
    split at h
    · simp only [Bool.and_eq_true, decide_eq_true_eq] at h
      obtain ⟨⟨⟨hn, hg⟩, hs⟩, ha⟩ := h
      subst hn
      obtain ⟨hg, hd⟩ := gloC_ok hx hg
      exact (pi_range1 hg (bl_of hx (by decide +kernel)) (pa_cons (sE a hx ha).1 pa_nil (noStar_each hs)) (noStar_each hs)).can (ri_rng1 re_tO)
    · cases h
  | .rng2 a b, c, W, X, t, x, hx, h => by
    unfold okI at h
    split at h
    · simp only [Bool.and_eq_true, decide_eq_true_eq] at h
      obtain ⟨⟨⟨⟨⟨hn, hg⟩, hs⟩, hs2⟩, ha⟩, hb⟩ := h
      subst hn
      obtain ⟨hg, hd⟩ := gloC_ok hx hg
      exact (pi_range2 hg (bl_of hx (by decide +kernel)) (pa_cons (sE a hx ha).1 (pa_cons (sE b hx hb).1 pa_nil (noStar_each hs2)) (noStar_each hs)) (by rw [noStar_each hs, noStar_each hs2]; rfl) (noStar_each hs2)).can (ri_rng2 re_tO re_tO)
    · cases h
  | .rng3 a b d, c, W, X, t, x, hx, h => by
    unfold okI at h
    split at h
    · simp only [Bool.and_eq_true, decide_eq_true_eq] at h
      obtain ⟨⟨⟨⟨⟨⟨⟨hn, hg⟩, hs⟩, hs2⟩, hs3⟩, ha⟩, hb⟩, hd'⟩ := h
      subst hn
      obtain ⟨hg, hd⟩ := gloC_ok hx hg
      exact (pi_range3 hg (bl_of hx (by decide +kernel)) (pa_cons (sE a hx ha).1 (pa_cons (sE b hx hb).1 (pa_cons (sE d hx hd').1 pa_nil (noStar_each hs3)) (noStar_each hs2)) (noStar_each hs)) (noStar_each hs) (by rw [noStar_each hs2, noStar_each hs3]; rfl)).can (ri_rng3 re_tO re_tO re_tO)
    · cases h
  | .enum e, c, W, X, t, x, hx, h => by
    unfold okI at h
    split at h
    · split at h
      · simp only [Bool.and_eq_true, decide_eq_true_eq] at h
        obtain ⟨⟨⟨hn, hg⟩, hs⟩, ha⟩ := h
        subst hn
        obtain ⟨hg, hd⟩ := gloC_ok hx hg
        exact (pi_enumG hg (bl_of hx (by decide +kernel)) (pa_cons (sE e hx ha).1 pa_nil (noStar_each hs)) (noStar_each hs)).can (ri_enum re_tO)
      · cases h
    · cases h
  | .zip a b, c, W, X, t, x, hx, h => by
    unfold okI at h
    split at h
    · split at h
      · simp only [Bool.and_eq_true, decide_eq_true_eq] at h
        obtain ⟨⟨⟨⟨⟨hn, hg⟩, hs⟩, hs2⟩, ha⟩, hb⟩ := h
        subst hn
        obtain ⟨hg, hd⟩ := gloC_ok hx hg
        exact (pi_zipG hg (bl_of hx (by decide +kernel)) (pa_cons (sE a hx ha).1 (pa_cons (sE b hx hb).1 pa_nil (noStar_each hs2)) (noStar_each hs)) (noStar_each hs) (by rw [noStar_each hs2]; rfl)).can (ri_zip re_tO re_tO)
      · cases h
    · cases h
theorem sG : ∀ (t : Tg) {c : Ck} {W : WX} {X : Cx} {x : Expr}, XC c L W X → okG t c x = true → PG X x (tOGt L X.K W (tgV t) (wpG L.Γ t))
  | .nm i, c, W, X, x, hx, h => by
    unfold okG at h
    split at h
    · simp only [Bool.and_eq_true, decide_eq_true_eq] at h
      exact (pg_name (by rw [hx.N]; exact hx.nd) (by rw [hx.N]; exact h.1) (locC_ok hx h.2) (hx.st _ h.2)).can rg_nm
    · cases h
  | .tp ts, c, W, X, x, hx, h => by
    unfold okG at h
    split at h
    · rename_i xs k pos
      obtain ⟨g, h1, h2⟩ := sGs ts hx h
      obtain ⟨l1, l2⟩ := okGs_len X.env h
      exact (pg_seq hx.calm h1 l1 (List.findIdx?_eq_none_iff.mpr fun p hp => l2 p hp)).can (rg_seq h2)
    · cases h
  | .sub o i, c, W, X, x, hx, h => by
    unfold okG at h
    split at h
    · simp only [Bool.and_eq_true] at h
      obtain ⟨⟨hn, ho⟩, hi⟩ := h
      refine (pg_sub (sE o hx ho).1 (sE i hx hi).1 set_list fun v => ?_).can (rg_sub re_tO re_tO)
      rename_i y _
      cases y <;> first | rfl | cases hn
    · cases h
  | .fld o cn i, c, W, X, x, hx, h => by
    unfold okG at h
    split at h
    · simp only [Bool.and_eq_true] at h
      obtain ⟨hs, ho⟩ := h
      obtain ⟨sl, G, hi, hn⟩ := slC_g hx hs
      exact (pg_fld (sE o hx ho).1).can (rg_fld G hi hn re_tO)
    · cases h
theorem sGs : ∀ (ts : Tgs) {c : Ck} {W : WX} {X : Cx} {xs : List Expr}, XC c L W X → okGs ts c xs = true → ∃ g, PGs X xs g ∧ RGs L X.K W (tgsV ts) g (wpGs L.Γ ts)
  | .nil, c, W, X, xs, hx, h => by
    unfold okGs at h
    split at h
    · exact ⟨_, pgs_nil, rgs_nil⟩
    · cases h
  | .cons t r, c, W, X, xs, hx, h => by
    unfold okGs at h
    split at h
    · simp only [Bool.and_eq_true] at h
      obtain ⟨⟨hn, ht⟩, hr⟩ := h
      obtain ⟨g', h3, h4⟩ := sGs r hx hr
      exact ⟨_, pgs_cons (sG t hx ht) h3 (by rw [noStar_assign hn]; rfl), rgs_cons rg_tO h4⟩
    · cases h
theorem sTs : ∀ (es : Exs) {c : Ck} {W : WX} {X : Cx} {xs : List Expr}, XC c L W X → okTs es c xs = true → PTs X xs (tOTs L X.K W (wpTs L.Γ es))
  | .nil, c, W, X, xs, hx, h => by
    unfold okTs at h
    split at h
    · exact pts_nil.can rts_nil
    · cases h
  | .cons e r, c, W, X, xs, hx, h => by
    unfold okTs at h
    split at h
    · split at h
      · exact (pts_one (sE e hx h).2.1).can (rts_one rt_tO)
      · cases h
    · cases h
  | .star e r, c, W, X, xs, hx, h => by cases h
end
end
end DL

/-! DL13: the check of statements, and why it is enough. -/
namespace DL
open PySem PySem.Spec PyProof.Rows L2
def env0 (sc : Scope) : PySem.Env := { scope := sc, locals := 0, globals := 0, cells := [] }
def isPure {α : Type} [DecidableEq α] (s : Sem α) (a : α) : Bool := match s with
  | .pure b => decide (b = a)
  | _ => false
theorem isPure_ok {α : Type} [DecidableEq α] {s : Sem α} {a : α} (h : isPure s a = true) : s = pure a := by
  unfold isPure at h
  split at h
  · have := of_decide_eq_true h; subst this; rfl
  · cases h
theorem swaps0 (v : Expr) (t : Option Expr) (l : Nat) (env : PySem.Env) : swapsWith v t l env = swapsWith v t l (env0 env.scope) := rfl
theorem stores0 (ts : List Expr) (v : Expr) (env : PySem.Env) : swappedStores ts v env = swappedStores ts v (env0 env.scope) := rfl
def isNm : Expr → Bool
  | .Name _ _ => true
  | _ => false
/-- written values that a clause may return -/
def cst0 : D → Expr → Bool
  | .int i, .Constant (.int j) _ _ => decide (i = j)
  | .bl i, .Constant (.bool j) _ _ => decide (i = j)
  | .str i, .Constant (.str j) _ _ => decide (i = j)
  | .non, .Constant .none _ _ => true
  | _, _ => false
theorem cst0_ok {d : D} {x : Expr} (h : cst0 d x = true) : ∃ v : V, (∀ X : Cx, PE X x (tC v)) ∧ ∀ (K : PySem.W.Frag) (O : Ow) (H : Hp), Rp K O H v d := by
  unfold cst0 at h
  split at h
  · have e := of_decide_eq_true h; subst e; exact ⟨_, fun X => pe_int, fun _ _ _ => .int _⟩
  · have e := of_decide_eq_true h; subst e; exact ⟨_, fun X => pe_bl, fun _ _ _ => .bl _⟩
  · have e := of_decide_eq_true h; subst e; exact ⟨_, fun X => pe_str, fun _ _ _ => .str _⟩
  · exact ⟨_, fun X => pe_non, fun _ _ _ => .non⟩
  · cases h
def okHs : List (Nat × D) → Ck → List ExceptHandler → Bool
  | [], _, hds => (match hds with
    | [] => true
    | _ => false)
  | p :: r, c, hds => (match hds with
    | .ExceptHandler (some (.Name x _)) none [.Return (some ex) _] _ :: hds => gloC c x && xcC c p.1 x && cst0 p.2 ex && okHs r c hds
    | _ => false)
def lclC (c : Ck) (x : Str) : Bool := decide (c.sc.names.lookup x = some .local)
mutual
def okS : Sm → Ck → Stmt → Bool
  | .asg t e, c, st => match st with
    | .Assign [tx] ex pos =>
      (isPure (swapsWith ex (some tx) pos.line (env0 c.sc)) false && isPure (swappedStores [tx] ex (env0 c.sc)) none && noStar tx && okG t c tx && okE e c ex) ||
      (match t, tx, e with
      | .nm i, .Name n p, .frz l => isPure (swapsWith ex (some (.Name n p)) pos.line (env0 c.sc)) true && decide (c.N[i]? = some n) && lclC c n && okL l c ex
      | .nm i, .Name n p, .own l => isPure (swapsWith ex (some (.Name n p)) pos.line (env0 c.sc)) true && decide (c.N[i]? = some n) && lclC c n && okL l c ex
      | _, _, _ => false)
    | _ => false
  | .par is es, c, st => match st with
    | .Assign [.Tuple [.Name x px, .Name y py] kt pt] (.Tuple [a, b] k2 pt2) pos => (match is with
      | [i, j] => decide (c.N[i]? = some x) && decide (c.N[j]? = some y) && !(Nat.beq i j) && lclC c x && lclC c y && okEs es c [a, b] && isPure (swappedStores [.Tuple [.Name x px, .Name y py] kt pt] (.Tuple [a, b] k2 pt2) (env0 c.sc)) (some [x, y])
      | _ => false)
    | .Assign [.Tuple [.Name x px, .Name y py, .Name z pz] kt pt] (.Tuple [a, b, d] k2 pt2) pos => (match is with
      | [i, j, l] => decide (c.N[i]? = some x) && decide (c.N[j]? = some y) && decide (c.N[l]? = some z) && !(Nat.beq i j) && !(Nat.beq i l) && !(Nat.beq j l) && lclC c x && lclC c y && lclC c z && okEs es c [a, b, d] && isPure (swappedStores [.Tuple [.Name x px, .Name y py, .Name z pz] kt pt] (.Tuple [a, b, d] k2 pt2) (env0 c.sc)) (some [x, y, z])
      | _ => false)
    | _ => false
  | .aug i op e, c, st => match st with
    | .AugAssign (.Name n _) o ex _ => decide (c.N[i]? = some n) && locC c n && decide (o = bop op) && (decide (op = .add) || decide (op = .sub) || decide (op = .mul)) && okE e c ex
    | _ => false
  | .ex e, c, st => match st with
    | .Expr ex pos => isPure (swapsWith ex none pos.line (env0 c.sc)) false && okE e c ex
    | _ => false
  | .ret e, c, st => match st with
    | .Return (some ex) _ => okE e c ex
    | _ => false
  | .retF e, c, st => match st with
    | .Return (some ex) _ => okE e c ex
    | _ => false
  | .retN, c, st => match st with
    | .Return none _ => true
    | _ => false
  | .ife e a b, c, st => match st with
    | .If x xs ys _ => okE e c x && okB a c xs && okB b c ys
    | _ => false
  | .whl e b, c, st => match st with
    | .While x xs [] _ => okE e c x && okB b c xs
    | _ => false
  | .for tg it b, c, st => match st with
    | .For tx ix xs [] _ => noSet ix && okI it c tx ix && okG tg c tx && okB b c xs
    | _ => false
  | .raise _ _, c, st => true
  | .rse k, c, st => match st with
    | .Raise (some (.Call (.Name x _) [.Constant (.str _) _ _] [] _)) none _ => gloC c x && xcC c k x
    | _ => false
  | .tryC b hs, c, st => match st with
    | .Try body (h :: hds) [] [] _ => okB b c body && okHs hs c (h :: hds)
    | _ => false
  | .pass, c, st => match st with
    | .Pass _ => true
    | _ => false
  | .brk, c, st => match st with
    | .Break _ => true
    | _ => false
  | .cont, c, st => match st with
    | .Continue _ => true
    | _ => false
def okB : Bl → Ck → List Stmt → Bool
  | .nil, c, xs => match xs with
    | [] => true
    | _ => false
  | .cons s r, c, xs => match xs with
    | x :: xs => okS s c x && okB r c xs
    | _ => false
end
section
variable {L : Lnk} {K : PySem.W.Frag} {W : WX}
theorem len2 {α : Type} {l : List α} (h : l.length = 2) : ∃ a b, l = [a, b] := by
  match l, h with
  | [a, b], _ => exact ⟨a, b, rfl⟩
theorem len3 {α : Type} {l : List α} (h : l.length = 3) : ∃ a b c, l = [a, b, c] := by
  match l, h with
  | [a, b, c], _ => exact ⟨a, b, c, rfl⟩
theorem rs_par2 {i j : Nat} {t : TA} {ws : Env → Sto → XD → (List D → Sto → Prop) → Prop} (h : RA L K W t ws) : RS L K W (tPar i j t) fun E X ρ S => ws ρ S (fun k d S => X k d ρ S) fun ds S1 => ds.length = [i, j].length ∧ E.nx (parV [i, j] ds ρ) S1 := fun σ H ρ S O X E D A hw k => by
  refine h.go A.ex hw fun vs H1 ds S1 O1 r1 A1 e1 ⟨hl, q⟩ => ?_
  obtain ⟨a, b, rfl⟩ := len2 hl
  obtain ⟨v, u, rfl, r, r2⟩ := rps2 r1
  exact ⟨v, u, rfl, k.nx _ H1 _ S1 O1 A1.sok e1 ((A1.env.set i r).set j r2) q⟩
theorem rs_par3 {i j l : Nat} {t : TA} {ws : Env → Sto → XD → (List D → Sto → Prop) → Prop} (h : RA L K W t ws) : RS L K W (tPar3 i j l t) fun E X ρ S => ws ρ S (fun k d S => X k d ρ S) fun ds S1 => ds.length = [i, j, l].length ∧ E.nx (parV [i, j, l] ds ρ) S1 := fun σ H ρ S O X E D A hw k => by
  refine h.go A.ex hw fun vs H1 ds S1 O1 r1 A1 e1 ⟨hl, q⟩ => ?_
  obtain ⟨a, b, d, rfl⟩ := len3 hl
  cases r1 with
  | cons r r1 =>
    cases r1 with
    | cons r2 r1 =>
      cases r1 with
      | cons r3 r1 =>
        cases r1
        exact ⟨_, _, _, rfl, k.nx _ H1 _ S1 O1 A1.sok e1 (((A1.env.set i r).set j r2).set l r3) q⟩
/-- what the clauses wish -/
theorem hds_ok {c : Ck} {X : Cx} : ∀ (hs : List (Nat × D)) {hds : List ExceptHandler}, XC c L W X → okHs hs c hds = true → ∃ l, HdsOk X hds l ∧
    ∀ (Wout : WX) (D : Ends) (k : Nat) (n : String) (dd : Option Addr) (σ : L2.St) (H : Hp), c.xc[k]? = some n → (∀ cd, hs.lookup k = some cd → ∀ v, (∀ K O H, Rp K O H v cd) → D.rt v H) → (hs.lookup k = none → Wout (.ref (He.ga X.K n)) dd σ H) → wMany X.K Wout D l (.ref (He.ga X.K n)) dd σ H
  | [], hds, hx, h => by
    unfold okHs at h
    split at h
    · exact ⟨[], .nil, fun Wout D k n dd σ H hk h1 h2 => h2 rfl⟩
    · cases h
  | (j, cd) :: r, hds, hx, h => by
    unfold okHs at h
    split at h
    · rename_i x _ ex _ _ hds
      simp only [Bool.and_eq_true] at h
      obtain ⟨⟨⟨hg, hc⟩, hd⟩, hr⟩ := h
      obtain ⟨hg, hdb⟩ := gloC_ok hx hg
      obtain ⟨m, hm, em⟩ := xcC_ok hc
      obtain ⟨v, pv', rv⟩ := cst0_ok hd
      obtain ⟨l, hl, hw⟩ := hds_ok r hx hr
      have hmg := hx.xm m (List.mem_of_getElem? hm)
      subst em
      refine ⟨(.ref (He.ga X.K m), fun _ _ _ => tRet (tC v)) :: l, .cons ⟨hg, hdb, .inl hmg⟩ (fun a oe cls d pn _ _ => pss_one (ps_ret (pv' _))) hl, fun Wout D k n dd σ H hk h1 h2 => ?_⟩
      refine ⟨decide (k = j), hx.xa.pr k j n m hk hm, fun e a _ => ?_, fun e => ?_⟩
      · have e := of_decide_eq_true e
        subst e
        exact h1 cd (by simp [List.lookup]) v rv
      · have ne : (k == j) = false := by simpa using of_decide_eq_false e
        exact hw Wout D k n dd σ H hk (fun cd' h' => h1 cd' (by simpa [List.lookup, ne] using h')) fun h' => h2 (by simpa [List.lookup, ne] using h')
    · cases h
/-- where statements stand -/
structure PoX (X : Cx) : Prop where
  po : PassesOwn (model X.prog X.w) X.A X.env X.xe
  stk : X.stack = X.env :: X.outer
  frm : X.env.frame = some X.env.locals
theorem rs_never : RS L K W tNever fun _ _ _ _ => False := fun σ H ρ S O X E D A hw k => hw
end
set_option maxHeartbeats 1000000
/-- name = [..] with the stores exchanged -/
theorem sAsgL (l : Lx) {L : Lnk} {c : Ck} {W : WX} {X : Cx} {x : Expr} {n : Str} {i : Nat} {p spos : Pos} (hx : XC c L W X) (h : okL l c x = true) (hs : swapsWith x (some (.Name n p)) spos.line X.env = pure true) (hi' : X.N[i]? = some n) (hl : X.env.scope.names.lookup n = some .local) :
    PS X (.Assign [.Name n p] x spos) (tAsg (tOL L X.K W (wpL L.Γ l)) (gName i)) := by
  have np : ∀ {x : Expr}, (match x with | .ListComp _ _ _ _ => false | .SetComp _ _ _ _ => false | .DictComp _ _ _ _ _ => false | _ => true) = true → swapsWith x (some (.Name n p)) spos.line X.env = pure true → False := fun {x} hm hs => by
    cases x <;> first | exact absurd (Sem.pure.inj (show (Sem.pure false : Sem Bool) = Sem.pure true from hs)) Bool.false_ne_true | cases hm
  have lift : ∀ {t : TE}, PS X (.Assign [.Name n p] x spos) (tAsg t (gName i)) → RL L X.K W t (wpL L.Γ l) → PS X (.Assign [.Name n p] x spos) (tAsg (tOL L X.K W (wpL L.Γ l)) (gName i)) := fun {t} h r => ⟨fun pins s σ H D I ⟨ρ, S, O, R, Q, A, hw, k⟩ => h.run pins s σ H D I (r σ H ρ S O R Q _ A hw k)⟩
  cases l with
  | comp own tg it ts el =>
    unfold okL at h
    split at h
    · rename_i elt tx iter ifs a scope pos
      simp only [Bool.and_eq_true, decide_eq_true_eq] at h
      obtain ⟨⟨⟨⟨⟨⟨⟨ha, hb⟩, hv⟩, hn⟩, hi⟩, hg⟩, ht⟩, he⟩ := h
      subst ha
      have hB : BlkOk X.N X.env.scope scope (ownP c own) := by rw [hx.N, hx.sc]; exact blkOk_by hb
      have p := ps_setLc (pos := pos) (elt := elt) (g := tOGt L X.K (fun _ _ _ _ => False) (tgV tg) (wpG L.Γ tg)) (tt := tOTs L X.K (fun _ _ _ _ => False) (wpTs L.Γ ts)) (te := tO L X.K (fun _ _ _ _ => False) (wpE L.Γ el)) hx.calm (by rw [hx.N]; exact hx.nd) hi' hl hs (sI it hx hi) hB (fun s H C cl fp => sG tg (hx.blk s H scope cl C fp) hg) (fun s H C cl fp => sTs ts (hx.blk s H scope cl C fp) ht) (fun s H C cl fp => (sE el (hx.blk s H scope cl C fp) he).1) (noSet_fold hn _)
      rw [ownP_snd] at p
      exact lift p (rl_comp ri_tO rg_tO rts_tO re_tO (subV_ok hv))
    · cases h
  | comp2 own own2 tg it ts tg2 it2 ts2 el =>
    unfold okL at h
    split at h
    · rename_i elt tx iter ifs a tx2 iter2 ifs2 a2 scope pos
      simp only [Bool.and_eq_true, decide_eq_true_eq] at h
      obtain ⟨⟨⟨⟨⟨⟨⟨⟨⟨⟨⟨⟨⟨⟨ha, ha2⟩, hb⟩, hv⟩, hv1⟩, hv2⟩, hn⟩, hn2⟩, hi⟩, hg⟩, ht⟩, hi2⟩, hg2⟩, ht2⟩, he⟩ := h
      subst ha ha2
      have hB : BlkOk X.N X.env.scope scope (ownP c own) := by rw [hx.N, hx.sc]; exact blkOk_by hb
      have p := ps_setLc2 (pos := pos) (elt := elt) (vs1 := own2) (g := tOGt L X.K (fun _ _ _ _ => False) (tgV tg) (wpG L.Γ tg)) (tt := tOTs L X.K (fun _ _ _ _ => False) (wpTs L.Γ ts)) (te := tO L X.K (fun _ _ _ _ => False) (wpE L.Γ el))
        (wi1 := tOI L X.K (fun _ _ _ _ => False) (wpI L.Γ it2)) (g1 := tOGt L X.K (fun _ _ _ _ => False) (tgV tg2) (wpG L.Γ tg2)) (tt1 := tOTs L X.K (fun _ _ _ _ => False) (wpTs L.Γ ts2)) hx.calm (by rw [hx.N]; exact hx.nd) hi' hl hs (sI it hx hi) hB (by rw [ownP_snd]; exact subV_ok hv1)
        (fun s H C cl fp => sG tg (hx.blk s H scope cl C fp) hg) (fun s H C cl fp => sTs ts (hx.blk s H scope cl C fp) ht)
        (fun s H C cl fp => sI it2 (hx.blk s H scope cl C fp) hi2) (fun s H C cl fp => sG tg2 (hx.blk s H scope cl C fp) hg2) (fun s H C cl fp => sTs ts2 (hx.blk s H scope cl C fp) ht2)
        (fun s H C cl fp => (sE el (hx.blk s H scope cl C fp) he).1) (noSet_fold hn _) (fun env => noSet_fold hn2 env)
      rw [ownP_snd] at p
      exact lift p (rl_comp2 ri_tO rg_tO rts_tO ri_tO rg_tO rts_tO re_tO (subV_ok hv) (subV_ok hv2))
    · cases h
  | disp es => unfold okL at h; split at h <;> first | cases h | exact (np rfl hs).elim
  | rep a b => unfold okL at h; split at h <;> first | cases h | exact (np rfl hs).elim
  | cat a b => unfold okL at h; split at h <;> first | cases h | exact (np rfl hs).elim
  | ofSeq a => unfold okL at h; split at h <;> first | cases h | exact (np rfl hs).elim
  | slc a b => unfold okL at h; split at h <;> first | cases h | exact (np rfl hs).elim
  | sorted a => unfold okL at h; split at h <;> first | cases h | exact (np rfl hs).elim
  | stpL a b d e => unfold okL at h; split at h <;> first | cases h | exact (np rfl hs).elim
  | sortSet a => unfold okL at h; split at h <;> first | cases h | exact (np rfl hs).elim
  | sortI a => unfold okL at h; split at h <;> first | cases h | exact (np rfl hs).elim
  | sortK a b => unfold okL at h; split at h <;> first | cases h | exact (np rfl hs).elim
section
variable {L : Lnk}
mutual
theorem sS : ∀ (s : Sm) {c : Ck} {W : WX} {X : Cx} {st : Stmt}, XC c L W X → PoX X → okS s c st = true → PS X st (tOS L X.K W (wpS L.Γ s))
  | .asg t e, c, W, X, st, hx, po, h => by
    unfold okS at h
    split at h
    · rename_i tx ex pos
      rw [Bool.or_eq_true] at h
      rcases h with h | h
      · simp only [Bool.and_eq_true] at h
        obtain ⟨⟨⟨⟨h1, h2⟩, h3⟩, h4⟩, h5⟩ := h
        refine (ps_asg (sE e hx h5).1 (sG t hx h4) ?_ ?_ (by rw [noStar_assign h3]; rfl)).can (rs_asg re_tO rg_tO)
        · show swapsWith ex (some tx) pos.line X.env = pure false
          rw [swaps0, hx.sc]; exact isPure_ok h1
        · rw [stores0, hx.sc]; exact isPure_ok h2
      · split at h
        · rename_i i n p l
          simp only [Bool.and_eq_true, decide_eq_true_eq, lclC] at h
          obtain ⟨⟨⟨h1, h2⟩, h3⟩, h4⟩ := h
          exact (sAsgL l hx h4 (by rw [swaps0, hx.sc]; exact isPure_ok h1) (by rw [hx.N]; exact h2) (by rw [hx.sc]; exact h3)).can (rs_asg (re_frz rl_tO) rg_nm)
        · rename_i i n p l
          simp only [Bool.and_eq_true, decide_eq_true_eq, lclC] at h
          obtain ⟨⟨⟨h1, h2⟩, h3⟩, h4⟩ := h
          exact (sAsgL l hx h4 (by rw [swaps0, hx.sc]; exact isPure_ok h1) (by rw [hx.N]; exact h2) (by rw [hx.sc]; exact h3)).can (rs_asg (re_own rl_tO) rg_nm)
        · cases h
    · cases h
  | .par is es, c, W, X, st, hx, po, h => by
    unfold okS at h
    split at h
    · split at h
      · simp only [Bool.and_eq_true, decide_eq_true_eq, lclC, Bool.not_eq_true'] at h
        obtain ⟨⟨⟨⟨⟨⟨h1, h2⟩, h3⟩, h4⟩, h5⟩, h6⟩, h7⟩ := h
        exact (ps_par hx.calm (by rw [hx.N]; exact hx.nd) (by rw [hx.N]; exact h1) (by rw [hx.N]; exact h2) (Nat.ne_of_beq_eq_false h3) (by rw [hx.sc]; exact h4) (by rw [hx.sc]; exact h5) (sEs es hx h6) (by rw [stores0, hx.sc]; exact isPure_ok h7)).can (rs_par2 ra_tO)
      · cases h
    · split at h
      · simp only [Bool.and_eq_true, decide_eq_true_eq, lclC, Bool.not_eq_true'] at h
        obtain ⟨⟨⟨⟨⟨⟨⟨⟨⟨⟨h1, h2⟩, h3⟩, h4⟩, h5⟩, h6⟩, h7⟩, h8⟩, h9⟩, h10⟩, h11⟩ := h
        exact (ps_par3 hx.calm (by rw [hx.N]; exact hx.nd) (by rw [hx.N]; exact h1) (by rw [hx.N]; exact h2) (by rw [hx.N]; exact h3) (Nat.ne_of_beq_eq_false h4) (Nat.ne_of_beq_eq_false h5) (Nat.ne_of_beq_eq_false h6) (by rw [hx.sc]; exact h7) (by rw [hx.sc]; exact h8) (by rw [hx.sc]; exact h9) (sEs es hx h10) (by rw [stores0, hx.sc]; exact isPure_ok h11)).can (rs_par3 ra_tO)
      · cases h
    · cases h
  | .aug i op e, c, W, X, st, hx, po, h => by
    unfold okS at h
    split at h
    · simp only [Bool.and_eq_true, decide_eq_true_eq, Bool.or_eq_true] at h
      obtain ⟨⟨⟨⟨h1, h2⟩, h3⟩, h4⟩, h5⟩ := h
      subst h3
      obtain ⟨r, ho, hr⟩ := iop_ok (X := X) op (by rcases h4 with (h4 | h4) | h4; exact .inl h4; exact .inr (.inl h4); exact .inr (.inr h4))
      exact (ps_aug (by rw [hx.N]; exact hx.nd) (by rw [hx.N]; exact h1) (locC_ok hx h2) (sE e hx h5).1 ho (hx.st _ h2)).can (rs_aug re_tO hr)
    · cases h
  | .ex e, c, W, X, st, hx, po, h => by
    unfold okS at h
    split at h
    · simp only [Bool.and_eq_true] at h
      exact (ps_expr (sE e hx h.2).1 (by rw [swaps0, hx.sc]; exact isPure_ok h.1)).can (rs_ex re_tO)
    · cases h
  | .ret e, c, W, X, st, hx, po, h => by
    unfold okS at h
    split at h
    · exact (ps_ret (sE e hx h).1).can (rs_ret re_tO)
    · cases h
  | .retF e, c, W, X, st, hx, po, h => by
    unfold okS at h
    split at h
    · exact (ps_ret (sE e hx h).1).can (rs_retF re_tO)
    · cases h
  | .retN, c, W, X, st, hx, po, h => by
    unfold okS at h
    split at h
    · exact ps_retN.can rs_retN
    · cases h
  | .ife e a b, c, W, X, st, hx, po, h => by
    unfold okS at h
    split at h
    · simp only [Bool.and_eq_true] at h
      exact (ps_if (sE e hx h.1.1).2.1 (sB a hx po h.1.2) (sB b hx po h.2)).can (rs_if rt_tO rs_tO rs_tO)
    · cases h
  | .whl e b, c, W, X, st, hx, po, h => by
    unfold okS at h
    split at h
    · simp only [Bool.and_eq_true] at h
      exact (ps_while po.po (sE e hx h.1).2.1 (sB b hx po h.2)).can (rs_whl rt_tO rs_tO)
    · cases h
  | .for tg it b, c, W, X, st, hx, po, h => by
    unfold okS at h
    split at h
    · simp only [Bool.and_eq_true] at h
      obtain ⟨⟨⟨h1, h2⟩, h3⟩, h4⟩ := h
      exact (ps_for po.po hx.calm (sI it hx h2) (sG tg hx h3) (sB b hx po h4) (noSet_fold h1 _)).can (rs_for ri_tO rg_tO rs_tO)
    · cases h
  | .raise k e, c, W, X, st, hx, po, h => ps_never.can rs_never
  | .rse k, c, W, X, st, hx, po, h => by
    unfold okS at h
    split at h
    · simp only [Bool.and_eq_true] at h
      obtain ⟨hg, hd⟩ := gloC_ok hx h.1
      obtain ⟨n, hn, en⟩ := xcC_ok h.2
      have G := hx.xa.g n (List.mem_of_getElem? hn)
      have hmg := hx.xm n (List.mem_of_getElem? hn)
      subst en
      refine (ps_raise hx.calm hx.tk (pmk_own PySem.F.excBase_ValueError G.q hmg G.kp (raises_own G.sb G.ty) hg hd)).can fun σ H ρ S O XX E D A hw kk => ?_
      exact A.x k .non σ ρ S O H _ none A.sok .refl A.env (by rw [hx.xr]; exact ⟨n, hn, rfl, rfl, rfl⟩) hw
    · cases h
  | .tryC b hs, c, W, X, st, hx, po, h => by
    unfold okS at h
    split at h
    · simp only [Bool.and_eq_true] at h
      obtain ⟨l, hl, hw⟩ := hds_ok hs hx h.2
      refine (ps_try_many (tb := fun W' => tOS L X.K W' (wpB L.Γ b)) (Wout := W) po.stk po.frm hx.tk (fun W' pn xe tk po' => sB b (hx.tr tk) ⟨po', po.stk, po.frm⟩ h.1) hl).can fun σ H ρ S O XX E D A hq kk => ?_
      refine ⟨ρ, S, O, _, E, ⟨A.sok, A.env, fun k d σ' ρ' S' O' H' cv dd s' e' n' xr hx' => ?_⟩, hq, kk⟩
      rw [hx.xr] at xr
      obtain ⟨n, hn, rfl, rfl, rfl⟩ := xr
      refine hw W D k n none σ' H' hn (fun cd hl' v rv => ?_) fun hl' => ?_
      · rw [hl'] at hx'
        exact kk.rt v H' cd S' O' (rv _ _ _) s' e' hx'
      · rw [hl'] at hx'
        exact A.x k .non σ' ρ' S' O' H' _ none s' e' n' (by rw [hx.xr]; exact ⟨n, hn, rfl, rfl, rfl⟩) hx'
    · cases h
  | .pass, c, W, X, st, hx, po, h => by
    unfold okS at h
    split at h
    · exact ps_pass.can rs_nx
    · cases h
  | .brk, c, W, X, st, hx, po, h => by
    unfold okS at h
    split at h
    · exact ps_break.can rs_bk
    · cases h
  | .cont, c, W, X, st, hx, po, h => by
    unfold okS at h
    split at h
    · exact ps_continue.can rs_ct
    · cases h
theorem sB : ∀ (b : Bl) {c : Ck} {W : WX} {X : Cx} {st : List Stmt}, XC c L W X → PoX X → okB b c st = true → PSs X st (tOS L X.K W (wpB L.Γ b))
  | .nil, c, W, X, st, hx, po, h => by
    unfold okB at h
    split at h
    · exact pss_nil.can rs_nx
    · cases h
  | .cons s r, c, W, X, st, hx, po, h => by
    unfold okB at h
    split at h
    · simp only [Bool.and_eq_true] at h
      exact (pss_cons (sS s hx po h.1) (sB r hx po h.2)).can (rs_seq (w1 := wpS L.Γ s) (w2 := wpB L.Γ r) rs_tO rs_tO)
    · cases h
end
end
end DL

/-! DL14: defs, their linking, the head's facts. -/
namespace DL
open PySem PySem.Spec PyProof.Rows L2
/-- a def: number, name, parameters, slots, level, the defs and constants that it names, body -/
inductive Pl where
  | fn (x : Str) | me (c : String) | pr (c : String) | ini (c : String)
  deriving DecidableEq
structure Df where
  id : Nat
  name : Str
  ps : List Str
  N : List Str
  lvl : Nat
  fns : List (Nat × Str)
  gls : List (Nat × Str)
  body : Bl
  pl : Pl
  cls : List (String × List Str)
  mts : List (Nat × String × Str)
  prs : List (Nat × String × Str)
  nws : List (Nat × String × Str)
  xc : List String
def Df.qual (d : Df) : Str := match d.pl with
  | .fn _ => d.name
  | .me c => (c : Str) ++ ("." : Str) ++ d.name
  | .pr c => (c : Str) ++ ("." : Str) ++ d.name
  | .ini c => (c : Str) ++ ("." : Str) ++ d.name
def fnScopeC (N ps : List Str) (sc : Scope) : Bool :=
  (match sc.kind with | .function => true | _ => false) && !sc.isCoroutine && !sc.isGenerator && decide N.Nodup && decide (N.take ps.length = ps) && (ps.all fun x => decide (sc.names.lookup x = some .local) || decide (sc.names.lookup x = some .cell)) && (sc.names.all fun y => match y.2 with | .free => false | _ => true)
theorem fnScopeC_ok {N ps : List Str} {sc : Scope} (h : fnScopeC N ps sc = true) : FnScope N ps sc := by
  unfold fnScopeC at h
  simp only [Bool.and_eq_true, decide_eq_true_eq, List.all_eq_true, Bool.or_eq_true, Bool.not_eq_true'] at h
  obtain ⟨⟨⟨⟨⟨⟨h1, h2⟩, h3⟩, h4⟩, h5⟩, h6⟩, h7⟩ := h
  refine ⟨?_, h2, h3, h4, h5, h6, fun y hy e => ?_⟩
  · split at h1
    · assumption
    · cases h1
  · have q := h7 y hy
    rw [e] at q
    cases q
def okD (d : Df) (sc : Scope) (st : List Stmt) : Bool := okB d.body ⟨d.N, sc, none, d.fns, d.gls, d.cls, d.mts, d.prs, d.nws, d.xc⟩ st && fnScopeC d.N d.ps sc
/-- the slots at the start -/
def env1 (d : Df) (ds : List D) : Env := ds.map some ++ List.replicate (d.N.length - d.ps.length) none
/-- less is known of the store -/
def Sub (S2 S1 : Sto) : Prop := ∀ a o, S2 a = some o → S1 a = some o
theorem Sub.refl {S : Sto} : Sub S S := fun _ _ h => h
theorem Sub.trans {S T U : Sto} (a : Sub S T) (b : Sub T U) : Sub S U := fun x o h => b x o (a x o h)
theorem sub_sup {S : Sto} {p : Addr} {o : DO} (h : S p = none) : Sub S (sup S p o) := fun a u e => by
  by_cases q : a = p
  · rw [q, h] at e; cases e
  · rw [sup_ne q]; exact e
def RtQ (Q : QD) : QD := fun d S1 => ∃ S2, Sub S2 S1 ∧ Q d S2
theorem rtq {Q : QD} {d : D} {S : Sto} (h : Q d S) : RtQ Q d S := ⟨S, .refl, h⟩
theorem rtq_sup {Q : QD} {d : D} {S : Sto} {p : Addr} {o : DO} (e : S p = none) (h : Q d S) : RtQ Q d (sup S p o) := ⟨S, sub_sup e, h⟩
theorem rtq_sdel {Q : QD} {d : D} {S : Sto} {p : Addr} (e : S p = none) (h : Q d S) : RtQ Q d (sdel S p) := ⟨S, fun a o q => by
  by_cases z : a = p
  · rw [z, e] at q; cases q
  · rw [sdel_ne z]; exact q, h⟩
/-- a body keeps its promise -/
def SpecOk (Γ : Gam) (d : Df) : Prop := ∀ ds S R Q, Γ.fn d.id ds S R Q → ds.length = d.ps.length ∧ wpB Γ d.body { nx := fun _ S => RtQ Q .non S, rt := RtQ Q } (fun k x _ S => RtQ (R k) x S) (env1 d ds) S
def BindOk (params : Arguments) (ps : List Str) : Prop := ∀ (x qual : Str) (body : List Stmt) (scope : Scope) (kV doc pm : Value) (an : Option Addr) (cdv ct : Value) (us : List Value), us.length = ps.length → bindArgs (PySem.W.fnOf x qual params body scope .none kV doc pm an cdv ct) ⟨us, []⟩ = pure (ps.zip us)
section
variable {L : Lnk} {P : Program} {w : World} {K : PySem.W.Frag} {mg : Str → Option Value} {base : Heap}
/-- where the text has a def -/
def Where (K : PySem.W.Frag) (mg : Str → Option Value) (d : Df) (f : Addr) : Prop := match d.pl with
  | .fn x => mg x = some (.ref f) ∧ PySem.W.keepIn K (.ref f) = true
  | .me c => Meth K (He.ga K c) d.name f
  | .pr c => ∃ p, PropOf K (He.ga K c) d.name p f
  | .ini c => Mk K (He.ga K c) f
def Good (L : Lnk) (P : Program) (w : World) (K : PySem.W.Frag) (mg : Str → Option Value) (base : Heap) (d : Df) : Prop :=
  ∃ (f : Addr) (fd : FuncData), FnOk P w K mg base (L2.CX P w) d.lvl f fd d.ps (spOf L K (L.Γ.fn d.id)) ∧ Where K mg d f ∧ Binds K fd d.ps [] ∧ ∃ oc od osl, K.lookup f = some ⟨oc, od, .func fd, osl⟩
def GlG (L : Lnk) (K : PySem.W.Frag) (mg : Str → Option Value) (k : Nat) (x : Str) : Prop := ∃ (u : Value) (v : V), mg x = some u ∧ RelV v u ∧ ∀ O H, Rp K O H v (L.Γ.gl k)
structure CallsOk (L : Lnk) (P : Program) (w : World) (K : PySem.W.Frag) (mg : Str → Option Value) (base : Heap) (d : Df) (k : Nat) : Prop where
  fns : ∀ p ∈ d.fns, ∃ e : Df, e.id = p.1 ∧ e.pl = .fn p.2 ∧ e.lvl + 2 ≤ k ∧ Good L P w K mg base e
  mts : ∀ p ∈ d.mts, ∃ e : Df, e.id = p.1 ∧ e.name = p.2.2 ∧ e.pl = .me p.2.1 ∧ e.lvl + 2 ≤ k ∧ Good L P w K mg base e
  prs : ∀ p ∈ d.prs, ∃ e : Df, e.id = p.1 ∧ e.name = p.2.2 ∧ e.pl = .pr p.2.1 ∧ e.lvl + 2 ≤ k ∧ Good L P w K mg base e
  nws : ∀ p ∈ d.nws, ∃ e : Df, e.id = p.1 ∧ e.pl = .ini p.2.1 ∧ e.lvl + 2 ≤ k ∧ Good L P w K mg base e
/-- what is known of the classes -/
structure ClsT (L : Lnk) (K : PySem.W.Frag) (mg : Str → Option Value) : Prop where
  ca : ClsA K L.Γ.cls
  cm : ∀ p ∈ L.Γ.cls, mg p.1 = some (.ref (He.ga K p.1))
  xa : XcA K L.Γ.xc
  xm : ∀ n ∈ L.Γ.xc, mg n = some (.ref (He.ga K n))
  xr : L.xr = xrOf K L.Γ.xc
theorem df_ok (hN : base.NoSeer) (hT : P.given.tree = none) {d : Df} {params : Arguments} {st : List Stmt} {sc : Scope} {f : Addr} {fd : FuncData} {k : Nat} (h32 : 32 ≤ k) (hk : d.lvl = k + 1) (F : FunD K d.name d.qual params st sc [] [] f fd) (hC : okD d sc st = true)
    (hc : CallsOk L P w K mg base d k) (hgl : ∀ p ∈ d.gls, GlG L K mg p.1 p.2) (ct : ClsT L K mg) (hcs : ∀ p ∈ d.cls, p ∈ L.Γ.cls) (hxc : d.xc = L.Γ.xc) (hbl : ∀ x ∈ blts, mg x = none) (hS : SpecOk L.Γ d) :
    FnOk P w K mg base (L2.CX P w) d.lvl f fd d.ps (spOf L K (L.Γ.fn d.id)) := by
  unfold okD at hC
  rw [Bool.and_eq_true] at hC
  have S := fnScopeC_ok hC.2
  rw [hk]
  have len : ∀ vs H Q E, spOf L K (L.Γ.fn d.id) vs H Q E → vs.length = d.ps.length := fun vs H Q E ⟨ds, S, O, R, Q', s, r, h, _⟩ => by rw [r.len]; exact (hS ds S R Q' h).1
  refine F.ok S len fun cdv A outer s H vs Q E hr h => ?_
  obtain ⟨ds, St, O, R, Q', sk, r, h, hx, hq⟩ := h
  obtain ⟨hl, hw⟩ := hS ds St R Q' h
  have xc : XC ⟨d.N, sc, none, d.fns, d.gls, d.cls, d.mts, d.prs, d.nws, d.xc⟩ L (fun cls dd _ H => E cls dd H) (cxOf (L2.CX P w) P w K mg base d.N d.qual sc f cdv A outer s H E) :=
    { N := rfl, nd := S.nd, sc := rfl, calm := rfl,
      un := by have := hr.un; show (A.deeper _).units + 70 < cLine; omega
      py := ⟨⟨_, _, rfl, S.gen, S.co, rfl, rfl⟩, hN, hT, by have := hr.dp; show (A.deeper _).depth + 100 < recursionLimit; omega⟩
      tk := takes_of rfl rfl rfl rfl
      st := fun _ _ => .inl rfl
      bl := hbl
      fn := fun p hp => by
        obtain ⟨e, e1, e4, e3, g, gd, F', wh, b, _⟩ := hc.fns p hp
        unfold Where at wh
        rw [e4] at wh
        rw [← e1]
        exact ⟨e.lvl, g, gd, e.ps, F', hr.mono e3, wh.1, wh.2, b⟩
      gl := fun p hp => hgl p hp
      ca := ct.ca
      cs := hcs
      cm := fun p hp => ct.cm p (hcs p hp)
      mt := fun p hp => by
        obtain ⟨e, e1, e2, e4, e3, g, gd, F', wh, b, _⟩ := hc.mts p hp
        unfold Where at wh
        rw [e4] at wh
        rw [← e1, ← e2]
        exact ⟨e.lvl, g, gd, e.ps, F', hr.mono e3, wh, b⟩
      pr := fun p hp => by
        obtain ⟨e, e1, e2, e4, e3, g, gd, F', wh, b, _⟩ := hc.prs p hp
        unfold Where at wh
        rw [e4] at wh
        obtain ⟨pp, wh⟩ := wh
        rw [← e1, ← e2]
        exact ⟨e.lvl, pp, g, gd, e.ps, F', hr.mono e3, wh, b⟩
      nw := fun p hp => by
        obtain ⟨e, e1, e4, e3, g, gd, F', wh, b, _⟩ := hc.nws p hp
        unfold Where at wh
        rw [e4] at wh
        rw [← e1]
        exact ⟨e.lvl, g, gd, e.ps, F', hr.mono e3, wh, b⟩
      xa := by show XcA K d.xc; rw [hxc]; exact ct.xa
      xm := fun n hn => by
        have hn : n ∈ d.xc := hn
        rw [hxc] at hn
        exact ct.xm n hn
      xr := by show L.xr = xrOf K d.xc; rw [hxc]; exact ct.xr }
  refine ⟨_, sB d.body xc ⟨passes_of rfl, rfl, rfl⟩ hC.1, ?_⟩
  have hv : vs.length = d.ps.length := by rw [r.len]; exact hl
  have less : ∀ {S1 S2 : Sto} {O' : Ow} {H' : Hp}, Sub S2 S1 → Sok K S1 O' H' → Ev St O H S1 O' H' → Sok K S2 O' H' ∧ Ev St O H S2 O' H' := fun {S1 S2 O' H'} sb s' e' => ⟨s'.less sb, ⟨e'.keep, e'.own, fun a h n => ⟨(e'.res a h n).1, by
    cases q : S2 a with
    | none => rfl
    | some o => have := sb a o q; rw [(e'.res a h n).2] at this; cases this⟩, e'.there⟩⟩
  refine ⟨env1 d ds, St, O, fun k x _ S => RtQ (R k) x S, _, ⟨sk, ?_, fun k' x σ' ρ' S' O' H' c dd s' e' _ xr ⟨S2, sb, q⟩ => hx k' x S2 O' H' c dd (less sb s' e').1 (less sb s' e').2 xr q⟩, hw, ⟨fun σ' H' ρ' S' O' s' e' _ ⟨S2, sb, q⟩ => hq _ H' _ S2 O' .non (less sb s' e').1 (less sb s' e').2 q, fun v H' dv S' O' rv s' e' ⟨S2, sb, q⟩ => hq v H' dv S2 O' rv (less sb s' e').1 (less sb s' e').2 q, fun _ _ _ _ _ _ _ _ q => q.elim, fun _ _ _ _ _ _ _ _ q => q.elim⟩⟩
  show REnv K O H (env1 d ds) (L2.start d.N vs)
  unfold L2.start env1
  rw [hv]
  exact REnv.start _ r
/-- what is told of a def of the text -/
def Told (K : PySem.W.Frag) (mg : Str → Option Value) (d : Df) (st : Stmt) : Prop := ∃ (f : Addr) (fd : FuncData), FunD K d.name d.qual (defArgs st) (defBody st) (defScope st) [] [] f fd ∧ Where K mg d f
def callC (done : List Df) (d : Df) (k : Nat) (x : Option Str) (pl : Pl) : Bool := done.any fun e => Nat.beq e.id k && (match x with | some x => decide (e.name = x) | none => true) && decide (e.pl = pl) && Nat.blt (e.lvl + 2) d.lvl
def calls (done : List Df) (d : Df) : Bool := Nat.ble 33 d.lvl && (d.fns.all fun p => callC done d p.1 none (.fn p.2)) && (d.mts.all fun p => callC done d p.1 (some p.2.2) (.me p.2.1)) && (d.prs.all fun p => callC done d p.1 (some p.2.2) (.pr p.2.1)) && d.nws.all fun p => callC done d p.1 none (.ini p.2.1)
def callsAll : List Df → List Df → Bool
  | _, [] => true
  | done, d :: r => calls done d && callsAll (d :: done) r
theorem callC_ok {done : List Df} {d : Df} {k : Nat} {x : Option Str} {pl : Pl} (hd : ∀ e ∈ done, Good L P w K mg base e) (h : callC done d k x pl = true) : ∃ e : Df, e.id = k ∧ (∀ y, x = some y → e.name = y) ∧ e.pl = pl ∧ e.lvl + 2 ≤ d.lvl - 1 ∧ Good L P w K mg base e := by
  obtain ⟨e, he, q⟩ := List.any_eq_true.mp h
  simp only [Bool.and_eq_true, decide_eq_true_eq] at q
  have q3 : e.lvl + 2 < d.lvl := Nat.le_of_ble_eq_true q.2
  exact ⟨e, Nat.eq_of_beq_eq_true q.1.1.1, fun y hy => by have h := q.1.1.2; rw [hy] at h; exact of_decide_eq_true h, q.1.2, by omega, hd e he⟩
theorem link_all (hN : base.NoSeer) (hT0 : P.given.tree = none) (hbl : ∀ x ∈ blts, mg x = none) (ct : ClsT L K mg) : ∀ (tab : List (Df × Stmt)) (done : List Df), (∀ e ∈ done, Good L P w K mg base e) → callsAll done (tab.map (·.1)) = true → (∀ p ∈ tab, Told K mg p.1 p.2) → (∀ p ∈ tab, okD p.1 (defScope p.2) (defBody p.2) = true) → (∀ p ∈ tab, BindOk (defArgs p.2) p.1.ps) →
    (∀ p ∈ tab, SpecOk L.Γ p.1) → (∀ p ∈ tab, ∀ g ∈ p.1.gls, GlG L K mg g.1 g.2) → (∀ p ∈ tab, ∀ q ∈ p.1.cls, q ∈ L.Γ.cls) → (∀ p ∈ tab, p.1.xc = L.Γ.xc) → ∀ p ∈ tab, Good L P w K mg base p.1
  | [], _, _, _, _, _, _, _, _, _, _ => fun _ h => nomatch h
  | (d, st) :: r, done, hd, hc, hT, hO, hB, hS, hG, hCs, hX => by
    have hc' : (calls done d && callsAll (d :: done) (r.map (·.1))) = true := hc
    rw [Bool.and_eq_true] at hc'
    have hcd := hc'.1
    unfold calls at hcd
    simp only [Bool.and_eq_true] at hcd
    obtain ⟨⟨⟨⟨c1, c2⟩, c3⟩, c4⟩, c5⟩ := hcd
    have l1 : 33 ≤ d.lvl := Nat.le_of_ble_eq_true c1
    have good : Good L P w K mg base d := by
      obtain ⟨f, fd, F, m⟩ := hT (d, st) List.mem_cons_self
      have bd : Binds K fd d.ps [] := F.bindsN fun kV doc pm an cdv ct us hl => hB (d, st) List.mem_cons_self _ _ _ _ kV doc pm an cdv ct us hl
      refine ⟨f, fd, df_ok hN hT0 (k := d.lvl - 1) (by omega) (by omega) F (hO (d, st) List.mem_cons_self) ⟨fun p hp => by
          obtain ⟨e, h1, _, h2, h3, h4⟩ := callC_ok hd (List.all_eq_true.mp c2 p hp)
          exact ⟨e, h1, h2, h3, h4⟩, fun p hp => by
          obtain ⟨e, h1, h0, h2, h3, h4⟩ := callC_ok hd (List.all_eq_true.mp c3 p hp)
          exact ⟨e, h1, h0 _ rfl, h2, h3, h4⟩, fun p hp => by
          obtain ⟨e, h1, h0, h2, h3, h4⟩ := callC_ok hd (List.all_eq_true.mp c4 p hp)
          exact ⟨e, h1, h0 _ rfl, h2, h3, h4⟩, fun p hp => ?_⟩ (hG (d, st) List.mem_cons_self) ct (hCs (d, st) List.mem_cons_self) (hX (d, st) List.mem_cons_self) hbl (hS (d, st) List.mem_cons_self), m, bd, by obtain ⟨oc, od, dV, kV, doc, pm, an, cdv, ct, osl, _, lk, _⟩ := F.ex; exact ⟨oc, od, osl, lk⟩⟩
      obtain ⟨e, h1, _, h2, h3, h4⟩ := callC_ok hd (List.all_eq_true.mp c5 p hp)
      exact ⟨e, h1, h2, h3, h4⟩
    have ih := link_all hN hT0 hbl ct r (d :: done) (fun e he => by
      rcases List.mem_cons.mp he with z | z
      · rw [z]; exact good
      · exact hd e z) hc'.2 (fun p hp => hT p (List.mem_cons_of_mem _ hp)) (fun p hp => hO p (List.mem_cons_of_mem _ hp)) (fun p hp => hB p (List.mem_cons_of_mem _ hp)) (fun p hp => hS p (List.mem_cons_of_mem _ hp)) (fun p hp => hG p (List.mem_cons_of_mem _ hp)) (fun p hp => hCs p (List.mem_cons_of_mem _ hp)) (fun p hp => hX p (List.mem_cons_of_mem _ hp))
    intro p hp
    rcases List.mem_cons.mp hp with z | z
    · rw [z]; exact good
    · exact ih p z
end

/-! ### module constants -/
mutual
def datB (K : PySem.W.Frag) : D → Value → Bool
  | .non, u => (match u with | .none => true | _ => false)
  | .bl b, u => (match u with | .bool c => decide (b = c) | _ => false)
  | .int i, u => (match u with | .int j _ => decide (i = j) | _ => false)
  | .str x, u => (match u with | .str y _ => decide (x = y) | _ => false)
  | .tup ds, u => (match u with
    | .ref a => (match K.lookup a with
      | some ⟨.type c, _, .seq its _, _⟩ => decide (c = "tuple") && decide (its.size ≤ sizeLine) && datBs K ds its.toList
      | _ => false)
    | _ => false)
  | _, _ => false
def datBs (K : PySem.W.Frag) : List D → List Value → Bool
  | [], us => (match us with | [] => true | _ => false)
  | d :: ds, us => (match us with | u :: us => datB K d u && datBs K ds us | _ => false)
end
mutual
theorem datB_ok {K : PySem.W.Frag} : ∀ (d : D) {u : Value}, datB K d u = true → ∃ v, RelV v u ∧ ∀ O H, Rp K O H v d
  | .non, u, h => by
    unfold datB at h
    split at h
    · exact ⟨.non, rfl, fun _ _ => .non⟩
    · cases h
  | .bl b, u, h => by
    unfold datB at h
    split at h
    · have e := of_decide_eq_true h; subst e; exact ⟨.bl b, rfl, fun _ _ => .bl b⟩
    · cases h
  | .int b, u, h => by
    unfold datB at h
    split at h
    · have e := of_decide_eq_true h; subst e; exact ⟨.int b, ⟨_, rfl⟩, fun _ _ => .int b⟩
    · cases h
  | .str b, u, h => by
    unfold datB at h
    split at h
    · have e := of_decide_eq_true h; subst e; exact ⟨.str b, ⟨_, rfl⟩, fun _ _ => .str b⟩
    · cases h
  | .tup ds, u, h => by
    unfold datB at h
    split at h
    · rename_i a
      split at h
      · rename_i c dd its n sl q
        simp only [Bool.and_eq_true, decide_eq_true_eq] at h
        obtain ⟨⟨h1, h2⟩, h3⟩ := h
        subst h1
        obtain ⟨vs, r, rp⟩ := datBs_ok ds h3
        refine ⟨.ref a, rfl, fun O H => .tup (.inr ⟨_, its, n, q, rfl, rfl, h2, r⟩) ?_ (rp O H)⟩
        have := r.length
        rw [this]; simpa using h2
      · cases h
    · cases h
  | .lst _, _, h => by simp [datB] at h
  | .ref _, _, h => by simp [datB] at h
  | .ty _, _, h => by simp [datB] at h
  | .scr _, _, h => by simp [datB] at h
theorem datBs_ok {K : PySem.W.Frag} : ∀ (ds : List D) {us : List Value}, datBs K ds us = true → ∃ vs, Vals vs us ∧ ∀ O H, Rps K O H vs ds
  | [], us, h => by
    unfold datBs at h
    split at h
    · exact ⟨[], .nil, fun _ _ => .nil⟩
    · cases h
  | d :: ds, us, h => by
    unfold datBs at h
    split at h
    · rw [Bool.and_eq_true] at h
      obtain ⟨v, r, rp⟩ := datB_ok d h.1
      obtain ⟨vs, rs, rps⟩ := datBs_ok ds h.2
      exact ⟨v :: vs, .cons r rs, fun O H => .cons (rp O H) (rps O H)⟩
    · cases h
end
/-! ### the head's facts -/
def glB (K : PySem.W.Frag) (g : Str × D) : Bool := match PySem.W.nsIn K mainGlobals g.1 with
  | some (some u) => datB K g.2 u
  | _ => false
/-- a property's getter -/
def gtA (K : PySem.W.Frag) (p : Addr) : Addr := match PySem.W.recIn K p "property" with
  | some (.ref g :: _) => g
  | _ => 0
def adOf (K : PySem.W.Frag) (d : Df) : Addr := match d.pl with
  | .fn x => He.ga K x
  | .me c => He.ma K (He.ga K c) d.name
  | .ini c => He.ma K (He.ga K c) d.name
  | .pr c => gtA K (He.ma K (He.ga K c) d.name)
def seeD (K : PySem.W.Frag) (d : Df) : He.FnW := match K.lookup (adOf K d) with
  | some ⟨_, _, .func fd, _⟩ => some (fd.name, fd.qualname, fd.params, fd.body, fd.scope, fd.globals, fd.closure, fd.builtins)
  | _ => none
def valOf (p : Df × Stmt) : He.FnW := some (p.1.name, p.1.qual, defArgs p.2, .stmts (defBody p.2), defScope p.2, mainGlobals, [], builtinsNs)
def isD (K : PySem.W.Frag) (d : Df) : Bool := PySem.W.keepIn K (.ref (adOf K d)) && (match K.lookup (adOf K d) with
  | some ⟨_, _, .func fd, _⟩ => PySem.W.codeIn K fd.code d.qual && (He.dflB K fd.defaults [] && He.kwdB K fd.kwdefaults [])
  | _ => false)
def plB (K : PySem.W.Frag) (d : Df) : Bool := match d.pl with
  | .fn x => (He.Fa.glo x).ok K
  | .me c => (He.Fa.meth c d.name).ok K
  | .ini c => (He.Fa.mkr c).ok K && decide (d.name = ("__init__" : Str))
  | .pr c => He.eqO (PySem.W.findIn K (.ref (He.ga K c)) d.name) (some (some (.ref (He.ma K (He.ga K c) d.name)))) && (He.eqO (PySem.W.specialIn K (.ref (He.ma K (He.ga K c) d.name)) "__get__") (some (some (.builtin "property.__get__"))) &&
    (decide (PySem.W.takesIn K (.ref (He.ma K (He.ga K c) d.name)) = some true) && (match PySem.W.recIn K (He.ma K (He.ga K c) d.name) "property" with
      | some (.ref g :: _) => decide (g = adOf K d)
      | _ => false)))
theorem see_ok {K : PySem.W.Frag} {p : Df × Stmt} (e : seeD K p.1 = valOf p) (c : isD K p.1 = true) : ∃ fd, FunD K p.1.name p.1.qual (defArgs p.2) (defBody p.2) (defScope p.2) [] [] (adOf K p.1) fd := by
  obtain ⟨kp, c2⟩ := He.ba c
  unfold seeD at e
  cases q : K.lookup (adOf K p.1) with
  | none => rw [q] at c2; cases c2
  | some o =>
    obtain ⟨oc, od, dt, osl⟩ := o
    rw [q] at c2 e
    cases dt with
    | func fd =>
      obtain ⟨n1, n2, n3, n4, n5, n6, n7, n8, n9, n10, n11, n12, n13, n14, n15⟩ := fd
      have e2 : (some (n1, n2, n3, n4, n5, n6, n7, n15) : He.FnW) = valOf p := e
      unfold valOf at e2
      simp only [Option.some.injEq, Prod.mk.injEq] at e2
      obtain ⟨h1, h2, h3, h4, h5, h6, h7, h8⟩ := e2
      subst h1 h2 h3 h4 h5 h6 h7 h8
      obtain ⟨k1, k2⟩ := He.ba (show (PySem.W.codeIn K n13 p.1.qual && (He.dflB K n8 [] && He.kwdB K n9 [])) = true from c2)
      obtain ⟨k3, k4⟩ := He.ba k2
      exact ⟨_, ⟨oc, od, n8, n9, n10, n11, n12, n13, n14, osl, rfl, q, k1, He.dflB_ok k3, He.kwdB_ok k4⟩, kp⟩
    | _ => cases c2
theorem pl_ok {K : PySem.W.Frag} {h : Heap} {mg : Str → Option Value} (X : K.In h) (G : h.Ns mainGlobals mg) {d : Df} (c : plB K d = true) (kp : PySem.W.keepIn K (.ref (adOf K d)) = true) : Where K mg d (adOf K d) := by
  unfold plB at c
  unfold Where
  unfold adOf at kp ⊢
  cases e : d.pl with
  | fn x => simp only [e] at c kp ⊢; exact ⟨He.glo_ok X G c, kp⟩
  | me cl => simp only [e] at c ⊢; exact He.meth_ok c
  | ini cl =>
    simp only [e] at c ⊢
    obtain ⟨c1, c2⟩ := He.ba c
    rw [of_decide_eq_true c2]
    exact He.mkr_ok c1
  | pr cl =>
    simp only [e] at c ⊢
    obtain ⟨c1, c⟩ := He.ba c
    obtain ⟨c2, c⟩ := He.ba c
    obtain ⟨c3, c4⟩ := He.ba c
    refine ⟨_, He.eqO_ok c1, He.eqO_ok c2, of_decide_eq_true c3, ?_⟩
    split at c4
    · rename_i g r q
      have e2 := of_decide_eq_true c4
      have e3 : adOf K d = gtA K (He.ma K (He.ga K cl) d.name) := by unfold adOf; rw [e]
      rw [e3] at e2
      rw [← e2]
      exact ⟨r, q⟩
    · cases c4
/-! ### the facts of classes -/
def slB (K : PySem.W.Frag) (C : Addr) : Nat → List Str → Bool
  | _, [] => true
  | i, f :: r => (if f = neS then He.eqO (PySem.W.findIn K (.ref C) "__ne__") (some (some (.builtin "object.__ne__"))) else
    He.eqO (PySem.W.findIn K (.ref C) f) (some (some (.ref (He.ma K C f)))) && (He.eqO (PySem.W.specialIn K (.ref (He.ma K C f)) "__get__") (some (some (.builtin "member_descriptor.__get__"))) && (decide (PySem.W.takesIn K (.ref (He.ma K C f)) = some true) &&
    (decide (PySem.W.typeIn K (.ref (He.ma K C f)) = some (.type "member_descriptor")) && (decide (PySem.W.slotIn K (He.ma K C f) C = some i) && Nat.blt i 1000))))) && slB K C (i + 1) r
theorem slB_ok {K : PySem.W.Frag} {C : Addr} : ∀ {n : Nat} {l : List Str}, slB K C n l = true → (∀ (i : Nat) (f : Str), l[i]? = some f → f ≠ neS → ∃ p, SlX.Slot1 K C f p (n + i)) ∧ (neS ∈ l → PySem.W.findIn K (.ref C) "__ne__" = some (some (.builtin "object.__ne__")))
  | n, [], _ => ⟨fun i f e => by simp at e, fun h => nomatch h⟩
  | n, g :: r, h => by
    unfold slB at h
    obtain ⟨h, h7⟩ := He.ba h
    obtain ⟨q1, q2⟩ := slB_ok h7
    by_cases e0 : g = neS
    · rw [if_pos e0] at h
      refine ⟨fun i f e hn => ?_, fun _ => He.eqO_ok h⟩
      cases i with
      | zero => cases e; exact absurd e0 hn
      | succ i =>
        obtain ⟨p, q⟩ := q1 i f e hn
        exact ⟨p, by rw [show n + (i + 1) = n + 1 + i by omega]; exact q⟩
    · rw [if_neg e0] at h
      obtain ⟨h1, h⟩ := He.ba h
      obtain ⟨h2, h⟩ := He.ba h
      obtain ⟨h3, h⟩ := He.ba h
      obtain ⟨h4, h⟩ := He.ba h
      obtain ⟨h5, h6⟩ := He.ba h
      refine ⟨fun i f e hn => ?_, fun m => ?_⟩
      · cases i with
        | zero => cases e; exact ⟨_, He.eqO_ok h1, He.eqO_ok h2, of_decide_eq_true h3, of_decide_eq_true h4, of_decide_eq_true h5, Nat.le_of_ble_eq_true h6⟩
        | succ i =>
          obtain ⟨p, q⟩ := q1 i f e hn
          exact ⟨p, by rw [show n + (i + 1) = n + 1 + i by omega]; exact q⟩
      · rcases List.mem_cons.mp m with z | z
        · exact absurd z.symm e0
        · exact q2 z
def cl1B (K : PySem.W.Frag) (p : String × List Str) : Bool := (He.Fa.glo p.1).ok K && (PySem.W.plainGet K (He.ga K p.1) Str.empty && (PySem.W.isClsIn K (He.ga K p.1) && (PySem.W.plainOver K (He.ga K p.1) &&
  (He.eqO (PySem.W.findIn K (.ref (He.ga K p.1)) "__setattr__") (some (some (.builtin "object.__setattr__"))) && (He.eqO (PySem.W.findIn K (.ref (He.ga K p.1)) "__class__") (some (some (.builtin "object.__class__"))) &&
  (He.eqO (PySem.W.specialIn K (.builtin "object.__class__") "__get__") (some (some (.builtin "getset_descriptor.__get__"))) && (decide (PySem.W.takesIn K (.builtin "object.__class__") = some true) && (decide (PySem.W.mroIn K (He.ga K p.1) (.type "object") = some true) && slB K (He.ga K p.1) 0 p.2))))))))
def clsB (K : PySem.W.Frag) (cls : List (String × List Str)) : Bool := (cls.all (cl1B K)) && ((cls.all fun p => cls.all fun r => decide (PySem.W.kitOne K (.ref (He.ga K p.1)) (.ref (He.ga K r.1)) = some (p.1 == r.1))) && (tys7.all fun t => cls.all fun r => decide (PySem.W.kitOne K (.type t) (.ref (He.ga K r.1)) = some false)))
theorem cls_ok {K : PySem.W.Frag} {h : Heap} {mg : Str → Option Value} (X : K.In h) (G : h.Ns mainGlobals mg) {cls : List (String × List Str)} (c : clsB K cls = true) : ClsA K cls ∧ ∀ p ∈ cls, mg p.1 = some (.ref (He.ga K p.1)) := by
  obtain ⟨c1, c⟩ := He.ba c
  obtain ⟨c2, c3⟩ := He.ba c
  refine ⟨⟨fun p hp => ?_, fun p hp r hr => of_decide_eq_true (List.all_eq_true.mp (List.all_eq_true.mp c2 p hp) r hr), fun t ht r hr => of_decide_eq_true (List.all_eq_true.mp (List.all_eq_true.mp c3 t ht) r hr)⟩, fun p hp => ?_⟩
  · have q := List.all_eq_true.mp c1 p hp
    unfold cl1B at q
    obtain ⟨_, q⟩ := He.ba q
    obtain ⟨q1, q⟩ := He.ba q
    obtain ⟨q2, q⟩ := He.ba q
    obtain ⟨q3, q⟩ := He.ba q
    obtain ⟨q4, q⟩ := He.ba q
    obtain ⟨q5, q⟩ := He.ba q
    obtain ⟨q6, q⟩ := He.ba q
    obtain ⟨q7, q⟩ := He.ba q
    obtain ⟨q8, q9⟩ := He.ba q
    refine ⟨⟨q1, q2, q3, He.eqO_ok q4⟩, ⟨He.eqO_ok q5, He.eqO_ok q6, of_decide_eq_true q7, of_decide_eq_true q8⟩, (slB_ok q9).2, fun i f e hn => ?_, ?_⟩
    · have := (slB_ok q9).1 i f e hn
      rwa [Nat.zero_add] at this
    · unfold PySem.W.notFirst; simp
  · have q := List.all_eq_true.mp c1 p hp
    unfold cl1B at q
    exact He.glo_ok X G (He.ba q).1
/-! ### the facts of errors' classes -/
def xc1B (K : PySem.W.Frag) (n : String) : Bool := (He.Fa.glo n).ok K && (PySem.W.excIn K (He.ga K n) [.type "ValueError", .type "Exception", .type "BaseException", .type "object"] "ValueError.__new__" && (PySem.W.keepIn K (.ref (He.ga K n)) && (decide (PySem.W.subIn K (.ref (He.ga K n)) (.type "BaseException") = some true) && decide (PySem.W.typeIn K (.ref (He.ga K n)) = some (.type "type")))))
def xcB (K : PySem.W.Frag) (xc : List String) : Bool := xc.all (xc1B K) && ((List.range xc.length).all fun i => (List.range xc.length).all fun j => decide (PySem.W.exmOne K (.ref (He.ga K (xc.getD i ""))) (.ref (He.ga K (xc.getD j ""))) = some (decide (i = j))))
theorem xc_ok {K : PySem.W.Frag} {h : Heap} {mg : Str → Option Value} (X : K.In h) (G : h.Ns mainGlobals mg) {xc : List String} (c : xcB K xc = true) : XcA K xc ∧ ∀ n ∈ xc, mg n = some (.ref (He.ga K n)) := by
  obtain ⟨c1, c2⟩ := He.ba c
  refine ⟨⟨fun n hn => ?_, fun i j n m hi hj => ?_⟩, fun n hn => ?_⟩
  · have q := List.all_eq_true.mp c1 n hn
    unfold xc1B at q
    obtain ⟨_, q⟩ := He.ba q
    obtain ⟨q1, q⟩ := He.ba q
    obtain ⟨q2, q⟩ := He.ba q
    obtain ⟨q3, q4⟩ := He.ba q
    exact ⟨q1, q2, of_decide_eq_true q3, of_decide_eq_true q4⟩
  · have li : i < xc.length := (List.getElem?_eq_some_iff.mp hi).1
    have lj : j < xc.length := (List.getElem?_eq_some_iff.mp hj).1
    have q := List.all_eq_true.mp (List.all_eq_true.mp c2 i (List.mem_range.mpr li)) j (List.mem_range.mpr lj)
    have e1 : xc.getD i "" = n := by rw [List.getD_eq_getElem?_getD, hi]; rfl
    have e2 : xc.getD j "" = m := by rw [List.getD_eq_getElem?_getD, hj]; rfl
    rw [e1, e2] at q
    exact of_decide_eq_true q
  · have q := List.all_eq_true.mp c1 n hn
    unfold xc1B at q
    exact He.glo_ok X G (He.ba q).1
/-! ### the seer -/
def seerB (K : PySem.W.Frag) : Bool := (K.lookup cStatics).isSome && ((K.lookup sysModules).isSome && ((K.lookup builtinsNs).isSome && ((K.lookup mainGlobals).isSome && (match PySem.W.nsIn K mainGlobals "__builtins__" with
  | some (some (.ref b)) => (K.lookup b).isSome
  | _ => false))))
theorem in_at {K : PySem.W.Frag} {h b : Heap} {a : Addr} {o : Obj} (X : K.In h) (Y : K.In b) (s : (K.lookup a).isSome = true) (e : h.get? a = some o) : b.get? a = some o := by
  cases q : K.lookup a with
  | none => rw [q] at s; cases s
  | some u =>
    have := (X a u q).symm.trans e
    rw [← this]
    exact Y a u q
theorem seer_ok {K : PySem.W.Frag} {h : Heap} (X : K.In h) (N : h.NoSeer) (c : seerB K = true) (b : Heap) (Y : K.In b) : b.NoSeer := by
  obtain ⟨c1, c⟩ := He.ba c
  obtain ⟨c2, c⟩ := He.ba c
  obtain ⟨c3, c⟩ := He.ba c
  obtain ⟨c4, c5⟩ := He.ba c
  obtain ⟨mc, ⟨o1, es1, ep1, h1, r1⟩, z1⟩ := N.statics
  obtain ⟨mm, ⟨o2, es2, ep2, h2, r2⟩, z2⟩ := N.mods
  obtain ⟨mb, ⟨o3, es3, ep3, h3, r3⟩, z3⟩ := N.imp
  obtain ⟨mg, bm, ob, ⟨o4, es4, ep4, h4, r4⟩, g1, g2, g3⟩ := N.main
  have G : h.Ns mainGlobals mg := ⟨o4, es4, ep4, h4, r4⟩
  refine ⟨⟨mc, ⟨o1, es1, ep1, in_at X Y c1 h1, r1⟩, z1⟩, ⟨mm, ⟨o2, es2, ep2, in_at X Y c2 h2, r2⟩, z2⟩, ⟨mb, ⟨o3, es3, ep3, in_at X Y c3 h3, r3⟩, z3⟩, ⟨mg, bm, ob, ⟨o4, es4, ep4, in_at X Y c4 h4, r4⟩, g1, in_at X Y ?_ g2, g3⟩⟩
  split at c5
  · rename_i b' e
    have := PySem.W.mg_of X G e
    rw [g1] at this
    have e2 := Value.ref.inj (Option.some.inj this)
    rw [e2]
    exact c5
  · cases c5
/-! ### the part of the heap that is looked at -/
def nxt (o : Obj) : List Addr := match o.data with
  | .func fd => He.refV fd.code ++ He.refV fd.defaults
  | .cls cd => cd.ns :: cd.mro.flatMap He.refV
  | .seq its _ => its.toList.flatMap He.refV
  | .dict es _ => es.toList.flatMap fun e => He.refV e.val
  | .fields vs => if o.cls == .type "property" then vs.toList.flatMap He.refV else []
  | _ => []
def reach (g : Addr → Option Obj) : Nat → Addr → List Addr
  | 0, a => [a]
  | n + 1, a => a :: (match g a with
    | some o => ((nxt o).filter fun b => !(Nat.beq b a)).flatMap (reach g n)
    | none => [])
def partG (n : Nat) (g : Addr → Option Obj) : PySem.W.Frag := He.frG g (cStatics :: sysModules :: builtinsNs :: reach g n mainGlobals)
abbrev AlQ : Type := Bool × List He.FnW
def obsQ (cls : List (String × List Str)) (xc : List String) (tab : List (Df × Stmt)) (gs : List (Str × D)) (K : PySem.W.Frag) : AlQ :=
  (seerB K && ((blts.all fun x => (He.Fa.free x).ok K) && (clsB K cls && (xcB K xc && ((tab.all fun p => isD K p.1 && plB K p.1) && gs.all (glB K))))), tab.map fun p => seeD K p.1)
def valQ (tab : List (Df × Stmt)) : AlQ := (true, tab.map valOf)
def SaysQ (cls : List (String × List Str)) (xc : List String) (tab : List (Df × Stmt)) (gs : List (Str × D)) (K : PySem.W.Frag) : Prop := obsQ cls xc tab gs K = valQ tab
def obsQG (n : Nat) (cls : List (String × List Str)) (xc : List String) (tab : List (Df × Stmt)) (gs : List (Str × D)) (g : Addr → Option Obj) : AlQ := obsQ cls xc tab gs (partG n g)
def hookQ (n : Nat) (cls : List (String × List Str)) (xc : List String) (tab : List (Df × Stmt)) (gs : List (Str × D)) : PySem.W.Hook where
  α := AlQ
  obs := fun s => obsQG n cls xc tab gs s.heap.get?
  val := fun _ => valQ tab
  says := fun _ h => ∃ K : PySem.W.Frag, K.In h ∧ SaysQ cls xc tab gs K
  of := fun _ _ e => ⟨_, He.frG_in, e⟩
  keeps := fun _ _ _ ⟨K, hK, c⟩ k => ⟨K, PySem.W.Frag.In.keeps hK k, c⟩
theorem obsQG_eq {n : Nat} {cls : List (String × List Str)} {xc : List String} {tab : List (Df × Stmt)} {gs : List (Str × D)} {g : Addr → Option Obj} {s : Shared} (h : ∀ a, g a = s.heap.get? a) : obsQG n cls xc tab gs g = (hookQ n cls xc tab gs).obs s := by
  have e : g = s.heap.get? := funext h
  rw [e] <;> rfl
section
variable {K : PySem.W.Frag} {mg : Str → Option Value} {h : Heap} {cls : List (String × List Str)} {xc : List String} {tab : List (Df × Stmt)} {gs : List (Str × D)}
theorem says_ok (X : K.In h) (G : h.Ns mainGlobals mg) (c : SaysQ cls xc tab gs K) : (∀ p ∈ tab, Told K mg p.1 p.2) ∧ (∀ x ∈ blts, mg x = none) ∧ (∀ g ∈ gs, ∃ (u : Value) (v : V), mg g.1 = some u ∧ RelV v u ∧ ∀ O H, Rp K O H v g.2) ∧ (ClsA K cls ∧ ∀ p ∈ cls, mg p.1 = some (.ref (He.ga K p.1))) ∧ (XcA K xc ∧ ∀ n ∈ xc, mg n = some (.ref (He.ga K n))) ∧ seerB K = true := by
  obtain ⟨c1, c2⟩ := Prod.mk.inj (show (_, _) = (_, _) from c)
  obtain ⟨s1, c1⟩ := He.ba c1
  obtain ⟨s2, c1⟩ := He.ba c1
  obtain ⟨s3, c1⟩ := He.ba c1
  obtain ⟨s6, c1⟩ := He.ba c1
  obtain ⟨s4, s5⟩ := He.ba c1
  refine ⟨fun p hp => ?_, fun x hx => He.free_ok X G (List.all_eq_true.mp s2 x hx), fun g hg => ?_, cls_ok X G s3, xc_ok X G s6, s1⟩
  · obtain ⟨q1, q2⟩ := He.ba (List.all_eq_true.mp s4 p hp)
    obtain ⟨i, e⟩ := List.mem_iff_getElem?.mp hp
    have e2 : (tab.map fun p => seeD K p.1)[i]? = (tab.map valOf)[i]? := by rw [c2]
    rw [List.getElem?_map, List.getElem?_map, e] at e2
    obtain ⟨fd, F⟩ := see_ok (Option.some.inj e2) q1
    exact ⟨_, fd, F, pl_ok X G q2 (He.ba q1).1⟩
  · have q := List.all_eq_true.mp s5 g hg
    unfold glB at q
    split at q
    · rename_i u e
      obtain ⟨v, r, rp⟩ := datB_ok g.2 q
      exact ⟨u, v, PySem.W.mg_of X G e, r, rp⟩
    · cases q
theorem obsQ_app {t1 t2 : List (Df × Stmt)} {g1 : List (Str × D)} (a : obsQ cls xc t1 g1 K = valQ t1) (b : obsQ [] [] t2 [] K = valQ t2) : obsQ cls xc (t1 ++ t2) g1 K = valQ (t1 ++ t2) := by
  obtain ⟨a1, a2⟩ := Prod.mk.inj (show (_, _) = (_, _) from a)
  obtain ⟨b1, b2⟩ := Prod.mk.inj (show (_, _) = (_, _) from b)
  simp only [Bool.and_eq_true] at a1 b1
  unfold obsQ valQ
  refine Prod.ext ?_ ?_
  · simp only [Bool.and_eq_true, List.all_append]
    exact ⟨a1.1, a1.2.1, a1.2.2.1, a1.2.2.2.1, ⟨a1.2.2.2.2.1, b1.2.2.2.2.1⟩, a1.2.2.2.2.2⟩
  · show List.map _ _ = List.map _ _
    rw [List.map_append, List.map_append, a2, b2]
theorem map_obsQ {o : Option PySem.W.SharedT} {n : Nat} {t1 t2 : List (Df × Stmt)} {g1 : List (Str × D)} (a : o.map (fun s => obsQG n cls xc t1 g1 (HandSHeadRun.getT s)) = some (valQ t1)) (b : o.map (fun s => obsQG n [] [] t2 [] (HandSHeadRun.getT s)) = some (valQ t2)) :
    o.map (fun s => obsQG n cls xc (t1 ++ t2) g1 (HandSHeadRun.getT s)) = some (valQ (t1 ++ t2)) := by
  cases o with
  | none => cases a
  | some s => exact congrArg some (obsQ_app (Option.some.inj a) (Option.some.inj b))
end
end DL

/-! DL15: from defs to the law; lemmas for loops. -/
namespace DL
open PySem PySem.Spec PyProof.Rows L2
theorem FnOk.to0 {P : Program} {w : World} {K : PySem.W.Frag} {mg : Str → Option Value} {base : Heap} {k : Nat} {f : Addr} {fd : FuncData} {ps : List Str} {sp : Sp} (F : FnOk P w K mg base (L2.CX P w) k f fd ps sp) :
    FnOk P w K mg base CX0 k f fd ps (fun vs H Q _ => sp vs H Q E0) :=
  ⟨fun vs H Q E h => F.len vs H Q E0 h, fun A outer s H args us vs Q E hr e0 hb r h => codeAny_mono (F.run A outer s H args us vs Q E0 hr e0 hb r h) fun q s' hq => by
    cases q with
    | ok fl => cases fl <;> exact hq
    | error e =>
      have hq : L2.CX P w outer H s E0 e s' := hq
      obtain ⟨_, _, _, _, _, _, _, _, _, _, _, _, z⟩ := hq
      exact z.elim⟩
theorem law_of {L : Lnk} {K : PySem.W.Frag} {F : FSp} {H : Hp} {a : Addr} {ns : List Int} (hl : ns.length ≤ 63) (hO : Only H) (hS : SqL K H a (ns.map V.int)) (h : F [.scr ns] (fun _ => none) xNo fun d _ => d = .bl true) : spOf L K F [.ref a] H (fun v _ => v = .bl true) E0 := by
  have z : ns.length ≤ sizeLine := Nat.le_trans hl (by decide)
  have rp : Rp K (fun _ => False) H (.ref a) (.scr ns) := by
    rcases hS with (h | ⟨o, h⟩) | h
    · rcases hO a with e | ⟨o, xs, e⟩ <;> rw [e] at h <;> cases h
    · exact .scr z h
    · exact .scrK z fun H' => .inr h
  refine ⟨[.scr ns], fun _ => none, fun _ => False, xNo, _, ⟨fun a ds h => (nomatch h), fun a h => h.elim, fun _ _ _ _ h => (nomatch h), fun _ h => (nomatch h), fun _ _ _ _ _ _ _ h => (nomatch h)⟩, .cons rp .nil, h, fun _ _ _ _ _ _ _ _ _ _ z => z.elim, fun v H' d S' O' r _ _ q => ?_⟩
  subst q
  cases r
  rfl
/-! ### known values -/
section
variable {S : Sto} {p : Addr} {ds : List D} {k : List D → (Sto → Prop) → Prop}
theorem res_i {i : Int} : res S (.int i) = .int i := rfl
theorem res_b {i : Bool} : res S (.bl i) = .bl i := rfl
theorem res_s {i : Str} : res S (.str i) = .str i := rfl
theorem res_n : res S .non = .non := rfl
theorem res_t {i : List D} : res S (.tup i) = .tup i := rfl
theorem res_l {i : List D} : res S (.lst i) = .lst i := rfl
theorem res_c {i : List Int} : res S (.scr i) = .scr i := rfl
theorem res_ob {c : String} {i : List D} : res S (.obj c i) = .obj c i := rfl
theorem res_dc : res S .dct = .dct := rfl
theorem res_sup : res (sup S p (.lst ds)) (.ref p) = .lst ds := by unfold res; simp only [sup_same]
theorem res_of (h : S p = some (.lst ds)) : res S (.ref p) = .lst ds := by unfold res; simp only [h]
theorem seqD_t : seqD S (.tup ds) k = k ds fun _ => True := rfl
theorem seqD_l : seqD S (.lst ds) k = k ds fun _ => True := rfl
theorem seqD_c {i : List Int} : seqD S (.scr i) k = k (i.map .int) fun _ => True := rfl
theorem seqD_sup : seqD (sup S p (.lst ds)) (.ref p) k = k ds fun S' => S' p = some (.lst ds) := by unfold seqD; simp only [sup_same]
theorem seqD_of (h : S p = some (.lst ds)) : seqD S (.ref p) k = k ds fun S' => S' p = some (.lst ds) := by unfold seqD; simp only [h]
theorem at2_0 {a b : D} : atD [a, b] 0 = some a := rfl
theorem at2_1 {a b : D} : atD [a, b] 1 = some b := rfl
theorem at3_0 {a b c : D} : atD [a, b, c] 0 = some a := rfl
theorem at3_1 {a b c : D} : atD [a, b, c] 1 = some b := rfl
theorem at3_2 {a b c : D} : atD [a, b, c] 2 = some c := rfl
theorem ix3_0 : L2.ixN 3 0 = some 0 := rfl
theorem ix3_1 : L2.ixN 3 1 = some 1 := rfl
theorem ix3_2 : L2.ixN 3 2 = some 2 := rfl
theorem at_nat {xs : List D} {i : Nat} {d : D} (h : xs[i]? = some d) : atD xs (i : Int) = some d := L2.atI_nat h
theorem at_last {xs : List D} {d : D} (h : xs.getLast? = some d) : atD xs (-1) = some d := by
  have hne : xs ≠ [] := fun e => by rw [e] at h; cases h
  have e : xs = xs.dropLast ++ [d] := by
    rw [List.getLast?_eq_some_getLast hne] at h
    cases h
    exact (List.dropLast_concat_getLast hne).symm
  rw [e]
  exact L2.atI_last _ _
theorem ix_nat {n i : Nat} (h : i < n) : L2.ixN n (i : Int) = some i := by
  unfold L2.ixN
  rw [if_pos (by omega), if_pos (by omega)]
  rfl
theorem cut_to {xs : List D} {m : Nat} (h : m ≤ xs.length) : cutD xs none (some (m : Int)) = xs.take m := by
  unfold cutD
  rw [HT.sIx_none, HT.sIx_nat]
  have e : min m xs.length = m := by omega
  rw [e, List.drop_zero, Nat.sub_zero]
theorem cut_from {xs : List D} {m : Nat} (h : m ≤ xs.length) : cutD xs (some (m : Int)) none = xs.drop m := by
  unfold cutD
  rw [HT.sIx_none, HT.sIx_nat]
  have e : min m xs.length = m := by omega
  rw [e]
  exact List.take_of_length_le (by rw [List.length_drop]; exact Nat.le_refl _)
theorem cut_last {xs : List D} : cutD xs none (some (-1)) = xs.dropLast := by
  unfold cutD
  rw [HT.sIx_none, List.drop_zero, Nat.sub_zero, List.dropLast_eq_take]
  have e : HT.sIx xs.length xs.length (some (-1)) = ((-1 : Int) + (xs.length : Int)).toNat := by
    show (if (-1 : Int) < 0 then ((-1 : Int) + (xs.length : Int)).toNat else min (-1 : Int).toNat xs.length) = _
    exact if_pos (by decide)
  rw [e]
  congr 1
  omega
/-- turned round -/
theorem pick_rev {α : Type} (xs : List α) : pick xs none none (-1) = xs.reverse := by
  unfold pick
  have h1 : (Builtin.Slice.sliceAdjust none none (-1) (xs.length : Int)) = ((xs.length : Int) - 1, -1) := rfl
  rw [h1]
  have h2 : Builtin.Slice.slicePlaces ((xs.length : Int) - 1) (-1) (-1) = xs.length := by
    unfold Builtin.Slice.slicePlaces
    have q : ¬ ((-1 : Int) > 0) := by decide
    simp only [q, if_false]
    split
    · have : ((xs.length : Int) - 1 - -1 - 1) / (- -1) = (xs.length : Int) - 1 := by
        rw [show (- -1 : Int) = 1 by decide, Int.ediv_one]; omega
      rw [this]; omega
    · omega
  rw [h2]
  have f : ∀ k ∈ List.range xs.length, xs[((xs.length : Int) - 1 + (k : Int) * -1).toNat]? = xs.reverse[k]? := fun k hk => by
    have hk := List.mem_range.mp hk
    have e1 : ((xs.length : Int) - 1 + (k : Int) * -1).toNat = xs.length - 1 - k := by omega
    rw [e1, List.getElem?_reverse hk]
  have f2 : ∀ l : List Nat, (∀ k ∈ l, xs[((xs.length : Int) - 1 + (k : Int) * -1).toNat]? = xs.reverse[k]?) → (l.filterMap fun (k : Nat) => xs[((xs.length : Int) - 1 + (k : Int) * -1).toNat]?) = l.filterMap fun (k : Nat) => xs.reverse[k]? := fun l h => by
    induction l with
    | nil => rfl
    | cons a l ih => simp only [List.filterMap_cons, h a List.mem_cons_self, ih fun k hk => h k (List.mem_cons_of_mem _ hk)]
  show ((List.range xs.length).filterMap fun (k : Nat) => xs[((xs.length : Int) - 1 + (k : Int) * -1).toNat]?) = _
  rw [f2 _ f]
  have f3 : ∀ ys : List α, ((List.range ys.length).filterMap fun (k : Nat) => ys[k]?) = ys := fun ys => by
    induction ys with
    | nil => rfl
    | cons y ys ih =>
      rw [List.length_cons, List.range_succ_eq_map, List.filterMap_cons]
      show y :: List.filterMap _ _ = _
      rw [List.filterMap_map]
      congr 1
  have := f3 xs.reverse
  rw [List.length_reverse] at this
  exact this
theorem mulOk {k l : Nat} {x y : Int} (h : x.natAbs < 2 ^ k) (h' : y.natAbs < 2 ^ l) (hk : k ≤ 2 ^ 26) (hl : l ≤ 2 ^ 26) : IntMulOk x y := by
  have bits : ∀ {k : Nat} {x : Int}, x.natAbs < 2 ^ k → Builtin.Int.intBits x ≤ k := fun {k x} h => by
    unfold Builtin.Int.intBits
    split
    · exact Nat.zero_le _
    · rename_i hx
      have hx0 : x.natAbs ≠ 0 := by
        intro e
        apply hx
        have : x = 0 := by omega
        simp [this]
      have := (Nat.log2_lt hx0).mpr h
      omega
  have b1 := bits h
  have b2 := bits h'
  have tb : Builtin.Int.intTooBig ((Builtin.Int.intBits x : Int) + (Builtin.Int.intBits y : Int)) = false := by
    unfold Builtin.Int.intTooBig; unfold bitsLine
    exact decide_eq_false fun z => by omega
  unfold IntMulOk; rw [tb, Bool.and_false]
  exact Bool.false_ne_true
theorem res_ty {d : D} {t : String} (h : typD d = some t) : res S d = d := by cases d <;> first | rfl | cases h
end
/-! ### loops -/
theorem forL_ind {bd : D → Env → Sto → (Env → Sto → Prop) → Prop} {body : DEnd → Env → Sto → Prop} {C : Sto → Prop} {E : DEnd} (I : List D → Env → Sto → Prop) (he : ∀ ρ S, I [] ρ S → C S ∧ E.nx ρ S)
    (hs : ∀ d rest ρ S (N : Env → Sto → Prop), I (d :: rest) ρ S → (∀ ρ S, I rest ρ S → N ρ S) → C S ∧ bd d ρ S fun ρ' S' => body { nx := N, ct := N, bk := E.nx, rt := E.rt } ρ' S') : ∀ ds ρ S, I ds ρ S → forL bd body C E ds ρ S
  | [], ρ, S, h => he ρ S h
  | d :: ds, ρ, S, h => hs d ds ρ S _ h fun ρ S h => forL_ind I he hs ds ρ S h
theorem compL_ind {bd : D → Env → Sto → (Env → Sto → Prop) → Prop} {tw : Env → Sto → (Bool → Sto → Prop) → Prop} {ew : Env → Sto → QD → Prop} {B : List D → Prop} {C : Sto → Prop} {Kp : List D → Sto → Prop} {ρ : Env} (I : List D → Sto → List D → Prop) (he : ∀ S acc, I [] S acc → C S ∧ Kp acc S)
    (hs : ∀ d rest S acc (N : Sto → List D → Prop), I (d :: rest) S acc → (∀ S acc, I rest S acc → N S acc) → C S ∧ bd d ρ S fun ρ' S1 => tw ρ' S1 fun b S2 => if b = true then ew ρ' S2 fun y S3 => B acc ∧ N S3 (acc ++ [y]) else N S2 acc) : ∀ ds S acc, I ds S acc → compL bd tw ew B C Kp ρ ds S acc
  | [], S, acc, h => he S acc h
  | d :: ds, S, acc, h => hs d ds S acc _ h fun S acc h => compL_ind I he hs ds S acc h
theorem compO_ind {bd : D → Env → Sto → (Env → Sto → Prop) → Prop} {tw : Env → Sto → (Bool → Sto → Prop) → Prop} {iw : Env → Sto → List D → (List D → Sto → Prop) → Prop} {C : Sto → Prop} {Kp : List D → Sto → Prop} {ρ : Env} (I : List D → Sto → List D → Prop) (he : ∀ S acc, I [] S acc → C S ∧ Kp acc S)
    (hs : ∀ d rest S acc (N : Sto → List D → Prop), I (d :: rest) S acc → (∀ S acc, I rest S acc → N S acc) → C S ∧ bd d ρ S fun ρ' S1 => tw ρ' S1 fun b S2 => if b = true then iw ρ' S2 acc fun acc' S3 => N S3 acc' else N S2 acc) : ∀ ds S acc, I ds S acc → compO bd tw iw C Kp ρ ds S acc
  | [], S, acc, h => he S acc h
  | d :: ds, S, acc, h => hs d ds S acc _ h fun S acc h => compO_ind I he hs ds S acc h
/-- a comprehension without a test whose items are f of the walked ones -/
theorem compL_map {bd : D → Env → Sto → (Env → Sto → Prop) → Prop} {ew : Env → Sto → QD → Prop} {C : Sto → Prop} {Q : List D → Sto → Prop} {ρ : Env} {S : Sto} (f : D → D) (hC : C S) :
    ∀ (ds : List D) (acc : List D), (∀ d ∈ ds, ∀ N : QD, N (f d) S → bd d ρ S fun ρ' S1 => ew ρ' S1 N) → Q (acc ++ ds.map f) S → compL bd (fun _ S K => K true S) ew (fun _ => True) C Q ρ ds S acc
  | [], acc, h, q => ⟨hC, by rw [List.map_nil, List.append_nil] at q; exact q⟩
  | d :: ds, acc, h, q => ⟨hC, by
    have := h d List.mem_cons_self (fun y S3 => True ∧ compL bd (fun _ S K => K true S) ew (fun _ => True) C Q ρ ds S3 (acc ++ [y])) ⟨trivial, compL_map f hC ds (acc ++ [f d]) (fun d hd => h d (List.mem_cons_of_mem _ hd)) (by rw [List.append_assoc]; exact q)⟩
    simp only [if_true]
    exact this⟩
theorem compL_mapG {α : Type} {bd : D → Env → Sto → (Env → Sto → Prop) → Prop} {ew : Env → Sto → QD → Prop} {C : Sto → Prop} {Q : List D → Sto → Prop} {ρ : Env} {S : Sto} (g f : α → D) (hC : C S) :
    ∀ (l : List α) (acc : List D), (∀ a ∈ l, ∀ N : QD, N (f a) S → bd (g a) ρ S fun ρ' S1 => ew ρ' S1 N) → Q (acc ++ l.map f) S → compL bd (fun _ S K => K true S) ew (fun _ => True) C Q ρ (l.map g) S acc
  | [], acc, h, q => ⟨hC, by rw [List.map_nil, List.append_nil] at q; exact q⟩
  | a :: l, acc, h, q => ⟨hC, by
    have := h a List.mem_cons_self (fun y S3 => True ∧ compL bd (fun _ S K => K true S) ew (fun _ => True) C Q ρ (l.map g) S3 (acc ++ [y])) ⟨trivial, compL_mapG g f hC l (acc ++ [f a]) (fun d hd => h d (List.mem_cons_of_mem _ hd)) (by rw [List.append_assoc]; exact q)⟩
    simp only [if_true]
    exact this⟩
theorem zipD_map {α β : Type} (g : α → D) (h : β → D) : ∀ (l : List α) (m : List β), zipD (l.map g) (m.map h) = (l.zip m).map fun x => .tup [g x.1, h x.2]
  | [], m => by simp [zipD]
  | _ :: _, [] => by simp [zipD]
  | a :: l, b :: m => by
    have := zipD_map g h l m
    unfold zipD at this ⊢
    simp only [List.map_cons, List.zipWith_cons_cons, List.zip_cons_cons, this]
/-- numbered from n on -/
def num {α : Type} : Nat → List α → List (Nat × α)
  | _, [] => []
  | n, x :: r => (n, x) :: num (n + 1) r
theorem enumD_map {α : Type} (g : α → D) : ∀ (n : Nat) (l : List α), enumD n (l.map g) = (num n l).map fun x => .tup [.int x.1, g x.2]
  | _, [] => rfl
  | n, a :: l => by rw [List.map_cons, enumD, num, List.map_cons, enumD_map g (n + 1) l]
end DL

/-! DL16: == of trees of ints. -/
namespace DL
open PySem
/-- trees of ints and None, n deep at most -/
def IT : Nat → D → Prop
  | _, .int _ => True
  | _, .non => True
  | n + 1, .tup ds => ∀ d ∈ ds, IT n d
  | n + 1, .lst ds => ∀ d ∈ ds, IT n d
  | _, _ => False
theorem it_py : ∀ (n : Nat) (d : D), IT n d → ∃ p, d.py = some p ∧ p.canLay0 = true ∧ p.depth ≤ n
  | n, .int i, _ => ⟨.int i, rfl, rfl, Nat.zero_le _⟩
  | n, .non, _ => ⟨.none, rfl, rfl, Nat.zero_le _⟩
  | n + 1, .tup ds, h => by
    have all : ∀ ds : List D, (∀ d ∈ ds, IT n d) → ∃ ps, D.py.pys ds = some ps ∧ PyData.canLayAll0 ps = true ∧ PyData.depthAll ps ≤ n := by
      intro ds
      induction ds with
      | nil => intro _; exact ⟨[], rfl, rfl, Nat.zero_le _⟩
      | cons d ds ih =>
        intro h
        obtain ⟨p, h1, h2, h3⟩ := it_py n d (h d List.mem_cons_self)
        obtain ⟨ps, h4, h5, h6⟩ := ih fun d hd => h d (List.mem_cons_of_mem _ hd)
        refine ⟨p :: ps, by simp only [D.py.pys, h1, h4], ?_, ?_⟩
        · simp only [PyData.canLayAll0, h2, h5, Bool.and_self]
        · simp only [PyData.depthAll]; omega
    obtain ⟨ps, h1, h2, h3⟩ := all ds h
    refine ⟨.tuple ps, by simp only [D.py, h1, Option.map_some], by simp only [PyData.canLay0, h2], ?_⟩
    simp only [PyData.depth]; omega
  | n + 1, .lst ds, h => by
    have all : ∀ ds : List D, (∀ d ∈ ds, IT n d) → ∃ ps, D.py.pys ds = some ps ∧ PyData.canLayAll0 ps = true ∧ PyData.depthAll ps ≤ n := by
      intro ds
      induction ds with
      | nil => intro _; exact ⟨[], rfl, rfl, Nat.zero_le _⟩
      | cons d ds ih =>
        intro h
        obtain ⟨p, h1, h2, h3⟩ := it_py n d (h d List.mem_cons_self)
        obtain ⟨ps, h4, h5, h6⟩ := ih fun d hd => h d (List.mem_cons_of_mem _ hd)
        refine ⟨p :: ps, by simp only [D.py.pys, h1, h4], ?_, ?_⟩
        · simp only [PyData.canLayAll0, h2, h5, Bool.and_self]
        · simp only [PyData.depthAll]; omega
    obtain ⟨ps, h1, h2, h3⟩ := all ds h
    refine ⟨.list ps, by simp only [D.py, h1, Option.map_some], by simp only [PyData.canLay0, h2], ?_⟩
    simp only [PyData.depth]; omega
  | 0, .tup _, h => h.elim
  | 0, .lst _, h => h.elim
  | n, .bl _, h => by cases n <;> exact h.elim
  | n, .str _, h => by cases n <;> exact h.elim
  | n, .ref _, h => by cases n <;> exact h.elim
  | n, .ty _, h => by cases n <;> exact h.elim
  | n, .scr _, h => by cases n <;> exact h.elim
  | n, .obj _ _, h => by cases n <;> exact h.elim
  | n, .dct, h => by cases n <;> exact h.elim
theorem it_eqv : ∀ (n m : Nat) (x y : D) (p q : PyData), IT n x → IT m y → x.py = some p → y.py = some q → (PyData.eqv p q = true ↔ x = y) := by
  intro n
  induction n with
  | zero =>
    intro m x y p q hx hy ep eq
    cases x <;> try exact hx.elim
    all_goals
      cases ep
      cases y <;> try (cases m <;> exact hy.elim)
      all_goals (try (cases eq; simp [PyData.eqv]))
      all_goals
        simp only [D.py] at eq
        revert eq
        cases D.py.pys _ <;> intro eq
        · cases eq
        · cases eq; simp [PyData.eqv]
  | succ n ih =>
    intro m x y p q hx hy ep eq
    have all : ∀ (m : Nat) (xs ys : List D) (ps qs : List PyData), (∀ d ∈ xs, IT n d) → (∀ d ∈ ys, IT m d) → D.py.pys xs = some ps → D.py.pys ys = some qs → (PyData.eqvAll ps qs = true ↔ xs = ys) := by
      intro m xs
      induction xs with
      | nil =>
        intro ys ps qs _ _ e1 e2
        cases e1
        cases ys with
        | nil => cases e2; simp [PyData.eqvAll]
        | cons y ys =>
          simp only [D.py.pys] at e2
          split at e2
          · cases e2; simp [PyData.eqvAll]
          · cases e2
      | cons x xs ihx =>
        intro ys ps qs h1 h2 e1 e2
        simp only [D.py.pys] at e1
        split at e1
        · rename_i p ps' ep eps
          cases e1
          cases ys with
          | nil => cases e2; simp [PyData.eqvAll]
          | cons y ys =>
            simp only [D.py.pys] at e2
            split at e2
            · rename_i q qs' eq eqs
              cases e2
              have a := ih m x y p q (h1 x List.mem_cons_self) (h2 y List.mem_cons_self) ep eq
              have b := ihx ys ps' qs' (fun d hd => h1 d (List.mem_cons_of_mem _ hd)) (fun d hd => h2 d (List.mem_cons_of_mem _ hd)) eps eqs
              simp only [PyData.eqvAll, Bool.and_eq_true, a, b, List.cons.injEq]
            · cases e2
        · cases e1
    cases x <;> try exact hx.elim
    case int | non =>
      cases ep
      cases y <;> try (cases m <;> exact hy.elim)
      all_goals (try (cases eq; simp [PyData.eqv]))
      all_goals
        simp only [D.py] at eq
        revert eq
        cases D.py.pys _ <;> intro eq
        · cases eq
        · cases eq; simp [PyData.eqv]
    case tup xs =>
      simp only [D.py] at ep
      cases e1 : D.py.pys xs with
      | none => rw [e1] at ep; cases ep
      | some ps =>
        rw [e1] at ep; cases ep
        cases y <;> try (cases m <;> exact hy.elim)
        case tup ys =>
          simp only [D.py] at eq
          cases e2 : D.py.pys ys with
          | none => rw [e2] at eq; cases eq
          | some qs =>
            rw [e2] at eq; cases eq
            cases m with
            | zero => exact hy.elim
            | succ m =>
              have := all m xs ys ps qs hx hy e1 e2
              simp only [PyData.eqv, this, D.tup.injEq]
        case lst ys =>
          simp only [D.py] at eq
          cases e2 : D.py.pys ys with
          | none => rw [e2] at eq; cases eq
          | some qs => rw [e2] at eq; cases eq; simp [PyData.eqv]
        all_goals (cases eq; simp [PyData.eqv])
    case lst xs =>
      simp only [D.py] at ep
      cases e1 : D.py.pys xs with
      | none => rw [e1] at ep; cases ep
      | some ps =>
        rw [e1] at ep; cases ep
        cases y <;> try (cases m <;> exact hy.elim)
        case lst ys =>
          simp only [D.py] at eq
          cases e2 : D.py.pys ys with
          | none => rw [e2] at eq; cases eq
          | some qs =>
            rw [e2] at eq; cases eq
            cases m with
            | zero => exact hy.elim
            | succ m =>
              have := all m xs ys ps qs hx hy e1 e2
              simp only [PyData.eqv, this, D.lst.injEq]
        case tup ys =>
          simp only [D.py] at eq
          cases e2 : D.py.pys ys with
          | none => rw [e2] at eq; cases eq
          | some qs => rw [e2] at eq; cases eq; simp [PyData.eqv]
        all_goals (cases eq; simp [PyData.eqv])
/-- == of two trees of ints -/
theorem eqD_it {n m : Nat} {x y : D} {k : Bool → Prop} (hx : IT n x) (hy : IT m y) (hn : n ≤ 64) (hm : m ≤ 64) (h1 : x = y → k true) (h2 : x ≠ y → k false) : eqD x y k := by
  obtain ⟨p, ep, lp, dp⟩ := it_py n x hx
  obtain ⟨q, eq, lq, dq⟩ := it_py m y hy
  refine ⟨p, q, ep, eq, by simp only [SeqAt.shaped, lp, Bool.true_and, decide_eq_true_eq]; omega, by simp only [SeqAt.shaped, lq, Bool.true_and, decide_eq_true_eq]; omega, ?_⟩
  have e := it_eqv n m x y p q hx hy ep eq
  by_cases z : x = y
  · rw [e.mpr z]; exact h1 z
  · have : PyData.eqv p q = false := by
      cases w : PyData.eqv p q with
      | true => exact absurd (e.mp w) z
      | false => rfl
    rw [this]; exact h2 z
/-- data that can be laid, n deep at most -/
def Sh (n : Nat) (d : D) : Prop := ∃ p, d.py = some p ∧ p.canLay0 = true ∧ p.depth ≤ n
theorem sh_it {n : Nat} {d : D} (h : IT n d) : Sh n d := it_py n d h
theorem sh_str {n : Nat} {x : Str} (h : PyData.strOk x = true) : Sh n (.str x) := ⟨.str x, rfl, by simp only [PyData.canLay0, h], Nat.zero_le _⟩
theorem sh_bl {n : Nat} {b : Bool} : Sh n (.bl b) := ⟨.bool b, rfl, rfl, Nat.zero_le _⟩
theorem sh_all {n : Nat} : ∀ ds : List D, (∀ d ∈ ds, Sh n d) → ∃ ps, D.py.pys ds = some ps ∧ PyData.canLayAll0 ps = true ∧ PyData.depthAll ps ≤ n
  | [], _ => ⟨[], rfl, rfl, Nat.zero_le _⟩
  | d :: ds, h => by
    obtain ⟨p, h1, h2, h3⟩ := h d List.mem_cons_self
    obtain ⟨ps, h4, h5, h6⟩ := sh_all ds fun d hd => h d (List.mem_cons_of_mem _ hd)
    refine ⟨p :: ps, by simp only [D.py.pys, h1, h4], ?_, ?_⟩
    · simp only [PyData.canLayAll0, h2, h5, Bool.and_self]
    · simp only [PyData.depthAll]; omega
theorem sh_lst {n : Nat} {ds : List D} (h : ∀ d ∈ ds, Sh n d) : Sh (n + 1) (.lst ds) := by
  obtain ⟨ps, h1, h2, h3⟩ := sh_all ds h
  refine ⟨.list ps, by simp only [D.py, h1, Option.map_some], by simp only [PyData.canLay0, h2], ?_⟩
  simp only [PyData.depth]; omega
theorem sh_tup {n : Nat} {ds : List D} (h : ∀ d ∈ ds, Sh n d) : Sh (n + 1) (.tup ds) := by
  obtain ⟨ps, h1, h2, h3⟩ := sh_all ds h
  refine ⟨.tuple ps, by simp only [D.py, h1, Option.map_some], by simp only [PyData.canLay0, h2], ?_⟩
  simp only [PyData.depth]; omega
theorem eqD_sh {n : Nat} {x : D} {k : Bool → Prop} (h : Sh n x) (hn : n ≤ 64) (q : k true) : eqD x x k := by
  obtain ⟨p, h1, h2, h3⟩ := h
  have s : SeqAt.shaped p = true := by simp only [SeqAt.shaped, h2, Bool.true_and, decide_eq_true_eq]; omega
  exact ⟨p, p, h1, h1, s, s, by rw [SeqAt.eqv_refl p h2]; exact q⟩
end DL

/-! DL18: the law's end where divisions of great integers have room: the base heap is one without a seer. -/
namespace DL
open PySem PySem.Spec PyProof.Rows L2
/-! ### the head's run looked at piece by piece -/
theorem map3 {σ α β γ : Type _} {o : Option σ} {f : σ → α} {g : σ → β} {k : σ → γ} {x : α} {y : β} {z : γ} (a : o.map f = some x) (b : o.map g = some y) (c : o.map k = some z) : o.map (fun s => (f s, g s, k s)) = some (x, y, z) := by
  cases o with
  | none => cases a
  | some s =>
    have a := Option.some.inj a
    have b := Option.some.inj b
    have c := Option.some.inj c
    show some (f s, g s, k s) = _
    rw [a, b, c]
/-- the end of a law whose head imports nothing: the promise over bases in which there is no seer -/
theorem walk_far {law' : PySem.W.OpenLaw} {most k : Nat} {view' : Program} {out : List Str} {XQ : (Str → Option Value) → Heap → Prop} {YQ : World → Heap → Prop} {rec' : DefRec} {name : Str}
    (hm : law'.most = some most) (hs : most ≤ sizeLine) (hd : rec'.params.defaults = []) (room : Room k callerA) (hi : importsNone view' = true)
    (give : ∀ (w : World) (mg : Str → Option Value) (fa : Addr) (h : Heap), YQ w h → h.Ns mainGlobals mg → h.NoSeer → mg rec'.name = some (.ref fa) →
      ∃ (K : PySem.W.Frag) (fd : FuncData) (F : FSp) (L : Lnk), K.In h ∧ (∀ (s : Shared) (v : Value), BindsTo s fd ⟨[v], []⟩ [(name, v)]) ∧ (∀ ns : List Int, F [.scr ns] (fun _ => none) xNo fun d _ => d = .bl true) ∧
        ∀ base : Heap, K.In base → FnOk law'.prog w K mg base CX0 k fa fd [name] (fun vs H Q _ => spOf L K F vs H Q E0)) (h63 : most ≤ 63) :
    PySem.W.WalkO view' out XQ YQ law'.row.toRowW rec' [] (fun f vs => PySem.call f vs) :=
  Att.attach_call hm hd fun w _ _ mg _ fa _ _ _ _ a _ ns G Y _ _ _ hmg hobj hints hlen hg =>
    let ⟨_, _, _, _, KX, hb, hsp, hF⟩ := give w mg fa _ Y G.T.g (G.T.seer hi) hmg
    law_call KX G.T.g G.T.b G.T.builtins G.T.nolimit hg hobj hints (Nat.le_trans hlen hs) room (fun b kb _ => hF b kb) hb
      (fun H hO hS => law_of (Nat.le_trans hlen h63) hO hS (hsp ns)) fun _ _ _ z => z
end DL

/-! M1: sums; polys as lists of ints from the lowest on, without a nought on top. -/
namespace PM
def sumN : Nat → (Nat → Int) → Int
  | 0, _ => 0
  | n + 1, f => sumN n f + f n
theorem sumN_congr {f g : Nat → Int} : ∀ {n : Nat}, (∀ i, i < n → f i = g i) → sumN n f = sumN n g
  | 0, _ => rfl
  | n + 1, h => by rw [sumN, sumN, sumN_congr (n := n) fun i hi => h i (by omega), h n (by omega)]
theorem sumN_zero {f : Nat → Int} : ∀ {n : Nat}, (∀ i, i < n → f i = 0) → sumN n f = 0
  | 0, _ => rfl
  | n + 1, h => by rw [sumN, sumN_zero (n := n) fun i hi => h i (by omega), h n (by omega)]; rfl
theorem sumN_add (f g : Nat → Int) : ∀ n : Nat, sumN n (fun i => f i + g i) = sumN n f + sumN n g
  | 0 => rfl
  | n + 1 => by rw [sumN, sumN, sumN, sumN_add f g n]; omega
theorem sumN_mul (k : Int) (f : Nat → Int) : ∀ n : Nat, sumN n (fun i => k * f i) = k * sumN n f
  | 0 => by simp [sumN]
  | n + 1 => by rw [sumN, sumN, sumN_mul k f n, Int.mul_add]
theorem sumN_head (f : Nat → Int) : ∀ n : Nat, sumN (n + 1) f = f 0 + sumN n fun i => f (i + 1)
  | 0 => by simp [sumN]
  | n + 1 => by
    have := sumN_head f n
    rw [sumN, this, sumN]
    omega
theorem sumN_one {f : Nat → Int} {n k : Nat} (hk : k < n) (h : ∀ i, i < n → i ≠ k → f i = 0) : sumN n f = f k := by
  induction n with
  | zero => omega
  | succ n ih =>
    rw [sumN]
    by_cases e : k = n
    · subst e
      rw [sumN_zero fun i hi => h i (by omega) (by omega)]
      omega
    · rw [ih (by omega) fun i hi ne => h i (by omega) ne, h n (by omega) (by omega)]
      omega
theorem sumN_more {f : Nat → Int} {n : Nat} : ∀ {m : Nat}, n ≤ m → (∀ i, n ≤ i → i < m → f i = 0) → sumN m f = sumN n f
  | 0, h, _ => by have : n = 0 := by omega
                  subst this; rfl
  | m + 1, h, z => by
    by_cases e : n = m + 1
    · subst e; rfl
    · rw [sumN, sumN_more (m := m) (by omega) fun i h1 h2 => z i h1 (by omega), z m (by omega) (by omega)]
      omega
theorem sumN_rev (f : Nat → Int) : ∀ n : Nat, sumN n (fun i => f (n - 1 - i)) = sumN n f
  | 0 => rfl
  | n + 1 => by
    rw [sumN_head, sumN]
    have := sumN_rev f n
    rw [← this]
    have e : sumN n (fun i => f (n + 1 - 1 - (i + 1))) = sumN n fun i => f (n - 1 - i) := sumN_congr fun i hi => by
      congr 1; omega
    rw [e]
    have e2 : n + 1 - 1 - 0 = n := by omega
    rw [e2]
    omega
/-- the coefficient at a place -/
def cf (p : List Int) (i : Nat) : Int := p.getD i 0
theorem cf_nil (i : Nat) : cf [] i = 0 := rfl
theorem cf_ge {p : List Int} {i : Nat} (h : p.length ≤ i) : cf p i = 0 := by
  unfold cf
  rw [List.getD_eq_getElem?_getD, List.getElem?_eq_none h]; rfl
theorem cf_lt {p : List Int} {i : Nat} (h : i < p.length) : cf p i = p[i] := by
  unfold cf
  rw [List.getD_eq_getElem?_getD, List.getElem?_eq_getElem h]; rfl
theorem cf_cons_zero (c : Int) (p : List Int) : cf (c :: p) 0 = c := rfl
theorem cf_cons_succ (c : Int) (p : List Int) (i : Nat) : cf (c :: p) (i + 1) = cf p i := rfl
theorem cf_map_range (n : Nat) (f : Nat → Int) (i : Nat) : cf ((List.range n).map f) i = if i < n then f i else 0 := by
  by_cases h : i < n
  · rw [if_pos h, cf_lt (by simpa using h)]; simp
  · rw [if_neg h, cf_ge (by simpa using h)]
theorem cf_map (f : Int → Int) (h0 : f 0 = 0) (p : List Int) (i : Nat) : cf (p.map f) i = f (cf p i) := by
  by_cases h : i < p.length
  · rw [cf_lt (by simpa using h), cf_lt h]; simp
  · rw [cf_ge (by simpa using h), cf_ge (by omega), h0]
/-- no nought on top -/
def Nrm (p : List Int) : Prop := ∀ c, p.getLast? = some c → c ≠ 0
theorem nrm_nil : Nrm [] := fun _ h => nomatch h
theorem nrm_top {p : List Int} (h : Nrm p) (hp : p ≠ []) : cf p (p.length - 1) ≠ 0 := by
  have hl : 0 < p.length := List.length_pos_iff.mpr hp
  rw [cf_lt (by omega)]
  refine h _ ?_
  rw [List.getLast?_eq_getElem?]
  exact List.getElem?_eq_getElem _
theorem nrm_of_top {p : List Int} (h : p ≠ [] → cf p (p.length - 1) ≠ 0) : Nrm p := fun c hc => by
  have hp : p ≠ [] := fun e => by rw [e] at hc; cases hc
  have hl : 0 < p.length := List.length_pos_iff.mpr hp
  rw [List.getLast?_eq_getElem?, List.getElem?_eq_getElem (by omega)] at hc
  cases hc
  have := h hp
  rwa [cf_lt (by omega)] at this
theorem ext_len {p q : List Int} (hp : Nrm p) (h : ∀ i, cf p i = cf q i) : p.length ≤ q.length := by
  by_cases e : p = []
  · rw [e]; exact Nat.zero_le _
  · have hl : 0 < p.length := List.length_pos_iff.mpr e
    have := nrm_top hp e
    rw [h] at this
    by_cases l : p.length ≤ q.length
    · exact l
    · exact absurd (cf_ge (by omega)) this
theorem ext {p q : List Int} (hp : Nrm p) (hq : Nrm q) (h : ∀ i, cf p i = cf q i) : p = q := by
  have l1 := ext_len hp h
  have l2 := ext_len hq fun i => (h i).symm
  refine List.ext_getElem (by omega) fun i h1 h2 => ?_
  have := h i
  rwa [cf_lt h1, cf_lt h2] at this
/-- without the noughts on top -/
def trim (p : List Int) : List Int := (p.reverse.dropWhile (· == 0)).reverse
theorem trim_nil : trim [] = [] := rfl
theorem trim_snoc (p : List Int) (c : Int) : trim (p ++ [c]) = if c = 0 then trim p else p ++ [c] := by
  unfold trim
  rw [List.reverse_append, List.reverse_singleton, List.singleton_append, List.dropWhile_cons]
  by_cases h : c = 0
  · rw [if_pos h, if_pos (by simpa using h)]
  · rw [if_neg h, if_neg (by simpa using h)]
    simp
theorem snoc_ind {P : List Int → Prop} (h0 : P []) (h1 : ∀ p c, P p → P (p ++ [c])) (p : List Int) : P p := by
  have : ∀ n : Nat, ∀ p : List Int, p.length = n → P p := by
    intro n
    induction n with
    | zero => intro p e; rw [List.eq_nil_of_length_eq_zero e]; exact h0
    | succ n ih =>
      intro p e
      have hp : p ≠ [] := fun z => by rw [z] at e; cases e
      rw [← List.dropLast_concat_getLast hp]
      exact h1 _ _ (ih _ (by rw [List.length_dropLast]; omega))
  exact this _ p rfl
theorem nrm_trim (p : List Int) : Nrm (trim p) := by
  refine snoc_ind (P := fun p => Nrm (trim p)) (fun c h => nomatch h) (fun p c ih => ?_) p
  rw [trim_snoc]
  by_cases h : c = 0
  · rw [if_pos h]; exact ih
  · rw [if_neg h]
    intro d hd
    rw [List.getLast?_append, List.getLast?_singleton] at hd
    simp at hd
    rw [← hd]; exact h
theorem cf_append_zero (p : List Int) (i : Nat) : cf (p ++ [0]) i = cf p i := by
  by_cases h : i < p.length
  · rw [cf_lt (by simp; omega), cf_lt h, List.getElem_append_left h]
  · by_cases e : i = p.length
    · subst e
      rw [cf_lt (by simp), cf_ge (Nat.le_refl _)]
      simp
    · rw [cf_ge (by simp; omega), cf_ge (by omega)]
theorem cf_trim (p : List Int) (i : Nat) : cf (trim p) i = cf p i := by
  refine snoc_ind (P := fun p => cf (trim p) i = cf p i) rfl (fun p c ih => ?_) p
  rw [trim_snoc]
  by_cases h : c = 0
  · rw [if_pos h, ih, h, cf_append_zero]
  · rw [if_neg h]
theorem trim_of_nrm {p : List Int} (h : Nrm p) : trim p = p := ext (nrm_trim p) h (cf_trim p)
theorem trim_len (p : List Int) : (trim p).length ≤ p.length := by
  refine snoc_ind (P := fun p => (trim p).length ≤ p.length) (Nat.le_refl _) (fun p c ih => ?_) p
  rw [trim_snoc]
  split
  · rw [List.length_append]; omega
  · exact Nat.le_refl _
theorem trim_mem {p : List Int} {c : Int} (h : c ∈ trim p) : c ∈ p := by
  unfold trim at h
  rw [List.mem_reverse] at h
  exact List.mem_reverse.mp ((List.dropWhile_sublist _).subset h)
/-! ### sums, products -/
def pplus (p q : List Int) : List Int := trim ((List.range (max p.length q.length)).map fun i => cf p i + cf q i)
theorem nrm_pplus (p q : List Int) : Nrm (pplus p q) := nrm_trim _
theorem cf_pplus (p q : List Int) (i : Nat) : cf (pplus p q) i = cf p i + cf q i := by
  unfold pplus
  rw [cf_trim, cf_map_range]
  split
  · rfl
  · rw [cf_ge (p := p) (by omega), cf_ge (p := q) (by omega)]; rfl
theorem pplus_len (p q : List Int) : (pplus p q).length ≤ max p.length q.length := by
  refine Nat.le_trans (trim_len _) ?_
  simp
def conv (p q : List Int) (n : Nat) : Int := sumN (n + 1) fun i => cf p i * cf q (n - i)
def pmul (p q : List Int) : List Int := if p = [] ∨ q = [] then [] else (List.range (p.length + q.length - 1)).map (conv p q)
theorem conv_ge {p q : List Int} {n : Nat} (h : p.length + q.length ≤ n + 1) : conv p q n = 0 := sumN_zero fun i hi => by
  by_cases l : p.length ≤ i
  · rw [cf_ge l, Int.zero_mul]
  · rw [cf_ge (p := q) (by omega), Int.mul_zero]
theorem cf_pmul (p q : List Int) (n : Nat) : cf (pmul p q) n = conv p q n := by
  unfold pmul
  split
  · rename_i h
    rw [cf_nil]
    rcases h with h | h
    · subst h; exact (sumN_zero fun i _ => by rw [cf_nil, Int.zero_mul]).symm
    · subst h; exact (sumN_zero fun i _ => by rw [cf_nil, Int.mul_zero]).symm
  · rename_i h
    have h1 : 0 < p.length := List.length_pos_iff.mpr fun e => h (.inl e)
    rw [cf_map_range]
    split
    · rfl
    · rw [conv_ge (by omega)]
theorem nrm_pmul {p q : List Int} (hp : Nrm p) (hq : Nrm q) : Nrm (pmul p q) := by
  by_cases h : p = [] ∨ q = []
  · unfold pmul; rw [if_pos h]; exact nrm_nil
  · have n1 : p ≠ [] := fun e => h (.inl e)
    have n2 : q ≠ [] := fun e => h (.inr e)
    have l1 : 0 < p.length := List.length_pos_iff.mpr n1
    have l2 : 0 < q.length := List.length_pos_iff.mpr n2
    have hl : (pmul p q).length = p.length + q.length - 1 := by unfold pmul; rw [if_neg h]; simp
    refine nrm_of_top fun _ => ?_
    rw [hl, cf_pmul]
    unfold conv
    rw [sumN_one (k := p.length - 1) (by omega) fun i hi ne => ?_]
    · have e : p.length + q.length - 1 - 1 - (p.length - 1) = q.length - 1 := by omega
      rw [e]
      exact Int.mul_ne_zero (nrm_top hp n1) (nrm_top hq n2)
    · by_cases l : p.length ≤ i
      · rw [cf_ge l, Int.zero_mul]
      · rw [cf_ge (p := q) (by omega), Int.mul_zero]
theorem pmul_len (p q : List Int) : (pmul p q).length ≤ p.length + q.length := by
  unfold pmul
  split
  · exact Nat.zero_le _
  · simp
theorem pmul_plus {p q r : List Int} (hp : Nrm p) : pmul p (pplus q r) = pplus (pmul p q) (pmul p r) :=
  ext (nrm_pmul hp (nrm_pplus q r)) (nrm_pplus _ _) fun n => by
    rw [cf_pplus, cf_pmul, cf_pmul, cf_pmul]
    unfold conv
    rw [← sumN_add]
    exact sumN_congr fun i _ => by rw [cf_pplus, Int.mul_add]
/-- led to its slope -/
def pder (p : List Int) : List Int := (List.range (p.length - 1)).map fun (i : Nat) => ((i : Int) + 1) * cf p (i + 1)
theorem cf_pder (p : List Int) (i : Nat) : cf (pder p) i = ((i : Int) + 1) * cf p (i + 1) := by
  unfold pder
  rw [cf_map_range]
  split
  · rfl
  · rw [cf_ge (p := p) (by omega), Int.mul_zero]
theorem nrm_pder {p : List Int} (h : Nrm p) : Nrm (pder p) := by
  refine nrm_of_top fun ne => ?_
  have hl : (pder p).length = p.length - 1 := by unfold pder; simp
  have l1 : 0 < (pder p).length := List.length_pos_iff.mpr ne
  rw [cf_pder, hl]
  have hp : p ≠ [] := fun e => by subst e; exact ne rfl
  have e : p.length - 1 - 1 + 1 = p.length - 1 := by omega
  rw [e]
  exact Int.mul_ne_zero (by omega) (nrm_top h hp)
theorem pder_mul {p q : List Int} (hp : Nrm p) (hq : Nrm q) : pder (pmul p q) = pplus (pmul (pder p) q) (pmul p (pder q)) :=
  ext (nrm_pder (nrm_pmul hp hq)) (nrm_pplus _ _) fun n => by
    rw [cf_pder, cf_pmul, cf_pplus, cf_pmul, cf_pmul]
    unfold conv
    rw [← sumN_mul]
    have e1 : sumN (n + 1) (fun i => cf (pder p) i * cf q (n - i)) = sumN (n + 1 + 1) fun i => (i : Int) * (cf p i * cf q (n + 1 - i)) := by
      conv => rhs; rw [sumN_head]
      simp only [Int.natCast_zero, Int.zero_mul, Int.zero_add]
      refine sumN_congr fun i hi => ?_
      rw [cf_pder]
      have : n + 1 - (i + 1) = n - i := by omega
      rw [this, Int.natCast_add, Int.mul_assoc]
      rfl
    have e2 : sumN (n + 1) (fun i => cf p i * cf (pder q) (n - i)) = sumN (n + 1 + 1) fun i => ((n + 1 - i : Nat) : Int) * (cf p i * cf q (n + 1 - i)) := by
      conv => rhs; rw [sumN]
      simp only [Nat.sub_self, Int.natCast_zero, Int.zero_mul, Int.add_zero]
      refine sumN_congr fun i hi => ?_
      rw [cf_pder]
      have h1 : n + 1 - i = n - i + 1 := by omega
      rw [h1, Int.natCast_add]
      rw [← Int.mul_assoc, Int.mul_comm (cf p i), Int.mul_assoc]
      rfl
    rw [e1, e2, ← sumN_add]
    refine sumN_congr fun i hi => ?_
    rw [← Int.add_mul]
    congr 1
    omega
/-! ### by a number, moved, lowest -/
def pby (k : Int) (p : List Int) : List Int := if k = 0 then [] else p.map (k * ·)
def pone (c : Int) : List Int := trim [c]
def pmov (m : Int) : List Int → List Int
  | [] => []
  | c :: p => pplus (pmul (pmov m p) (trim [m, 1])) (trim [c])
theorem nrm_pmov (m : Int) (p : List Int) : Nrm (pmov m p) := by
  cases p with
  | nil => exact nrm_nil
  | cons c p => exact nrm_pplus _ _
def pcon (p : List Int) : Nat := p.foldl (fun g c => Int.gcd (g : Int) c) 0
def plow (p : List Int) : List Int := if p = [] then [] else p.map fun c => c.fdiv (if cf p (p.length - 1) > 0 then (pcon p : Int) else 0 - (pcon p : Int))
theorem pcon_dvd (p : List Int) : ∀ (g : Nat), ((p.foldl (fun g c => Int.gcd (g : Int) c) g : Nat) : Int) ∣ g ∧ ∀ c ∈ p, ((p.foldl (fun g c => Int.gcd (g : Int) c) g : Nat) : Int) ∣ c := by
  induction p with
  | nil => intro g; exact ⟨Int.dvd_refl _, fun _ h => nomatch h⟩
  | cons c p ih =>
    intro g
    obtain ⟨h1, h2⟩ := ih (Int.gcd (g : Int) c)
    refine ⟨Int.dvd_trans h1 (Int.gcd_dvd_left ..), fun d hd => ?_⟩
    rcases List.mem_cons.mp hd with e | e
    · rw [e]; exact Int.dvd_trans h1 (Int.gcd_dvd_right ..)
    · exact h2 d e
theorem pcon_zero {p : List Int} (h : pcon p = 0) : ∀ c ∈ p, c = 0 := fun c hc => by
  have := (pcon_dvd p 0).2 c hc
  unfold pcon at h
  rw [h] at this
  exact Int.zero_dvd.mp this
theorem pcon_le {p : List Int} {c : Int} (hc : c ∈ p) (h : c ≠ 0) : (pcon p) ≤ c.natAbs := by
  have := (pcon_dvd p 0).2 c hc
  exact Int.natAbs_dvd_natAbs.mpr this |> fun d => by
    have h2 : c.natAbs ≠ 0 := by omega
    have := Nat.le_of_dvd (by omega) d
    simpa [pcon] using this
end PM

/-! M2: values of polys at broken numbers; bounds. -/
namespace PM
/-! ### raw sums and products; the value -/
def padd : List Int → List Int → List Int
  | [], q => q
  | p, [] => p
  | a :: p, b :: q => (a + b) :: padd p q
def rmul : List Int → List Int → List Int
  | [], _ => []
  | c :: p, q => padd (q.map (c * ·)) (0 :: rmul p q)
def pe : List Int → Rat → Rat
  | [], _ => 0
  | c :: p, x => (c : Rat) + x * pe p x
theorem pe_nil (x : Rat) : pe [] x = 0 := rfl
theorem pe_cons (c : Int) (p : List Int) (x : Rat) : pe (c :: p) x = (c : Rat) + x * pe p x := rfl
theorem cf_padd : ∀ (p q : List Int) (i : Nat), cf (padd p q) i = cf p i + cf q i
  | [], q, i => by rw [padd, cf_nil, Int.zero_add]
  | a :: p, [], i => by rw [padd, cf_nil, Int.add_zero]; intro h; cases h
  | a :: p, b :: q, 0 => rfl
  | a :: p, b :: q, i + 1 => by rw [padd, cf_cons_succ, cf_cons_succ, cf_cons_succ, cf_padd p q i]
theorem pe_padd (x : Rat) : ∀ (p q : List Int), pe (padd p q) x = pe p x + pe q x
  | [], q => by rw [padd, pe_nil]; grind
  | a :: p, [] => by rw [padd, pe_nil]; grind; intro h; cases h
  | a :: p, b :: q => by rw [padd, pe_cons, pe_cons, pe_cons, pe_padd x p q, Rat.intCast_add]; grind
theorem pe_map (x : Rat) (k : Int) : ∀ (p : List Int), pe (p.map (k * ·)) x = (k : Rat) * pe p x
  | [] => by rw [List.map_nil, pe_nil]; grind
  | c :: p => by rw [List.map_cons, pe_cons, pe_cons, pe_map x k p, Rat.intCast_mul]; grind
theorem pe_rmul (x : Rat) (q : List Int) : ∀ (p : List Int), pe (rmul p q) x = pe p x * pe q x
  | [] => by rw [rmul, pe_nil]; grind
  | c :: p => by
    rw [rmul, pe_padd, pe_map, pe_cons, pe_rmul x q p, pe_cons, Rat.intCast_zero]
    grind
theorem cf_rmul (q : List Int) : ∀ (p : List Int) (n : Nat), cf (rmul p q) n = conv p q n
  | [], n => by
    rw [rmul, cf_nil]
    exact (sumN_zero fun i _ => by rw [cf_nil, Int.zero_mul]).symm
  | c :: p, n => by
    rw [rmul, cf_padd, cf_map _ (Int.mul_zero c)]
    unfold conv
    rw [sumN_head, cf_cons_zero, Nat.sub_zero]
    congr 1
    cases n with
    | zero => rfl
    | succ n =>
      rw [cf_cons_succ, cf_rmul q p n]
      unfold conv
      refine sumN_congr fun i hi => ?_
      rw [cf_cons_succ]
      congr 2
      omega
theorem pe_zero (x : Rat) : ∀ (p : List Int), (∀ i, cf p i = 0) → pe p x = 0
  | [], _ => rfl
  | c :: p, h => by
    have h0 : c = 0 := h 0
    rw [pe_cons, pe_zero x p fun i => h (i + 1), h0, Rat.intCast_zero]
    grind
theorem pe_ext (x : Rat) : ∀ (p q : List Int), (∀ i, cf p i = cf q i) → pe p x = pe q x
  | [], q, h => (pe_zero x q fun i => (h i).symm.trans (cf_nil i)).symm
  | a :: p, [], h => pe_zero x _ fun i => (h i).trans (cf_nil i)
  | a :: p, b :: q, h => by
    have h0 : a = b := h 0
    rw [pe_cons, pe_cons, h0, pe_ext x p q fun i => h (i + 1)]
theorem pe_pmul (p q : List Int) (x : Rat) : pe (pmul p q) x = pe p x * pe q x := by
  rw [← pe_rmul]
  exact pe_ext x _ _ fun i => by rw [cf_pmul, cf_rmul]
/-- value and power, from the top on -/
def hv (a b : Int) : List Int → Int × Int
  | [] => (0, 1)
  | c :: p => ((hv a b p).1 * a + c * (hv a b p).2, (hv a b p).2 * b)
theorem hv_pos (a : Int) {b : Int} (hb : 0 < b) : ∀ p : List Int, 0 < (hv a b p).2
  | [] => Int.one_pos
  | c :: p => Int.mul_pos (hv_pos a hb p) hb
theorem divInt_int (c : Int) : (c : Rat) = Rat.divInt c 1 := by
  apply Rat.ext
  · rw [Rat.num_divInt]; simp
  · rw [Rat.den_divInt]; simp
theorem hv_val (a : Int) {b : Int} (hb : 0 < b) : ∀ p : List Int, Rat.divInt ((hv a b p).1 * b) (hv a b p).2 = pe p (Rat.divInt a b)
  | [] => by
    rw [pe_nil]
    show Rat.divInt (0 * b) 1 = 0
    rw [Int.zero_mul, ← divInt_int]; rfl
  | c :: p => by
    have hp := hv_pos a hb p
    rw [pe_cons, ← hv_val a hb p, Rat.divInt_mul_divInt, divInt_int, Rat.divInt_add_divInt _ _ (by decide) (Int.ne_of_gt (Int.mul_pos hb hp)), Rat.divInt_eq_divInt_iff]
    · show ((hv a b p).1 * a + c * (hv a b p).2) * b * (1 * (b * (hv a b p).2)) = (c * (b * (hv a b p).2) + a * ((hv a b p).1 * b) * 1) * ((hv a b p).2 * b)
      grind
    · exact Int.ne_of_gt (Int.mul_pos hp hb)
    · exact Int.ne_of_gt (Int.mul_pos (by decide) (Int.mul_pos hb hp))
/-! ### bounds -/
def Bd (k : Nat) (x : Int) : Prop := x.natAbs < 2 ^ k
def BdP (k : Nat) (p : List Int) : Prop := ∀ c ∈ p, Bd k c
theorem Bd.mono {k l : Nat} {x : Int} (h : Bd k x) (hl : k ≤ l) : Bd l x := Nat.lt_of_lt_of_le h (Nat.pow_le_pow_right (by decide) hl)
theorem BdP.mono {k l : Nat} {p : List Int} (h : BdP k p) (hl : k ≤ l) : BdP l p := fun c hc => (h c hc).mono hl
theorem bd_zero {k : Nat} : Bd k 0 := Nat.two_pow_pos k
theorem Bd.mul {k l : Nat} {x y : Int} (h : Bd k x) (h' : Bd l y) : Bd (k + l) (x * y) := by
  unfold Bd at *
  rw [Int.natAbs_mul, Nat.pow_add]
  exact Nat.mul_lt_mul'' h h'
theorem Bd.add {k : Nat} {x y : Int} (h : Bd k x) (h' : Bd k y) : Bd (k + 1) (x + y) := by
  unfold Bd at *
  have := Int.natAbs_add_le x y
  rw [Nat.pow_succ]
  omega
theorem Bd.neg {k : Nat} {x : Int} (h : Bd k x) : Bd k (-x) := by
  unfold Bd at *
  rwa [Int.natAbs_neg]
theorem Bd.of {k : Nat} {x : Int} (h : x.natAbs < 2 ^ k) : Bd k x := h
theorem BdP.cf {k : Nat} {p : List Int} (h : BdP k p) (i : Nat) : Bd k (PM.cf p i) := by
  by_cases l : i < p.length
  · rw [cf_lt l]; exact h _ (List.getElem_mem _)
  · rw [cf_ge (by omega)]; exact bd_zero
theorem bd_sum {k l : Nat} {f : Nat → Int} : ∀ {n : Nat}, (∀ i, i < n → Bd k (f i)) → n ≤ 2 ^ l → Bd (k + l) (sumN n f) := fun {n} h hn => by
  have key : ∀ n, (∀ i, i < n → Bd k (f i)) → (sumN n f).natAbs ≤ n * (2 ^ k - 1) := by
    intro n
    induction n with
    | zero => intro _; simp [sumN]
    | succ n ih =>
      intro h
      rw [sumN, Nat.succ_mul]
      have h1 := ih fun i hi => h i (by omega)
      have h2 : (f n).natAbs < 2 ^ k := h n (by omega)
      have := Int.natAbs_add_le (sumN n f) (f n)
      omega
  have h1 := key n h
  unfold Bd
  have h2 : 0 < 2 ^ k := Nat.two_pow_pos k
  have h3 : n * (2 ^ k - 1) ≤ 2 ^ l * (2 ^ k - 1) := Nat.mul_le_mul_right _ hn
  have h4 : 2 ^ l * (2 ^ k - 1) < 2 ^ l * 2 ^ k := Nat.mul_lt_mul_of_pos_left (by omega) (Nat.two_pow_pos l)
  rw [Nat.pow_add, Nat.mul_comm (2 ^ k)]
  omega
theorem bd_pplus {k : Nat} {p q : List Int} (h : BdP k p) (h' : BdP k q) : BdP (k + 1) (pplus p q) := fun c hc => by
  have := trim_mem hc
  obtain ⟨i, _, e⟩ := List.mem_map.mp this
  rw [← e]
  exact (h.cf i).add (h'.cf i)
theorem bd_conv {k l m : Nat} {p q : List Int} (h : BdP k p) (h' : BdP l q) {n : Nat} (hn : n + 1 ≤ 2 ^ m) : Bd (k + l + m) (conv p q n) := bd_sum (fun i _ => (h.cf i).mul (h'.cf _)) hn
theorem bd_pmul {k l m : Nat} {p q : List Int} (h : BdP k p) (h' : BdP l q) (hm : p.length + q.length ≤ 2 ^ m) : BdP (k + l + m) (pmul p q) := fun c hc => by
  unfold pmul at hc
  split at hc
  · cases hc
  · obtain ⟨i, hi, e⟩ := List.mem_map.mp hc
    rw [← e]
    have := List.mem_range.mp hi
    exact bd_conv h h' (by omega)
theorem bd_pder {k l : Nat} {p : List Int} (h : BdP k p) (hl : p.length < 2 ^ l) : BdP (l + k) (pder p) := fun c hc => by
  unfold pder at hc
  obtain ⟨i, hi, e⟩ := List.mem_map.mp hc
  rw [← e]
  have := List.mem_range.mp hi
  have b : Bd l ((i : Int) + 1) := by unfold Bd; omega
  exact b.mul (h.cf _)
theorem bd_trim {k : Nat} {p : List Int} (h : BdP k p) : BdP k (trim p) := fun c hc => h c (trim_mem hc)
theorem bd_pby {k l : Nat} {n : Int} {p : List Int} (h : BdP l p) (hn : Bd k n) : BdP (k + l) (pby n p) := fun c hc => by
  unfold pby at hc
  split at hc
  · cases hc
  · obtain ⟨d, hd, e⟩ := List.mem_map.mp hc
    rw [← e]
    exact hn.mul (h d hd)
theorem bd_pmov {k l : Nat} {m : Int} (hm : Bd l m) (hl : 1 ≤ l) : ∀ {p : List Int}, BdP k p → p.length ≤ 60 → BdP (k + p.length * (l + 8)) (pmov m p) ∧ (pmov m p).length ≤ p.length
  | [], _, _ => ⟨(fun _ h => nomatch h), Nat.le_refl _⟩
  | c :: p, h, hp => by
    have hp' : p.length + 1 ≤ 60 := hp
    obtain ⟨b, len⟩ := bd_pmov hm hl (p := p) (fun d hd => h d (List.mem_cons_of_mem _ hd)) (by omega)
    have e : (c :: p).length = p.length + 1 := rfl
    have b1 : BdP l (trim [m, 1]) := bd_trim fun d hd => by
      rcases List.mem_cons.mp hd with q | hd
      · rw [q]; exact hm
      · rcases List.mem_cons.mp hd with q | hd
        · rw [q]; unfold Bd; exact Nat.lt_of_lt_of_le (by decide) (Nat.pow_le_pow_right (by decide) hl)
        · cases hd
    have l1 : (trim [m, 1]).length ≤ 2 := trim_len _
    have b2 : BdP (k + p.length * (l + 8) + l + 6) (pmul (pmov m p) (trim [m, 1])) := bd_pmul b b1 (by omega)
    have b3 : BdP k (trim [c]) := bd_trim fun d hd => h d (by rw [List.mem_singleton.mp hd]; exact List.mem_cons_self)
    have b4 := bd_pplus (b2.mono (l := k + p.length * (l + 8) + l + 7) (by omega)) (b3.mono (by omega))
    refine ⟨?_, ?_⟩
    · rw [e, Nat.succ_mul]
      exact b4.mono (by omega)
    · show (pplus (pmul (pmov m p) (trim [m, 1])) (trim [c])).length ≤ _
      have h1 := pplus_len (pmul (pmov m p) (trim [m, 1])) (trim [c])
      have h2 : (pmul (pmov m p) (trim [m, 1])).length ≤ p.length + 1 := by
        unfold pmul
        split
        · exact Nat.zero_le _
        · simp; omega
      have h3 : (trim [c]).length ≤ 1 := trim_len _
      rw [e]; omega
theorem bd_hv {k l : Nat} {a b : Int} (ha : Bd l a) (hb : Bd l b) : ∀ {p : List Int}, BdP k p → Bd (k + 1 + p.length * (l + 1)) (hv a b p).1 ∧ Bd (1 + p.length * l) (hv a b p).2
  | [], _ => ⟨bd_zero, by show (1 : Int).natAbs < 2 ^ (1 + 0 * l); simp⟩
  | c :: p, h => by
    obtain ⟨b1, b2⟩ := bd_hv ha hb (p := p) fun d hd => h d (List.mem_cons_of_mem _ hd)
    have e : (c :: p).length = p.length + 1 := rfl
    refine ⟨?_, ?_⟩
    · have x1 := b1.mul ha
      have x2 := (h c List.mem_cons_self).mul b2
      have le2 : p.length * l ≤ p.length * (l + 1) := Nat.mul_le_mul_left _ (Nat.le_succ _)
      have x3 := (x1.mono (l := k + 1 + p.length * (l + 1) + l) (by omega)).add (x2.mono (by omega))
      rw [e, Nat.succ_mul]
      exact x3.mono (by omega)
    · rw [e, Nat.succ_mul]
      exact (b2.mul hb).mono (by omega)
theorem bd_num {k : Nat} {n d : Int} (h : Bd k n) : Bd k (Rat.divInt n d).num := by
  rw [Rat.num_divInt]
  unfold Bd at *
  refine Nat.lt_of_le_of_lt ?_ h
  refine Nat.le_trans (Int.natAbs_ediv_le_natAbs _ _) ?_
  rw [Int.natAbs_mul]
  rcases Int.lt_trichotomy d 0 with z | z | z
  · rw [Int.sign_eq_neg_one_of_neg z]; simp
  · subst z; simp
  · rw [Int.sign_eq_one_of_pos z]; simp
theorem bd_den {k : Nat} {n d : Int} (h : Bd k d) (hk : 1 ≤ k) : Bd k (Rat.divInt n d).den := by
  rw [Rat.den_divInt]
  unfold Bd at *
  split
  · exact Nat.lt_of_lt_of_le (by decide) (Nat.pow_le_pow_right (by decide) hk)
  · refine Nat.lt_of_le_of_lt ?_ h
    exact Nat.div_le_self d.natAbs (d.gcd n)
end PM

/-! M3: values at integers tell polys; division with a multiple; primitive parts; common divisors. -/
namespace PM
/-- the value at an integer -/
def pei : List Int → Int → Int
  | [], _ => 0
  | c :: p, x => c + x * pei p x
theorem pei_nil (x : Int) : pei [] x = 0 := rfl
theorem pei_cons (c : Int) (p : List Int) (x : Int) : pei (c :: p) x = c + x * pei p x := rfl
theorem pei_big {p : List Int} : ∀ {N : Int}, (∀ n, N ≤ n → pei p n = 0) → ∀ i, cf p i = 0 := by
  induction p with
  | nil => intro N _ i; exact cf_nil i
  | cons c p ih =>
    intro N h i
    have hc : c = 0 := by
      by_cases z : c = 0
      · exact z
      · exfalso
        have m1 : N ≤ max N (c.natAbs + 1 : Int) := Int.le_max_left ..
        have m2 : (c.natAbs + 1 : Int) ≤ max N (c.natAbs + 1 : Int) := Int.le_max_right ..
        have e := h _ m1
        rw [pei_cons] at e
        have d : max N (c.natAbs + 1 : Int) ∣ c := ⟨-(pei p (max N (c.natAbs + 1 : Int))), by rw [Int.mul_neg]; omega⟩
        have le := Int.natAbs_dvd_natAbs.mpr d
        have := Nat.le_of_dvd (by omega) le
        omega
    cases i with
    | zero => exact hc
    | succ i =>
      rw [cf_cons_succ]
      refine ih (N := max N 1) (fun n hn => ?_) i
      have h1 : N ≤ n := Int.le_trans (Int.le_max_left ..) hn
      have h2 : (1 : Int) ≤ n := Int.le_trans (Int.le_max_right ..) hn
      have e := h n h1
      rw [pei_cons, hc, Int.zero_add] at e
      rcases Int.mul_eq_zero.mp e with z | z
      · omega
      · exact z
theorem pei_padd (x : Int) : ∀ (p q : List Int), pei (padd p q) x = pei p x + pei q x
  | [], q => by rw [padd, pei_nil]; omega
  | a :: p, [] => by rw [padd, pei_nil]; omega; intro h; cases h
  | a :: p, b :: q => by rw [padd, pei_cons, pei_cons, pei_cons, pei_padd x p q]; grind
theorem pei_map (x : Int) (k : Int) : ∀ (p : List Int), pei (p.map (k * ·)) x = k * pei p x
  | [] => by rw [List.map_nil, pei_nil]; omega
  | c :: p => by rw [List.map_cons, pei_cons, pei_cons, pei_map x k p]; grind
theorem pei_rmul (x : Int) (q : List Int) : ∀ (p : List Int), pei (rmul p q) x = pei p x * pei q x
  | [] => by rw [rmul, pei_nil]; omega
  | c :: p => by
    rw [rmul, pei_padd, pei_map, pei_cons, pei_rmul x q p, pei_cons]
    grind
theorem pei_zero (x : Int) : ∀ (p : List Int), (∀ i, cf p i = 0) → pei p x = 0
  | [], _ => rfl
  | c :: p, h => by
    have h0 : c = 0 := h 0
    rw [pei_cons, pei_zero x p fun i => h (i + 1), h0]
    omega
theorem pei_ext (x : Int) : ∀ (p q : List Int), (∀ i, cf p i = cf q i) → pei p x = pei q x
  | [], q, h => (pei_zero x q fun i => (h i).symm.trans (cf_nil i)).symm
  | a :: p, [], h => pei_zero x _ fun i => (h i).trans (cf_nil i)
  | a :: p, b :: q, h => by
    have h0 : a = b := h 0
    rw [pei_cons, pei_cons, h0, pei_ext x p q fun i => h (i + 1)]
theorem pei_trim (p : List Int) (x : Int) : pei (trim p) x = pei p x := pei_ext x _ _ (cf_trim p)
theorem pei_pplus (p q : List Int) (x : Int) : pei (pplus p q) x = pei p x + pei q x := by
  rw [← pei_padd]
  exact pei_ext x _ _ fun i => by rw [cf_pplus, cf_padd]
theorem pei_pmul (p q : List Int) (x : Int) : pei (pmul p q) x = pei p x * pei q x := by
  rw [← pei_rmul]
  exact pei_ext x _ _ fun i => by rw [cf_pmul, cf_rmul]
theorem pei_pby (k : Int) (p : List Int) (x : Int) : pei (pby k p) x = k * pei p x := by
  unfold pby
  split
  · rename_i h; rw [h, pei_nil]; omega
  · exact pei_map x k p
/-- the same at all integers: the same -/
theorem pei_inj {p q : List Int} (hp : Nrm p) (hq : Nrm q) (h : ∀ n, pei p n = pei q n) : p = q := by
  refine ext hp hq fun i => ?_
  have z := pei_big (p := pplus p (pby (-1) q)) (N := 0) (fun n _ => by rw [pei_pplus, pei_pby, h n]; omega) i
  rw [cf_pplus] at z
  have : cf (pby (-1) q) i = -1 * cf q i := by
    unfold pby
    rw [if_neg (by decide)]
    exact cf_map _ (by decide) q i
  rw [this] at z
  omega
theorem nrm_pby' {k : Int} {p : List Int} (h : Nrm p) : Nrm (pby k p) := by
  unfold pby
  split
  · exact nrm_nil
  · rename_i hk
    refine nrm_of_top fun ne => ?_
    have hp : p ≠ [] := fun e => ne (by rw [e]; rfl)
    rw [List.length_map, cf_map _ (Int.mul_zero k)]
    exact Int.mul_ne_zero hk (nrm_top h hp)
theorem cf_pby (k : Int) (p : List Int) (i : Nat) : cf (pby k p) i = k * cf p i := by
  unfold pby
  split
  · rename_i h; rw [h, cf_nil]; omega
  · exact cf_map _ (Int.mul_zero k) p i
theorem pby_length {k : Int} {p : List Int} (hk : k ≠ 0) : (pby k p).length = p.length := by
  unfold pby; rw [if_neg hk, List.length_map]
theorem pby_len' (k : Int) (p : List Int) : (pby k p).length ≤ p.length := by
  unfold pby
  split
  · exact Nat.zero_le _
  · rw [List.length_map]; exact Nat.le_refl _
theorem pmul_length {p q : List Int} (hp : p ≠ []) (hq : q ≠ []) : (pmul p q).length = p.length + q.length - 1 := by
  unfold pmul; rw [if_neg (fun z => z.elim hp hq)]; simp
theorem pmul_zero {p q : List Int} (h : pmul p q = []) : p = [] ∨ q = [] := by
  by_cases a : p = []
  · exact .inl a
  · by_cases b : q = []
    · exact .inr b
    · have := congrArg List.length h
      rw [pmul_length a b] at this
      have h1 := List.length_pos_iff.mpr a
      have h2 := List.length_pos_iff.mpr b
      simp at this
      omega
/-! ### division with a multiple -/
structure Pdv (p d : List Int) (t : Int) (q r : List Int) : Prop where
  ht : t ≠ 0
  hq : Nrm q
  hr : Nrm r
  hl : r.length < d.length
  he : ∀ n, t * pei p n = pei q n * pei d n + pei r n
theorem Pdv.uniq {p d q r q' r' : List Int} {t t' : Int} (hd : Nrm d) (a : Pdv p d t q r) (b : Pdv p d t' q' r') : pby t' q = pby t q' ∧ pby t' r = pby t r' := by
  have ne : d ≠ [] := fun e => by have := a.hl; rw [e] at this; simp at this
  have e : pmul (pplus (pby t' q) (pby (-t) q')) d = pplus (pby t r') (pby (-t') r) := by
    refine pei_inj (nrm_pmul (nrm_pplus _ _) hd) (nrm_pplus _ _) fun n => ?_
    rw [pei_pmul, pei_pplus, pei_pplus, pei_pby, pei_pby, pei_pby, pei_pby]
    have h1 := a.he n
    have h2 := b.he n
    grind
  have z : pplus (pby t' q) (pby (-t) q') = [] := by
    by_cases z : pplus (pby t' q) (pby (-t) q') = []
    · exact z
    · exfalso
      have l1 := congrArg List.length e
      rw [pmul_length z ne] at l1
      have l2 := pplus_len (pby t r') (pby (-t') r)
      have l3 := pby_len' t r'
      have l4 := pby_len' (-t') r
      have l5 := a.hl
      have l6 := b.hl
      have l7 := List.length_pos_iff.mpr z
      omega
  have z2 : pplus (pby t r') (pby (-t') r) = [] := by
    rw [← e, z]; unfold pmul; rw [if_pos (.inl rfl)]
  refine ⟨pei_inj (nrm_pby' a.hq) (nrm_pby' b.hq) fun n => ?_, pei_inj (nrm_pby' a.hr) (nrm_pby' b.hr) fun n => ?_⟩
  · have := congrArg (fun l => pei l n) z
    simp only [pei_pplus, pei_pby, pei_nil] at this
    rw [pei_pby, pei_pby]
    grind
  · have := congrArg (fun l => pei l n) z2
    simp only [pei_pplus, pei_pby, pei_nil] at this
    rw [pei_pby, pei_pby]
    grind
/-! ### primitive parts -/
theorem foldl_gcd_scale (k : Int) : ∀ (p : List Int) (g : Nat), (p.map (k * ·)).foldl (fun g c => Int.gcd (g : Int) c) (k.natAbs * g) = k.natAbs * p.foldl (fun g c => Int.gcd (g : Int) c) g
  | [], g => rfl
  | c :: p, g => by
    rw [List.map_cons, List.foldl_cons, List.foldl_cons, ← foldl_gcd_scale k p]
    congr 1
    show Int.gcd ((k.natAbs * g : Nat) : Int) (k * c) = k.natAbs * Int.gcd (g : Int) c
    show Nat.gcd ((k.natAbs * g : Nat) : Int).natAbs (k * c).natAbs = k.natAbs * Nat.gcd ((g : Int).natAbs) c.natAbs
    rw [Int.natAbs_natCast, Int.natAbs_natCast, Int.natAbs_mul, Nat.gcd_mul_left]
theorem pcon_scale (k : Int) (p : List Int) : pcon (p.map (k * ·)) = k.natAbs * pcon p := by
  unfold pcon
  have := foldl_gcd_scale k p 0
  rw [Nat.mul_zero] at this
  exact this
theorem pcon_pby (k : Int) (p : List Int) : pcon (pby k p) = k.natAbs * pcon p := by
  unfold pby
  split
  · rename_i h; subst h; simp [pcon]
  · exact pcon_scale k p
/-- the share by which plow divides -/
def psh (p : List Int) : Int := if cf p (p.length - 1) > 0 then (pcon p : Int) else 0 - (pcon p : Int)
theorem pcon_ne {p : List Int} (hn : Nrm p) (h : p ≠ []) : pcon p ≠ 0 := fun e => by
  have hl : 0 < p.length := List.length_pos_iff.mpr h
  have := pcon_zero e _ (List.getElem_mem (show p.length - 1 < p.length by omega))
  rw [← cf_lt (by omega)] at this
  exact nrm_top hn h this
theorem psh_ne {p : List Int} (hn : Nrm p) (h : p ≠ []) : psh p ≠ 0 := by
  have := pcon_ne hn h
  unfold psh
  split <;> omega
theorem psh_dvd (p : List Int) (i : Nat) : psh p ∣ cf p i := by
  by_cases l : i < p.length
  · have := (pcon_dvd p 0).2 (cf p i) (by rw [cf_lt l]; exact List.getElem_mem _)
    unfold psh
    split
    · exact this
    · rw [Int.zero_sub]; exact Int.neg_dvd.mpr this
  · rw [cf_ge (by omega)]; exact Int.dvd_zero _
theorem plow_nil : plow [] = [] := rfl
theorem plow_len (p : List Int) : (plow p).length = p.length := by
  unfold plow
  split
  · rename_i h; rw [h]
  · rw [List.length_map]
theorem cf_plow (p : List Int) (i : Nat) : psh p * cf (plow p) i = cf p i := by
  by_cases h : p = []
  · subst h; rw [plow_nil, cf_nil]; omega
  · have e : plow p = p.map fun c => c.fdiv (psh p) := by unfold plow; rw [if_neg h]; rfl
    rw [e, cf_map (fun c => c.fdiv (psh p)) (Int.zero_fdiv _), Int.fdiv_eq_ediv_of_dvd (psh_dvd p i)]
    exact Int.mul_ediv_cancel' (psh_dvd p i)
theorem pby_plow (p : List Int) (hn : Nrm p) : pby (psh p) (plow p) = p := by
  refine ext (nrm_of_top fun ne => ?_) hn fun i => by rw [cf_pby, cf_plow]
  have hp : p ≠ [] := fun e => ne (by rw [e]; unfold pby; split <;> rfl)
  rw [cf_pby, cf_plow, pby_length (psh_ne hn hp), plow_len]
  exact nrm_top hn hp
theorem nrm_plow {p : List Int} (hn : Nrm p) : Nrm (plow p) := by
  refine nrm_of_top fun ne => ?_
  have hp : p ≠ [] := fun e => ne (by rw [e]; rfl)
  intro z
  have := cf_plow p ((plow p).length - 1)
  rw [z, Int.mul_zero, plow_len] at this
  exact nrm_top hn hp this.symm
/-- polys that are multiples of one another by integers have one lowest one -/
theorem plow_scale {p q : List Int} {k l : Int} (hp : Nrm p) (hq : Nrm q) (hk : k ≠ 0) (hl : l ≠ 0) (h : pby k p = pby l q) : plow p = plow q := by
  by_cases e : p = []
  · subst e
    have : pby l q = [] := by rw [← h]; unfold pby; split <;> rfl
    have l1 := congrArg List.length this
    rw [pby_length hl] at l1
    rw [List.eq_nil_of_length_eq_zero l1]
  · have len : p.length = q.length := by
      have := congrArg List.length h
      rwa [pby_length hk, pby_length hl] at this
    have e2 : q ≠ [] := fun z => by
      rw [z] at len
      exact e (List.eq_nil_of_length_eq_zero len)
    have hc : ∀ i, k * cf p i = l * cf q i := fun i => by
      have := congrArg (fun z => cf z i) h
      simpa only [cf_pby] using this
    have hcon : k.natAbs * pcon p = l.natAbs * pcon q := by
      have := congrArg pcon h
      rwa [pcon_pby, pcon_pby] at this
    have p1 := pcon_ne hp e
    have q1 := pcon_ne hq e2
    -- the signed shares go along
    have sg : k * psh p = l * psh q := by
      have t := hc (p.length - 1)
      have tp := nrm_top hp e
      have tq := nrm_top hq e2
      rw [← len] at tq
      have hcon2 : (k.natAbs : Int) * (pcon p : Int) = (l.natAbs : Int) * (pcon q : Int) := by exact_mod_cast hcon
      have sp : ∀ {w : List Int}, cf w (w.length - 1) ≠ 0 → psh w = (cf w (w.length - 1)).sign * (pcon w : Int) := fun {w} h => by
        unfold psh
        rcases Int.lt_or_gt_of_ne h with z | z
        · rw [if_neg (by omega), Int.sign_eq_neg_one_of_neg z]; omega
        · rw [if_pos z, Int.sign_eq_one_of_pos z]; omega
      have key : ∀ (k a C : Int), k * (a.sign * C) = (k * a).sign * (k.natAbs * C) := fun k a C => by
        have := Int.sign_mul_natAbs k
        rw [Int.sign_mul]
        generalize k.sign = x at this ⊢
        generalize (k.natAbs : Int) = y at this ⊢
        generalize a.sign = z
        rw [← this]
        grind
      rw [sp tp, sp (by rw [← len]; exact tq), ← len, key, key, t, hcon2]
    refine ext (nrm_plow hp) (nrm_plow hq) fun i => ?_
    have e3 : k * psh p * cf (plow p) i = k * psh p * cf (plow q) i := by
      rw [Int.mul_assoc, cf_plow, sg, Int.mul_assoc, cf_plow, hc]
    exact Int.eq_of_mul_eq_mul_left (Int.mul_ne_zero hk (psh_ne hp e)) e3
end PM

/-! M4: division exists; common divisors by Euclid's way; multipliers. -/
namespace PM
/-- c * x ^ m -/
def mono (m : Nat) (c : Int) : List Int := List.replicate m 0 ++ [c]
theorem mono_len (m : Nat) (c : Int) : (mono m c).length = m + 1 := by unfold mono; simp
theorem nrm_mono {m : Nat} {c : Int} (h : c ≠ 0) : Nrm (mono m c) := fun d hd => by
  unfold mono at hd
  rw [List.getLast?_append, List.getLast?_singleton] at hd
  simp at hd
  rw [← hd]; exact h
theorem cf_mono (m : Nat) (c : Int) (i : Nat) : cf (mono m c) i = if i = m then c else 0 := by
  unfold mono
  by_cases h : i < m
  · rw [cf_lt (by simp; omega), List.getElem_append_left (by simpa using h), if_neg (by omega)]; simp
  · by_cases e : i = m
    · subst e
      rw [cf_lt (by simp), List.getElem_append_right (by simp), if_pos rfl]; simp
    · rw [cf_ge (by simp; omega), if_neg e]
theorem conv_mono (m : Nat) (c : Int) (d : List Int) (n : Nat) : conv (mono m c) d n = if m ≤ n then c * cf d (n - m) else 0 := by
  unfold conv
  by_cases h : m ≤ n
  · rw [if_pos h, sumN_one (k := m) (by omega) fun i hi ne => by rw [cf_mono, if_neg ne, Int.zero_mul], cf_mono, if_pos rfl]
  · rw [if_neg h]
    exact sumN_zero fun i hi => by rw [cf_mono, if_neg (by omega), Int.zero_mul]
/-- one step of the division: the top goes -/
theorem step_len {r d : List Int} {b s : Int} (hr : Nrm r) (hd : Nrm d) (ne : d ≠ []) (hl : d.length ≤ r.length) (h : b * cf r (r.length - 1) = s * cf d (d.length - 1)) :
    (pplus (pby b r) (pby (-1) (pmul (mono (r.length - d.length) s) d))).length < r.length := by
  have ld := List.length_pos_iff.mpr ne
  have l0 : (pplus (pby b r) (pby (-1) (pmul (mono (r.length - d.length) s) d))).length ≤ r.length := by
    refine Nat.le_trans (pplus_len _ _) ?_
    have a := pby_len' b r
    have c := pby_len' (-1) (pmul (mono (r.length - d.length) s) d)
    have e : (pmul (mono (r.length - d.length) s) d).length ≤ r.length := by
      rw [pmul_length (fun z => by have := congrArg List.length z; rw [mono_len] at this; cases this) ne, mono_len]; omega
    omega
  rcases Nat.lt_or_eq_of_le l0 with z | z
  · exact z
  · exfalso
    have hne : pplus (pby b r) (pby (-1) (pmul (mono (r.length - d.length) s) d)) ≠ [] := fun e => by rw [e] at z; simp at z; omega
    have t := nrm_top (nrm_pplus _ _) hne
    rw [z, cf_pplus, cf_pby, cf_pby, cf_pmul, conv_mono, if_pos (by omega)] at t
    have e : r.length - 1 - (r.length - d.length) = d.length - 1 := by omega
    rw [e] at t
    omega
theorem pdv_step {p d q r : List Int} {t b s : Int} (e : ∀ n, t * pei p n = pei q n * pei d n + pei r n) (m : Nat) :
    ∀ n, (t * b) * pei p n = pei (pplus (pby b q) (mono m s)) n * pei d n + pei (pplus (pby b r) (pby (-1) (pmul (mono m s) d))) n := fun n => by
  have := e n
  rw [pei_pplus, pei_pby, pei_pplus, pei_pby, pei_pby, pei_pmul]
  grind
theorem pdv_ex {d : List Int} (hd : Nrm d) (ne : d ≠ []) (p : List Int) (hp : Nrm p) : ∃ t q r, Pdv p d t q r := by
  have ld := List.length_pos_iff.mpr ne
  have key : ∀ (k : Nat) (t : Int) (q r : List Int), r.length < k → t ≠ 0 → Nrm q → Nrm r → (∀ n, t * pei p n = pei q n * pei d n + pei r n) → ∃ t q r, Pdv p d t q r := by
    intro k
    induction k with
    | zero => intro t q r h; omega
    | succ k ih =>
      intro t q r hk ht hq hr e
      by_cases l : r.length < d.length
      · exact ⟨t, q, r, ht, hq, hr, l, e⟩
      · have hl : d.length ≤ r.length := by omega
        refine ih (t * cf d (d.length - 1)) _ _ ?_ (Int.mul_ne_zero ht (nrm_top hd ne)) (nrm_pplus _ _) (nrm_pplus _ _) (pdv_step e (b := cf d (d.length - 1)) (s := cf r (r.length - 1)) (r.length - d.length))
        have := step_len (b := cf d (d.length - 1)) (s := cf r (r.length - 1)) hr hd ne hl (Int.mul_comm _ _)
        omega
  exact key (p.length + 1) 1 [] p (by omega) (by decide) nrm_nil hp fun n => by rw [pei_nil]; omega
open Classical in
/-- the lowest rest -/
noncomputable def prem (p d : List Int) : List Int := if h : ∃ r, ∃ t q, Pdv p d t q r then plow h.choose else []
theorem prem_of {p d q r : List Int} {t : Int} (hd : Nrm d) (h : Pdv p d t q r) : prem p d = plow r := by
  have ex : ∃ r, ∃ t q, Pdv p d t q r := ⟨r, t, q, h⟩
  unfold prem
  rw [dif_pos ex]
  obtain ⟨t', q', h'⟩ := ex.choose_spec
  have := (Pdv.uniq hd h' h).2
  exact plow_scale h'.hr h.hr h.ht h'.ht this
theorem prem_len {p d : List Int} (hd : Nrm d) (ne : d ≠ []) (hp : Nrm p) : (prem p d).length < d.length ∧ Nrm (prem p d) := by
  obtain ⟨t, q, r, h⟩ := pdv_ex hd ne p hp
  rw [prem_of hd h, plow_len]
  exact ⟨h.hl, nrm_plow h.hr⟩
theorem pdv_scale {p d q r : List Int} {t k l : Int} (hk : k ≠ 0) (hl : l ≠ 0) (h : Pdv p d t q r) : Pdv (pby k p) (pby l d) (t * l) (pby k q) (pby (k * l) r) where
  ht := Int.mul_ne_zero h.ht hl
  hq := nrm_pby' h.hq
  hr := nrm_pby' h.hr
  hl := by rw [pby_length (Int.mul_ne_zero hk hl), pby_length hl]; exact h.hl
  he := fun n => by
    have := h.he n
    rw [pei_pby, pei_pby, pei_pby, pei_pby]
    grind
theorem plow_pby {k : Int} {p : List Int} (hk : k ≠ 0) (hp : Nrm p) : plow (pby k p) = plow p :=
  plow_scale (k := 1) (l := k) (nrm_pby' hp) hp (by decide) hk (pei_inj (nrm_pby' (nrm_pby' hp)) (nrm_pby' hp) fun n => by rw [pei_pby, Int.one_mul])
theorem prem_scale {p d : List Int} {k l : Int} (hk : k ≠ 0) (hl : l ≠ 0) (hd : Nrm d) (ne : d ≠ []) (hp : Nrm p) : prem (pby k p) (pby l d) = prem p d := by
  obtain ⟨t, q, r, h⟩ := pdv_ex hd ne p hp
  rw [prem_of (nrm_pby' hd) (pdv_scale hk hl h), prem_of hd h, plow_pby (Int.mul_ne_zero hk hl) h.hr]
/-! ### Euclid's way -/
noncomputable def pgF : Nat → List Int → List Int → List Int
  | 0, p, _ => p
  | n + 1, p, q => if q = [] then p else pgF n q (prem p q)
noncomputable def pgcd (p q : List Int) : List Int := pgF (q.length + 1) p q
theorem pgF_more : ∀ (n m : Nat) (p q : List Int), Nrm p → Nrm q → q.length < n → q.length < m → pgF n p q = pgF m p q := by
  intro n
  induction n with
  | zero => intro m p q _ _ h; omega
  | succ n ih =>
    intro m p q hp hq h1 h2
    cases m with
    | zero => omega
    | succ m =>
      by_cases e : q = []
      · rw [pgF, pgF, if_pos e, if_pos e]
      · obtain ⟨l, hn⟩ := prem_len hq e hp
        rw [pgF, pgF, if_neg e, if_neg e]
        exact ih m q (prem p q) hq hn (by omega) (by omega)
theorem pgcd_nil (p : List Int) : pgcd p [] = p := by unfold pgcd; rw [pgF, if_pos rfl]
theorem pgcd_step {p q : List Int} (hp : Nrm p) (hq : Nrm q) (ne : q ≠ []) : pgcd p q = pgcd q (prem p q) := by
  obtain ⟨l, hn⟩ := prem_len hq ne hp
  unfold pgcd
  rw [pgF, if_neg ne]
  exact pgF_more _ _ _ _ hq hn l (by omega)
/-- d divides p, but for an integer -/
def Dvs (d p : List Int) : Prop := ∃ (c : Int) (a : List Int), c ≠ 0 ∧ Nrm a ∧ ∀ n, c * pei p n = pei a n * pei d n
theorem Dvs.refl (p : List Int) : Dvs p p := ⟨1, [1], by decide, fun c h => by cases h; decide, fun n => by rw [pei_cons, pei_nil]; grind⟩
theorem Dvs.comb {g p q s : List Int} {a b : List Int} {c : Int} (h1 : Dvs g p) (h2 : Dvs g q) (hc : c ≠ 0) (e : ∀ n, c * pei s n = pei a n * pei p n + pei b n * pei q n) : Dvs g s := by
  obtain ⟨c1, a1, n1, m1, e1⟩ := h1
  obtain ⟨c2, a2, n2, m2, e2⟩ := h2
  refine ⟨c * (c1 * c2), trim (padd (rmul (pby c2 a) a1) (rmul (pby c1 b) a2)), Int.mul_ne_zero hc (Int.mul_ne_zero n1 n2), nrm_trim _, fun n => ?_⟩
  rw [pei_trim, pei_padd, pei_rmul, pei_rmul, pei_pby, pei_pby]
  have := e n
  have := e1 n
  have := e2 n
  grind
theorem pgcd_main : ∀ (k : Nat) (p q : List Int), q.length < k → Nrm p → Nrm q → Nrm (pgcd p q) ∧ (pgcd p q = [] → p = [] ∧ q = []) ∧ Dvs (pgcd p q) p ∧ Dvs (pgcd p q) q ∧
    ∃ (t : Int) (u v : List Int), t ≠ 0 ∧ ∀ n, t * pei (pgcd p q) n = pei u n * pei p n + pei v n * pei q n := by
  intro k
  induction k with
  | zero => intro p q h; omega
  | succ k ih =>
    intro p q hk hp hq
    by_cases e : q = []
    · subst e
      rw [pgcd_nil]
      refine ⟨hp, fun h => ⟨h, rfl⟩, .refl p, ⟨1, [], by decide, nrm_nil, fun n => by rw [pei_nil]; omega⟩, 1, [1], [], by decide, fun n => ?_⟩
      rw [pei_cons, pei_nil]; grind
    · obtain ⟨l, hn⟩ := prem_len hq e hp
      rw [pgcd_step hp hq e]
      obtain ⟨g1, g2, g3, g4, t, u, v, ht, he⟩ := ih q (prem p q) (by omega) hq hn
      obtain ⟨t2, q2, r2, h⟩ := pdv_ex hq e p hp
      have er := prem_of hq h
      have hr := pby_plow r2 h.hr
      have hpr : ∀ n, t2 * pei p n = pei q2 n * pei q n + psh r2 * pei (prem p q) n := fun n => by
        have z : psh r2 * pei (plow r2) n = pei r2 n := by rw [← pei_pby, hr]
        rw [h.he n, er, z]
      refine ⟨g1, fun z => absurd (g2 z).1 e, ?_, g3, ?_⟩
      · refine Dvs.comb (a := q2) (b := [psh r2]) g3 g4 h.ht fun n => ?_
        rw [hpr n, pei_cons, pei_nil]; grind
      · by_cases z : r2 = []
        · have ez : prem p q = [] := by rw [er, z]; rfl
          refine ⟨t, [], u, ht, fun n => ?_⟩
          have a := he n
          have b : pei (prem p q) n = 0 := by rw [ez]; rfl
          rw [b] at a
          rw [a, pei_nil]; grind
        · have hs := psh_ne h.hr z
          refine ⟨t * psh r2, pby t2 v, trim (padd (pby (psh r2) u) (pby (-1) (rmul v q2))), Int.mul_ne_zero ht hs, fun n => ?_⟩
          have a := he n
          have b := hpr n
          rw [pei_trim, pei_padd, pei_pby, pei_pby, pei_pby, pei_rmul]
          grind
end PM

/-! M5: Gauss, lowest pairs of polys, bounds of divisors by their values. -/
namespace PM
theorem ncd {d : Nat} {x : Int} : (d : Int) ∣ x ↔ d ∣ x.natAbs := by
  have := Int.natAbs_dvd_natAbs (a := (d : Int)) (b := x)
  rw [Int.natAbs_natCast] at this
  exact this.symm
theorem bdp_cf {k : Nat} {p : List Int} (h : ∀ i, Bd k (cf p i)) : BdP k p := fun c hc => by
  obtain ⟨i, hi, e⟩ := List.mem_iff_getElem.mp hc
  rw [← e, ← cf_lt hi]
  exact h i
/-! ### dividing all integers of a product -/
theorem least {P : Nat → Prop} : ∀ (n : Nat), P n → ∃ m, m ≤ n ∧ P m ∧ ∀ k, k < m → ¬ P k := by
  intro n
  induction n using Nat.strongRecOn with
  | _ n ih =>
    intro h
    by_cases e : ∃ k, k < n ∧ P k
    · obtain ⟨k, hk, pk⟩ := e
      obtain ⟨m, h1, h2, h3⟩ := ih k hk pk
      exact ⟨m, by omega, h2, h3⟩
    · exact ⟨n, Nat.le_refl _, h, fun k hk pk => e ⟨k, hk, pk⟩⟩
/-- as primes are -/
structure Pri (d : Nat) : Prop where
  one : 1 < d
  min : ∀ e, 1 < e → e ∣ d → e = d
theorem pri_ex : ∀ {n : Nat}, 1 < n → ∃ d, Pri d ∧ d ∣ n := by
  intro n
  induction n using Nat.strongRecOn with
  | _ n ih =>
    intro h
    by_cases e : ∀ e, 1 < e → e ∣ n → e = n
    · exact ⟨n, ⟨h, e⟩, Nat.dvd_refl _⟩
    · have ⟨k, hk⟩ := Classical.not_forall.mp e
      have ⟨h1, hk⟩ := Classical.not_imp.mp hk
      have ⟨h2, h3⟩ := Classical.not_imp.mp hk
      have := Nat.le_of_dvd (by omega) h2
      obtain ⟨d, p, hd⟩ := ih k (by omega) h1
      exact ⟨d, p, Nat.dvd_trans hd h2⟩
theorem Pri.mul {d : Nat} (p : Pri d) {x y : Int} (h : (d : Int) ∣ x * y) : (d : Int) ∣ x ∨ (d : Int) ∣ y := by
  have h : d ∣ x.natAbs * y.natAbs := by
    have := Int.natAbs_dvd_natAbs.mpr h
    rwa [Int.natAbs_mul, Int.natAbs_natCast] at this
  have l : Nat.gcd d x.natAbs ∣ d := Nat.gcd_dvd_left ..
  have r : Nat.gcd d x.natAbs ∣ x.natAbs := Nat.gcd_dvd_right ..
  have d0 := p.one
  by_cases e : Nat.gcd d x.natAbs = 1
  · right
    have := Nat.Coprime.dvd_of_dvd_mul_left (k := d) (m := x.natAbs) (n := y.natAbs) e h
    exact ncd.mpr this
  · left
    have g0 : Nat.gcd d x.natAbs ≠ 0 := fun z => by rw [Nat.gcd_eq_zero_iff] at z; omega
    rw [p.min _ (by omega) l] at r
    exact ncd.mpr r
theorem dvd_but {d : Int} {f : Nat → Int} {k : Nat} : ∀ {n : Nat}, (∀ i, i < n → i ≠ k → d ∣ f i) → k < n → d ∣ sumN n f - f k := by
  intro n
  induction n with
  | zero => intro _ h; omega
  | succ n ih =>
    intro h hk
    rw [sumN]
    by_cases e : k = n
    · subst e
      have : ∀ m, m ≤ k → d ∣ sumN m f := by
        intro m
        induction m with
        | zero => intro _; exact Int.dvd_zero _
        | succ m ih => intro hm; rw [sumN]; exact Int.dvd_add (ih (by omega)) (h m (by omega) (by omega))
      have e2 : sumN k f + f k - f k = sumN k f := by omega
      rw [e2]
      exact this k (Nat.le_refl _)
    · have e2 : sumN n f + f n - f k = (sumN n f - f k) + f n := by omega
      rw [e2]
      exact Int.dvd_add (ih (fun i hi => h i (by omega)) (by omega)) (h n (by omega) (fun z => e z.symm))
theorem gauss {d : Nat} (pd : Pri d) {p q : List Int} (h : ∀ n, (d : Int) ∣ conv p q n) : (∀ i, (d : Int) ∣ cf p i) ∨ ∀ i, (d : Int) ∣ cf q i := by
  by_cases hp : ∀ i, (d : Int) ∣ cf p i
  · exact .inl hp
  by_cases hq : ∀ i, (d : Int) ∣ cf q i
  · exact .inr hq
  exfalso
  obtain ⟨i, hi⟩ := Classical.not_forall.mp hp
  obtain ⟨j, hj⟩ := Classical.not_forall.mp hq
  obtain ⟨i, _, hi, mi⟩ := least (P := fun i => ¬ (d : Int) ∣ cf p i) i hi
  obtain ⟨j, _, hj, mj⟩ := least (P := fun i => ¬ (d : Int) ∣ cf q i) j hj
  have a := h (i + j)
  have b : (d : Int) ∣ conv p q (i + j) - cf p i * cf q (i + j - i) := dvd_but (f := fun k => cf p k * cf q (i + j - k)) (fun k hk ne => by
    by_cases l : k < i
    · exact Int.dvd_mul_of_dvd_left (Classical.not_not.mp (mi k l))
    · exact Int.dvd_mul_of_dvd_right (Classical.not_not.mp (mj (i + j - k) (by omega)))) (by omega)
  have c : (d : Int) ∣ cf p i * cf q (i + j - i) := by
    have := Int.dvd_sub a b
    have e : conv p q (i + j) - (conv p q (i + j) - cf p i * cf q (i + j - i)) = cf p i * cf q (i + j - i) := by omega
    rwa [e] at this
  have e : i + j - i = j := by omega
  rw [e] at c
  exact (pd.mul c).elim hi hj
theorem dvd_pcon {d : Nat} {p : List Int} (h : ∀ i, (d : Int) ∣ cf p i) : d ∣ pcon p := by
  unfold pcon
  have : ∀ (l : List Int) (g : Nat), d ∣ g → (∀ c ∈ l, (d : Int) ∣ c) → d ∣ l.foldl (fun g c => Int.gcd (g : Int) c) g := by
    intro l
    induction l with
    | nil => intro g hg _; exact hg
    | cons c l ih =>
      intro g hg hl
      rw [List.foldl_cons]
      refine ih _ ?_ fun x hx => hl x (List.mem_cons_of_mem _ hx)
      have h1 : d ∣ c.natAbs := ncd.mp (hl c List.mem_cons_self)
      show d ∣ Nat.gcd (Int.natAbs (g : Int)) c.natAbs
      rw [Int.natAbs_natCast]
      exact Nat.dvd_gcd hg h1
  refine this p 0 (Nat.dvd_zero _) fun c hc => ?_
  obtain ⟨i, hi, e⟩ := List.mem_iff_getElem.mp hc
  rw [← e, ← cf_lt hi]
  exact h i
theorem pcon_dvd_cf (p : List Int) (i : Nat) : (pcon p : Int) ∣ cf p i := by
  by_cases l : i < p.length
  · exact (pcon_dvd p 0).2 _ (by rw [cf_lt l]; exact List.getElem_mem _)
  · rw [cf_ge (by omega)]; exact Int.dvd_zero _
/-! ### lowest pairs -/
structure Low (t b : List Int) : Prop where
  nt : Nrm t
  nb : Nrm b
  ne : b ≠ []
  top : 0 < cf b (b.length - 1)
  con : Nat.gcd (pcon t) (pcon b) = 1
  cop : ∃ u v : List Int, ∃ n : Int, n ≠ 0 ∧ ∀ x, pei u x * pei t x + pei v x * pei b x = n
theorem pei_eq {p q : List Int} (hp : Nrm p) (hq : Nrm q) (h : ∀ x, pei p x = pei q x) (i : Nat) : cf p i = cf q i := by rw [pei_inj hp hq h]
/-- all integers divided -/
def pdiv (d : Int) (p : List Int) : List Int := p.map fun c => c / d
theorem pei_pdiv {d : Int} {p : List Int} (h : ∀ i, d ∣ cf p i) (x : Int) : d * pei (pdiv d p) x = pei p x := by
  have e : pei (pby d (pdiv d p)) x = pei p x := pei_ext x _ _ fun i => by
    rw [cf_pby]
    unfold pdiv
    rw [cf_map (fun c => c / d) (Int.zero_ediv _)]
    exact Int.mul_ediv_cancel' (h i)
  rw [← pei_pby, e]
theorem low_step {t b T B : List Int} (con : Nat.gcd (pcon t) (pcon b) = 1) : ∀ (N : Nat) (n : Int) (h : List Int), n.natAbs = N → n ≠ 0 → (∀ x, n * pei T x = pei h x * pei t x) → (∀ x, n * pei B x = pei h x * pei b x) →
    ∃ h', (∀ x, pei T x = pei h' x * pei t x) ∧ ∀ x, pei B x = pei h' x * pei b x := by
  intro N
  induction N using Nat.strongRecOn with
  | _ N ih =>
    intro n h hN n0 e1 e2
    by_cases hn : N = 1
    · refine ⟨pby n h, fun x => ?_, fun x => ?_⟩
      · have := e1 x
        have nn : n * n = 1 := by
          rcases Int.natAbs_eq n with z | z <;> rw [z, hN, hn] <;> decide
        rw [pei_pby, Int.mul_assoc, ← this, ← Int.mul_assoc, nn, Int.one_mul]
      · have := e2 x
        have nn : n * n = 1 := by
          rcases Int.natAbs_eq n with z | z <;> rw [z, hN, hn] <;> decide
        rw [pei_pby, Int.mul_assoc, ← this, ← Int.mul_assoc, nn, Int.one_mul]
    · obtain ⟨d, pd, dn⟩ := pri_ex (n := N) (by omega)
      have dn' : (d : Int) ∣ n := ncd.mpr (by rw [hN]; exact dn)
      have key : ∀ {s S : List Int}, (∀ x, n * pei S x = pei h x * pei s x) → ∀ i, (d : Int) ∣ conv h s i := fun {s S} e i => by
        have z := pei_eq (p := trim (pby n S)) (q := trim (pmul h s)) (nrm_trim _) (nrm_trim _) (fun x => by rw [pei_trim, pei_trim, pei_pby, pei_pmul]; exact e x) i
        rw [cf_trim, cf_trim, cf_pby, cf_pmul] at z
        rw [← z]
        exact Int.dvd_mul_of_dvd_left dn'
      have dh : ∀ i, (d : Int) ∣ cf h i := by
        rcases gauss pd (key e1) with z | z1
        · exact z
        rcases gauss pd (key e2) with z | z2
        · exact z
        exfalso
        have := Nat.dvd_gcd (dvd_pcon z1) (dvd_pcon z2)
        rw [con] at this
        have := Nat.le_of_dvd (by decide) this
        have := pd.one
        omega
      obtain ⟨n', hn'⟩ := dn'
      have d0 : (d : Int) ≠ 0 := by have := pd.one; omega
      have n0' : n' ≠ 0 := fun z => n0 (by rw [hn', z, Int.mul_zero])
      have lt : n'.natAbs < N := by
        rw [← hN, hn', Int.natAbs_mul, Int.natAbs_natCast]
        have := pd.one
        have : 0 < n'.natAbs := by omega
        have : 2 * n'.natAbs ≤ d * n'.natAbs := Nat.mul_le_mul_right _ pd.one
        omega
      refine ih _ lt n' (pdiv d h) rfl n0' (fun x => ?_) fun x => ?_
      · refine Int.eq_of_mul_eq_mul_left d0 ?_
        rw [← Int.mul_assoc, ← hn', e1, ← pei_pdiv dh, Int.mul_assoc]
      · refine Int.eq_of_mul_eq_mul_left d0 ?_
        rw [← Int.mul_assoc, ← hn', e2, ← pei_pdiv dh, Int.mul_assoc]
/-- what is led crosswise by a lowest pair is a multiple of it -/
theorem low_fac {t b T B : List Int} (L : Low t b) (h : ∀ x, pei t x * pei B x = pei T x * pei b x) : ∃ s, Nrm s ∧ (∀ x, pei T x = pei s x * pei t x) ∧ ∀ x, pei B x = pei s x * pei b x := by
  obtain ⟨u, v, n, n0, e⟩ := L.cop
  obtain ⟨s, h1, h2⟩ := low_step (T := T) (B := B) L.con _ n (pplus (pmul u T) (pmul v B)) rfl n0 (fun x => by
      have b : pei v x * (pei t x * pei B x) = pei v x * (pei T x * pei b x) := by rw [h x]
      rw [pei_pplus, pei_pmul, pei_pmul, ← e x]; grind) fun x => by
      have b : pei u x * (pei t x * pei B x) = pei u x * (pei T x * pei b x) := by rw [h x]
      rw [pei_pplus, pei_pmul, pei_pmul, ← e x]; grind
  exact ⟨trim s, nrm_trim _, fun x => by rw [pei_trim]; exact h1 x, fun x => by rw [pei_trim]; exact h2 x⟩
theorem low_uniq {t b t' b' : List Int} (L : Low t b) (L' : Low t' b') (h : ∀ x, pei t x * pei b' x = pei t' x * pei b x) : t = t' ∧ b = b' := by
  obtain ⟨s, ns, h1, h2⟩ := low_fac L h
  obtain ⟨u, v, n, n0, e⟩ := L'.cop
  have es : pmul s (pplus (pmul u t) (pmul v b)) = [n] := pei_inj (nrm_pmul ns (nrm_pplus _ _)) (fun c hc => by cases hc; exact n0) fun x => by
    have a := e x; have b := h1 x; have c := h2 x
    rw [pei_pmul, pei_pplus, pei_pmul, pei_pmul, pei_cons, pei_nil]; grind
  have ls : s.length = 1 := by
    have l := congrArg List.length es
    have a1 : s ≠ [] := fun z => by rw [z] at es; unfold pmul at es; rw [if_pos (.inl rfl)] at es; cases es
    have a2 : pplus (pmul u t) (pmul v b) ≠ [] := fun z => by rw [z] at es; unfold pmul at es; rw [if_pos (.inr rfl)] at es; cases es
    rw [pmul_length a1 a2] at l
    have := List.length_pos_iff.mpr a1
    have := List.length_pos_iff.mpr a2
    have : [n].length = 1 := rfl
    omega
  obtain ⟨c, rfl⟩ := List.length_eq_one_iff.mp ls
  have c0 : c ≠ 0 := ns c rfl
  have e1 : t' = pby c t := pei_inj L'.nt (nrm_pby' L.nt) fun x => by rw [h1, pei_cons, pei_nil, pei_pby]; grind
  have e2 : b' = pby c b := pei_inj L'.nb (nrm_pby' L.nb) fun x => by rw [h2, pei_cons, pei_nil, pei_pby]; grind
  have cc : c.natAbs = 1 := by
    have z := L'.con
    rw [e1, e2, pcon_pby, pcon_pby, Nat.gcd_mul_left, L.con] at z
    omega
  have pos := L'.top
  rw [e2, pby_length c0, cf_pby] at pos
  have := L.top
  have c1 : c = 1 := by
    rcases Int.natAbs_eq c with z | z
    · rw [cc] at z; exact z
    · rw [cc] at z
      rw [z] at pos
      have : (-((1 : Nat) : Int)) * cf b (b.length - 1) = -(cf b (b.length - 1)) := by omega
      omega
  subst c1
  refine ⟨pei_inj L.nt L'.nt fun x => by rw [e1, pei_pby]; omega, pei_inj L.nb L'.nb fun x => by rw [e2, pei_pby]; omega⟩
/-! ### values at integers -/
/-- (p less its value at a) divided by (x - a) -/
def sdv (a : Int) : List Int → List Int
  | [] => []
  | _ :: p => if p = [] then [] else pei p a :: sdv a p
theorem sdv_len (a : Int) : ∀ p : List Int, (sdv a p).length = p.length - 1
  | [] => rfl
  | c :: p => by
    rw [sdv]
    split
    · rename_i h; subst h; rfl
    · rename_i h
      rw [List.length_cons, sdv_len a p, List.length_cons]
      have := List.length_pos_iff.mpr h
      omega
theorem pei_sdv (a x : Int) : ∀ p : List Int, (x - a) * pei (sdv a p) x = pei p x - pei p a
  | [] => by simp only [sdv, pei_nil]; omega
  | c :: p => by
    rw [sdv]
    split
    · rename_i h; subst h; rw [pei_nil, pei_cons, pei_cons, pei_nil, pei_nil]; omega
    · have ih := pei_sdv a x p
      rw [pei_cons, pei_cons, pei_cons]; grind
theorem cf_sdv0 (a : Int) : ∀ p : List Int, cf p 0 = pei p a - a * cf (sdv a p) 0
  | [] => by rw [sdv, pei_nil, cf_nil]; omega
  | c :: p => by
    rw [sdv]
    split
    · rename_i h; subst h; rw [cf_cons_zero, cf_nil, pei_cons, pei_nil]; omega
    · rw [cf_cons_zero, cf_cons_zero, pei_cons]; omega
theorem cf_sdv (a : Int) : ∀ (p : List Int) (i : Nat), cf p (i + 1) = cf (sdv a p) i - a * cf (sdv a p) (i + 1)
  | [], i => by simp only [sdv, cf_nil]; omega
  | c :: p, i => by
    rw [sdv]
    split
    · rename_i h; subst h; rw [cf_cons_succ]; simp only [cf_nil]; omega
    · rw [cf_cons_succ]
      cases i with
      | zero => rw [cf_cons_zero, cf_cons_succ]; exact cf_sdv0 a p
      | succ i => rw [cf_cons_succ, cf_cons_succ]; exact cf_sdv a p i
theorem bd_pei {a k : Nat} {x : Int} (hx : Bd k x) : ∀ {p : List Int}, BdP a p → Bd (a + p.length * (k + 1)) (pei p x)
  | [], _ => by rw [pei_nil]; exact bd_zero
  | c :: p, h => by
    rw [pei_cons, List.length_cons, Nat.add_mul]
    have b := bd_pei hx (p := p) fun c hc => h c (List.mem_cons_of_mem _ hc)
    exact ((((h c List.mem_cons_self).mono (show a ≤ k + (a + p.length * (k + 1)) by omega)).add (hx.mul b))).mono (by omega)
/-- bounded at enough places, bounded as a list -/
theorem bd_vals {k : Nat} : ∀ (xs : List Int) (m : Nat) (p : List Int), xs.Nodup → p.length ≤ xs.length → (∀ x ∈ xs, Bd k x ∧ Bd m (pei p x)) → ∀ i, Bd (m + xs.length * (k + 3)) (cf p i)
  | [], m, p, _, hl, _, i => by
    have : p = [] := List.eq_nil_of_length_eq_zero (by simpa using hl)
    rw [this, cf_nil]; exact bd_zero
  | a :: xs, m, p, hn, hl, h, i => by
    have hn' := List.nodup_cons.mp hn
    obtain ⟨ha, hv⟩ := h a List.mem_cons_self
    have ih := bd_vals xs (m + 1) (sdv a p) hn'.2 (by rw [sdv_len]; rw [List.length_cons] at hl; omega) fun x hx => by
      obtain ⟨h1, h2⟩ := h x (List.mem_cons_of_mem _ hx)
      refine ⟨h1, ?_⟩
      have e := pei_sdv a x p
      have ne : x - a ≠ 0 := fun z => hn'.1 (by have : x = a := by omega
                                                rw [← this]; exact hx)
      have b : Bd (m + 1) (pei p x - pei p a) := by rw [Int.sub_eq_add_neg]; exact h2.add hv.neg
      rw [← e] at b
      unfold Bd at *
      rw [Int.natAbs_mul] at b
      exact Nat.lt_of_le_of_lt (Nat.le_mul_of_pos_left _ (by omega)) b
    rw [List.length_cons, Nat.add_mul]
    have sub : ∀ {K : Nat} {y z : Int}, Bd K y → Bd K z → Bd (K + 1) (y - z) := fun {K y z} a b => by rw [Int.sub_eq_add_neg]; exact a.add b.neg
    cases i with
    | zero =>
      rw [cf_sdv0 a p]
      exact (sub (hv.mono (show m ≤ k + (m + 1 + xs.length * (k + 3)) by omega)) (ha.mul (ih 0))).mono (by omega)
    | succ i =>
      rw [cf_sdv a p i]
      exact (sub ((ih i).mono (show _ ≤ k + (m + 1 + xs.length * (k + 3)) by omega)) (ha.mul (ih (i + 1)))).mono (by omega)
/-- no more roots than the degree -/
theorem roots_lt : ∀ (xs : List Int) (p : List Int), xs.Nodup → (∀ x ∈ xs, pei p x = 0) → (∃ y, pei p y ≠ 0) → xs.length < p.length
  | [], p, _, _, ⟨y, hy⟩ => by
    cases p with
    | nil => exact absurd rfl hy
    | cons c p => exact Nat.succ_pos _
  | a :: xs, p, hn, h, ⟨y, hy⟩ => by
    have hn' := List.nodup_cons.mp hn
    have ha := h a List.mem_cons_self
    have ih := roots_lt xs (sdv a p) hn'.2 (fun x hx => by
      have e := pei_sdv a x p
      rw [ha, h x (List.mem_cons_of_mem _ hx)] at e
      have ne : x - a ≠ 0 := fun z => hn'.1 (by have : x = a := by omega
                                                rw [← this]; exact hx)
      exact (Int.mul_eq_zero.mp (show (x - a) * pei (sdv a p) x = 0 by omega)).resolve_left ne) ⟨y, fun z => hy (by
      have e := pei_sdv a y p
      rw [z, ha, Int.mul_zero] at e
      omega)⟩
    rw [sdv_len] at ih
    rw [List.length_cons]
    omega
/-- what divides has not much greater integers -/
theorem bd_fac {a L k : Nat} {T s t : List Int} (hL : 2 * L ≤ 2 ^ k) (ne : ∃ y, pei T y ≠ 0) (bT : BdP a T) (lT : T.length ≤ L) (lt : t.length ≤ L) (e : ∀ x, pei T x = pei s x * pei t x) : BdP (a + L * (2 * k + 4)) t := by
  have hn : ((List.range (2 * L)).map fun (i : Nat) => (i : Int)).Nodup := by
    refine List.Pairwise.map _ (fun x y h z => h ?_) List.nodup_range
    exact Int.ofNat.inj z
  generalize hX : ((List.range (2 * L)).map fun (i : Nat) => (i : Int)) = X at hn
  have lX : X.length = 2 * L := by rw [← hX]; simp
  have bX : ∀ x ∈ X, Bd k x := fun x hx => by
    rw [← hX] at hx
    obtain ⟨i, hi, rfl⟩ := List.mem_map.mp hx
    have := List.mem_range.mp hi
    unfold Bd
    rw [Int.natAbs_natCast]
    omega
  have split : ∀ (l : List Int), (l.filter fun x => decide (pei T x = 0)).length + (l.filter fun x => !decide (pei T x = 0)).length = l.length := by
    intro l
    induction l with
    | nil => rfl
    | cons c l ih =>
      rw [List.filter_cons, List.filter_cons, List.length_cons]
      cases decide (pei T c = 0) <;> simp <;> omega
  have s1 := split X
  have r := roots_lt (X.filter fun x => decide (pei T x = 0)) T (hn.filter _) (fun x hx => by have := (List.mem_filter.mp hx).2; simpa using this) ne
  have b := bd_vals (k := k) ((X.filter fun x => !decide (pei T x = 0)).take L) (a + L * (k + 1)) t ((hn.filter _).sublist (List.take_sublist _ _)) (by rw [List.length_take]; omega) fun x hx => by
    have hx := List.mem_filter.mp (List.mem_of_mem_take hx)
    have nz : pei T x ≠ 0 := by simpa using hx.2
    refine ⟨bX x hx.1, ?_⟩
    have v := bd_pei (bX x hx.1) bT
    have v := v.mono (show a + T.length * (k + 1) ≤ a + L * (k + 1) by have : T.length * (k + 1) ≤ L * (k + 1) := Nat.mul_le_mul_right _ lT; omega)
    rw [e x] at v nz
    have s0 : pei s x ≠ 0 := fun z => nz (by rw [z, Int.zero_mul])
    unfold Bd at *
    rw [Int.natAbs_mul] at v
    exact Nat.lt_of_le_of_lt (Nat.le_mul_of_pos_left _ (by omega)) v
  refine bdp_cf fun i => (b i).mono ?_
  rw [List.length_take]
  have h1 : min L (X.filter fun x => !decide (pei T x = 0)).length * (k + 3) ≤ L * (k + 3) := Nat.mul_le_mul_right _ (Nat.min_le_left _ _)
  have h2 : L * (2 * k + 4) = L * (k + 1) + L * (k + 3) := by rw [← Nat.mul_add]; congr 1; omega
  show a + L * (k + 1) + min L (X.filter fun x => !decide (pei T x = 0)).length * (k + 3) ≤ _
  omega
/-! ### more of lowest pairs -/
def Crs (t b T B : List Int) : Prop := ∀ x, pei t x * pei B x = pei T x * pei b x
theorem pei_ne {p : List Int} (hp : Nrm p) (h : p ≠ []) : ∃ y, pei p y ≠ 0 := by
  refine Classical.byContradiction fun z => h (pei_inj hp nrm_nil fun n => ?_)
  rw [pei_nil]
  exact Classical.not_not.mp fun q => z ⟨n, q⟩
theorem pei_cancel {p q B : List Int} (hB : Nrm B) (ne : B ≠ []) (h : ∀ x, pei p x * pei B x = pei q x * pei B x) (x : Int) : pei p x = pei q x := by
  have e : pmul (pplus p (pby (-1) q)) B = [] := pei_inj (nrm_pmul (nrm_pplus _ _) hB) nrm_nil fun y => by
    have := h y
    rw [pei_pmul, pei_pplus, pei_pby, pei_nil]; grind
  rcases pmul_zero e with z | z
  · have := congrArg (fun l => pei l x) z
    simp only [pei_pplus, pei_pby, pei_nil] at this
    omega
  · exact absurd z ne
/-- equal fractions have one lowest pair -/
theorem low_one {t b t' b' T B T' B' : List Int} (L : Low t b) (L' : Low t' b') (nB : Nrm B) (ne : B ≠ []) (nB' : Nrm B') (ne' : B' ≠ []) (h : Crs t b T B) (h' : Crs t' b' T' B') (e : Crs T B T' B') : t = t' ∧ b = b' := by
  refine low_uniq L L' fun x => ?_
  have hBB : Nrm (pmul B B') := nrm_pmul nB nB'
  have nBB : pmul B B' ≠ [] := fun z => (pmul_zero z).elim ne ne'
  have := pei_cancel (p := pmul t b') (q := pmul t' b) hBB nBB (fun x => by
    have a1 := h x
    have a2 := h' x
    have a3 := e x
    rw [pei_pmul, pei_pmul, pei_pmul]
    have c1 : pei t x * pei b' x * (pei B x * pei B' x) = (pei t x * pei B x) * pei b' x * pei B' x := by grind
    have c2 : pei t' x * pei b x * (pei B x * pei B' x) = (pei t' x * pei B' x) * pei b x * pei B x := by grind
    rw [c1, c2, a1, a2]
    have c3 : pei T x * pei b x * pei b' x * pei B' x = (pei T x * pei B' x) * (pei b x * pei b' x) := by grind
    rw [c3, a3]; grind) x
  rw [pei_pmul, pei_pmul] at this
  exact this
theorem low_nought : Low [] [1] := ⟨nrm_nil, fun c hc => by cases hc; decide, by decide, by decide, by decide, [], [1], 1, by decide, fun x => by rw [pei_nil, pei_cons, pei_nil]; omega⟩
/-- bounds of a lowest pair -/
theorem low_bd {t b T B : List Int} {a L k : Nat} (hL : 2 * L ≤ 2 ^ k) (L0 : Low t b) (h : Crs t b T B) (nT : Nrm T) (nB : Nrm B) (ne : B ≠ []) (bT : BdP a T) (bB : BdP a B) (lT : T.length ≤ L) (lB : B.length ≤ L) :
    (BdP (a + L * (2 * k + 4)) t ∧ BdP (a + L * (2 * k + 4)) b) ∧ t.length ≤ max T.length 0 ∧ b.length ≤ B.length := by
  obtain ⟨s, ns, h1, h2⟩ := low_fac L0 h
  have s0 : s ≠ [] := fun z => by
    obtain ⟨y, hy⟩ := pei_ne nB ne
    rw [h2 y, z, pei_nil, Int.zero_mul] at hy
    exact hy rfl
  have sl := List.length_pos_iff.mpr s0
  have e1 : T = pmul s t := pei_inj nT (nrm_pmul ns L0.nt) fun x => by rw [h1, pei_pmul]
  have e2 : B = pmul s b := pei_inj nB (nrm_pmul ns L0.nb) fun x => by rw [h2, pei_pmul]
  have lb : b.length ≤ B.length := by rw [e2, pmul_length s0 L0.ne]; omega
  by_cases z : t = []
  · subst z
    exact ⟨⟨fun c hc => (nomatch hc), bd_fac hL (pei_ne nB ne) bB lB (by omega) h2⟩, Nat.zero_le _, lb⟩
  · have lt : t.length ≤ T.length := by rw [e1, pmul_length s0 z]; omega
    have nT0 : T ≠ [] := fun q => by rw [q] at e1; exact (pmul_zero e1.symm).elim s0 z
    exact ⟨⟨bd_fac hL (pei_ne nT nT0) bT lT (by omega) h1, bd_fac hL (pei_ne nB ne) bB lB (by omega) h2⟩, by omega, lb⟩
end PM

/-! M6: the lowest pair that the ways of the program and of the laws make. -/
namespace PM
theorem over_pm {g : Int} {p : List Int} (hg : g ≠ 0) (np : Nrm p) (h : ∀ i, g ∣ cf p i) : pby g (p.map fun c => c.fdiv g) = p ∧ Nrm (p.map fun c => c.fdiv g) := by
  have hc : ∀ i, g * cf (p.map fun c => c.fdiv g) i = cf p i := fun i => by
    rw [cf_map (fun c => c.fdiv g) (Int.zero_fdiv _), Int.fdiv_eq_ediv_of_dvd (h i)]
    exact Int.mul_ediv_cancel' (h i)
  have hn : Nrm (p.map fun c => c.fdiv g) := by
    refine nrm_of_top fun ne => ?_
    have hp : p ≠ [] := fun e => ne (by rw [e]; rfl)
    intro z
    have := hc ((p.map fun c => c.fdiv g).length - 1)
    rw [z, Int.mul_zero, List.length_map] at this
    exact nrm_top np hp this.symm
  exact ⟨ext (nrm_pby' hn) np fun i => by rw [cf_pby, hc], hn⟩
theorem pcon_plow {p : List Int} (np : Nrm p) (ne : p ≠ []) : pcon (plow p) = 1 := by
  have e := congrArg pcon (pby_plow p np)
  rw [pcon_pby] at e
  have z := pcon_ne np ne
  have a : (psh p).natAbs = pcon p := by
    unfold psh
    split
    · exact Int.natAbs_natCast _
    · rw [Int.zero_sub, Int.natAbs_neg]; exact Int.natAbs_natCast _
  rw [a] at e
  exact Nat.eq_of_mul_eq_mul_left (Nat.pos_of_ne_zero z) (e.trans (Nat.mul_one _).symm)
theorem pcon_pgcd : ∀ (k : Nat) (p q : List Int), q.length < k → Nrm p → Nrm q → (p ≠ [] → pcon p = 1) → (q ≠ [] → pcon q = 1) → (p ≠ [] ∨ q ≠ []) → pcon (pgcd p q) = 1 := by
  intro k
  induction k with
  | zero => intro p q h; omega
  | succ k ih =>
    intro p q hk hp hq h1 h2 h3
    by_cases e : q = []
    · subst e
      rw [pgcd_nil]
      exact h1 (h3.resolve_right fun z => z rfl)
    · obtain ⟨l, hn⟩ := prem_len hq e hp
      rw [pgcd_step hp hq e]
      refine ih q (prem p q) (by omega) hq hn h2 (fun z => ?_) (.inl e)
      obtain ⟨t2, q2, r2, h⟩ := pdv_ex hq e p hp
      rw [prem_of hq h] at z ⊢
      exact pcon_plow h.hr fun y => z (by rw [y]; rfl)
/-- a poly that a lowest one divides -/
theorem dvs_fac {g T : List Int} (hc : pcon g = 1) (h : Dvs g T) : ∃ s, Nrm s ∧ ∀ x, pei T x = pei s x * pei g x := by
  obtain ⟨c, a, c0, na, e⟩ := h
  obtain ⟨s, h1, _⟩ := low_step (t := g) (b := g) (T := T) (B := T) (by rw [hc]; rfl) _ c a rfl c0 e e
  exact ⟨trim s, nrm_trim _, fun x => by rw [pei_trim]; exact h1 x⟩
structure GF (T B g h1 h2 : List Int) : Prop where
  ng : Nrm g
  ge : g ≠ []
  n1 : Nrm h1
  n2 : Nrm h2
  e1 : ∀ x, pei T x = pei h1 x * pei g x
  e2 : ∀ x, pei B x = pei h2 x * pei g x
  ne : h2 ≠ []
  cop : ∃ u v : List Int, ∃ n : Int, n ≠ 0 ∧ ∀ x, pei u x * pei h1 x + pei v x * pei h2 x = n
theorem dvs_low {g p : List Int} (np : Nrm p) (h : Dvs g (plow p)) : Dvs g p := by
  by_cases z : p = []
  · subst z; exact h
  obtain ⟨c, a, c0, na, e⟩ := h
  refine ⟨c, pby (psh p) a, c0, nrm_pby' na, fun n => ?_⟩
  have e2 : pei p n = psh p * pei (plow p) n := by rw [← pei_pby, pby_plow p np]
  have := e n
  rw [e2, pei_pby]; grind
theorem gf_ex {T B : List Int} (nT : Nrm T) (nB : Nrm B) (z : T ≠ []) (ne : B ≠ []) : ∃ h1 h2, GF T B (pgcd (plow T) (plow B)) h1 h2 := by
  obtain ⟨g1, g2, g3, g4, t, u, v, ht, he⟩ := pgcd_main _ (plow T) (plow B) (Nat.lt_succ_self _) (nrm_plow nT) (nrm_plow nB)
  have nb : plow B ≠ [] := fun z => ne (by have := plow_len B; rw [z] at this; exact List.eq_nil_of_length_eq_zero this.symm)
  have ge : pgcd (plow T) (plow B) ≠ [] := fun z => nb (g2 z).2
  have hc : pcon (pgcd (plow T) (plow B)) = 1 := pcon_pgcd _ _ _ (Nat.lt_succ_self _) (nrm_plow nT) (nrm_plow nB)
    (fun z => pcon_plow nT fun y => z (by rw [y]; rfl)) (fun _ => pcon_plow nB ne) (.inr nb)
  obtain ⟨h1, n1, e1⟩ := dvs_fac hc (dvs_low nT g3)
  obtain ⟨h2, n2, e2⟩ := dvs_fac hc (dvs_low nB g4)
  have nh2 : h2 ≠ [] := fun z => by
    obtain ⟨y, hy⟩ := pei_ne nB ne
    rw [e2 y, z, pei_nil, Int.zero_mul] at hy
    exact hy rfl
  have eB : ∀ x, pei B x = psh B * pei (plow B) x := fun x => by rw [← pei_pby, pby_plow B nB]
  have sB := psh_ne nB ne
  refine ⟨h1, h2, g1, ge, n1, n2, e1, e2, nh2, ?_⟩
  generalize hg : pgcd (plow T) (plow B) = g at *
  · have sT := psh_ne nT z
    have eT : ∀ x, pei T x = psh T * pei (plow T) x := fun x => by rw [← pei_pby, pby_plow T nT]
    refine ⟨pby (psh B) u, pby (psh T) v, psh T * psh B * t, Int.mul_ne_zero (Int.mul_ne_zero sT sB) ht, fun x => ?_⟩
    have := pei_cancel (p := pplus (pmul (pby (psh B) u) h1) (pmul (pby (psh T) v) h2)) (q := [psh T * psh B * t]) g1 ge (fun x => by
      have a := he x
      have b1 := e1 x
      have b2 := e2 x
      have c1 := eT x
      have c2 := eB x
      rw [pei_pplus, pei_pmul, pei_pmul, pei_pby, pei_pby, pei_cons, pei_nil]
      have d1 : psh B * pei u x * pei h1 x * pei g x = psh B * pei u x * (psh T * pei (plow T) x) := by rw [← c1, b1]; grind
      have d2 : psh T * pei v x * pei h2 x * pei g x = psh T * pei v x * (psh B * pei (plow B) x) := by rw [← c2, b2]; grind
      have d3 : psh T * psh B * (t * pei g x) = psh T * psh B * (pei u x * pei (plow T) x + pei v x * pei (plow B) x) := by rw [a]
      grind) x
    rw [pei_pplus, pei_pmul, pei_pmul, pei_cons, pei_nil] at this
    rw [this]; omega
/-- both divided by what they share, the bottom's last integer above 0 -/
theorem low_nf {h1 h2 : List Int} (n1 : Nrm h1) (n2 : Nrm h2) (ne : h2 ≠ []) (cop : ∃ u v : List Int, ∃ n : Int, n ≠ 0 ∧ ∀ x, pei u x * pei h1 x + pei v x * pei h2 x = n) {s : Int}
    (hs : s = if 0 < cf h2 (h2.length - 1) then (Nat.gcd (pcon h1) (pcon h2) : Int) else 0 - (Nat.gcd (pcon h1) (pcon h2) : Int)) :
    s ≠ 0 ∧ Low (h1.map fun c => c.fdiv s) (h2.map fun c => c.fdiv s) ∧ Crs (h1.map fun c => c.fdiv s) (h2.map fun c => c.fdiv s) h1 h2 := by
  have z2 := pcon_ne n2 ne
  have g0 : Nat.gcd (pcon h1) (pcon h2) ≠ 0 := fun z => by rw [Nat.gcd_eq_zero_iff] at z; exact z2 z.2
  have sa : s.natAbs = Nat.gcd (pcon h1) (pcon h2) := by
    rw [hs]
    split
    · exact Int.natAbs_natCast _
    · rw [Int.zero_sub, Int.natAbs_neg]; exact Int.natAbs_natCast _
  have s0 : s ≠ 0 := fun z => by rw [z] at sa; exact g0 sa.symm
  have dv : ∀ {p : List Int}, Nat.gcd (pcon h1) (pcon h2) ∣ pcon p → ∀ i, s ∣ cf p i := fun {p} d i => by
    have : (Nat.gcd (pcon h1) (pcon h2) : Int) ∣ cf p i := Int.dvd_trans (Int.natCast_dvd_natCast.mpr d) (pcon_dvd_cf p i)
    rw [← sa] at this
    exact Int.natAbs_dvd.mp this
  obtain ⟨o1, m1⟩ := over_pm s0 n1 (dv (Nat.gcd_dvd_left ..))
  obtain ⟨o2, m2⟩ := over_pm s0 n2 (dv (Nat.gcd_dvd_right ..))
  have ne2 : (h2.map fun c => c.fdiv s) ≠ [] := fun z => ne (List.map_eq_nil_iff.mp z)
  have p1 : ∀ x, s * pei (h1.map fun c => c.fdiv s) x = pei h1 x := fun x => by rw [← pei_pby, o1]
  have p2 : ∀ x, s * pei (h2.map fun c => c.fdiv s) x = pei h2 x := fun x => by rw [← pei_pby, o2]
  refine ⟨s0, ⟨m1, m2, ne2, ?_, ?_, ?_⟩, fun x => ?_⟩
  · have t := nrm_top n2 ne
    have e : s * cf (h2.map fun c => c.fdiv s) (h2.length - 1) = cf h2 (h2.length - 1) := by rw [← cf_pby, o2]
    rw [List.length_map]
    by_cases q : 0 < cf h2 (h2.length - 1)
    · rw [if_pos q] at hs
      have sp : 0 < s := by omega
      rw [← e] at q
      exact Int.not_le.mp fun w => by have := Int.mul_le_mul_of_nonneg_left w (Int.le_of_lt sp); omega
    · rw [if_neg q] at hs
      have sp : s < 0 := by omega
      have q : 0 < (-s) * cf (h2.map fun c => c.fdiv s) (h2.length - 1) := by rw [Int.neg_mul, e]; omega
      exact Int.not_le.mp fun w => by have := Int.mul_le_mul_of_nonneg_left w (show 0 ≤ -s by omega); omega
  · have a : pcon h1 = s.natAbs * pcon (h1.map fun c => c.fdiv s) := by rw [← pcon_pby, o1]
    have b : pcon h2 = s.natAbs * pcon (h2.map fun c => c.fdiv s) := by rw [← pcon_pby, o2]
    have c := sa
    rw [a, b, Nat.gcd_mul_left] at c
    have pos : 0 < s.natAbs := by omega
    exact Nat.eq_of_mul_eq_mul_left pos (by rw [← c, Nat.mul_one])
  · obtain ⟨u, v, n, n0, e⟩ := cop
    refine ⟨pby s u, pby s v, n, n0, fun x => ?_⟩
    have := e x
    rw [pei_pby, pei_pby, ← this, ← p1, ← p2]; grind
  · rw [← p1, ← p2]; grind
/-- .. of the two as they were -/
theorem crs_gf {T B g h1 h2 t b : List Int} (F : GF T B g h1 h2) (h : Crs t b h1 h2) : Crs t b T B := fun x => by
  have := h x
  rw [F.e1, F.e2, ← Int.mul_assoc, this]; grind
end PM

/-! M16: polys without a root twice, by a poly and its common poly with its slope. -/
namespace PM
theorem pei_cf {p q : List Int} (h : ∀ x, pei p x = pei q x) (i : Nat) : cf p i = cf q i := by
  have := pei_eq (nrm_trim p) (nrm_trim q) (fun x => by rw [pei_trim, pei_trim]; exact h x) i
  rwa [cf_trim, cf_trim] at this
theorem pder_congr {p q : List Int} (h : ∀ x, pei p x = pei q x) (x : Int) : pei (pder p) x = pei (pder q) x :=
  pei_ext x _ _ fun i => by rw [cf_pder, cf_pder, pei_cf h]
theorem pder_prod (p q : List Int) (x : Int) : pei (pder (rmul p q)) x = pei (pder p) x * pei q x + pei p x * pei (pder q) x := by
  have e : ∀ x, pei (rmul p q) x = pei (pmul (trim p) (trim q)) x := fun x => by rw [pei_rmul, pei_pmul, pei_trim, pei_trim]
  rw [pder_congr e, pder_mul (nrm_trim p) (nrm_trim q), pei_pplus, pei_pmul, pei_pmul, pei_trim, pei_trim, pder_congr (pei_trim p), pder_congr (pei_trim q)]
theorem pder_by (k : Int) (p : List Int) (x : Int) : pei (pder (pby k p)) x = k * pei (pder p) x := by
  rw [← pei_pby]
  exact pei_ext x _ _ fun i => by rw [cf_pder, cf_pby, cf_pby, cf_pder, Int.mul_left_comm]
/-! ### functions that are polys -/
def El (f : Int → Int) : Prop := ∃ p, ∀ x, f x = pei p x
theorem El.of (p : List Int) : El (pei p) := ⟨p, fun _ => rfl⟩
theorem El.con (k : Int) : El fun _ => k := ⟨[k], fun x => by show k = _; rw [pei_cons, pei_nil]; omega⟩
theorem El.id : El fun x => x := ⟨[0, 1], fun x => by show x = _; rw [pei_cons, pei_cons, pei_nil]; omega⟩
theorem El.add {f g : Int → Int} : El f → El g → El fun x => f x + g x := fun ⟨p, a⟩ ⟨q, b⟩ => ⟨padd p q, fun x => by show f x + g x = _; rw [pei_padd, a, b]⟩
theorem El.mul {f g : Int → Int} : El f → El g → El fun x => f x * g x := fun ⟨p, a⟩ ⟨q, b⟩ => ⟨rmul p q, fun x => by show f x * g x = _; rw [pei_rmul, a, b]⟩
theorem El.neg {f : Int → Int} : El f → El fun x => - f x := fun ⟨p, a⟩ => ⟨pby (-1) p, fun x => by show - f x = _; rw [pei_pby, a]; omega⟩
theorem El.sub {f g : Int → Int} (a : El f) (b : El g) : El fun x => f x - g x := by
  have := a.add b.neg
  exact ⟨this.choose, fun x => by rw [← this.choose_spec]; show f x - g x = f x + - g x; omega⟩
theorem El.cancel {f g h : Int → Int} : El f → El g → El h → (∃ y, h y ≠ 0) → (∀ x, f x * h x = g x * h x) → ∀ x, f x = g x := fun ⟨p, a⟩ ⟨q, b⟩ ⟨r, c⟩ ⟨y, hy⟩ e x => by
  have ne : trim r ≠ [] := fun z => hy (by rw [c, ← pei_trim, z]; rfl)
  rw [a, b]
  exact pei_cancel (nrm_trim r) ne (fun x => by rw [pei_trim, ← a, ← b, ← c]; exact e x) x
theorem ne_mul {f g : Int → Int} : El f → El g → (∃ y, f y ≠ 0) → (∃ y, g y ≠ 0) → ∃ y, f y * g y ≠ 0 := fun a b hf ⟨y, hy⟩ => Classical.byContradiction fun n => by
  have h : ∀ x, g x * f x = 0 * f x := fun x => by rw [Int.zero_mul, Int.mul_comm]; exact Classical.byContradiction fun z => n ⟨x, z⟩
  exact hy (El.cancel b (.con 0) a hf h y)
/-! ### powers -/
def pw (d : List Int) : Nat → List Int
  | 0 => [1]
  | k + 1 => rmul d (pw d k)
theorem pw_zero (d : List Int) (x : Int) : pei (pw d 0) x = 1 := by rw [pw, pei_cons, pei_nil]; omega
theorem pw_succ (d : List Int) (k : Nat) (x : Int) : pei (pw d (k + 1)) x = pei d x * pei (pw d k) x := by rw [pw, pei_rmul]
theorem pw_ne {d : List Int} (h : ∃ y, pei d y ≠ 0) : ∀ k, ∃ y, pei (pw d k) y ≠ 0
  | 0 => ⟨0, by rw [pw_zero]; decide⟩
  | k + 1 => by
    have ⟨y, hy⟩ := ne_mul (.of d) (.of (pw d k)) h (pw_ne h k)
    exact ⟨y, by rw [pw_succ]; exact hy⟩
theorem pw_der (d : List Int) (x : Int) : ∀ k : Nat, pei d x * pei (pder (pw d k)) x = (k : Int) * (pei (pw d k) x * pei (pder d) x)
  | 0 => by
    have : pder (pw d 0) = [] := rfl
    rw [this, pei_nil]; simp
  | k + 1 => by
    have ih := pw_der d x k
    rw [pw, pder_prod, pei_rmul, Int.natCast_add]
    grind
theorem trim_ne {p : List Int} (h : ∃ y, pei p y ≠ 0) : trim p ≠ [] := fun z => by
  obtain ⟨y, hy⟩ := h
  rw [← pei_trim, z] at hy
  exact hy rfl
theorem pw_len {d : List Int} (nd : Nrm d) (hd : 2 ≤ d.length) : ∀ k, k + 1 ≤ (trim (pw d k)).length
  | 0 => by
    have : trim (pw d 0) = [1] := trim_of_nrm (p := [1]) (fun c hc => by cases hc; decide)
    rw [this]; exact Nat.le_refl _
  | k + 1 => by
    have ih := pw_len nd hd k
    have ne : d ≠ [] := fun e => by rw [e] at hd; simp at hd
    have ne2 : trim (pw d k) ≠ [] := fun e => by rw [e] at ih; simp at ih
    have e : trim (pw d (k + 1)) = pmul d (trim (pw d k)) := pei_inj (nrm_trim _) (nrm_pmul nd (nrm_trim _)) fun n => by
      rw [pei_trim, pw_succ, pei_pmul, pei_trim]
    rw [e, pmul_length ne ne2]
    omega
theorem dvs_len {c : Int} {g D h : List Int} (hc : c ≠ 0) (ng : ∃ y, pei g y ≠ 0) (e : ∀ x, c * pei g x = pei D x * pei h x) : (trim D).length ≤ (trim g).length := by
  have e2 : pby c (trim g) = pmul (trim D) (trim h) := pei_inj (nrm_pby' (nrm_trim _)) (nrm_pmul (nrm_trim _) (nrm_trim _)) fun n => by
    rw [pei_pby, pei_pmul, pei_trim, pei_trim, pei_trim, e]
  have l := congrArg List.length e2
  rw [pby_length hc] at l
  obtain ⟨y, hy⟩ := ng
  have ne : pei D y * pei h y ≠ 0 := by rw [← e]; exact Int.mul_ne_zero hc hy
  have n1 : trim D ≠ [] := trim_ne ⟨y, fun z => ne (by rw [z, Int.zero_mul])⟩
  have n2 : trim h ≠ [] := trim_ne ⟨y, fun z => ne (by rw [z, Int.mul_zero])⟩
  rw [pmul_length n1 n2] at l
  have := List.length_pos_iff.mpr n2
  omega
/-! ### the descent -/
/-- a poly P, the common poly g of P and its slope, what is left -/
structure Slim (P g s w : List Int) (c1 c2 : Int) : Prop where
  n1 : c1 ≠ 0
  n2 : c2 ≠ 0
  ne : ∃ y, pei P y ≠ 0
  e1 : ∀ x, c1 * pei P x = pei s x * pei g x
  e2 : ∀ x, c2 * pei (pder P) x = pei w x * pei g x
variable {P g s w : List Int} {c1 c2 : Int}
theorem Slim.gne (H : Slim P g s w c1 c2) : ∃ y, pei g y ≠ 0 := by
  obtain ⟨y, hy⟩ := H.ne
  refine ⟨y, fun z => ?_⟩
  have := H.e1 y
  rw [z, Int.mul_zero] at this
  exact Int.mul_ne_zero H.n1 hy this
theorem Slim.sne (H : Slim P g s w c1 c2) : ∃ y, pei s y ≠ 0 := by
  obtain ⟨y, hy⟩ := H.ne
  refine ⟨y, fun z => ?_⟩
  have := H.e1 y
  rw [z, Int.zero_mul] at this
  exact Int.mul_ne_zero H.n1 hy this
theorem Slim.one (H : Slim P g s w c1 c2) (x : Int) : c2 * (pei s x * pei (pder g) x) = pei g x * (c1 * pei w x - c2 * pei (pder s) x) := by
  have a := pder_congr (p := pby c1 P) (q := rmul s g) (fun x => by rw [pei_pby, pei_rmul, H.e1]) x
  rw [pder_by, pder_prod] at a
  have b := H.e2 x
  grind
/-- if a power of d is in g: -/
theorem Slim.two (H : Slim P g s w c1 c2) {d h : List Int} {k : Nat} {γ : Int} (dne : ∃ y, pei d y ≠ 0) (e : ∀ x, γ * pei g x = pei (pw d k) x * pei h x) (x : Int) :
    c2 * (pei s x * ((k : Int) * (pei (pder d) x * pei h x) + pei d x * pei (pder h) x)) = pei d x * (pei h x * (c1 * pei w x - c2 * pei (pder s) x)) := by
  refine El.cancel (f := fun x => c2 * (pei s x * ((k : Int) * (pei (pder d) x * pei h x) + pei d x * pei (pder h) x))) (g := fun x => pei d x * (pei h x * (c1 * pei w x - c2 * pei (pder s) x))) (h := pei (pw d k)) ?_ ?_ (.of _) (pw_ne dne k) (fun x => ?_) x
  · exact .mul (.con _) (.mul (.of _) (.add (.mul (.con _) (.mul (.of _) (.of _))) (.mul (.of _) (.of _))))
  · exact .mul (.of _) (.mul (.of _) (.sub (.mul (.con _) (.of _)) (.mul (.con _) (.of _))))
  · have a := pder_congr (p := pby γ g) (q := rmul (pw d k) h) (fun x => by rw [pei_pby, pei_rmul, e]) x
    rw [pder_by, pder_prod] at a
    have b := pw_der d x k
    have c := H.one x
    have f := e x
    generalize pei (pder (pw d k)) x = D at *
    generalize pei (pder g) x = G at *
    generalize pei (pder h) x = E at *
    generalize pei (pder s) x = F at *
    generalize pei (pder d) x = dd at *
    generalize pei (pw d k) x = W at *
    generalize pei d x = d0 at *
    generalize pei s x = s0 at *
    generalize pei g x = g0 at *
    generalize pei h x = h0 at *
    generalize pei w x = w0 at *
    generalize (k : Int) = kk at *
    have q : d0 * (γ * G) = W * (kk * (dd * h0) + d0 * E) := by rw [a]; grind
    have r : c2 * (s0 * (d0 * (γ * G))) = d0 * (γ * g0) * (c1 * w0 - c2 * F) := by grind
    rw [q, f] at r
    grind
/-- roots: what is left has each -/
theorem Slim.root (H : Slim P g s w c1 c2) (r : Int) : pei s r = 0 ↔ pei P r = 0 := by
  constructor
  · intro h
    have := H.e1 r
    rw [h, Int.zero_mul] at this
    exact (Int.mul_eq_zero.mp this).resolve_left H.n1
  · intro h
    refine Classical.byContradiction fun hs => ?_
    have g0 : pei g r = 0 := by
      have := H.e1 r
      rw [h, Int.mul_zero] at this
      exact (Int.mul_eq_zero.mp this.symm).resolve_left hs
    have dv : ∀ x, pei [-r, 1] x = x - r := fun x => by rw [pei_cons, pei_cons, pei_nil]; omega
    have d1 : ∀ x, pei (pder [-r, 1]) x = 1 := fun x => by
      have : pder [-r, 1] = [1] := by unfold pder; simp [List.range_succ, cf]
      rw [this, pei_cons, pei_nil]; omega
    have dne : ∃ y, pei [-r, 1] y ≠ 0 := ⟨r + 1, by rw [dv]; omega⟩
    have key : ∀ k : Nat, ∃ h : List Int, ∀ x, 1 * pei g x = pei (pw [-r, 1] (k + 1)) x * pei h x := by
      intro k
      induction k with
      | zero =>
        refine ⟨sdv r g, fun x => ?_⟩
        have := pei_sdv r x g
        rw [g0] at this
        rw [pw_succ, pw_zero, dv, Int.mul_one, this]
        omega
      | succ k ih =>
        obtain ⟨h, e⟩ := ih
        have z := H.two dne e r
        rw [dv, d1, Int.sub_self, Int.zero_mul, Int.zero_mul, Int.add_zero, Int.one_mul] at z
        have h0 : pei h r = 0 := by
          have z := (Int.mul_eq_zero.mp z).resolve_left H.n2
          have z := (Int.mul_eq_zero.mp z).resolve_left hs
          exact (Int.mul_eq_zero.mp z).resolve_left (by omega)
        refine ⟨sdv r h, fun x => ?_⟩
        have t := pei_sdv r x h
        rw [e, pw_succ _ (k + 1), dv]
        have t : pei h x = (x - r) * pei (sdv r h) x := by omega
        rw [t]; grind
    obtain ⟨h, e⟩ := key (trim g).length
    have l := dvs_len (by decide) H.gne e
    have m := pw_len (d := [-r, 1]) (fun c hc => by cases hc; show (1 : Int) ≠ 0; decide) (by simp) ((trim g).length + 1)
    omega
/-- what is left has no root twice -/
theorem Slim.bez (H : Slim P g s w c1 c2) {e : Int} {a b : List Int} (he : e ≠ 0) (hb : ∀ x, e * pei g x = pei a x * pei P x + pei b x * pei (pder P) x) (ns : Nrm s) :
    ∃ (u v : List Int) (c : Int), c ≠ 0 ∧ ∀ x, pei u x * pei s x + pei v x * pei (pder s) x = c := by
  -- s and w have nothing in common
  have sw : ∀ x, c2 * pei a x * pei s x + c1 * pei b x * pei w x = e * c1 * c2 := by
    refine El.cancel (f := fun x => c2 * pei a x * pei s x + c1 * pei b x * pei w x) (g := fun _ => e * c1 * c2) (h := pei g) (.add (.mul (.mul (.con _) (.of _)) (.of _)) (.mul (.mul (.con _) (.of _)) (.of _))) (.con _) (.of _) H.gne fun x => ?_
    have := H.e1 x
    have := H.e2 x
    have := hb x
    grind
  obtain ⟨nd, d0, ⟨α, t, ha, nt, ht⟩, ⟨β, t2, hbt, nt2, ht2⟩, c, u, v, hc, hbz⟩ := pgcd_main _ s (pder s) (Nat.lt_succ_self _) ns (nrm_pder ns)
  generalize pgcd s (pder s) = d at *
  have sne : s ≠ [] := fun z => by obtain ⟨y, hy⟩ := H.sne; rw [z] at hy; exact hy rfl
  have dn : d ≠ [] := fun z => sne (d0 z).1
  have dne := pei_ne nd dn
  by_cases l : 2 ≤ d.length
  · exfalso
    have key : ∀ k : Nat, ∃ (γ : Int) (h : List Int), γ ≠ 0 ∧ ∀ x, γ * pei g x = pei (pw d k) x * pei h x := by
      intro k
      induction k with
      | zero => exact ⟨1, g, by decide, fun x => by rw [pw_zero]⟩
      | succ k ih =>
        obtain ⟨γ, h, hγ, hh⟩ := ih
        -- α s' = d' t + d t'
        have as' : ∀ x, α * pei (pder s) x = pei (pder d) x * pei t x + pei d x * pei (pder t) x := fun x => by
          have := pder_congr (p := pby α s) (q := rmul t d) (fun x => by rw [pei_pby, pei_rmul, ht]) x
          rw [pder_by, pder_prod] at this
          grind
        have star := H.two dne hh
        have star2 : ∀ x, c2 * (pei t x * ((k : Int) * (pei (pder d) x * pei h x) + pei d x * pei (pder h) x)) = α * (pei h x * (c1 * pei w x - c2 * pei (pder s) x)) := by
          refine El.cancel (f := fun x => c2 * (pei t x * ((k : Int) * (pei (pder d) x * pei h x) + pei d x * pei (pder h) x))) (g := fun x => α * (pei h x * (c1 * pei w x - c2 * pei (pder s) x))) (h := pei d) ?_ ?_ (.of _) dne fun x => ?_
          · exact .mul (.con _) (.mul (.of _) (.add (.mul (.con _) (.mul (.of _) (.of _))) (.mul (.of _) (.of _))))
          · exact .mul (.con _) (.mul (.of _) (.sub (.mul (.con _) (.of _)) (.mul (.con _) (.of _))))
          · have := star x
            have := ht x
            grind
        refine ⟨α * β * c1 * (e * c1 * c2) * γ, trim (padd (rmul (pby (β * c1 * c2) a) (rmul t h)) (rmul (pby c1 b) (padd (padd (pby (c2 * k * α) (rmul h t2)) (pby (-1) (pby (c2 * k * β) (rmul h (pder t))))) (padd (pby (c2 * β) (rmul t (pder h))) (pby (c2 * α) (rmul h t2)))))), ?_, fun x => ?_⟩
        · exact Int.mul_ne_zero (Int.mul_ne_zero (Int.mul_ne_zero (Int.mul_ne_zero ha hbt) H.n1) (Int.mul_ne_zero (Int.mul_ne_zero he H.n1) H.n2)) hγ
        · rw [pei_trim, pw_succ]
          simp only [pei_padd, pei_rmul, pei_pby]
          have q1 := star2 x
          have q2 := as' x
          have q3 := ht x
          have q4 := ht2 x
          have q5 := sw x
          have q6 := hh x
          generalize pei (pder h) x = E at *
          generalize pei (pder s) x = F at *
          generalize pei (pder d) x = dd at *
          generalize pei (pder t) x = tt at *
          generalize pei (pw d k) x = W at *
          generalize pei d x = d0 at *
          generalize pei s x = s0 at *
          generalize pei g x = g0 at *
          generalize pei h x = h0 at *
          generalize pei w x = w0 at *
          generalize pei t x = t0 at *
          generalize pei t2 x = t20 at *
          generalize pei a x = a0 at *
          generalize pei b x = b0 at *
          generalize (k : Int) = kk at *
          have r1 : β * (dd * t0) = d0 * (α * t20 - β * tt) := by grind
          have r2 : α * β * c1 * (h0 * w0) = d0 * (c2 * kk * α * (h0 * t20) + -1 * (c2 * kk * β * (h0 * tt)) + (c2 * β * (t0 * E) + c2 * α * (h0 * t20))) := by grind
          have r3 : α * β * c1 * (e * c1 * c2) * h0 = d0 * (β * c1 * c2 * a0 * (t0 * h0) + c1 * b0 * (c2 * kk * α * (h0 * t20) + -1 * (c2 * kk * β * (h0 * tt)) + (c2 * β * (t0 * E) + c2 * α * (h0 * t20)))) := by
            rw [← q5]; grind
          have r4 : α * β * c1 * (e * c1 * c2) * γ * g0 = W * (α * β * c1 * (e * c1 * c2) * h0) := by rw [Int.mul_assoc _ γ g0, q6]; grind
          rw [r4, r3]; grind
    obtain ⟨γ, h, hγ, hh⟩ := key (trim g).length
    have l2 := dvs_len hγ H.gne hh
    have m := pw_len nd l (trim g).length
    omega
  · have ld := List.length_pos_iff.mpr dn
    obtain ⟨z, rfl⟩ := List.length_eq_one_iff.mp (show d.length = 1 by omega)
    refine ⟨u, v, c * z, Int.mul_ne_zero hc (nd z rfl), fun x => ?_⟩
    have := hbz x
    rw [pei_cons, pei_nil] at this
    rw [← this]; grind
end PM

/-! M17: primes, polys by a prime, roots led up. -/
namespace PM
/-! ### a bounded number that a poly and its slope make -/
theorem pdv_bd {b : Nat} {d : List Int} (hd : Nrm d) (ne : d ≠ []) (bd : BdP b d) : ∀ (k a : Nat) (p : List Int), p.length < k → Nrm p → BdP a p →
    ∃ t q r, Pdv p d t q r ∧ BdP (a + (p.length + 1 - d.length) * (b + 1)) r := by
  intro k
  induction k with
  | zero => intro a p h; omega
  | succ k ih =>
    intro a p hk hp hb
    by_cases l : p.length < d.length
    · exact ⟨1, [], p, ⟨by decide, nrm_nil, hp, l, fun n => by rw [pei_nil]; omega⟩, hb.mono (Nat.le_add_right _ _)⟩
    · have hl : d.length ≤ p.length := by omega
      have sl := step_len (b := cf d (d.length - 1)) (s := cf p (p.length - 1)) hp hd ne hl (Int.mul_comm _ _)
      have bb : BdP (a + b + 1) (pplus (pby (cf d (d.length - 1)) p) (pby (-1) (pmul (mono (p.length - d.length) (cf p (p.length - 1))) d))) := bdp_cf fun i => by
        rw [cf_pplus, cf_pby, cf_pby, cf_pmul, conv_mono]
        refine Bd.add ?_ ?_
        · rw [Nat.add_comm a b]; exact (bd.cf _).mul (hb.cf i)
        · split
          · have := ((hb.cf (p.length - 1)).mul (bd.cf (i - (p.length - d.length)))).neg
            rwa [Int.neg_one_mul]
          · exact bd_zero
      obtain ⟨t, q, r, h, hr⟩ := ih (a + b + 1) _ (by omega) (nrm_pplus _ _) bb
      refine ⟨t * cf d (d.length - 1), trim (padd q (pby t (mono (p.length - d.length) (cf p (p.length - 1))))), r, ⟨Int.mul_ne_zero h.ht (nrm_top hd ne), nrm_trim _, h.hr, h.hl, fun n => ?_⟩, hr.mono ?_⟩
      · have := h.he n
        rw [pei_pplus, pei_pby, pei_pby, pei_pmul] at this
        rw [pei_trim, pei_padd, pei_pby]
        grind
      · have l2 := List.length_pos_iff.mpr ne
        generalize (pplus (pby (cf d (d.length - 1)) p) (pby (-1) (pmul (mono (p.length - d.length) (cf p (p.length - 1))) d))).length = n at *
        have z : n + 1 - d.length + 1 ≤ p.length + 1 - d.length := by omega
        have := Nat.mul_le_mul_right (b + 1) z
        rw [Nat.add_mul] at this
        omega
theorem two_three : ∀ n : Nat, n + 3 ≤ 3 ^ (n + 1)
  | 0 => by decide
  | n + 1 => by have := two_three n; rw [Nat.pow_succ]; omega
theorem bez_bd : ∀ (k : Nat) (p q : List Int) (B : Nat), q.length < k → q.length < p.length → Nrm p → Nrm q → q ≠ [] → BdP B p → BdP B q →
    (∃ (u v : List Int) (c : Int), c ≠ 0 ∧ ∀ x, pei u x * pei p x + pei v x * pei q x = c) →
    ∃ (u v : List Int) (c : Int), c ≠ 0 ∧ Bd ((B + 1) * 3 ^ (p.length - 1)) c ∧ ∀ x, pei u x * pei p x + pei v x * pei q x = c := by
  intro k
  induction k with
  | zero => intro p q B h; omega
  | succ k ih =>
    intro p q B hk hl hp hq ne bp bq ⟨u, v, c, hc, hb⟩
    have lq := List.length_pos_iff.mpr ne
    by_cases l : q.length = 1
    · obtain ⟨z, rfl⟩ := List.length_eq_one_iff.mp l
      refine ⟨[], [1], z, hq z rfl, (bq z (by simp)).mono ?_, fun x => by rw [pei_nil, pei_cons, pei_nil, pei_cons, pei_nil]; omega⟩
      have := Nat.mul_le_mul_left (B + 1) (Nat.pow_pos (n := p.length - 1) (show 0 < 3 by decide))
      omega
    · obtain ⟨t, q1, r, h, br⟩ := pdv_bd hq ne bq _ B p (Nat.lt_succ_self _) hp bp
      have rn : r ≠ [] := fun z => by
        have := dvs_len (c := t * c) (g := [1]) (D := q) (h := padd (rmul u q1) (pby t v)) (Int.mul_ne_zero h.ht hc) ⟨0, by decide⟩ fun x => by
          have := h.he x
          have := hb x
          rw [z, pei_nil] at *
          rw [pei_padd, pei_rmul, pei_pby, pei_cons, pei_nil]
          grind
        rw [trim_of_nrm hq] at this
        have := trim_len ([1] : List Int)
        simp at this
        omega
      obtain ⟨u', v', c', hc', bc, hb'⟩ := ih q r (B + (p.length + 1 - q.length) * (B + 1)) (by have := h.hl; omega) h.hl hq h.hr rn (bq.mono (Nat.le_add_right _ _)) br
        ⟨padd (rmul u q1) (pby t v), u, t * c, Int.mul_ne_zero h.ht hc, fun x => by
          have := h.he x
          have := hb x
          rw [pei_padd, pei_rmul, pei_pby]
          grind⟩
      refine ⟨pby t v', padd u' (pby (-1) (rmul v' q1)), c', hc', bc.mono ?_, fun x => ?_⟩
      · obtain ⟨n, hn⟩ : ∃ n, p.length = q.length + (n + 1) := ⟨p.length - q.length - 1, by omega⟩
        have e1 : B + (p.length + 1 - q.length) * (B + 1) + 1 = (n + 3) * (B + 1) := by
          have : p.length + 1 - q.length = n + 2 := by omega
          rw [this, Nat.add_mul, Nat.add_mul]; omega
        have e2 : p.length - 1 = (n + 1) + (q.length - 1) := by omega
        rw [e1, e2, Nat.pow_add, ← Nat.mul_assoc, Nat.mul_comm (n + 3)]
        exact Nat.mul_le_mul_right _ (Nat.mul_le_mul_left _ (two_three n))
      · have := h.he x
        have := hb' x
        rw [pei_pby, pei_padd, pei_pby, pei_rmul]
        grind
/-! ### primes -/
theorem Pri.mulN {d : Nat} (p : Pri d) {x y : Nat} (h : d ∣ x * y) : d ∣ x ∨ d ∣ y := by
  have := p.mul (x := (x : Int)) (y := (y : Int)) (by rw [← Int.natCast_mul]; exact Int.natCast_dvd_natCast.mpr h)
  exact this.imp Int.natCast_dvd_natCast.mp Int.natCast_dvd_natCast.mp
theorem pri_prod : ∀ (l : List Nat), (∀ d ∈ l, Pri d) → l.Nodup → ∀ {N : Nat}, (∀ d ∈ l, d ∣ N) → l.foldr (· * ·) 1 ∣ N := by
  intro l
  induction l with
  | nil => intro _ _ N _; exact Nat.one_dvd _
  | cons d l ih =>
    intro hp hn N hd
    rw [List.nodup_cons] at hn
    obtain ⟨M, rfl⟩ := hd d List.mem_cons_self
    refine Nat.mul_dvd_mul_left d (ih (fun e he => hp e (List.mem_cons_of_mem _ he)) hn.2 fun e he => ?_)
    rcases (hp e (List.mem_cons_of_mem _ he)).mulN (hd e (List.mem_cons_of_mem _ he)) with h | h
    · have := (hp d List.mem_cons_self).min e (hp e (List.mem_cons_of_mem _ he)).one h
      exact absurd (this ▸ he) hn.1
    · exact h
def isP (n : Nat) : Bool := 2 ≤ n && (List.range 96).all fun e => e < 2 || n < e * e || n % e != 0
theorem isP_pri {n : Nat} (l : n < 9216) (h : isP n = true) : Pri n := by
  unfold isP at h
  rw [Bool.and_eq_true] at h
  have h1 : 2 ≤ n := by simpa using h.1
  have h2 : ∀ e, e < 96 → 2 ≤ e → e * e ≤ n → n % e ≠ 0 := fun e he h2 h3 => by
    have := List.all_eq_true.mp h.2 e (List.mem_range.mpr he)
    simp at this
    omega
  refine ⟨by omega, fun e he hd => Classical.byContradiction fun ne => ?_⟩
  obtain ⟨f, rfl⟩ := hd
  have f2 : 2 ≤ f := by
    rcases f with _ | _ | f
    · simp at h1
    · simp at ne
    · omega
  rcases Nat.le_total e f with z | z
  · have := Nat.mul_le_mul_left e z
    have : e < 96 := Nat.lt_of_not_le fun q => by have := Nat.mul_le_mul q q; omega
    exact h2 e this he ‹_› (Nat.mul_mod_right e f)
  · have q := Nat.mul_le_mul_right f z
    have : f < 96 := Nat.lt_of_not_le fun q => by have := Nat.mul_le_mul q q; omega
    exact h2 f this f2 q (Nat.mul_mod_left e f)
def PL : List Nat := (List.range 9216).filter isP
theorem PL_big : 2 ^ 11100 ≤ PL.foldr (· * ·) 1 := by decide +kernel
theorem prime_not {N : Int} (h0 : N ≠ 0) (hb : Bd 11100 N) : ∃ p, Pri p ∧ p < 9216 ∧ ¬ (p : Int) ∣ N := Classical.byContradiction fun n => by
  have := pri_prod PL (fun d hd => by
    obtain ⟨a, b⟩ := List.mem_filter.mp hd
    exact isP_pri (List.mem_range.mp a) b) (List.nodup_range.filter _) (N := N.natAbs) fun d hd => by
    obtain ⟨a, b⟩ := List.mem_filter.mp hd
    exact ncd.mp (Classical.byContradiction fun z => n ⟨d, isP_pri (List.mem_range.mp a) b, List.mem_range.mp a, z⟩)
  have := Nat.le_of_dvd (by omega) this
  have := PL_big
  unfold Bd at hb
  omega
theorem Pri.bez {p : Nat} (pp : Pri p) {x : Int} (h : ¬ (p : Int) ∣ x) : ∃ a b : Int, a * x + b * p = 1 := by
  have p1 := pp.one
  obtain ⟨g, _, ⟨g0, a, b, hg⟩, hm⟩ := least (P := fun n => 0 < n ∧ ∃ a b : Int, (n : Int) = a * x + b * p) p ⟨by omega, 0, 1, by omega⟩
  have key : ∀ y a' b' : Int, y = a' * x + b' * p → (g : Int) ∣ y := fun y a' b' e => by
    have m1 := Int.emod_nonneg y (show (g : Int) ≠ 0 by omega)
    have m2 := Int.emod_lt_of_pos y (show (0 : Int) < g by omega)
    have m3 := Int.mul_ediv_add_emod y g
    by_cases z : y % (g : Int) = 0
    · exact Int.dvd_of_emod_eq_zero z
    · exfalso
      refine hm (y % (g : Int)).toNat (by omega) ⟨by omega, a' - y / g * a, b' - y / g * b, ?_⟩
      rw [Int.toNat_of_nonneg m1]
      have : y % (g : Int) = y - y / g * g := by rw [Int.mul_comm]; omega
      rw [this, e]
      generalize (a' * x + b' * p) / (g : Int) = k
      rw [hg]
      grind
  have gp := key p 0 1 (by omega)
  have gx := key x 1 0 (by omega)
  have gp : g ∣ p := Int.natCast_dvd_natCast.mp gp
  by_cases z : g = 1
  · exact ⟨a, b, by rw [← hg, z]; rfl⟩
  · have := pp.min g (by omega) gp
    rw [this] at gx
    exact absurd gx h
theorem bez_sq {x m : Int} (h : ∃ a b : Int, a * x + b * m = 1) : ∃ a b : Int, a * x + b * (m * m) = 1 := by
  obtain ⟨a, b, h⟩ := h
  refine ⟨a * a * x + 2 * a * b * m, b * b, ?_⟩
  have : (a * x + b * m) * (a * x + b * m) = 1 := by rw [h]; rfl
  grind
/-! ### polys by an integer -/
/-- all integers from 0 on, below m -/
def Rd (m : Int) (p : List Int) : Prop := ∀ c ∈ p, 0 ≤ c ∧ c < m
def pm (m : Int) (p : List Int) : List Int := trim (p.map (· % m))
theorem nrm_pm (m : Int) (p : List Int) : Nrm (pm m p) := nrm_trim _
theorem rd_pm {m : Int} (hm : 0 < m) (p : List Int) : Rd m (pm m p) := fun c hc => by
  obtain ⟨d, _, rfl⟩ := List.mem_map.mp (trim_mem hc)
  exact ⟨Int.emod_nonneg _ (by omega), Int.emod_lt_of_pos _ hm⟩
theorem pm_len (m : Int) (p : List Int) : (pm m p).length ≤ p.length := Nat.le_trans (trim_len _) (by rw [List.length_map]; exact Nat.le_refl _)
theorem cf_pm (m : Int) (p : List Int) (i : Nat) : cf (pm m p) i = cf p i % m := by
  unfold pm
  rw [cf_trim, cf_map _ (by simp)]
theorem pei_pm (m : Int) (p : List Int) (x : Int) : pei p x = pei (pm m p) x + m * pei (p.map (· / m)) x := by
  unfold pm
  rw [pei_trim]
  induction p with
  | nil => simp [pei_nil]
  | cons c p ih =>
    rw [List.map_cons, List.map_cons, pei_cons, pei_cons, pei_cons, ih]
    have := Int.mul_ediv_add_emod c m
    generalize pei (p.map (· % m)) x = A at *
    generalize pei (p.map (· / m)) x = B at *
    grind
theorem Rd.top {m : Int} {p : List Int} (h : Rd m p) (n : Nrm p) (ne : p ≠ []) : 0 < cf p (p.length - 1) ∧ cf p (p.length - 1) < m := by
  have t := nrm_top n ne
  have l := List.length_pos_iff.mpr ne
  rw [cf_lt (by omega)] at t ⊢
  have := h _ (List.getElem_mem (show p.length - 1 < p.length by omega))
  omega
theorem conv_top (p q : List Int) (hp : p ≠ []) (hq : q ≠ []) : conv p q (p.length - 1 + (q.length - 1)) = cf p (p.length - 1) * cf q (q.length - 1) := by
  have lp := List.length_pos_iff.mpr hp
  have lq := List.length_pos_iff.mpr hq
  unfold conv
  rw [sumN_one (k := p.length - 1) (by omega)]
  · rw [Nat.add_sub_cancel_left]
  · intro i hi ne
    rcases Nat.lt_or_ge i (p.length - 1) with h | h
    · rw [cf_ge (p := q) (by omega), Int.mul_zero]
    · rw [cf_ge (p := p) (by omega), Int.zero_mul]
/-- a poly that divides a number by a prime is a number -/
theorem len_one {p : Nat} (pp : Pri p) {h z e : List Int} {c : Int} (nh : Nrm h) (rh : Rd p h) (hc : ¬ (p : Int) ∣ c) (hz : ∀ x, c = pei z x * pei h x + p * pei e x) : h.length ≤ 1 := by
  refine Nat.le_of_not_lt fun hl => ?_
  have hne : h ≠ [] := fun z => by rw [z] at hl; simp at hl
  have p1 := pp.one
  have e1 : ∀ x, pei [c] x = pei (padd (pmul (pm p z) h) (pby p (padd e (rmul (z.map (· / (p : Int))) h)))) x := fun x => by
    rw [pei_cons, pei_nil, pei_padd, pei_pmul, pei_pby, pei_padd, pei_rmul]
    have := pei_pm p z x
    have := hz x
    grind
  have k := pei_cf e1
  have k : ∀ i, cf [c] i = conv (pm p z) h i + p * cf (padd e (rmul (z.map (· / (p : Int))) h)) i := fun i => by rw [k i, cf_padd, cf_pmul, cf_pby]
  by_cases zn : pm (p : Int) z = []
  · refine hc ?_
    have := k 0
    rw [zn, cf_cons_zero] at this
    have c0 : conv [] h 0 = 0 := by unfold conv; simp [sumN, cf_nil]
    rw [c0, Int.zero_add] at this
    rw [this]
    exact Int.dvd_mul_right _ _
  · have t1 := (rd_pm (m := (p : Int)) (by omega) z).top (nrm_pm _ _) zn
    have t2 := rh.top nh hne
    have q := k ((pm (p : Int) z).length - 1 + (h.length - 1))
    rw [conv_top _ _ zn hne, cf_ge (by simp; omega)] at q
    have dv : (p : Int) ∣ cf (pm (p : Int) z) ((pm (p : Int) z).length - 1) * cf h (h.length - 1) := ⟨- cf (padd e (rmul (z.map (· / (p : Int))) h)) ((pm (p : Int) z).length - 1 + (h.length - 1)), by rw [Int.mul_neg]; omega⟩
    rcases pp.mul dv with d | d
    · have := Int.le_of_dvd t1.1 d; omega
    · have := Int.le_of_dvd t2.1 d; omega
/-! ### roots led up -/
theorem taylor (f : List Int) (a d : Int) : ∃ q, pei f (a + d) = pei f a + d * pei (pder f) a + d * d * q := by
  have e1 := pei_sdv a (a + d) f
  have e2 := pei_sdv a (a + d) (sdv a f)
  have e3 : pei (pder f) a = pei (sdv a f) a := by
    have := pder_congr (p := f) (q := padd [pei f a] (rmul [-a, 1] (sdv a f))) (fun x => by
      have := pei_sdv a x f
      rw [pei_padd, pei_rmul, pei_cons, pei_nil, pei_cons, pei_cons, pei_nil]
      grind) a
    rw [this]
    have e4 : ∀ x, pei (pder (padd [pei f a] (rmul [-a, 1] (sdv a f)))) x = pei (pder (rmul [-a, 1] (sdv a f))) x := fun x => pei_ext x _ _ fun i => by
      rw [cf_pder, cf_pder, cf_padd, cf_cons_succ, cf_nil, Int.zero_add]
    have e5 : pder [-a, 1] = [1] := by unfold pder; simp [List.range_succ, cf]
    rw [e4, pder_prod, e5, pei_cons, pei_nil, pei_cons, pei_cons, pei_nil]
    grind
  refine ⟨pei (sdv a (sdv a f)) (a + d), ?_⟩
  have z : a + d - a = d := by omega
  rw [z] at e1 e2
  rw [e3]
  grind
theorem pei_mod (f : List Int) {m a b : Int} (h : m ∣ a - b) : m ∣ pei f a - pei f b := by
  rw [← pei_sdv b a f]
  exact Int.dvd_mul_of_dvd_left h
theorem hensel {f : List Int} {r a m inv : Int} (hr : pei f r = 0) (ha : m ∣ r - a) (hi : m * m ∣ inv * pei (pder f) a - 1) : m * m ∣ r - (a - pei f a * inv) := by
  obtain ⟨q, hq⟩ := taylor f a (r - a)
  have z : a + (r - a) = r := by omega
  rw [z, hr] at hq
  obtain ⟨d, hd⟩ := ha
  obtain ⟨e, he⟩ := hi
  refine ⟨- (m * d * e) - inv * q * d * d, ?_⟩
  rw [hd] at hq
  have : r = a + m * d := by omega
  rw [this]
  grind
/-- the integer of the least size -/
def bal (x m : Int) : Int := if 2 * (x % m) > m then x % m - m else x % m
theorem bal_eq {r x m : Int} (hm : 0 < m) (h : m ∣ r - x) (hb : 2 * (r.natAbs : Int) < m) : bal x m = r := by
  have e : x % m = r % m := (Int.emod_eq_emod_iff_emod_sub_eq_zero.mpr (Int.emod_eq_zero_of_dvd h)).symm
  unfold bal
  rw [e]
  rcases Int.lt_or_le r 0 with l | l
  · have : r % m = r + m := by
      have := Int.emod_eq_of_lt (a := r + m) (b := m) (by omega) (by omega)
      rw [← this, Int.add_emod_right]
    rw [this, if_pos (by omega)]; omega
  · rw [Int.emod_eq_of_lt l (by omega), if_neg (by omega)]
theorem bal_dvd (x m : Int) : m ∣ bal x m - x := by
  have := Int.mul_ediv_add_emod x m
  unfold bal
  split
  · exact ⟨-(x / m) - 1, by rw [Int.mul_sub, Int.mul_neg]; omega⟩
  · exact ⟨-(x / m), by rw [Int.mul_neg]; omega⟩
theorem bal_lt {x m : Int} (hm : 0 < m) : (bal x m).natAbs < m.natAbs := by
  have := Int.emod_nonneg x (show m ≠ 0 by omega)
  have := Int.emod_lt_of_pos x hm
  unfold bal
  split <;> omega
/-- an integer root is not above all integers of a poly -/
theorem root_le {B : Nat} {r : Int} : ∀ {f : List Int}, (∃ y, pei f y ≠ 0) → (∀ c ∈ f, c.natAbs ≤ B) → pei f r = 0 → r.natAbs ≤ B
  | [], ⟨y, h⟩, _, _ => absurd rfl h
  | c :: f, ⟨y, hy⟩, hB, hr => by
    rw [pei_cons] at hr hy
    by_cases c0 : c = 0
    · rw [c0, Int.zero_add] at hr hy
      rcases Int.mul_eq_zero.mp hr with z | z
      · rw [z]; exact Nat.zero_le _
      · exact root_le ⟨y, fun e => hy (by rw [e, Int.mul_zero])⟩ (fun c hc => hB c (List.mem_cons_of_mem _ hc)) z
    · have d : r ∣ c := ⟨- pei f r, by rw [Int.mul_neg]; omega⟩
      have := Nat.le_of_dvd (by omega) (Int.natAbs_dvd_natAbs.mpr d)
      have := hB c List.mem_cons_self
      omega
/-- a place that is great enough is no root -/
theorem cauchy {x a : Int} {M : Nat} : ∀ {f : List Int}, f.getLast? = some a → a ≠ 0 → (∀ c ∈ f, c.natAbs ≤ M) → 2 + (M / a.natAbs : Nat) ≤ x → a.natAbs ≤ (pei f x).natAbs
  | [], h, _, _, _ => nomatch h
  | [c], h, ha, _, _ => by
    cases h
    rw [pei_cons, pei_nil, Int.mul_zero, Int.add_zero]; exact Nat.le_refl _
  | c :: d :: f, h, ha, hM, hx => by
    have ih := cauchy (f := d :: f) (by rwa [List.getLast?_cons_cons] at h) ha (fun c hc => hM c (List.mem_cons_of_mem _ hc)) hx
    have hc := hM c List.mem_cons_self
    rw [pei_cons]
    generalize pei (d :: f) x = v at *
    have a0 : 0 < a.natAbs := by omega
    have dm := Nat.div_add_mod M a.natAbs
    have dl := Nat.mod_lt M a0
    have xe : x.natAbs = (2 + M / a.natAbs) + (x.natAbs - (2 + M / a.natAbs)) := by omega
    have h1 : (2 + M / a.natAbs) * a.natAbs ≤ x.natAbs * v.natAbs := Nat.mul_le_mul (by omega) ih
    have h2 : (x * v).natAbs = x.natAbs * v.natAbs := Int.natAbs_mul x v
    rw [Nat.add_mul, Nat.mul_comm (M / a.natAbs)] at h1
    omega
end PM

/-! M18: more about polys by an integer. -/
namespace PM
theorem cg_of {m : Int} {p q : List Int} (h : ∀ i, m ∣ cf p i - cf q i) : ∃ e, ∀ x, pei p x = pei q x + m * pei e x := by
  have hd : ∀ i, m ∣ cf (padd p (pby (-1) q)) i := fun i => by
    rw [cf_padd, cf_pby]
    have e : cf p i + -1 * cf q i = cf p i - cf q i := by omega
    rw [e]; exact h i
  refine ⟨pdiv m (padd p (pby (-1) q)), fun x => ?_⟩
  rw [pei_pdiv hd, pei_padd, pei_pby]; omega
theorem pm_top {p k : Int} {f : List Int} (hp : 1 < p) (ne : f ≠ []) (h : p ∣ k * cf f (f.length - 1) - 1) : (pm p (pby k f)).length = f.length ∧ cf (pm p (pby k f)) (f.length - 1) = 1 := by
  have c : cf (pm p (pby k f)) (f.length - 1) = 1 := by
    rw [cf_pm, cf_pby]
    have e := Int.emod_eq_emod_iff_emod_sub_eq_zero.mpr (Int.emod_eq_zero_of_dvd h)
    rw [e]
    exact Int.emod_eq_of_lt (by omega) hp
  refine ⟨?_, c⟩
  have l := pm_len p (pby k f)
  have l2 := pby_len' k f
  have l3 := List.length_pos_iff.mpr ne
  refine Nat.le_antisymm (by omega) (Nat.le_of_not_lt fun z => ?_)
  rw [cf_ge (by omega)] at c
  omega
/-- made to end with 1: each a number times the other -/
theorem last_cg {p k : Int} {f : List Int} (h : p ∣ k * cf f (f.length - 1) - 1) :
    (∃ e, ∀ x, pei (pm p (pby k f)) x = k * pei f x + p * pei e x) ∧ ∃ l e, ∀ x, pei f x = l * pei (pm p (pby k f)) x + p * pei e x := by
  have a : ∀ x, pei (pm p (pby k f)) x = k * pei f x + p * pei (pby (-1) ((pby k f).map (· / p))) x := fun x => by
    have := pei_pm p (pby k f) x
    rw [pei_pby] at this
    rw [pei_pby, Int.mul_left_comm]; omega
  refine ⟨⟨_, a⟩, cf f (f.length - 1), ?_⟩
  obtain ⟨z, hz⟩ := h
  refine ⟨padd (pby (-z) f) (pby (- cf f (f.length - 1)) (pby (-1) ((pby k f).map (· / p)))), fun x => ?_⟩
  rw [a, pei_padd, pei_pby (-z), pei_pby (- cf f (f.length - 1))]
  generalize pei (pby (-1) ((pby k f).map (· / p))) x = E
  have : k * cf f (f.length - 1) = 1 + p * z := by omega
  grind
/-- one step of the way to the common poly -/
structure Com (p : Int) (f g x y : List Int) : Prop where
  c1 : ∃ a b e, ∀ n, pei f n = pei a n * pei x n + pei b n * pei y n + p * pei e n
  c2 : ∃ a b e, ∀ n, pei g n = pei a n * pei x n + pei b n * pei y n + p * pei e n
  c3 : ∃ a b e, ∀ n, pei x n = pei a n * pei f n + pei b n * pei g n + p * pei e n
  c4 : ∃ a b e, ∀ n, pei y n = pei a n * pei f n + pei b n * pei g n + p * pei e n
theorem Com.start (p : Int) (f g : List Int) : Com p f g f g := by
  have o : ∀ n, pei [1] n = 1 := fun n => by rw [pei_cons, pei_nil]; omega
  have a : ∃ a b e, ∀ n, pei f n = pei a n * pei f n + pei b n * pei g n + p * pei e n := ⟨[1], [], [], fun n => by rw [o, pei_nil]; grind⟩
  have b : ∃ a b e, ∀ n, pei g n = pei a n * pei f n + pei b n * pei g n + p * pei e n := ⟨[], [1], [], fun n => by rw [o, pei_nil]; grind⟩
  exact ⟨a, b, a, b⟩
/-- x, y are made of u, v -/
theorem Com.trans {p : Int} {f g x y u v : List Int} (H : Com p f g x y) (K : Com p x y u v) : Com p f g u v := by
  obtain ⟨⟨a1, b1, e1, h1⟩, ⟨a2, b2, e2, h2⟩, ⟨a3, b3, e3, h3⟩, a4, b4, e4, h4⟩ := H
  obtain ⟨⟨c1, d1, k1, m1⟩, ⟨c2, d2, k2, m2⟩, ⟨c3, d3, k3, m3⟩, c4, d4, k4, m4⟩ := K
  refine ⟨⟨padd (rmul a1 c1) (rmul b1 c2), padd (rmul a1 d1) (rmul b1 d2), padd e1 (padd (rmul a1 k1) (rmul b1 k2)), fun n => ?_⟩, ⟨padd (rmul a2 c1) (rmul b2 c2), padd (rmul a2 d1) (rmul b2 d2), padd e2 (padd (rmul a2 k1) (rmul b2 k2)), fun n => ?_⟩,
    ⟨padd (rmul c3 a3) (rmul d3 a4), padd (rmul c3 b3) (rmul d3 b4), padd k3 (padd (rmul c3 e3) (rmul d3 e4)), fun n => ?_⟩, ⟨padd (rmul c4 a3) (rmul d4 a4), padd (rmul c4 b3) (rmul d4 b4), padd k4 (padd (rmul c4 e3) (rmul d4 e4)), fun n => ?_⟩⟩
  · simp only [pei_padd, pei_rmul]; have := h1 n; have := m1 n; have := m2 n; grind
  · simp only [pei_padd, pei_rmul]; have := h2 n; have := m1 n; have := m2 n; grind
  · simp only [pei_padd, pei_rmul]; have := m3 n; have := h3 n; have := h4 n; grind
  · simp only [pei_padd, pei_rmul]; have := m4 n; have := h3 n; have := h4 n; grind
theorem Com.led {p k l : Int} {x y w e1 e2 : List Int} (h1 : ∀ n, pei w n = k * pei y n + p * pei e1 n) (h2 : ∀ n, pei y n = l * pei w n + p * pei e2 n) : Com p x y x w := by
  have o : ∀ (k n : Int), pei [k] n = k := fun k n => by rw [pei_cons, pei_nil]; omega
  refine ⟨⟨[1], [], [], fun n => ?_⟩, ⟨[], [l], e2, fun n => ?_⟩, ⟨[1], [], [], fun n => ?_⟩, ⟨[], [k], e1, fun n => ?_⟩⟩
  · rw [o, pei_nil]; grind
  · rw [o, pei_nil, h2]; grind
  · rw [o, pei_nil]; grind
  · rw [o, pei_nil, h1]; grind
theorem Com.part {p : Int} {x w q r e : List Int} (h : ∀ n, pei x n = pei q n * pei w n + pei r n + p * pei e n) : Com p x w w r := by
  have o : ∀ (k n : Int), pei [k] n = k := fun k n => by rw [pei_cons, pei_nil]; omega
  refine ⟨⟨q, [1], e, fun n => ?_⟩, ⟨[1], [], [], fun n => ?_⟩, ⟨[], [1], [], fun n => ?_⟩, ⟨[1], pby (-1) q, pby (-1) e, fun n => ?_⟩⟩
  · rw [o, h]; grind
  · rw [o, pei_nil]; grind
  · rw [o, pei_nil]; grind
  · rw [o, pei_pby, pei_pby, h]; grind
end PM

/-! M19: the lowest poly with the roots of a poly, each once. -/
namespace PM
theorem pder_len (f : List Int) : (pder f).length = f.length - 1 := by unfold pder; rw [List.length_map, List.length_range]
theorem slim_main {f : List Int} {a k L : Nat} (nf : Nrm f) (l2 : 2 ≤ f.length) (lL : f.length ≤ L) (hL : 2 * L ≤ 2 ^ k) (ba : BdP a f) :
    ∃ h w, GF f (pder f) (pgcd (plow f) (plow (pder f))) h w ∧ BdP (a + L * (2 * k + 4)) (pgcd (plow f) (plow (pder f))) ∧ (pgcd (plow f) (plow (pder f))).length ≤ f.length ∧ h ≠ [] ∧
      BdP (a + L * (2 * k + 4)) (plow h) ∧ 2 ≤ (plow h).length ∧ (plow h).length ≤ f.length ∧ (∀ r : Int, pei (plow h) r = 0 ↔ pei f r = 0) ∧
      ∃ (u v : List Int) (c : Int), c ≠ 0 ∧ ∀ x, pei u x * pei (plow h) x + pei v x * pei (pder (plow h)) x = c := by
  have fne : f ≠ [] := fun z => by rw [z] at l2; simp at l2
  have ld := pder_len f
  have dne : pder f ≠ [] := fun z => by rw [z] at ld; simp at ld; omega
  obtain ⟨h, w, G⟩ := gf_ex nf (nrm_pder nf) fne dne
  refine ⟨h, w, G, ?_⟩
  obtain ⟨ng, ge, n1, n2, e1, e2, ne, u, v, n, hn, hc⟩ := G
  generalize pgcd (plow f) (plow (pder f)) = g at *
  have fx := pei_ne nf fne
  have hne : h ≠ [] := fun z => by
    obtain ⟨y, hy⟩ := fx
    rw [e1, z, pei_nil, Int.zero_mul] at hy
    exact hy rfl
  have ef : f = pmul h g := pei_inj nf (nrm_pmul n1 ng) fun x => by rw [e1, pei_pmul]
  have ed : pder f = pmul w g := pei_inj (nrm_pder nf) (nrm_pmul n2 ng) fun x => by rw [e2, pei_pmul]
  have l1 := congrArg List.length ef
  have l3 := congrArg List.length ed
  rw [pmul_length hne ge] at l1
  rw [pmul_length ne ge] at l3
  have p1 := List.length_pos_iff.mpr hne
  have p2 := List.length_pos_iff.mpr ge
  have p3 := List.length_pos_iff.mpr ne
  have S0 : Slim f g h w 1 1 := ⟨by decide, by decide, fx, fun x => by rw [Int.one_mul, e1], fun x => by rw [Int.one_mul, e2]⟩
  have sh := psh_ne n1 hne
  have eh : ∀ x, pei h x = psh h * pei (plow h) x := fun x => by rw [← pei_pby, pby_plow h n1]
  refine ⟨bd_fac hL fx ba lL (by omega) e1, by omega, hne, bd_fac (s := pby (psh h) g) hL fx ba lL (by rw [plow_len]; omega) (fun x => by rw [pei_pby, e1, eh]; grind), by rw [plow_len]; omega, by rw [plow_len]; omega, fun r => ?_, ?_⟩
  · rw [← S0.root r, eh]
    constructor
    · intro z; rw [z, Int.mul_zero]
    · intro z; exact (Int.mul_eq_zero.mp z).resolve_left sh
  · obtain ⟨u', v', c, hc', hb⟩ := S0.bez hn (a := u) (b := v) (fun x => by rw [e1, e2, ← hc x]; grind) n1
    refine ⟨pby (psh h) u', pby (psh h) v', c, hc', fun x => ?_⟩
    have d := pder_congr (p := h) (q := pby (psh h) (plow h)) (fun x => by rw [eh, pei_pby]) x
    rw [pder_by] at d
    rw [← hb x, eh, d, pei_pby, pei_pby]
    grind
theorem plow_of_mul {t : Int} {q h : List Int} (ht : t ≠ 0) (nq : Nrm q) (nh : Nrm h) (e : ∀ x, t * pei h x = pei q x) : plow q = plow h := by
  have : q = pby t h := pei_inj nq (nrm_pby' nh) fun x => by rw [pei_pby, e]
  rw [this, plow_pby ht nh]
end PM

/-! M20: the pigeon hole, small solutions of equations (Siegel). -/
namespace PM
theorem nd_len : ∀ (b : Nat) (l : List Nat), l.Nodup → (∀ x ∈ l, x < b) → l.length ≤ b
  | 0, l, _, h => by
    cases l with
    | nil => exact Nat.le_refl _
    | cons x l => exact absurd (h x List.mem_cons_self) (Nat.not_lt_zero _)
  | b + 1, l, nd, h => by
    by_cases m : b ∈ l
    · have := nd_len b (l.erase b) (nd.erase b) fun x hx => by
        have h1 := (nd.mem_erase_iff).mp hx
        have := h x h1.2
        have := h1.1
        omega
      have e := List.length_erase_of_mem m
      have p := List.length_pos_of_mem m
      omega
    · have := nd_len b l nd fun x hx => by
        have := h x hx
        have : x ≠ b := fun e => m (e ▸ hx)
        omega
      omega
theorem pig {a b : Nat} {g : Nat → Nat} (h : b < a) (hg : ∀ i, i < a → g i < b) : ∃ i j, i < j ∧ j < a ∧ g i = g j := Classical.byContradiction fun n => by
  have nd : ((List.range a).map g).Nodup := by
    refine List.pairwise_map.mpr (List.Pairwise.imp_of_mem (fun {i j} hi hj hij e => n ⟨i, j, hij, List.mem_range.mp hj, e⟩) List.pairwise_lt_range)
  have := nd_len b _ nd fun x hx => by
    obtain ⟨i, hi, rfl⟩ := List.mem_map.mp hx
    exact hg i (List.mem_range.mp hi)
  rw [List.length_map, List.length_range] at this
  omega
/-- digits -/
def dig (W : Nat) : Nat → Nat → Nat
  | t, 0 => t % W
  | t, i + 1 => dig W (t / W) i
theorem dig_lt {W : Nat} (h : 0 < W) : ∀ (i t : Nat), dig W t i < W
  | 0, t => Nat.mod_lt _ h
  | i + 1, t => dig_lt h i _
theorem dig_inj {W : Nat} (h : 0 < W) : ∀ (n t s : Nat), t < W ^ n → s < W ^ n → (∀ i, i < n → dig W t i = dig W s i) → t = s
  | 0, t, s, h1, h2, _ => by rw [Nat.pow_zero] at h1 h2; omega
  | n + 1, t, s, h1, h2, e => by
    have e0 := e 0 (Nat.succ_pos n)
    have b1 : t / W < W ^ n := Nat.div_lt_of_lt_mul (by rw [Nat.pow_succ, Nat.mul_comm] at h1; exact h1)
    have b2 : s / W < W ^ n := Nat.div_lt_of_lt_mul (by rw [Nat.pow_succ, Nat.mul_comm] at h2; exact h2)
    have := dig_inj h n (t / W) (s / W) b1 b2 fun i hi => e (i + 1) (by omega)
    have m1 := Nat.div_add_mod t W
    have m2 := Nat.div_add_mod s W
    rw [this] at m1
    unfold dig at e0
    omega
def enc (W : Nat) : Nat → (Nat → Nat) → Nat
  | 0, _ => 0
  | m + 1, f => f 0 + W * enc W m fun k => f (k + 1)
theorem enc_lt {W : Nat} : ∀ (m : Nat) (f : Nat → Nat), (∀ k, k < m → f k < W) → enc W m f < W ^ m
  | 0, _, _ => by rw [enc, Nat.pow_zero]; decide
  | m + 1, f, h => by
    have ih := enc_lt m (fun k => f (k + 1)) fun k hk => h (k + 1) (by omega)
    have h0 := h 0 (by omega)
    rw [enc, Nat.pow_succ, Nat.mul_comm (W ^ m)]
    have := Nat.mul_le_mul_left W (show enc W m (fun k => f (k + 1)) + 1 ≤ W ^ m from ih)
    rw [Nat.mul_add, Nat.mul_one] at this
    omega
theorem enc_inj {W : Nat} : ∀ (m : Nat) (f g : Nat → Nat), (∀ k, k < m → f k < W) → (∀ k, k < m → g k < W) → enc W m f = enc W m g → ∀ k, k < m → f k = g k
  | 0, _, _, _, _, _, k, h => absurd h (Nat.not_lt_zero _)
  | m + 1, f, g, hf, hg, e, k, hk => by
    rw [enc, enc] at e
    have a := hf 0 (by omega)
    have b := hg 0 (by omega)
    have m1 : (f 0 + W * enc W m fun k => f (k + 1)) % W = f 0 := by rw [Nat.add_mul_mod_self_left, Nat.mod_eq_of_lt a]
    have m2 : (g 0 + W * enc W m fun k => g (k + 1)) % W = g 0 := by rw [Nat.add_mul_mod_self_left, Nat.mod_eq_of_lt b]
    have e0 : f 0 = g 0 := by rw [← m1, e, m2]
    have e1 : enc W m (fun k => f (k + 1)) = enc W m fun k => g (k + 1) := Nat.eq_of_mul_eq_mul_left (Nat.lt_of_le_of_lt (Nat.zero_le _) a) (by omega)
    cases k with
    | zero => exact e0
    | succ k => exact enc_inj m _ _ (fun k h => hf (k + 1) (by omega)) (fun k h => hg (k + 1) (by omega)) e1 k (by omega)
theorem abs_sum {A B : Nat} {M x : Nat → Int} (hM : ∀ i, (M i).natAbs ≤ A) (hx : ∀ i, (x i).natAbs ≤ B) : ∀ n : Nat, (sumN n fun i => M i * x i).natAbs ≤ n * (A * B)
  | 0 => by rw [sumN]; simp
  | n + 1 => by
    have ih := abs_sum hM hx n
    have h : (M n * x n).natAbs ≤ A * B := by rw [Int.natAbs_mul]; exact Nat.mul_le_mul (hM n) (hx n)
    rw [sumN, Nat.add_mul, Nat.one_mul]
    omega
/-- fewer equations than unknowns -/
theorem siegel {n m A : Nat} {M : Nat → Nat → Int} (hM : ∀ k i, (M k i).natAbs ≤ A) (hA : 1 ≤ A) (h : m < n) :
    ∃ x : Nat → Int, (∃ i, i < n ∧ x i ≠ 0) ∧ (∀ i, (x i).natAbs ≤ (2 * n * A) ^ (n - 1)) ∧ ∀ k, k < m → sumN n (fun i => M k i * x i) = 0 := by
  generalize hB : (2 * n * A) ^ (n - 1) = B
  have nA : 1 ≤ 2 * n * A := Nat.mul_pos (by omega) hA
  have B1 : 1 ≤ B := by rw [← hB]; exact Nat.pow_pos nA
  have hx : ∀ t i, ((dig (B + 1) t i : Nat) : Int).natAbs ≤ B := fun t i => by
    have := dig_lt (W := B + 1) (by omega) i t
    omega
  -- the rows' values, from 0 on
  have hv : ∀ t k, (sumN n fun i => M k i * ((dig (B + 1) t i : Nat) : Int)).natAbs ≤ n * (A * B) := fun t k => abs_sum (hM k) (hx t) n
  let f : Nat → Nat → Nat := fun t k => ((sumN n fun i => M k i * ((dig (B + 1) t i : Nat) : Int)) + (n * (A * B) : Nat)).toNat
  have hf : ∀ t k, f t k < 2 * (n * (A * B)) + 1 := fun t k => by
    have := hv t k
    show Int.toNat _ < _
    omega
  have lt : (2 * (n * (A * B)) + 1) ^ m < (B + 1) ^ n := by
    have e1 : 2 * (n * (A * B)) + 1 ≤ 2 * n * A * (B + 1) := by
      have : 2 * (n * (A * B)) = 2 * n * A * B := by simp only [Nat.mul_assoc]
      rw [this, Nat.mul_add, Nat.mul_one]; omega
    have e2 : (2 * (n * (A * B)) + 1) ^ m ≤ (2 * n * A) ^ m * (B + 1) ^ m := by rw [← Nat.mul_pow]; exact Nat.pow_le_pow_left e1 m
    have e3 : (2 * n * A) ^ m ≤ B := by rw [← hB]; exact Nat.pow_le_pow_right nA (by omega)
    have e4 : (B + 1) ^ m ≤ (B + 1) ^ (n - 1) := Nat.pow_le_pow_right (by omega) (by omega)
    have e5 : (B + 1) ^ n = (B + 1) ^ (n - 1) * (B + 1) := by rw [← Nat.pow_succ]; congr 1; omega
    have e6 := Nat.mul_le_mul e3 e4
    have e7 : 0 < (B + 1) ^ (n - 1) := Nat.pow_pos (by omega)
    have e8 : (B + 1) ^ n = B * (B + 1) ^ (n - 1) + (B + 1) ^ (n - 1) := by rw [e5, Nat.mul_add, Nat.mul_one, Nat.mul_comm]
    omega
  obtain ⟨t, s, ts, hs, e⟩ := pig lt (g := fun t => enc (2 * (n * (A * B)) + 1) m (f t)) fun t _ => enc_lt m _ fun k _ => hf t k
  have eq := enc_inj m _ _ (fun k _ => hf t k) (fun k _ => hf s k) e
  refine ⟨fun i => (dig (B + 1) t i : Int) - (dig (B + 1) s i : Int), ?_, fun i => ?_, fun k hk => ?_⟩
  · refine Classical.byContradiction fun no => ?_
    have := dig_inj (W := B + 1) (by omega) n t s (by omega) hs fun i hi => Classical.byContradiction fun ne => no ⟨i, hi, by show _ - _ ≠ _; omega⟩
    exact absurd this (by omega)
  · have := dig_lt (W := B + 1) (by omega) i t
    have := dig_lt (W := B + 1) (by omega) i s
    show ((dig (B + 1) t i : Int) - (dig (B + 1) s i : Int)).natAbs ≤ B
    omega
  · have h1 := eq k hk
    have v1 := hv t k
    have v2 := hv s k
    have h2 : (sumN n fun i => M k i * ((dig (B + 1) t i : Nat) : Int)) = sumN n fun i => M k i * ((dig (B + 1) s i : Nat) : Int) := by
      have h1 : Int.toNat _ = Int.toNat _ := h1
      omega
    have h3 : (sumN n fun i => M k i * ((dig (B + 1) t i : Int) - (dig (B + 1) s i : Int))) = (sumN n fun i => M k i * ((dig (B + 1) t i : Nat) : Int)) + sumN n fun i => (-1) * (M k i * ((dig (B + 1) s i : Nat) : Int)) := by
      rw [← sumN_add]
      exact sumN_congr fun i _ => by rw [Int.mul_sub]; omega
    rw [h3, sumN_mul, h2]; omega
end PM

/-! M21: the rests of Euclid's way are small. -/
namespace PM
theorem trim_len_of {L : List Int} {n : Nat} (h : ∀ i, n ≤ i → cf L i = 0) : (trim L).length ≤ n := by
  by_cases e : trim L = []
  · rw [e]; exact Nat.zero_le _
  · have t := nrm_top (nrm_trim L) e
    rw [cf_trim] at t
    by_cases l : n ≤ (trim L).length - 1
    · exact absurd (h _ l) t
    · omega
theorem pplus_len_lt {a b : List Int} (na : Nrm a) (h : b.length < a.length) : (pplus a b).length = a.length := by
  have l := pplus_len a b
  refine Nat.le_antisymm (by omega) (Nat.le_of_not_lt fun z => ?_)
  have ne : a ≠ [] := fun e => by rw [e] at h; simp at h
  have t := nrm_top na ne
  have c := cf_pplus a b (a.length - 1)
  rw [cf_ge (by omega), cf_ge (p := b) (by omega)] at c
  omega
structure Ch (p q X Y u0 v0 u1 v1 : List Int) (α β δ : Int) : Prop where
  a0 : α ≠ 0
  b0 : β ≠ 0
  d0 : δ ≠ 0
  eX : ∀ x, α * pei X x = pei u0 x * pei p x + pei v0 x * pei q x
  eY : ∀ x, β * pei Y x = pei u1 x * pei p x + pei v1 x * pei q x
  eD : ∀ x, pei u1 x * pei v0 x - pei u0 x * pei v1 x = δ
  lv : (trim v1).length + X.length = p.length + 1
  l0 : (trim v0).length ≤ (trim v1).length
  l1 : Y.length < X.length ∨ (trim v0).length < (trim v1).length
  lX : X.length ≤ p.length
  lY : Y.length ≤ X.length
  nX : Nrm X
  nY : Nrm Y
theorem Ch.start {p q : List Int} (np : Nrm p) (nq : Nrm q) (h : q.length ≤ p.length) : Ch p q p q [1] [] [] [1] 1 1 (-1) := by
  have e1 : trim [(1 : Int)] = [1] := trim_of_nrm fun c hc => by cases hc; decide
  have o : ∀ x, pei [1] x = 1 := fun x => by rw [pei_cons, pei_nil]; omega
  refine ⟨by decide, by decide, by decide, fun x => by rw [o, pei_nil]; grind, fun x => by rw [o, pei_nil]; grind, fun x => by rw [o, pei_nil]; omega, ?_, ?_, .inr ?_, Nat.le_refl _, h, np, nq⟩
  · rw [e1]; simp; omega
  · rw [e1, trim_nil]; simp
  · rw [e1, trim_nil]; simp
theorem pdv_len {X Y Q R : List Int} {t : Int} (nX : Nrm X) (nY : Nrm Y) (h : Pdv X Y t Q R) (l : Y.length ≤ X.length) : Q.length + Y.length = X.length + 1 := by
  have ly : 0 < Y.length := Nat.lt_of_le_of_lt (Nat.zero_le _) h.hl
  have yn : Y ≠ [] := List.length_pos_iff.mp ly
  have e : pby t X = pplus (pmul Q Y) R := pei_inj (nrm_pby' nX) (nrm_pplus _ _) fun x => by rw [pei_pby, pei_pplus, pei_pmul, h.he]
  have le := congrArg List.length e
  rw [pby_length h.ht] at le
  by_cases q0 : Q = []
  · rw [q0] at le
    have e0 : pmul [] Y = [] := by unfold pmul; rw [if_pos (.inl rfl)]
    rw [e0] at le
    have l3 := pplus_len [] R
    rw [← le, List.length_nil, Nat.zero_max] at l3
    have := h.hl
    omega
  · have lq := List.length_pos_iff.mpr q0
    have lm := pmul_length q0 yn
    rw [pplus_len_lt (nrm_pmul h.hq nY) (by have := h.hl; omega)] at le
    omega
theorem Ch.step {p q X Y u0 v0 u1 v1 : List Int} {α β δ : Int} (H : Ch p q X Y u0 v0 u1 v1 α β δ) (ne : Y ≠ []) : ∃ u2 v2 β' δ', Ch p q Y (prem X Y) u1 v1 u2 v2 β β' δ' := by
  obtain ⟨t, Q, R, h⟩ := pdv_ex H.nY ne X H.nX
  have er := prem_of H.nY h
  have pl := prem_len H.nY ne H.nX
  obtain ⟨c, c0, ec⟩ : ∃ c : Int, c ≠ 0 ∧ ∀ x, c * pei (prem X Y) x = pei R x := by
    by_cases z : R = []
    · exact ⟨1, by decide, fun x => by rw [er, z, plow_nil, pei_nil]; omega⟩
    · exact ⟨psh R, psh_ne h.hr z, fun x => by rw [er, ← pei_pby, pby_plow R h.hr]⟩
  have lq := pdv_len H.nX H.nY h H.lY
  have vne : 0 < (trim v1).length := by have := H.lv; have := H.lX; omega
  have qne : Q ≠ [] := fun z => by rw [z] at lq; have := H.lY; simp at lq; omega
  have lv2 : (trim (padd (pby (β * t) v0) (pby (-α) (rmul Q v1)))).length = Q.length + (trim v1).length - 1 := by
    have e : trim (padd (pby (β * t) v0) (pby (-α) (rmul Q v1))) = pplus (pby (-α) (pmul Q (trim v1))) (pby (β * t) (trim v0)) := pei_inj (nrm_trim _) (nrm_pplus _ _) fun x => by
      rw [pei_trim, pei_padd, pei_pplus, pei_pby, pei_pby, pei_pby, pei_pby, pei_rmul, pei_pmul, pei_trim, pei_trim]; omega
    have a1 : -α ≠ 0 := by have := H.a0; omega
    have lm : (pby (-α) (pmul Q (trim v1))).length = Q.length + (trim v1).length - 1 := by rw [pby_length a1, pmul_length qne (List.length_pos_iff.mp vne)]
    have lb := pby_len' (β * t) (trim v0)
    have lqp := List.length_pos_iff.mpr qne
    have := H.l0
    rw [e, pplus_len_lt (nrm_pby' (nrm_pmul h.hq (nrm_trim _))) ?_, lm]
    rw [lm]
    rcases H.l1 with z | z <;> omega
  have lqp := List.length_pos_iff.mpr qne
  refine ⟨padd (pby (β * t) u0) (pby (-α) (rmul Q u1)), padd (pby (β * t) v0) (pby (-α) (rmul Q v1)), α * β * c, -(β * t * δ), H.b0, Int.mul_ne_zero (Int.mul_ne_zero H.a0 H.b0) c0, ?_, H.eY, fun x => ?_, fun x => ?_, ?_, ?_, .inl pl.1, ?_, Nat.le_of_lt pl.1, H.nY, pl.2⟩
  · have := Int.mul_ne_zero (Int.mul_ne_zero H.b0 h.ht) H.d0; omega
  · have e1 := H.eX x
    have e2 := H.eY x
    have e3 := h.he x
    have e4 := ec x
    simp only [pei_padd, pei_pby, pei_rmul]
    generalize pei X x = a1 at *
    generalize pei Y x = a2 at *
    generalize pei R x = a3 at *
    generalize pei (prem X Y) x = a4 at *
    generalize pei Q x = a5 at *
    generalize pei p x = a6 at *
    generalize pei q x = a7 at *
    have f1 : α * β * c * a4 = α * β * a3 := by rw [← e4]; grind
    have f2 : a3 = t * a1 - a5 * a2 := by omega
    have f3 : α * β * (t * a1 - a5 * a2) = β * t * (α * a1) - α * a5 * (β * a2) := by grind
    rw [f1, f2, f3, e1, e2]
    grind
  · have e1 := H.eD x
    simp only [pei_padd, pei_pby, pei_rmul]
    rw [← e1]
    grind
  · rw [lv2]; have := H.lv; omega
  · rw [lv2]; omega
  · have := H.lY; have := H.lX; omega
theorem sumN_split (f : Nat → Int) (a : Nat) : ∀ b : Nat, sumN (a + b) f = sumN a f + sumN b fun j => f (a + j)
  | 0 => by rw [Nat.add_zero]; show _ = _ + 0; omega
  | b + 1 => by rw [← Nat.add_assoc, sumN, sumN_split f a b, sumN]; omega
def cfs (p : List Int) (j i : Nat) : Int := if i ≤ j then cf p (j - i) else 0
theorem conv_row {u p : List Int} {n : Nat} (h : ∀ i, n ≤ i → cf u i = 0) (j : Nat) : conv u p j = sumN n fun i => cfs p j i * cf u i := by
  have a : conv u p j = sumN (j + 1 + n) fun i => cfs p j i * cf u i := by
    unfold conv
    rw [sumN_more (n := j + 1) (m := j + 1 + n) (by omega) (fun i h1 h2 => by unfold cfs; rw [if_neg (by omega), Int.zero_mul])]
    exact sumN_congr fun i hi => by unfold cfs; rw [if_pos (by omega), Int.mul_comm]
  rw [a, sumN_more (n := n) (m := j + 1 + n) (by omega) (fun i h1 h2 => by rw [h i h1, Int.mul_zero])]
theorem cf_range (f : Nat → Int) (n i : Nat) : cf ((List.range n).map f) i = if i < n then f i else 0 := cf_map_range n f i
theorem cfs_bd {a : Nat} {p : List Int} (h : BdP a p) (j i : Nat) : (cfs p j i).natAbs ≤ 2 ^ a := by
  unfold cfs
  split
  · exact Nat.le_of_lt (h.cf _)
  · exact Nat.zero_le _
/-- a rest is small -/
theorem Ch.small {p q X Y u0 v0 u1 v1 : List Int} {α β δ : Int} {a L : Nat} (H : Ch p q X Y u0 v0 u1 v1 α β δ) (np : Nrm p) (nq : Nrm q) (hY : Y ≠ []) (hc : pcon Y = 1) (hXY : Y.length < X.length) (hXq : X.length ≤ q.length) (lp : p.length ≤ L) (lq : q.length ≤ L) (bp : BdP a p) (bq : BdP a q)
    {c : Nat} (hL : 2 * L ≤ 2 ^ c) : BdP ((1 + c + a) * (2 * L)) Y := by
  have xl : 0 < X.length := by omega
  generalize hLa : q.length - X.length + 1 = La
  generalize hLb : p.length - X.length + 1 = Lb
  have lX := H.lX
  obtain ⟨x, ⟨i0, hi0, hx0⟩, hxB, hx⟩ := siegel (n := La + Lb) (m := La + Lb - 1) (A := 2 ^ a) (M := fun k i => if i < La then cfs p (X.length - 1 + k) i else cfs q (X.length - 1 + k) (i - La)) (fun k i => by
    split
    · exact cfs_bd bp _ _
    · exact cfs_bd bq _ _) (Nat.pow_pos (by decide)) (by omega)
  let u := (List.range La).map x
  let v := (List.range Lb).map fun j => x (La + j)
  have cu : ∀ i, cf u i = if i < La then x i else 0 := cf_range x La
  have cv : ∀ i, cf v i = if i < Lb then x (La + i) else 0 := cf_range (fun j => x (La + j)) Lb
  have cw : ∀ j, cf (padd (rmul u p) (rmul v q)) j = sumN (La + Lb) fun i => (if i < La then cfs p j i else cfs q j (i - La)) * x i := fun j => by
    rw [cf_padd, cf_rmul, cf_rmul, conv_row (n := La) (fun i hi => by rw [cu, if_neg (by omega)]), conv_row (n := Lb) (fun i hi => by rw [cv, if_neg (by omega)]), sumN_split]
    congr 1
    · exact sumN_congr fun i hi => by rw [if_pos hi, cu, if_pos hi]
    · exact sumN_congr fun i hi => by rw [if_neg (by omega), cv, if_pos hi, Nat.add_sub_cancel_left]
  have wl : (trim (padd (rmul u p) (rmul v q))).length ≤ X.length - 1 := trim_len_of fun j hj => by
    by_cases z : j - (X.length - 1) < La + Lb - 1
    · have := hx _ z
      rw [show X.length - 1 + (j - (X.length - 1)) = j by omega] at this
      rw [cw]
      exact this
    · rw [cf_padd, cf_rmul, cf_rmul, conv_row (n := La) (fun i hi => by rw [cu, if_neg (by omega)]), conv_row (n := Lb) (fun i hi => by rw [cv, if_neg (by omega)]),
        sumN_zero (fun i hi => by unfold cfs; rw [if_pos (by omega), cf_ge (by omega), Int.zero_mul]), sumN_zero (fun i hi => by unfold cfs; rw [if_pos (by omega), cf_ge (by omega), Int.zero_mul])]; rfl
  generalize hw : padd (rmul u p) (rmul v q) = w at *
  have ew : ∀ y, pei w y = pei u y * pei p y + pei v y * pei q y := fun y => by rw [← hw, pei_padd, pei_rmul, pei_rmul]
  have pne : p ≠ [] := fun z => by rw [z, List.length_nil] at lX; omega
  have lv := H.lv
  have v1n : trim v1 ≠ [] := List.length_pos_iff.mp (by omega)
  have v1x : ∃ y, pei v1 y ≠ 0 := by
    obtain ⟨y, hy⟩ := pei_ne (nrm_trim v1) v1n
    exact ⟨y, by rwa [pei_trim] at hy⟩
  have vl : v.length = Lb := by show ((List.range Lb).map _).length = _; rw [List.length_map, List.length_range]
  -- the cofactors go along
  have key : ∀ y, pei u y * pei v1 y = pei u1 y * pei v y := Classical.byContradiction fun no => by
    obtain ⟨y, hy⟩ := Classical.not_forall.mp no
    have eE : ∀ y, pei (padd (rmul w v1) (pby (-β) (rmul Y v))) y = pei p y * pei (padd (rmul u v1) (pby (-1) (rmul u1 v))) y := fun y => by
      have := H.eY y
      simp only [pei_padd, pei_pby, pei_rmul]
      rw [ew]
      have e : -β * (pei Y y * pei v y) = -(β * pei Y y) * pei v y := by grind
      rw [e, this]
      grind
    have px := pei_ne np pne
    have dx : ∃ y, pei (padd (rmul u v1) (pby (-1) (rmul u1 v))) y ≠ 0 := ⟨y, by rw [pei_padd, pei_pby, pei_rmul, pei_rmul]; omega⟩
    obtain ⟨z, hz⟩ := ne_mul (.of p) (.of _) px dx
    have l := dvs_len (c := 1) (g := padd (rmul w v1) (pby (-β) (rmul Y v))) (D := p) (h := padd (rmul u v1) (pby (-1) (rmul u1 v))) (by decide) ⟨z, by rw [eE]; exact hz⟩ fun y => by rw [Int.one_mul, eE]
    rw [trim_of_nrm np] at l
    have l2 := trim_len_of (L := padd (rmul w v1) (pby (-β) (rmul Y v))) (n := p.length - 1) fun i hi => by
      rw [cf_padd, cf_pby, cf_rmul, cf_rmul, conv_ge (p := Y) (q := v) (by omega), Int.mul_zero, Int.add_zero]
      have e : conv w v1 i = conv (trim w) (trim v1) i := by
        unfold conv
        exact sumN_congr fun k _ => by rw [cf_trim, cf_trim]
      rw [e]
      exact conv_ge (by omega)
    have := List.length_pos_iff.mpr pne
    omega
  have ev : ∀ y, δ * pei v y = pei v1 y * pei (padd (rmul u v0) (pby (-1) (rmul u0 v))) y := fun y => by
    rw [pei_padd, pei_pby, pei_rmul, pei_rmul, ← H.eD y]
    have := key y
    have e : pei v1 y * (pei u y * pei v0 y + -1 * (pei u0 y * pei v y)) = (pei u y * pei v1 y) * pei v0 y - pei u0 y * pei v1 y * pei v y := by grind
    rw [e, this]; grind
  obtain ⟨ζ, hζ⟩ : ∃ ζ : Int, ∀ y, pei (padd (rmul u v0) (pby (-1) (rmul u0 v))) y = ζ := by
    generalize padd (rmul u v0) (pby (-1) (rmul u0 v)) = z at *
    have e : pby δ (trim v) = pmul (trim v1) (trim z) := pei_inj (nrm_pby' (nrm_trim _)) (nrm_pmul (nrm_trim _) (nrm_trim _)) fun y => by rw [pei_pby, pei_pmul, pei_trim, pei_trim, pei_trim, ev]
    have l := congrArg List.length e
    rw [pby_length H.d0] at l
    have tv := trim_len v
    by_cases z0 : trim z = []
    · exact ⟨0, fun y => by rw [← pei_trim, z0]; rfl⟩
    · rw [pmul_length v1n z0] at l
      have := List.length_pos_iff.mpr z0
      obtain ⟨c, hc⟩ := List.length_eq_one_iff.mp (show (trim z).length = 1 by omega)
      exact ⟨c, fun y => by rw [← pei_trim, hc, pei_cons, pei_nil]; omega⟩
  have eW : ∀ y, δ * pei w y = β * ζ * pei Y y := by
    refine El.cancel (f := fun y => δ * pei w y) (g := fun y => β * ζ * pei Y y) (h := pei v1) (.mul (.con _) (.of _)) (.mul (.con _) (.of _)) (.of _) v1x fun y => ?_
    have a1 := H.eY y
    have a2 := ev y
    have a3 := key y
    rw [hζ] at a2
    have b1 : δ * pei w y * pei v1 y = pei u y * pei v1 y * pei p y * δ + δ * pei v y * pei q y * pei v1 y := by rw [ew]; grind
    have b2 : β * ζ * pei Y y * pei v1 y = (β * pei Y y) * (pei v1 y * ζ) := by grind
    rw [b1, b2, a1, ← a2, a3]
    grind
  have px := pei_ne np pne
  have ζ0 : ζ ≠ 0 := fun z => by
    have vz : ∀ y, pei v y = 0 := fun y => by
      have := ev y
      rw [hζ, z, Int.mul_zero] at this
      exact (Int.mul_eq_zero.mp this).resolve_left H.d0
    have wz : ∀ y, pei w y = 0 := fun y => by
      have := eW y
      rw [z, Int.mul_zero, Int.zero_mul] at this
      exact (Int.mul_eq_zero.mp this).resolve_left H.d0
    have uz : ∀ y, pei u y = 0 := El.cancel (.of u) (.con 0) (.of p) px fun y => by
      have := ew y
      rw [wz, vz, Int.zero_mul, Int.add_zero] at this
      show pei u y * pei p y = 0 * pei p y
      rw [Int.zero_mul, ← this]
    have cu0 : ∀ i, cf u i = 0 := fun i => pei_cf (q := []) (fun y => by rw [uz]; rfl) i
    have cv0 : ∀ i, cf v i = 0 := fun i => pei_cf (q := []) (fun y => by rw [vz]; rfl) i
    by_cases h : i0 < La
    · have := cu0 i0
      rw [cu, if_pos h] at this
      exact hx0 this
    · have := cv0 (i0 - La)
      rw [cv, if_pos (by omega), show La + (i0 - La) = i0 by omega] at this
      exact hx0 this
  have bz : β * ζ ≠ 0 := Int.mul_ne_zero H.b0 ζ0
  obtain ⟨s, ns, hs⟩ := dvs_fac (T := trim w) hc ⟨δ, [β * ζ], H.d0, fun c h => by cases h; exact bz, fun y => by rw [pei_trim, eW, pei_cons, pei_nil, Int.mul_zero, Int.add_zero]⟩
  have es : ∀ y, δ * pei s y = β * ζ := El.cancel (f := fun y => δ * pei s y) (g := fun _ => β * ζ) (.mul (.con _) (.of _)) (.con _) (.of Y) (pei_ne H.nY hY) fun y => by
    have a1 := eW y
    have a2 := hs y
    rw [pei_trim] at a2
    rw [a2] at a1
    rw [← a1]; grind
  have s0 : pei s 0 ≠ 0 := fun z => by
    have := es 0
    rw [z, Int.mul_zero] at this
    exact bz this.symm
  have es2 : ∀ y, pei s y = pei s 0 := fun y => Int.eq_of_mul_eq_mul_left H.d0 (by rw [es, es])
  have cY : ∀ i, cf w i = pei s 0 * cf Y i := fun i => by
    rw [← cf_pby]
    exact pei_cf (fun y => by rw [pei_pby, ← pei_trim w, hs, es2]) i
  have nL : La + Lb ≤ 2 * L := by omega
  refine bdp_cf fun i => ?_
  have b1 : (cf w i).natAbs ≤ (La + Lb) * (2 ^ a * (2 * (La + Lb) * 2 ^ a) ^ (La + Lb - 1)) := by
    rw [cw]
    exact abs_sum (fun k => by split; exact cfs_bd bp _ _; exact cfs_bd bq _ _) hxB _
  have b2 : (cf Y i).natAbs ≤ (cf w i).natAbs := by
    rw [cY, Int.natAbs_mul]
    exact Nat.le_mul_of_pos_left _ (by omega)
  generalize hn : La + Lb = n at *
  have n1 : 1 ≤ n := by omega
  have b3 : n * (2 ^ a * (2 * n * 2 ^ a) ^ (n - 1)) < (2 * n * 2 ^ a) ^ n := by
    have e : (2 * n * 2 ^ a) ^ n = (2 * n * 2 ^ a) ^ (n - 1) * (2 * n * 2 ^ a) := by rw [← Nat.pow_succ]; congr 1; omega
    have p1 : 0 < 2 ^ a := Nat.pow_pos (by decide)
    have p2 : 0 < (2 * n * 2 ^ a) ^ (n - 1) := Nat.pow_pos (Nat.mul_pos (by omega) p1)
    have p3 := Nat.mul_pos (Nat.mul_pos n1 p1) p2
    rw [e]
    generalize (2 * n * 2 ^ a) ^ (n - 1) = G at *
    generalize 2 ^ a = E at *
    have q1 : n * (E * G) = n * E * G := by rw [Nat.mul_assoc]
    have q2 : G * (2 * n * E) = 2 * (n * E * G) := by
      rw [Nat.mul_comm G, Nat.mul_assoc 2 n E, Nat.mul_assoc 2]
    rw [q1, q2]; omega
  have b4 : (2 * n * 2 ^ a) ^ n ≤ 2 ^ ((1 + c + a) * (2 * L)) := by
    have e1 : 2 * n * 2 ^ a ≤ 2 ^ (1 + c + a) := by
      rw [Nat.pow_add, Nat.pow_add, Nat.pow_one]
      exact Nat.mul_le_mul_right _ (Nat.mul_le_mul_left 2 (by omega))
    have e2 : (2 * n * 2 ^ a) ^ n ≤ (2 ^ (1 + c + a)) ^ n := Nat.pow_le_pow_left e1 n
    rw [← Nat.pow_mul] at e2
    exact Nat.le_trans e2 (Nat.pow_le_pow_right (by decide) (Nat.mul_le_mul_left _ (by omega)))
  unfold Bd
  omega
end PM

/-! M22: Euclid's way, bounded from end to end. -/
namespace PM
/-- all polys on the way are within bits K, lengths L -/
def GC (K L : Nat) : Nat → List Int → List Int → Prop
  | 0, _, y => y = []
  | n + 1, x, y => y = [] ∨ (BdP K x ∧ BdP K y ∧ x.length ≤ L ∧ y.length ≤ L ∧ Nrm x ∧ Nrm y ∧ GC K L n y (prem x y))
theorem prem_con {X Y : List Int} (nX : Nrm X) (nY : Nrm Y) (ne : Y ≠ []) (z : prem X Y ≠ []) : pcon (prem X Y) = 1 := by
  obtain ⟨t, Q, R, h⟩ := pdv_ex nY ne X nX
  rw [prem_of nY h] at z ⊢
  exact pcon_plow h.hr fun e => z (by rw [e]; rfl)
theorem Ch.gc {p q : List Int} {a L c K : Nat} (np : Nrm p) (nq : Nrm q) (lp : p.length ≤ L) (lq : q.length ≤ L) (bp : BdP a p) (bq : BdP a q) (hL : 2 * L ≤ 2 ^ c) (hK : (1 + c + a) * (2 * L) ≤ K) :
    ∀ (n : Nat) (X Y u0 v0 u1 v1 : List Int) (α β δ : Int), Ch p q X Y u0 v0 u1 v1 α β δ → Y.length < n → BdP K X → X.length ≤ q.length → Y.length < X.length → (Y ≠ [] → pcon Y = 1) → GC K L n X Y := by
  intro n
  induction n with
  | zero => intro X Y u0 v0 u1 v1 α β δ H h; omega
  | succ n ih =>
    intro X Y u0 v0 u1 v1 α β δ H hn bX lX lXY hc
    by_cases z : Y = []
    · exact .inl z
    · have bY := (H.small np nq z (hc z) lXY lX lp lq bp bq hL).mono hK
      obtain ⟨u2, v2, β', δ', H2⟩ := H.step z
      have pl := prem_len H.nY z H.nX
      exact .inr ⟨bX, bY, by omega, by omega, H.nX, H.nY, ih Y _ _ _ _ _ _ _ _ H2 (by omega) bY (by omega) pl.1 fun w => prem_con H.nX H.nY z w⟩
theorem gc_ge {p q : List Int} {a L c K : Nat} (np : Nrm p) (nq : Nrm q) (lp : p.length ≤ L) (lq : q.length ≤ L) (bp : BdP a p) (bq : BdP a q) (hL : 2 * L ≤ 2 ^ c) (hK : (1 + c + a) * (2 * L) ≤ K) (hL1 : 1 ≤ L) (h : q.length ≤ p.length) : GC K L (q.length + 1) p q := by
  have aK : a ≤ K := by
    have : a ≤ (1 + c + a) * (2 * L) := Nat.le_trans (by omega : a ≤ 1 + c + a) (Nat.le_mul_of_pos_right _ (by omega))
    omega
  by_cases z : q = []
  · exact .inl z
  · obtain ⟨u2, v2, β', δ', H2⟩ := (Ch.start np nq h).step z
    have pl := prem_len nq z np
    exact .inr ⟨bp.mono aK, bq.mono aK, lp, lq, np, nq, Ch.gc np nq lp lq bp bq hL hK _ _ _ _ _ _ _ _ _ _ H2 (by omega) (bq.mono aK) (Nat.le_refl _) pl.1 fun w => prem_con np nq z w⟩
theorem GC.more {K L : Nat} : ∀ {n m : Nat} {x y : List Int}, GC K L n x y → n ≤ m → GC K L m x y
  | 0, 0, _, _, h, _ => h
  | 0, m + 1, _, _, h, _ => .inl h
  | n + 1, 0, _, _, _, h => by omega
  | n + 1, m + 1, x, y, h, hm => by
    rcases h with h | ⟨h1, h2, h3, h4, h5, h6, h7⟩
    · exact .inl h
    · exact .inr ⟨h1, h2, h3, h4, h5, h6, h7.more (by omega)⟩
theorem gc_all {p q : List Int} {a L c K : Nat} (np : Nrm p) (nq : Nrm q) (lp : p.length ≤ L) (lq : q.length ≤ L) (bp : BdP a p) (bq : BdP a q) (hL : 2 * L ≤ 2 ^ c) (hK : (1 + c + a) * (2 * L) ≤ K) (hL1 : 1 ≤ L) (pp : plow p = p) : ∃ n, GC K L n p q := by
  by_cases h : q.length ≤ p.length
  · exact ⟨_, gc_ge np nq lp lq bp bq hL hK hL1 h⟩
  · have z : q ≠ [] := fun z => by rw [z] at h; simp at h
    have D : Pdv p q 1 [] p := ⟨by decide, nrm_nil, np, by omega, fun n => by rw [pei_nil]; omega⟩
    have e : prem p q = p := by rw [prem_of nq D, pp]
    have aK : a ≤ K := by
      have : a ≤ (1 + c + a) * (2 * L) := Nat.le_trans (by omega : a ≤ 1 + c + a) (Nat.le_mul_of_pos_right _ (by omega))
      omega
    exact ⟨_ + 1, .inr ⟨bp.mono aK, bq.mono aK, lp, lq, np, nq, by rw [e]; exact gc_ge nq np lq lp bq bp hL hK hL1 (by omega)⟩⟩
end PM

/-! ### the law's defs: numbers, bodies, table -/
namespace LW
open PySem PySem.Spec PyProof.Rows L2 DL
namespace F
abbrev value_in : Nat := 0
abbrev balanced : Nat := 1
abbrev inverse_in : Nat := 2
abbrev derived_in : Nat := 3
abbrev led_up : Nat := 4
abbrev next_prime : Nat := 5
abbrev poly_in : Nat := 6
abbrev by_modulus : Nat := 7
abbrev parted_by : Nat := 8
abbrev by_in : Nat := 9
abbrev with_last_one : Nat := 10
abbrev common_modulo : Nat := 11
abbrev good_prime : Nat := 12
abbrev over_in : Nat := 13
abbrev common_share : Nat := 14
abbrev content_in : Nat := 15
abbrev lowest_in : Nat := 16
abbrev plus_in : Nat := 17
abbrev minus_in : Nat := 18
abbrev times_in : Nat := 19
abbrev parted_in : Nat := 20
abbrev quotient_in : Nat := 21
abbrev lowest_over : Nat := 22
abbrev common_in : Nat := 23
abbrev slim_in : Nat := 24
abbrev degree_in : Nat := 25
abbrev integer_roots : Nat := 26
abbrev root_places : Nat := 27
abbrev is_rootless : Nat := 28
abbrev content_of : Nat := 29
abbrev exact_in : Nat := 30
abbrev divided : Nat := 31
abbrev ratio_in : Nat := 32
abbrev is_integer : Nat := 33
abbrev is_plain_poly : Nat := 34
abbrev is_plain_ratio : Nat := 35
abbrev is_passed_ratio : Nat := 36
abbrev is_broken : Nat := 37
abbrev is_factor : Nat := 38
abbrev Term_init : Nat := 39
abbrev KnownRatio_init : Nat := 40
abbrev made_term : Nat := 41
abbrev moved_in : Nat := 42
abbrev ratio_moved_in : Nat := 43
abbrev broken_in : Nat := 44
abbrev broken_times : Nat := 45
abbrev value_of : Nat := 46
abbrev numbers_of : Nat := 47
abbrev require_within : Nat := 48
abbrev require_term : Nat := 49
abbrev term_moved : Nat := 50
abbrev binomials : Nat := 51
abbrev ratio_times_in : Nat := 52
abbrev term_times : Nat := 53
abbrev require_factor : Nat := 54
abbrev powers : Nat := 55
abbrev factorials : Nat := 56
abbrev _law_roll : Nat := 57
abbrev _law_gcd : Nat := 58
abbrev _law_fr : Nat := 59
abbrev _law_fr_times : Nat := 60
abbrev _law_pick : Nat := 61
abbrev stretched_in : Nat := 62
abbrev term_section : Nat := 63
abbrev _law_content : Nat := 64
abbrev _law_pl_by : Nat := 65
abbrev _law_pl : Nat := 66
abbrev _law_pl_parted : Nat := 67
abbrev _law_pl_over : Nat := 68
abbrev _law_pl_lowest : Nat := 69
abbrev _law_pl_common : Nat := 70
abbrev _law_rt : Nat := 71
abbrev _law_pl_plus : Nat := 72
abbrev _law_pl_times : Nat := 73
abbrev _law_pl_moved : Nat := 74
abbrev _law_rt_moved : Nat := 75
abbrev _law_pl_at : Nat := 76
abbrev _law_rt_at : Nat := 77
abbrev _law_tm_numbers : Nat := 78
abbrev _law_tm_drawn : Nat := 79
abbrev require_place : Nat := 80
abbrev Term_numbers : Nat := 81
abbrev Term_number : Nat := 82
abbrev Term_eq : Nat := 83
abbrev Term_ratio : Nat := 84
abbrev _law_right : Nat := 85
abbrev _law_dice : Nat := 86
abbrev Term_first : Nat := 87
abbrev law : Nat := 88
end F
namespace G
abbrev NOUGHT_forms : Nat := 0
abbrev NOUGHT_ratios : Nat := 1
abbrev MOST_NUMBERS : Nat := 2
abbrev MOST_MOVED : Nat := 3
abbrev ONE : Nat := 4
abbrev MOST_STEP : Nat := 5
abbrev MAX_PLACE : Nat := 6
abbrev MOST_AT_ONCE : Nat := 7
end G
abbrev cls : List (String × List Str) := [("KnownRatio", ["own_ratio"]), ("Term", ["own_first", "own_ratio", "!="])]
abbrev xcs : List String := []
def b_value_in : Bl := (.cons (.asg (.nm 2) (.cst (.int 0))) (.cons (.for (.nm 3) (.seq (.stp (.var 0) .no .no (.neg (.cst (.int 1))))) (.cons (.asg (.nm 2) (.bin .add (.bin .mul (.var 2) (.var 1)) (.var 3))) .nil)) (.cons (.ret (.var 2)) .nil)))
def d_value_in : Df := ⟨F.value_in, "value_in", ["poly", "number"], ["poly", "number", "found", "one"], 33, [], [], b_value_in, (.fn "value_in"), cls, [], [], [], xcs⟩
def b_balanced : Bl := (.cons (.asg (.nm 0) (.bin .mod (.var 0) (.var 1))) (.cons (.ret (.ite (.cmp .gt (.bin .mul (.cst (.int 2)) (.var 0)) (.var 1)) (.bin .sub (.var 0) (.var 1)) (.var 0))) .nil))
def d_balanced : Df := ⟨F.balanced, "balanced", ["number", "modulus"], ["number", "modulus"], 33, [], [], b_balanced, (.fn "balanced"), cls, [], [], [], xcs⟩
def b_inverse_in : Bl := (.cons (.asg (.tp (.cons (.nm 2) (.cons (.nm 3) (.cons (.nm 4) (.cons (.nm 5) .nil))))) (.tup (.cons (.bin .mod (.var 0) (.var 1)) (.cons (.var 1) (.cons (.cst (.int 1)) (.cons (.cst (.int 0)) .nil)))))) (.cons (.whl (.cmp .ne (.var 3) (.cst (.int 0))) (.cons (.asg (.nm 6) (.bin .fdiv (.var 2) (.var 3))) (.cons (.asg (.tp (.cons (.nm 2) (.cons (.nm 3) (.cons (.nm 4) (.cons (.nm 5) .nil))))) (.tup (.cons (.var 3) (.cons (.bin .sub (.var 2) (.bin .mul (.var 6) (.var 3))) (.cons (.var 5) (.cons (.bin .sub (.var 4) (.bin .mul (.var 6) (.var 5))) .nil)))))) .nil))) (.cons (.ret (.bin .mod (.var 4) (.var 1))) .nil)))
def d_inverse_in : Df := ⟨F.inverse_in, "inverse_in", ["number", "modulus"], ["number", "modulus", "one", "other", "left", "right", "by"], 33, [], [], b_inverse_in, (.fn "inverse_in"), cls, [], [], [], xcs⟩
def b_derived_in : Bl := (.cons (.ret (.bi .tuple (.cons (.slc (.frz (.comp [1, 2] (.tp (.cons (.nm 1) (.cons (.nm 2) .nil))) (.enum (.var 0)) .nil (.bin .mul (.var 1) (.var 2)))) (.so (.cst (.int 1))) .no) .nil))) .nil)
def d_derived_in : Df := ⟨F.derived_in, "derived_in", ["poly"], ["poly", "at", "number"], 33, [], [], b_derived_in, (.fn "derived_in"), cls, [], [], [], xcs⟩
def b_led_up : Bl := (.cons (.par [4, 5] (.cons (.call F.derived_in (.cons (.var 0) .nil)) (.cons (.var 2) .nil))) (.cons (.whl (.cmp .le (.var 5) (.bin .add (.bin .mul (.cst (.int 2)) (.var 3)) (.cst (.int 1)))) (.cons (.asg (.nm 5) (.bin .mul (.var 5) (.var 5))) (.cons (.asg (.nm 1) (.bin .mod (.bin .sub (.var 1) (.bin .mul (.call F.value_in (.cons (.var 0) (.cons (.var 1) .nil))) (.call F.inverse_in (.cons (.call F.value_in (.cons (.var 4) (.cons (.var 1) .nil))) (.cons (.var 5) .nil))))) (.var 5))) .nil))) (.cons (.ret (.call F.balanced (.cons (.var 1) (.cons (.var 5) .nil)))) .nil)))
def d_led_up : Df := ⟨F.led_up, "led_up", ["poly", "root", "prime", "bound"], ["poly", "root", "prime", "bound", "slope", "modulus"], 36, [(F.balanced, "balanced"), (F.value_in, "value_in"), (F.inverse_in, "inverse_in"), (F.derived_in, "derived_in")], [], b_led_up, (.fn "led_up"), cls, [], [], [], xcs⟩
def b_next_prime : Bl := (.cons (.asg (.nm 1) (.bin .add (.var 0) (.cst (.int 1)))) (.cons (.whl (.bi .any (.cons (.frz (.comp [2] (.nm 2) (.rng2 (.cst (.int 2)) (.var 1)) (.cons (.cmp .le (.bin .mul (.var 2) (.var 2)) (.var 1)) .nil) (.cmp .eq (.bin .mod (.var 1) (.var 2)) (.cst (.int 0))))) .nil)) (.cons (.asg (.nm 1) (.bin .add (.var 1) (.cst (.int 1)))) .nil)) (.cons (.ret (.var 1)) .nil)))
def d_next_prime : Df := ⟨F.next_prime, "next_prime", ["prime"], ["prime", "found", "by"], 33, [], [], b_next_prime, (.fn "next_prime"), cls, [], [], [], xcs⟩
def b_poly_in : Bl := (.cons (.asg (.nm 1) (.bi .len (.cons (.var 0) .nil))) (.cons (.whl (.and (.cmp .gt (.var 1) (.cst (.int 0))) (.cmp .eq (.idx (.var 0) (.bin .sub (.var 1) (.cst (.int 1)))) (.cst (.int 0)))) (.cons (.aug 1 .sub (.cst (.int 1))) .nil)) (.cons (.ret (.bi .tuple (.cons (.slc (.var 0) .no (.so (.var 1))) .nil))) .nil)))
def d_poly_in : Df := ⟨F.poly_in, "poly_in", ["numbers"], ["numbers", "size"], 33, [], [], b_poly_in, (.fn "poly_in"), cls, [], [], [], xcs⟩
def b_by_modulus : Bl := (.cons (.ret (.call F.poly_in (.cons (.frz (.comp [2] (.nm 2) (.seq (.var 0)) .nil (.bin .mod (.var 2) (.var 1)))) .nil))) .nil)
def d_by_modulus : Df := ⟨F.by_modulus, "by_modulus", ["poly", "modulus"], ["poly", "modulus", "number"], 36, [(F.poly_in, "poly_in")], [], b_by_modulus, (.fn "by_modulus"), cls, [], [], [], xcs⟩
def b_parted_by : Bl := (.cons (.asg (.nm 3) (.own (.disp (.star (.var 0) .nil)))) (.cons (.asg (.nm 4) (.own (.rep (.frz (.disp (.cons (.cst (.int 0)) .nil))) (.bi .max (.cons (.cst (.int 0)) (.cons (.bin .add (.bin .sub (.bi .len (.cons (.var 0) .nil)) (.bi .len (.cons (.var 1) .nil))) (.cst (.int 1))) .nil)))))) (.cons (.for (.nm 5) (.rng3 (.bin .sub (.bi .len (.cons (.var 0) .nil)) (.bi .len (.cons (.var 1) .nil))) (.neg (.cst (.int 1))) (.neg (.cst (.int 1)))) (.cons (.asg (.nm 6) (.bin .mod (.idx (.var 3) (.bin .sub (.bin .add (.var 5) (.bi .len (.cons (.var 1) .nil))) (.cst (.int 1)))) (.var 2))) (.cons (.asg (.sub (.var 4) (.var 5)) (.var 6)) (.cons (.for (.tp (.cons (.nm 7) (.cons (.nm 8) .nil))) (.enum (.var 1)) (.cons (.asg (.sub (.var 3) (.bin .add (.var 5) (.var 7))) (.bin .mod (.bin .sub (.idx (.var 3) (.bin .add (.var 5) (.var 7))) (.bin .mul (.var 6) (.var 8))) (.var 2))) .nil)) .nil)))) (.cons (.ret (.tup (.cons (.call F.by_modulus (.cons (.var 4) (.cons (.var 2) .nil))) (.cons (.call F.by_modulus (.cons (.var 3) (.cons (.var 2) .nil))) .nil)))) .nil))))
def d_parted_by : Df := ⟨F.parted_by, "parted_by", ["one", "other", "modulus"], ["one", "other", "modulus", "rest", "quotient", "at", "number", "spot", "by"], 39, [(F.by_modulus, "by_modulus")], [], b_parted_by, (.fn "parted_by"), cls, [], [], [], xcs⟩
def b_by_in : Bl := (.cons (.ret (.ite (.cmp .ne (.var 0) (.cst (.int 0))) (.bi .tuple (.cons (.frz (.comp [2] (.nm 2) (.seq (.var 1)) .nil (.bin .mul (.var 0) (.var 2)))) .nil)) (.glb G.NOUGHT_forms))) .nil)
def d_by_in : Df := ⟨F.by_in, "by_in", ["number", "poly"], ["number", "poly", "one"], 33, [], [(G.NOUGHT_forms, "NOUGHT_forms")], b_by_in, (.fn "by_in"), cls, [], [], [], xcs⟩
def b_with_last_one : Bl := (.cons (.ret (.call F.by_modulus (.cons (.call F.by_in (.cons (.call F.inverse_in (.cons (.idx (.var 0) (.neg (.cst (.int 1)))) (.cons (.var 1) .nil))) (.cons (.var 0) .nil))) (.cons (.var 1) .nil)))) .nil)
def d_with_last_one : Df := ⟨F.with_last_one, "with_last_one", ["poly", "prime"], ["poly", "prime"], 39, [(F.by_modulus, "by_modulus"), (F.by_in, "by_in"), (F.inverse_in, "inverse_in")], [], b_with_last_one, (.fn "with_last_one"), cls, [], [], [], xcs⟩
def b_common_modulo : Bl := (.cons (.whl (.cmp .ne (.var 1) (.glb G.NOUGHT_forms)) (.cons (.asg (.nm 1) (.call F.with_last_one (.cons (.var 1) (.cons (.var 2) .nil)))) (.cons (.par [0, 1] (.cons (.var 1) (.cons (.idx (.call F.parted_by (.cons (.var 0) (.cons (.var 1) (.cons (.var 2) .nil)))) (.cst (.int 1))) .nil))) .nil))) (.cons (.ret (.var 0)) .nil))
def d_common_modulo : Df := ⟨F.common_modulo, "common_modulo", ["one", "other", "prime"], ["one", "other", "prime"], 42, [(F.parted_by, "parted_by"), (F.with_last_one, "with_last_one")], [(G.NOUGHT_forms, "NOUGHT_forms")], b_common_modulo, (.fn "common_modulo"), cls, [], [], [], xcs⟩
def b_good_prime : Bl := (.cons (.asg (.nm 1) (.cst (.int 2))) (.cons (.whl (.cst (.bl true)) (.cons (.asg (.nm 2) (.call F.by_modulus (.cons (.var 0) (.cons (.var 1) .nil)))) (.cons (.ife (.cmp .eq (.bi .len (.cons (.var 2) .nil)) (.bi .len (.cons (.var 0) .nil))) (.cons (.ife (.cmp .eq (.bi .len (.cons (.call F.common_modulo (.cons (.var 2) (.cons (.call F.by_modulus (.cons (.call F.derived_in (.cons (.var 2) .nil)) (.cons (.var 1) .nil))) (.cons (.var 1) .nil)))) .nil)) (.cst (.int 1))) (.cons (.ret (.var 1)) .nil) .nil) .nil) .nil) (.cons (.asg (.nm 1) (.call F.next_prime (.cons (.var 1) .nil))) .nil)))) .nil))
def d_good_prime : Df := ⟨F.good_prime, "good_prime", ["poly"], ["poly", "prime", "rests"], 45, [(F.next_prime, "next_prime"), (F.common_modulo, "common_modulo"), (F.by_modulus, "by_modulus"), (F.derived_in, "derived_in")], [], b_good_prime, (.fn "good_prime"), cls, [], [], [], xcs⟩
def b_over_in : Bl := (.cons (.ret (.bi .tuple (.cons (.frz (.comp [2] (.nm 2) (.seq (.var 0)) .nil (.bin .fdiv (.var 2) (.var 1)))) .nil))) .nil)
def d_over_in : Df := ⟨F.over_in, "over_in", ["poly", "number"], ["poly", "number", "one"], 33, [], [], b_over_in, (.fn "over_in"), cls, [], [], [], xcs⟩
def b_common_share : Bl := (.cons (.whl (.cmp .ne (.var 1) (.cst (.int 0))) (.cons (.par [0, 1] (.cons (.var 1) (.cons (.bin .mod (.var 0) (.var 1)) .nil))) .nil)) (.cons (.ret (.bi .abs (.cons (.var 0) .nil))) .nil))
def d_common_share : Df := ⟨F.common_share, "common_share", ["one", "other"], ["one", "other"], 33, [], [], b_common_share, (.fn "common_share"), cls, [], [], [], xcs⟩
def b_content_in : Bl := (.cons (.asg (.nm 1) (.cst (.int 0))) (.cons (.for (.nm 2) (.seq (.var 0)) (.cons (.asg (.nm 1) (.call F.common_share (.cons (.var 1) (.cons (.var 2) .nil)))) .nil)) (.cons (.ret (.var 1)) .nil)))
def d_content_in : Df := ⟨F.content_in, "content_in", ["poly"], ["poly", "found", "number"], 36, [(F.common_share, "common_share")], [], b_content_in, (.fn "content_in"), cls, [], [], [], xcs⟩
def b_lowest_in : Bl := (.cons (.ife (.cmp .eq (.var 0) (.glb G.NOUGHT_forms)) (.cons (.ret (.glb G.NOUGHT_forms)) .nil) .nil) (.cons (.asg (.nm 1) (.call F.content_in (.cons (.var 0) .nil))) (.cons (.ret (.call F.over_in (.cons (.var 0) (.cons (.ite (.cmp .gt (.idx (.var 0) (.neg (.cst (.int 1)))) (.cst (.int 0))) (.var 1) (.bin .sub (.cst (.int 0)) (.var 1))) .nil)))) .nil)))
def d_lowest_in : Df := ⟨F.lowest_in, "lowest_in", ["poly"], ["poly", "share"], 39, [(F.over_in, "over_in"), (F.content_in, "content_in")], [(G.NOUGHT_forms, "NOUGHT_forms")], b_lowest_in, (.fn "lowest_in"), cls, [], [], [], xcs⟩
def b_plus_in : Bl := (.cons (.asg (.nm 2) (.bi .max (.cons (.bi .len (.cons (.var 0) .nil)) (.cons (.bi .len (.cons (.var 1) .nil)) .nil)))) (.cons (.par [3, 4] (.cons (.tup (.star (.var 0) (.star (.frz (.rep (.frz (.disp (.cons (.cst (.int 0)) .nil))) (.bin .sub (.var 2) (.bi .len (.cons (.var 0) .nil))))) .nil))) (.cons (.tup (.star (.var 1) (.star (.frz (.rep (.frz (.disp (.cons (.cst (.int 0)) .nil))) (.bin .sub (.var 2) (.bi .len (.cons (.var 1) .nil))))) .nil))) .nil))) (.cons (.ret (.call F.poly_in (.cons (.frz (.comp [5, 6] (.tp (.cons (.nm 5) (.cons (.nm 6) .nil))) (.zip (.var 3) (.var 4)) .nil (.bin .add (.var 5) (.var 6)))) .nil))) .nil)))
def d_plus_in : Df := ⟨F.plus_in, "plus_in", ["one", "other"], ["one", "other", "size", "left", "right", "first", "last"], 36, [(F.poly_in, "poly_in")], [], b_plus_in, (.fn "plus_in"), cls, [], [], [], xcs⟩
def b_minus_in : Bl := (.cons (.ret (.call F.plus_in (.cons (.var 0) (.cons (.call F.by_in (.cons (.neg (.cst (.int 1))) (.cons (.var 1) .nil))) .nil)))) .nil)
def d_minus_in : Df := ⟨F.minus_in, "minus_in", ["one", "other"], ["one", "other"], 39, [(F.plus_in, "plus_in"), (F.by_in, "by_in")], [], b_minus_in, (.fn "minus_in"), cls, [], [], [], xcs⟩
def b_times_in : Bl := (.cons (.ife (.or (.cmp .eq (.var 0) (.glb G.NOUGHT_forms)) (.cmp .eq (.var 1) (.glb G.NOUGHT_forms))) (.cons (.ret (.glb G.NOUGHT_forms)) .nil) .nil) (.cons (.asg (.nm 2) (.own (.rep (.frz (.disp (.cons (.cst (.int 0)) .nil))) (.bin .sub (.bin .add (.bi .len (.cons (.var 0) .nil)) (.bi .len (.cons (.var 1) .nil))) (.cst (.int 1)))))) (.cons (.for (.tp (.cons (.nm 3) (.cons (.nm 4) .nil))) (.enum (.var 0)) (.cons (.for (.tp (.cons (.nm 5) (.cons (.nm 6) .nil))) (.enum (.var 1)) (.cons (.asg (.sub (.var 2) (.bin .add (.var 3) (.var 5))) (.bin .add (.idx (.var 2) (.bin .add (.var 3) (.var 5))) (.bin .mul (.var 4) (.var 6)))) .nil)) .nil)) (.cons (.ret (.bi .tuple (.cons (.var 2) .nil))) .nil))))
def d_times_in : Df := ⟨F.times_in, "times_in", ["one", "other"], ["one", "other", "found", "at", "left", "spot", "right"], 33, [], [(G.NOUGHT_forms, "NOUGHT_forms")], b_times_in, (.fn "times_in"), cls, [], [], [], xcs⟩
def b_parted_in : Bl := (.cons (.asg (.tp (.cons (.nm 2) (.cons (.nm 3) (.cons (.nm 4) (.cons (.nm 5) .nil))))) (.tup (.cons (.cst (.int 1)) (.cons (.glb G.NOUGHT_forms) (.cons (.var 0) (.cons (.idx (.var 1) (.neg (.cst (.int 1)))) .nil)))))) (.cons (.whl (.cmp .ge (.bi .len (.cons (.var 4) .nil)) (.bi .len (.cons (.var 1) .nil))) (.cons (.asg (.nm 6) (.call F.common_share (.cons (.idx (.var 4) (.neg (.cst (.int 1)))) (.cons (.var 5) .nil)))) (.cons (.asg (.nm 6) (.ite (.cmp .gt (.var 5) (.cst (.int 0))) (.var 6) (.bin .sub (.cst (.int 0)) (.var 6)))) (.cons (.par [7, 8] (.cons (.bin .fdiv (.var 5) (.var 6)) (.cons (.bin .add (.bin .mul (.tup (.cons (.cst (.int 0)) .nil)) (.bin .sub (.bi .len (.cons (.var 4) .nil)) (.bi .len (.cons (.var 1) .nil)))) (.tup (.cons (.bin .fdiv (.idx (.var 4) (.neg (.cst (.int 1)))) (.var 6)) .nil))) .nil))) (.cons (.par [2, 3] (.cons (.bin .mul (.var 2) (.var 7)) (.cons (.call F.plus_in (.cons (.call F.by_in (.cons (.var 7) (.cons (.var 3) .nil))) (.cons (.var 8) .nil))) .nil))) (.cons (.asg (.nm 4) (.call F.minus_in (.cons (.call F.by_in (.cons (.var 7) (.cons (.var 4) .nil))) (.cons (.call F.times_in (.cons (.var 8) (.cons (.var 1) .nil))) .nil)))) .nil)))))) (.cons (.ret (.tup (.cons (.var 2) (.cons (.var 3) (.cons (.var 4) .nil))))) .nil)))
def d_parted_in : Df := ⟨F.parted_in, "parted_in", ["one", "other"], ["one", "other", "times", "quotient", "rest", "last", "share", "by", "step"], 42, [(F.minus_in, "minus_in"), (F.times_in, "times_in"), (F.by_in, "by_in"), (F.plus_in, "plus_in"), (F.common_share, "common_share")], [(G.NOUGHT_forms, "NOUGHT_forms")], b_parted_in, (.fn "parted_in"), cls, [], [], [], xcs⟩
def b_quotient_in : Bl := (.cons (.asg (.tp (.cons (.nm 2) (.cons (.nm 3) (.cons (.nm 4) .nil)))) (.call F.parted_in (.cons (.var 0) (.cons (.var 1) .nil)))) (.cons (.asg (.nm 5) (.call F.common_share (.cons (.var 2) (.cons (.call F.content_in (.cons (.var 3) .nil)) .nil)))) (.cons (.ret (.tup (.cons (.bin .fdiv (.var 2) (.var 5)) (.cons (.call F.over_in (.cons (.var 3) (.cons (.var 5) .nil))) .nil)))) .nil)))
def d_quotient_in : Df := ⟨F.quotient_in, "quotient_in", ["one", "other"], ["one", "other", "times", "quotient", "rest", "share"], 45, [(F.over_in, "over_in"), (F.common_share, "common_share"), (F.content_in, "content_in"), (F.parted_in, "parted_in")], [], b_quotient_in, (.fn "quotient_in"), cls, [], [], [], xcs⟩
def b_lowest_over : Bl := (.cons (.ret (.call F.lowest_in (.cons (.idx (.call F.quotient_in (.cons (.var 0) (.cons (.var 1) .nil))) (.cst (.int 1))) .nil))) .nil)
def d_lowest_over : Df := ⟨F.lowest_over, "lowest_over", ["one", "other"], ["one", "other"], 48, [(F.lowest_in, "lowest_in"), (F.quotient_in, "quotient_in")], [], b_lowest_over, (.fn "lowest_over"), cls, [], [], [], xcs⟩
def b_common_in : Bl := (.cons (.par [0, 1] (.cons (.call F.lowest_in (.cons (.var 0) .nil)) (.cons (.call F.lowest_in (.cons (.var 1) .nil)) .nil))) (.cons (.whl (.cmp .ne (.var 1) (.glb G.NOUGHT_forms)) (.cons (.par [0, 1] (.cons (.var 1) (.cons (.call F.lowest_in (.cons (.idx (.call F.parted_in (.cons (.var 0) (.cons (.var 1) .nil))) (.cst (.int 2))) .nil)) .nil))) .nil)) (.cons (.ret (.var 0)) .nil)))
def d_common_in : Df := ⟨F.common_in, "common_in", ["one", "other"], ["one", "other"], 45, [(F.lowest_in, "lowest_in"), (F.parted_in, "parted_in")], [(G.NOUGHT_forms, "NOUGHT_forms")], b_common_in, (.fn "common_in"), cls, [], [], [], xcs⟩
def b_slim_in : Bl := (.cons (.ret (.call F.lowest_over (.cons (.var 0) (.cons (.call F.common_in (.cons (.var 0) (.cons (.call F.derived_in (.cons (.var 0) .nil)) .nil))) .nil)))) .nil)
def d_slim_in : Df := ⟨F.slim_in, "slim_in", ["poly"], ["poly"], 51, [(F.lowest_over, "lowest_over"), (F.common_in, "common_in"), (F.derived_in, "derived_in")], [], b_slim_in, (.fn "slim_in"), cls, [], [], [], xcs⟩
def b_degree_in : Bl := (.cons (.ret (.bin .sub (.bi .len (.cons (.var 0) .nil)) (.cst (.int 1)))) .nil)
def d_degree_in : Df := ⟨F.degree_in, "degree_in", ["poly"], ["poly"], 33, [], [], b_degree_in, (.fn "degree_in"), cls, [], [], [], xcs⟩
def b_integer_roots : Bl := (.cons (.ife (.cmp .lt (.call F.degree_in (.cons (.var 0) .nil)) (.cst (.int 1))) (.cons (.ret (.frz (.disp .nil))) .nil) .nil) (.cons (.asg (.nm 0) (.call F.slim_in (.cons (.var 0) .nil))) (.cons (.asg (.tp (.cons (.nm 1) (.cons (.nm 2) .nil))) (.tup (.cons (.bin .add (.cst (.int 1)) (.bi .max (.cons (.frz (.comp [3] (.nm 3) (.seq (.var 0)) .nil (.bi .abs (.cons (.var 3) .nil)))) .nil))) (.cons (.call F.good_prime (.cons (.var 0) .nil)) .nil)))) (.cons (.asg (.nm 4) (.frz (.comp [5] (.nm 5) (.rng1 (.var 2)) (.cons (.cmp .eq (.bin .mod (.call F.value_in (.cons (.var 0) (.cons (.var 5) .nil))) (.var 2)) (.cst (.int 0))) .nil) (.var 5)))) (.cons (.asg (.nm 6) (.frz (.comp [5] (.nm 5) (.seq (.var 4)) .nil (.call F.led_up (.cons (.var 0) (.cons (.var 5) (.cons (.var 2) (.cons (.var 1) .nil)))))))) (.cons (.ret (.frz (.sortI (.frz (.comp [5] (.nm 5) (.seq (.var 6)) (.cons (.cmp .eq (.call F.value_in (.cons (.var 0) (.cons (.var 5) .nil))) (.cst (.int 0))) .nil) (.var 5)))))) .nil))))))
def d_integer_roots : Df := ⟨F.integer_roots, "integer_roots", ["poly"], ["poly", "bound", "prime", "number", "roots", "root", "found"], 54, [(F.value_in, "value_in"), (F.led_up, "led_up"), (F.good_prime, "good_prime"), (F.slim_in, "slim_in"), (F.degree_in, "degree_in")], [], b_integer_roots, (.fn "integer_roots"), cls, [], [], [], xcs⟩
def b_root_places : Bl := (.cons (.ret (.frz (.comp [1] (.nm 1) (.seq (.call F.integer_roots (.cons (.var 0) .nil))) (.cons (.cmp .ge (.var 1) (.cst (.int 0))) .nil) (.var 1)))) .nil)
def d_root_places : Df := ⟨F.root_places, "root_places", ["poly"], ["poly", "root"], 57, [(F.integer_roots, "integer_roots")], [], b_root_places, (.fn "root_places"), cls, [], [], [], xcs⟩
def b_is_rootless : Bl := (.cons (.ret (.and (.cmp .ne (.idx (.var 0) (.cst (.int 0))) (.glb G.NOUGHT_forms)) (.and (.cmp .eq (.call F.root_places (.cons (.idx (.var 0) (.cst (.int 0))) .nil)) (.frz (.disp .nil))) (.cmp .eq (.call F.root_places (.cons (.idx (.var 0) (.cst (.int 1))) .nil)) (.frz (.disp .nil)))))) .nil)
def d_is_rootless : Df := ⟨F.is_rootless, "is_rootless", ["ratio"], ["ratio"], 60, [(F.root_places, "root_places")], [(G.NOUGHT_forms, "NOUGHT_forms")], b_is_rootless, (.fn "is_rootless"), cls, [], [], [], xcs⟩
def b_content_of : Bl := (.cons (.asg (.nm 1) (.cst (.int 0))) (.cons (.for (.nm 2) (.seq (.var 0)) (.cons (.asg (.nm 1) (.call F.common_share (.cons (.var 1) (.cons (.call F.content_in (.cons (.var 2) .nil)) .nil)))) .nil)) (.cons (.ret (.var 1)) .nil)))
def d_content_of : Df := ⟨F.content_of, "content_of", ["polys"], ["polys", "found", "poly"], 39, [(F.common_share, "common_share"), (F.content_in, "content_in")], [], b_content_of, (.fn "content_of"), cls, [], [], [], xcs⟩
def b_exact_in : Bl := (.cons (.ret (.ite (.cmp .ne (.var 0) (.glb G.NOUGHT_forms)) (.idx (.call F.parted_in (.cons (.var 0) (.cons (.var 1) .nil))) (.cst (.int 1))) (.glb G.NOUGHT_forms))) .nil)
def d_exact_in : Df := ⟨F.exact_in, "exact_in", ["one", "other"], ["one", "other"], 45, [(F.parted_in, "parted_in")], [(G.NOUGHT_forms, "NOUGHT_forms")], b_exact_in, (.fn "exact_in"), cls, [], [], [], xcs⟩
def b_divided : Bl := (.cons (.ret (.call F.exact_in (.cons (.var 0) (.cons (.var 1) .nil)))) .nil)
def d_divided : Df := ⟨F.divided, "divided", ["poly", "common"], ["poly", "common"], 48, [(F.exact_in, "exact_in")], [], b_divided, (.fn "divided"), cls, [], [], [], xcs⟩
def b_ratio_in : Bl := (.cons (.ife (.cmp .eq (.var 0) (.glb G.NOUGHT_forms)) (.cons (.ret (.glb G.NOUGHT_ratios)) .nil) .nil) (.cons (.asg (.nm 2) (.call F.common_in (.cons (.var 0) (.cons (.var 1) .nil)))) (.cons (.par [0, 1] (.cons (.call F.divided (.cons (.var 0) (.cons (.var 2) .nil))) (.cons (.call F.divided (.cons (.var 1) (.cons (.var 2) .nil))) .nil))) (.cons (.asg (.nm 3) (.call F.content_of (.cons (.frz (.disp (.cons (.var 0) (.cons (.var 1) .nil)))) .nil))) (.cons (.asg (.nm 3) (.ite (.cmp .gt (.idx (.var 1) (.neg (.cst (.int 1)))) (.cst (.int 0))) (.var 3) (.bin .sub (.cst (.int 0)) (.var 3)))) (.cons (.ret (.tup (.cons (.call F.over_in (.cons (.var 0) (.cons (.var 3) .nil))) (.cons (.call F.over_in (.cons (.var 1) (.cons (.var 3) .nil))) .nil)))) .nil))))))
def d_ratio_in : Df := ⟨F.ratio_in, "ratio_in", ["top", "bottom"], ["top", "bottom", "common", "share"], 51, [(F.over_in, "over_in"), (F.content_of, "content_of"), (F.divided, "divided"), (F.common_in, "common_in")], [(G.NOUGHT_forms, "NOUGHT_forms"), (G.NOUGHT_ratios, "NOUGHT_ratios")], b_ratio_in, (.fn "ratio_in"), cls, [], [], [], xcs⟩
def b_is_integer : Bl := (.cons (.ret (.and (.bi .isinst (.cons (.var 0) (.cons (.cst (.ty "int")) .nil))) (.not (.bi .isinst (.cons (.var 0) (.cons (.cst (.ty "bool")) .nil)))))) .nil)
def d_is_integer : Df := ⟨F.is_integer, "is_integer", ["value"], ["value"], 33, [], [], b_is_integer, (.fn "is_integer"), cls, [], [], [], xcs⟩
def b_is_plain_poly : Bl := (.cons (.ife (.or (.not (.bi .isinst (.cons (.var 0) (.cons (.cst (.ty "tuple")) .nil)))) (.not (.bi .all (.cons (.frz (.comp [1] (.nm 1) (.seq (.var 0)) .nil (.call F.is_integer (.cons (.var 1) .nil)))) .nil)))) (.cons (.ret (.cst (.bl false))) .nil) .nil) (.cons (.ret (.or (.cmp .eq (.var 0) (.tup .nil)) (.cmp .ne (.idx (.var 0) (.neg (.cst (.int 1)))) (.cst (.int 0))))) .nil))
def d_is_plain_poly : Df := ⟨F.is_plain_poly, "is_plain_poly", ["value"], ["value", "number"], 36, [(F.is_integer, "is_integer")], [], b_is_plain_poly, (.fn "is_plain_poly"), cls, [], [], [], xcs⟩
def b_is_plain_ratio : Bl := (.cons (.ife (.or (.not (.bi .isinst (.cons (.var 0) (.cons (.cst (.ty "tuple")) .nil)))) (.or (.cmp .ne (.bi .len (.cons (.var 0) .nil)) (.cst (.int 2))) (.not (.bi .all (.cons (.frz (.comp [1] (.nm 1) (.seq (.var 0)) .nil (.call F.is_plain_poly (.cons (.var 1) .nil)))) .nil))))) (.cons (.ret (.cst (.bl false))) .nil) .nil) (.cons (.ret (.and (.cmp .ne (.idx (.var 0) (.cst (.int 1))) (.glb G.NOUGHT_forms)) (.cmp .eq (.call F.ratio_in (.cons (.idx (.var 0) (.cst (.int 0))) (.cons (.idx (.var 0) (.cst (.int 1))) .nil))) (.var 0)))) .nil))
def d_is_plain_ratio : Df := ⟨F.is_plain_ratio, "is_plain_ratio", ["value"], ["value", "poly"], 54, [(F.ratio_in, "ratio_in"), (F.is_plain_poly, "is_plain_poly")], [(G.NOUGHT_forms, "NOUGHT_forms")], b_is_plain_ratio, (.fn "is_plain_ratio"), cls, [], [], [], xcs⟩
def b_is_passed_ratio : Bl := (.cons (.ife (.or (.not (.call F.is_plain_ratio (.cons (.var 0) .nil))) (.not (.bi .all (.cons (.frz (.comp [1] (.nm 1) (.seq (.var 0)) .nil (.cmp .le (.bi .len (.cons (.var 1) .nil)) (.glb G.MOST_NUMBERS)))) .nil)))) (.cons (.ret (.cst (.bl false))) .nil) .nil) (.cons (.ret (.call F.is_rootless (.cons (.var 0) .nil))) .nil))
def d_is_passed_ratio : Df := ⟨F.is_passed_ratio, "is_passed_ratio", ["value"], ["value", "poly"], 63, [(F.is_rootless, "is_rootless"), (F.is_plain_ratio, "is_plain_ratio")], [(G.MOST_NUMBERS, "MOST_NUMBERS")], b_is_passed_ratio, (.fn "is_passed_ratio"), cls, [], [], [], xcs⟩
def b_is_broken : Bl := (.cons (.ife (.or (.not (.bi .isinst (.cons (.var 0) (.cons (.cst (.ty "tuple")) .nil)))) (.or (.cmp .ne (.bi .len (.cons (.var 0) .nil)) (.cst (.int 2))) (.or (.not (.call F.is_integer (.cons (.idx (.var 0) (.cst (.int 0))) .nil))) (.not (.call F.is_integer (.cons (.idx (.var 0) (.cst (.int 1))) .nil)))))) (.cons (.ret (.cst (.bl false))) .nil) .nil) (.cons (.ret (.and (.cmp .gt (.idx (.var 0) (.cst (.int 1))) (.cst (.int 0))) (.cmp .eq (.call F.common_share (.cons (.idx (.var 0) (.cst (.int 0))) (.cons (.idx (.var 0) (.cst (.int 1))) .nil))) (.cst (.int 1))))) .nil))
def d_is_broken : Df := ⟨F.is_broken, "is_broken", ["value"], ["value"], 36, [(F.common_share, "common_share"), (F.is_integer, "is_integer")], [], b_is_broken, (.fn "is_broken"), cls, [], [], [], xcs⟩
def b_is_factor : Bl := (.cons (.ret (.and (.call F.is_broken (.cons (.var 0) .nil)) (.cmp .ne (.idx (.var 0) (.cst (.int 0))) (.cst (.int 0))))) .nil)
def d_is_factor : Df := ⟨F.is_factor, "is_factor", ["value"], ["value"], 39, [(F.is_broken, "is_broken")], [], b_is_factor, (.fn "is_factor"), cls, [], [], [], xcs⟩
def b_Term_init : Bl := (.cons (.ife (.isC "KnownRatio" (.var 2)) (.cons (.asg (.tp (.cons (.fld (.var 0) "Term" 0) (.cons (.fld (.var 0) "Term" 1) .nil))) (.tup (.cons (.var 1) (.cons (.fld "KnownRatio" 0 (.var 2)) .nil)))) .nil) (.cons (.ife (.or (.not (.call F.is_factor (.cons (.var 1) .nil))) (.not (.call F.is_passed_ratio (.cons (.var 2) .nil)))) (.cons (.raise 0 (.cst .non)) .nil) .nil) (.cons (.asg (.tp (.cons (.fld (.var 0) "Term" 0) (.cons (.fld (.var 0) "Term" 1) .nil))) (.tup (.cons (.var 1) (.cons (.var 2) .nil)))) .nil))) .nil)
def d_Term_init : Df := ⟨F.Term_init, "__init__", ["self", "first", "ratio"], ["self", "first", "ratio"], 66, [(F.is_passed_ratio, "is_passed_ratio"), (F.is_factor, "is_factor")], [], b_Term_init, (.ini "Term"), cls, [], [], [], xcs⟩
def b_KnownRatio_init : Bl := (.cons (.asg (.fld (.var 0) "KnownRatio" 0) (.var 1)) .nil)
def d_KnownRatio_init : Df := ⟨F.KnownRatio_init, "__init__", ["self", "ratio"], ["self", "ratio"], 33, [], [], b_KnownRatio_init, (.ini "KnownRatio"), cls, [], [], [], xcs⟩
def b_made_term : Bl := (.cons (.ret (.new F.Term_init "Term" 2 (.cons (.var 0) (.cons (.new F.KnownRatio_init "KnownRatio" 1 (.cons (.var 1) .nil)) .nil)))) .nil)
def d_made_term : Df := ⟨F.made_term, "made_term", ["first", "ratio"], ["first", "ratio"], 69, [], [], b_made_term, (.fn "made_term"), cls, [], [], [(F.Term_init, "Term", "Term"), (F.KnownRatio_init, "KnownRatio", "KnownRatio")], xcs⟩
def b_moved_in : Bl := (.cons (.asg (.nm 2) (.glb G.NOUGHT_forms)) (.cons (.for (.nm 3) (.seq (.stp (.var 0) .no .no (.neg (.cst (.int 1))))) (.cons (.asg (.nm 2) (.call F.plus_in (.cons (.call F.times_in (.cons (.var 2) (.cons (.call F.poly_in (.cons (.tup (.cons (.var 1) (.cons (.cst (.int 1)) .nil))) .nil)) .nil))) (.cons (.call F.poly_in (.cons (.tup (.cons (.var 3) .nil)) .nil)) .nil)))) .nil)) (.cons (.ret (.var 2)) .nil)))
def d_moved_in : Df := ⟨F.moved_in, "moved_in", ["poly", "many"], ["poly", "many", "found", "number"], 39, [(F.plus_in, "plus_in"), (F.poly_in, "poly_in"), (F.times_in, "times_in")], [(G.NOUGHT_forms, "NOUGHT_forms")], b_moved_in, (.fn "moved_in"), cls, [], [], [], xcs⟩
def b_ratio_moved_in : Bl := (.cons (.ret (.tup (.cons (.call F.moved_in (.cons (.idx (.var 0) (.cst (.int 0))) (.cons (.var 1) .nil))) (.cons (.call F.moved_in (.cons (.idx (.var 0) (.cst (.int 1))) (.cons (.var 1) .nil))) .nil)))) .nil)
def d_ratio_moved_in : Df := ⟨F.ratio_moved_in, "ratio_moved_in", ["ratio", "many"], ["ratio", "many"], 42, [(F.moved_in, "moved_in")], [], b_ratio_moved_in, (.fn "ratio_moved_in"), cls, [], [], [], xcs⟩
def b_broken_in : Bl := (.cons (.asg (.nm 2) (.call F.common_share (.cons (.var 0) (.cons (.var 1) .nil)))) (.cons (.asg (.nm 2) (.ite (.cmp .gt (.var 1) (.cst (.int 0))) (.var 2) (.bin .sub (.cst (.int 0)) (.var 2)))) (.cons (.ret (.tup (.cons (.bin .fdiv (.var 0) (.var 2)) (.cons (.bin .fdiv (.var 1) (.var 2)) .nil)))) .nil)))
def d_broken_in : Df := ⟨F.broken_in, "broken_in", ["top", "bottom"], ["top", "bottom", "share"], 36, [(F.common_share, "common_share")], [], b_broken_in, (.fn "broken_in"), cls, [], [], [], xcs⟩
def b_broken_times : Bl := (.cons (.ret (.call F.broken_in (.cons (.bin .mul (.idx (.var 0) (.cst (.int 0))) (.idx (.var 1) (.cst (.int 0)))) (.cons (.bin .mul (.idx (.var 0) (.cst (.int 1))) (.idx (.var 1) (.cst (.int 1)))) .nil)))) .nil)
def d_broken_times : Df := ⟨F.broken_times, "broken_times", ["one", "other"], ["one", "other"], 39, [(F.broken_in, "broken_in")], [], b_broken_times, (.fn "broken_times"), cls, [], [], [], xcs⟩
def b_value_of : Bl := (.cons (.ret (.call F.broken_in (.cons (.call F.value_in (.cons (.idx (.var 0) (.cst (.int 0))) (.cons (.var 1) .nil))) (.cons (.call F.value_in (.cons (.idx (.var 0) (.cst (.int 1))) (.cons (.var 1) .nil))) .nil)))) .nil)
def d_value_of : Df := ⟨F.value_of, "value_of", ["ratio", "place"], ["ratio", "place"], 39, [(F.broken_in, "broken_in"), (F.value_in, "value_in")], [], b_value_of, (.fn "value_of"), cls, [], [], [], xcs⟩
def b_numbers_of : Bl := (.cons (.par [3, 4] (.cons (.fld "Term" 0 (.var 0)) (.cons (.own (.disp .nil)) .nil))) (.cons (.for (.nm 5) (.rng1 (.bin .add (.var 1) (.var 2))) (.cons (.ife (.cmp .ge (.var 5) (.var 1)) (.cons (.ex (.app (.var 4) (.var 3))) .nil) .nil) (.cons (.asg (.nm 3) (.call F.broken_times (.cons (.var 3) (.cons (.call F.value_of (.cons (.fld "Term" 1 (.var 0)) (.cons (.var 5) .nil))) .nil)))) .nil))) (.cons (.retF (.var 4)) .nil)))
def d_numbers_of : Df := ⟨F.numbers_of, "numbers_of", ["term", "first", "many"], ["term", "first", "many", "number", "found", "place"], 42, [(F.broken_times, "broken_times"), (F.value_of, "value_of")], [], b_numbers_of, (.fn "numbers_of"), cls, [], [], [], xcs⟩
def b_require_within : Bl := (.cons (.ife (.or (.not (.call F.is_integer (.cons (.var 0) .nil))) (.not (.chn .le .le (.var 1) (.var 0) (.var 2)))) (.cons (.raise 0 (.cst .non)) .nil) .nil) .nil)
def d_require_within : Df := ⟨F.require_within, "require_within", ["value", "first", "last"], ["value", "first", "last"], 36, [(F.is_integer, "is_integer")], [], b_require_within, (.fn "require_within"), cls, [], [], [], xcs⟩
def b_require_term : Bl := (.cons (.ife (.not (.isC "Term" (.var 0))) (.cons (.raise 0 (.cst .non)) .nil) .nil) .nil)
def d_require_term : Df := ⟨F.require_term, "require_term", ["value"], ["value"], 33, [], [], b_require_term, (.fn "require_term"), cls, [], [], [], xcs⟩
def b_term_moved : Bl := (.cons (.ex (.call F.require_term (.cons (.var 0) .nil))) (.cons (.ex (.call F.require_within (.cons (.var 1) (.cons (.cst (.int 0)) (.cons (.glb G.MOST_MOVED) .nil))))) (.cons (.ret (.call F.made_term (.cons (.idx (.call F.numbers_of (.cons (.var 0) (.cons (.var 1) (.cons (.cst (.int 1)) .nil)))) (.cst (.int 0))) (.cons (.call F.ratio_moved_in (.cons (.fld "Term" 1 (.var 0)) (.cons (.var 1) .nil))) .nil)))) .nil)))
def d_term_moved : Df := ⟨F.term_moved, "term_moved", ["term", "many"], ["term", "many"], 72, [(F.made_term, "made_term"), (F.ratio_moved_in, "ratio_moved_in"), (F.numbers_of, "numbers_of"), (F.require_within, "require_within"), (F.require_term, "require_term")], [(G.MOST_MOVED, "MOST_MOVED")], b_term_moved, (.fn "term_moved"), cls, [], [], [], xcs⟩
def b_binomials : Bl := (.cons (.ex (.call F.require_within (.cons (.var 0) (.cons (.cst (.int 0)) (.cons (.glb G.MOST_MOVED) .nil))))) (.cons (.ret (.call F.made_term (.cons (.tup (.cons (.cst (.int 1)) (.cons (.cst (.int 1)) .nil))) (.cons (.call F.ratio_in (.cons (.tup (.cons (.bin .add (.var 0) (.cst (.int 1))) (.cons (.cst (.int 1)) .nil))) (.cons (.tup (.cons (.cst (.int 1)) (.cons (.cst (.int 1)) .nil))) .nil))) .nil)))) .nil))
def d_binomials : Df := ⟨F.binomials, "binomials", ["number"], ["number"], 72, [(F.made_term, "made_term"), (F.ratio_in, "ratio_in"), (F.require_within, "require_within")], [(G.MOST_MOVED, "MOST_MOVED")], b_binomials, (.fn "binomials"), cls, [], [], [], xcs⟩
def b_ratio_times_in : Bl := (.cons (.ret (.call F.ratio_in (.cons (.call F.times_in (.cons (.idx (.var 0) (.cst (.int 0))) (.cons (.idx (.var 1) (.cst (.int 0))) .nil))) (.cons (.call F.times_in (.cons (.idx (.var 0) (.cst (.int 1))) (.cons (.idx (.var 1) (.cst (.int 1))) .nil))) .nil)))) .nil)
def d_ratio_times_in : Df := ⟨F.ratio_times_in, "ratio_times_in", ["one", "other"], ["one", "other"], 54, [(F.ratio_in, "ratio_in"), (F.times_in, "times_in")], [], b_ratio_times_in, (.fn "ratio_times_in"), cls, [], [], [], xcs⟩
def b_term_times : Bl := (.cons (.ex (.call F.require_term (.cons (.var 0) .nil))) (.cons (.ex (.call F.require_term (.cons (.var 1) .nil))) (.cons (.asg (.nm 2) (.call F.broken_times (.cons (.fld "Term" 0 (.var 0)) (.cons (.fld "Term" 0 (.var 1)) .nil)))) (.cons (.ret (.call F.made_term (.cons (.var 2) (.cons (.call F.ratio_times_in (.cons (.fld "Term" 1 (.var 0)) (.cons (.fld "Term" 1 (.var 1)) .nil))) .nil)))) .nil))))
def d_term_times : Df := ⟨F.term_times, "term_times", ["one", "other"], ["one", "other", "first"], 72, [(F.made_term, "made_term"), (F.ratio_times_in, "ratio_times_in"), (F.broken_times, "broken_times"), (F.require_term, "require_term")], [], b_term_times, (.fn "term_times"), cls, [], [], [], xcs⟩
def b_require_factor : Bl := (.cons (.ife (.not (.call F.is_factor (.cons (.var 0) .nil))) (.cons (.raise 0 (.cst .non)) .nil) .nil) .nil)
def d_require_factor : Df := ⟨F.require_factor, "require_factor", ["value"], ["value"], 42, [(F.is_factor, "is_factor")], [], b_require_factor, (.fn "require_factor"), cls, [], [], [], xcs⟩
def b_powers : Bl := (.cons (.ex (.call F.require_factor (.cons (.var 0) .nil))) (.cons (.ret (.call F.made_term (.cons (.tup (.cons (.cst (.int 1)) (.cons (.cst (.int 1)) .nil))) (.cons (.tup (.cons (.call F.by_in (.cons (.idx (.var 0) (.cst (.int 0))) (.cons (.glb G.ONE) .nil))) (.cons (.call F.by_in (.cons (.idx (.var 0) (.cst (.int 1))) (.cons (.glb G.ONE) .nil))) .nil))) .nil)))) .nil))
def d_powers : Df := ⟨F.powers, "powers", ["number"], ["number"], 72, [(F.made_term, "made_term"), (F.by_in, "by_in"), (F.require_factor, "require_factor")], [(G.ONE, "ONE")], b_powers, (.fn "powers"), cls, [], [], [], xcs⟩
def b_factorials : Bl := (.cons (.ret (.call F.made_term (.cons (.tup (.cons (.cst (.int 1)) (.cons (.cst (.int 1)) .nil))) (.cons (.tup (.cons (.tup (.cons (.cst (.int 1)) (.cons (.cst (.int 1)) .nil))) (.cons (.glb G.ONE) .nil))) .nil)))) .nil)
def d_factorials : Df := ⟨F.factorials, "factorials", [], [], 72, [(F.made_term, "made_term")], [(G.ONE, "ONE")], b_factorials, (.fn "factorials"), cls, [], [], [], xcs⟩
def b__law_roll : Bl := (.cons (.ife (.cmp .gt (.idx (.var 0) (.cst (.int 0))) (.cst (.int 0))) (.cons (.asg (.nm 2) (.bin .mod (.idx (.var 0) (.cst (.int 0))) (.var 1))) (.cons (.asg (.sub (.var 0) (.cst (.int 0))) (.bin .fdiv (.idx (.var 0) (.cst (.int 0))) (.var 1))) (.cons (.ret (.bi .int (.cons (.var 2) .nil))) .nil))) .nil) (.cons (.asg (.sub (.var 0) (.cst (.int 2))) (.bin .add (.idx (.var 0) (.cst (.int 2))) (.cst (.int 1)))) (.cons (.asg (.nm 3) (.bin .mod (.bin .add (.idx (.var 0) (.cst (.int 1))) (.bin .mul (.cst (.int 49979693)) (.idx (.var 0) (.cst (.int 2))))) (.cst (.int 2305843009213693951)))) (.cons (.asg (.nm 4) (.bin .add (.bin .mul (.bin .mod (.bin .add (.bin .mul (.var 3) (.var 3)) (.bin .mul (.cst (.int 131)) (.idx (.var 0) (.cst (.int 2))))) (.cst (.int 2305843009213693921))) (.cst (.int 32452867))) (.var 3))) (.cons (.ret (.bin .mod (.bi .int (.cons (.bin .fdiv (.var 4) (.cst (.int 65599))) .nil)) (.var 1))) .nil)))))
def d__law_roll : Df := ⟨F._law_roll, "_law_roll", ["dice", "total"], ["dice", "total", "found", "one", "two"], 33, [], [], b__law_roll, (.fn "_law_roll"), cls, [], [], [], xcs⟩
def b__law_gcd : Bl := (.cons (.whl (.cmp .ne (.var 1) (.cst (.int 0))) (.cons (.par [0, 1] (.cons (.var 1) (.cons (.bin .mod (.var 0) (.var 1)) .nil))) .nil)) (.cons (.ret (.bi .abs (.cons (.var 0) .nil))) .nil))
def d__law_gcd : Df := ⟨F._law_gcd, "_law_gcd", ["one", "other"], ["one", "other"], 33, [], [], b__law_gcd, (.fn "_law_gcd"), cls, [], [], [], xcs⟩
def b__law_fr : Bl := (.cons (.asg (.nm 2) (.call F._law_gcd (.cons (.var 0) (.cons (.var 1) .nil)))) (.cons (.asg (.nm 2) (.ite (.cmp .gt (.var 1) (.cst (.int 0))) (.var 2) (.bin .sub (.cst (.int 0)) (.var 2)))) (.cons (.ret (.tup (.cons (.bin .fdiv (.var 0) (.var 2)) (.cons (.bin .fdiv (.var 1) (.var 2)) .nil)))) .nil)))
def d__law_fr : Df := ⟨F._law_fr, "_law_fr", ["top", "bottom"], ["top", "bottom", "share"], 36, [(F._law_gcd, "_law_gcd")], [], b__law_fr, (.fn "_law_fr"), cls, [], [], [], xcs⟩
def b__law_fr_times : Bl := (.cons (.ret (.call F._law_fr (.cons (.bin .mul (.idx (.var 0) (.cst (.int 0))) (.idx (.var 1) (.cst (.int 0)))) (.cons (.bin .mul (.idx (.var 0) (.cst (.int 1))) (.idx (.var 1) (.cst (.int 1)))) .nil)))) .nil)
def d__law_fr_times : Df := ⟨F._law_fr_times, "_law_fr_times", ["one", "other"], ["one", "other"], 39, [(F._law_fr, "_law_fr")], [], b__law_fr_times, (.fn "_law_fr_times"), cls, [], [], [], xcs⟩
def b__law_pick : Bl := (.cons (.ret (.idx (.var 1) (.call F._law_roll (.cons (.var 0) (.cons (.bi .len (.cons (.var 1) .nil)) .nil))))) .nil)
def d__law_pick : Df := ⟨F._law_pick, "_law_pick", ["dice", "items"], ["dice", "items"], 36, [(F._law_roll, "_law_roll")], [], b__law_pick, (.fn "_law_pick"), cls, [], [], [], xcs⟩
def b_stretched_in : Bl := (.cons (.par [3, 4] (.cons (.own (.disp .nil)) (.cons (.cst (.int 1)) .nil))) (.cons (.for (.nm 5) (.seq (.call F.moved_in (.cons (.var 0) (.cons (.var 2) .nil)))) (.cons (.ex (.app (.var 3) (.bin .mul (.var 5) (.var 4)))) (.cons (.aug 4 .mul (.var 1)) .nil))) (.cons (.ret (.call F.poly_in (.cons (.var 3) .nil))) .nil)))
def d_stretched_in : Df := ⟨F.stretched_in, "stretched_in", ["poly", "step", "first"], ["poly", "step", "first", "found", "power", "number"], 42, [(F.poly_in, "poly_in"), (F.moved_in, "moved_in")], [], b_stretched_in, (.fn "stretched_in"), cls, [], [], [], xcs⟩
def b_term_section : Bl := (.cons (.ex (.call F.require_term (.cons (.var 0) .nil))) (.cons (.ex (.call F.require_within (.cons (.var 1) (.cons (.cst (.int 1)) (.cons (.glb G.MOST_STEP) .nil))))) (.cons (.ex (.call F.require_within (.cons (.var 2) (.cons (.cst (.int 0)) (.cons (.glb G.MOST_MOVED) .nil))))) (.cons (.par [3, 4] (.cons (.glb G.ONE) (.cons (.glb G.ONE) .nil))) (.cons (.for (.nm 5) (.rng1 (.var 1)) (.cons (.asg (.nm 3) (.call F.times_in (.cons (.var 3) (.cons (.call F.stretched_in (.cons (.idx (.fld "Term" 1 (.var 0)) (.cst (.int 0))) (.cons (.var 1) (.cons (.bin .add (.var 2) (.var 5)) .nil)))) .nil)))) (.cons (.asg (.nm 4) (.call F.times_in (.cons (.var 4) (.cons (.call F.stretched_in (.cons (.idx (.fld "Term" 1 (.var 0)) (.cst (.int 1))) (.cons (.var 1) (.cons (.bin .add (.var 2) (.var 5)) .nil)))) .nil)))) .nil))) (.cons (.ret (.call F.made_term (.cons (.idx (.call F.numbers_of (.cons (.var 0) (.cons (.var 2) (.cons (.cst (.int 1)) .nil)))) (.cst (.int 0))) (.cons (.call F.ratio_in (.cons (.var 3) (.cons (.var 4) .nil))) .nil)))) .nil))))))
def d_term_section : Df := ⟨F.term_section, "term_section", ["term", "step", "first"], ["term", "step", "first", "top", "bottom", "at"], 72, [(F.made_term, "made_term"), (F.ratio_in, "ratio_in"), (F.numbers_of, "numbers_of"), (F.times_in, "times_in"), (F.stretched_in, "stretched_in"), (F.require_within, "require_within"), (F.require_term, "require_term")], [(G.ONE, "ONE"), (G.MOST_MOVED, "MOST_MOVED"), (G.MOST_STEP, "MOST_STEP")], b_term_section, (.fn "term_section"), cls, [], [], [], xcs⟩
def b__law_content : Bl := (.cons (.asg (.nm 1) (.cst (.int 0))) (.cons (.for (.nm 2) (.seq (.var 0)) (.cons (.asg (.nm 1) (.call F._law_gcd (.cons (.var 1) (.cons (.var 2) .nil)))) .nil)) (.cons (.ret (.var 1)) .nil)))
def d__law_content : Df := ⟨F._law_content, "_law_content", ["numbers"], ["numbers", "found", "number"], 36, [(F._law_gcd, "_law_gcd")], [], b__law_content, (.fn "_law_content"), cls, [], [], [], xcs⟩
def b__law_pl_by : Bl := (.cons (.ret (.ite (.cmp .ne (.var 0) (.cst (.int 0))) (.bi .tuple (.cons (.frz (.comp [2] (.nm 2) (.seq (.var 1)) .nil (.bin .mul (.var 0) (.var 2)))) .nil)) (.tup .nil))) .nil)
def d__law_pl_by : Df := ⟨F._law_pl_by, "_law_pl_by", ["number", "poly"], ["number", "poly", "one"], 33, [], [], b__law_pl_by, (.fn "_law_pl_by"), cls, [], [], [], xcs⟩
def b__law_pl : Bl := (.cons (.asg (.nm 1) (.frz (.ofSeq (.var 0)))) (.cons (.whl (.and (.cmp .ne (.var 1) (.frz (.disp .nil))) (.cmp .eq (.idx (.var 1) (.neg (.cst (.int 1)))) (.cst (.int 0)))) (.cons (.asg (.nm 1) (.slc (.var 1) .no (.so (.neg (.cst (.int 1)))))) .nil)) (.cons (.ret (.bi .tuple (.cons (.var 1) .nil))) .nil)))
def d__law_pl : Df := ⟨F._law_pl, "_law_pl", ["numbers"], ["numbers", "left"], 33, [], [], b__law_pl, (.fn "_law_pl"), cls, [], [], [], xcs⟩
def b__law_pl_parted : Bl := (.cons (.par [2, 3, 4] (.cons (.own (.ofSeq (.var 0))) (.cons (.cst (.int 1)) (.cons (.own (.rep (.frz (.disp (.cons (.cst (.int 0)) .nil))) (.bi .max (.cons (.cst (.int 0)) (.cons (.bin .add (.bin .sub (.bi .len (.cons (.var 0) .nil)) (.bi .len (.cons (.var 1) .nil))) (.cst (.int 1))) .nil))))) .nil)))) (.cons (.for (.nm 5) (.rng3 (.bin .sub (.bi .len (.cons (.var 0) .nil)) (.bi .len (.cons (.var 1) .nil))) (.neg (.cst (.int 1))) (.neg (.cst (.int 1)))) (.cons (.asg (.nm 6) (.idx (.var 2) (.bin .sub (.bin .add (.var 5) (.bi .len (.cons (.var 1) .nil))) (.cst (.int 1))))) (.cons (.ife (.cmp .ne (.var 6) (.cst (.int 0))) (.cons (.par [2, 3] (.cons (.own (.comp [7] (.nm 7) (.seq (.var 2)) .nil (.bin .mul (.var 7) (.idx (.var 1) (.neg (.cst (.int 1))))))) (.cons (.bin .mul (.var 3) (.idx (.var 1) (.neg (.cst (.int 1))))) .nil))) (.cons (.asg (.nm 4) (.own (.comp [7] (.nm 7) (.seq (.var 4)) .nil (.bin .mul (.var 7) (.idx (.var 1) (.neg (.cst (.int 1)))))))) (.cons (.asg (.sub (.var 4) (.var 5)) (.bin .add (.idx (.var 4) (.var 5)) (.var 6))) (.cons (.for (.tp (.cons (.nm 8) (.cons (.nm 7) .nil))) (.enum (.var 1)) (.cons (.asg (.sub (.var 2) (.bin .add (.var 5) (.var 8))) (.bin .sub (.idx (.var 2) (.bin .add (.var 5) (.var 8))) (.bin .mul (.var 6) (.var 7)))) .nil)) .nil)))) .nil) .nil))) (.cons (.asg (.nm 9) (.ite (.cmp .gt (.var 3) (.cst (.int 0))) (.cst (.int 1)) (.neg (.cst (.int 1))))) (.cons (.ret (.tup (.cons (.bin .mul (.var 9) (.var 3)) (.cons (.call F._law_pl (.cons (.frz (.comp [0] (.nm 0) (.seq (.var 4)) .nil (.bin .mul (.var 9) (.var 0)))) .nil)) (.cons (.call F._law_pl (.cons (.frz (.comp [0] (.nm 0) (.seq (.var 2)) .nil (.bin .mul (.var 9) (.var 0)))) .nil)) .nil))))) .nil))))
def d__law_pl_parted : Df := ⟨F._law_pl_parted, "_law_pl_parted", ["one", "other"], ["one", "other", "left", "times", "found", "at", "last", "number", "spot", "sign"], 36, [(F._law_pl, "_law_pl")], [], b__law_pl_parted, (.fn "_law_pl_parted"), cls, [], [], [], xcs⟩
def b__law_pl_over : Bl := (.cons (.asg (.tp (.cons (.nm 2) (.cons (.nm 3) .nil))) (.slc (.call F._law_pl_parted (.cons (.var 0) (.cons (.var 1) .nil))) .no (.so (.cst (.int 2))))) (.cons (.asg (.nm 4) (.call F._law_gcd (.cons (.var 2) (.cons (.call F._law_content (.cons (.var 3) .nil)) .nil)))) (.cons (.ret (.tup (.cons (.bin .fdiv (.var 2) (.var 4)) (.cons (.bi .tuple (.cons (.frz (.comp [5] (.nm 5) (.seq (.var 3)) .nil (.bin .fdiv (.var 5) (.var 4)))) .nil)) .nil)))) .nil)))
def d__law_pl_over : Df := ⟨F._law_pl_over, "_law_pl_over", ["one", "other"], ["one", "other", "times", "found", "share", "number"], 39, [(F._law_gcd, "_law_gcd"), (F._law_content, "_law_content"), (F._law_pl_parted, "_law_pl_parted")], [], b__law_pl_over, (.fn "_law_pl_over"), cls, [], [], [], xcs⟩
def b__law_pl_lowest : Bl := (.cons (.asg (.nm 1) (.call F._law_content (.cons (.var 0) .nil))) (.cons (.ife (.cmp .eq (.var 1) (.cst (.int 0))) (.cons (.ret (.tup .nil)) .nil) .nil) (.cons (.asg (.nm 1) (.ite (.cmp .gt (.idx (.var 0) (.neg (.cst (.int 1)))) (.cst (.int 0))) (.var 1) (.bin .sub (.cst (.int 0)) (.var 1)))) (.cons (.ret (.bi .tuple (.cons (.frz (.comp [2] (.nm 2) (.seq (.var 0)) .nil (.bin .fdiv (.var 2) (.var 1)))) .nil))) .nil))))
def d__law_pl_lowest : Df := ⟨F._law_pl_lowest, "_law_pl_lowest", ["poly"], ["poly", "share", "number"], 39, [(F._law_content, "_law_content")], [], b__law_pl_lowest, (.fn "_law_pl_lowest"), cls, [], [], [], xcs⟩
def b__law_pl_common : Bl := (.cons (.par [2, 3] (.cons (.call F._law_pl_lowest (.cons (.var 0) .nil)) (.cons (.call F._law_pl_lowest (.cons (.var 1) .nil)) .nil))) (.cons (.whl (.cmp .ne (.var 3) (.tup .nil)) (.cons (.par [2, 3] (.cons (.var 3) (.cons (.call F._law_pl_lowest (.cons (.idx (.call F._law_pl_parted (.cons (.var 2) (.cons (.var 3) .nil))) (.cst (.int 2))) .nil)) .nil))) .nil)) (.cons (.ret (.var 2)) .nil)))
def d__law_pl_common : Df := ⟨F._law_pl_common, "_law_pl_common", ["one", "other"], ["one", "other", "left", "right"], 42, [(F._law_pl_lowest, "_law_pl_lowest"), (F._law_pl_parted, "_law_pl_parted")], [], b__law_pl_common, (.fn "_law_pl_common"), cls, [], [], [], xcs⟩
def b__law_rt : Bl := (.cons (.ife (.cmp .eq (.var 0) (.tup .nil)) (.cons (.ret (.tup (.cons (.tup .nil) (.cons (.tup (.cons (.cst (.int 1)) .nil)) .nil)))) .nil) .nil) (.cons (.asg (.nm 2) (.call F._law_pl_common (.cons (.var 0) (.cons (.var 1) .nil)))) (.cons (.asg (.tp (.cons (.tp (.cons (.nm 3) (.cons (.nm 4) .nil))) (.cons (.tp (.cons (.nm 5) (.cons (.nm 6) .nil))) .nil))) (.tup (.cons (.call F._law_pl_over (.cons (.var 0) (.cons (.var 2) .nil))) (.cons (.call F._law_pl_over (.cons (.var 1) (.cons (.var 2) .nil))) .nil)))) (.cons (.par [4, 6] (.cons (.call F._law_pl_by (.cons (.var 5) (.cons (.var 4) .nil))) (.cons (.call F._law_pl_by (.cons (.var 3) (.cons (.var 6) .nil))) .nil))) (.cons (.asg (.nm 7) (.call F._law_gcd (.cons (.call F._law_content (.cons (.var 4) .nil)) (.cons (.call F._law_content (.cons (.var 6) .nil)) .nil)))) (.cons (.asg (.nm 7) (.ite (.cmp .gt (.idx (.var 6) (.neg (.cst (.int 1)))) (.cst (.int 0))) (.var 7) (.bin .sub (.cst (.int 0)) (.var 7)))) (.cons (.ret (.tup (.cons (.bi .tuple (.cons (.frz (.comp [8] (.nm 8) (.seq (.var 4)) .nil (.bin .fdiv (.var 8) (.var 7)))) .nil)) (.cons (.bi .tuple (.cons (.frz (.comp [8] (.nm 8) (.seq (.var 6)) .nil (.bin .fdiv (.var 8) (.var 7)))) .nil)) .nil)))) .nil)))))))
def d__law_rt : Df := ⟨F._law_rt, "_law_rt", ["top", "bottom"], ["top", "bottom", "common", "one", "left", "two", "right", "share", "number"], 45, [(F._law_gcd, "_law_gcd"), (F._law_content, "_law_content"), (F._law_pl_by, "_law_pl_by"), (F._law_pl_over, "_law_pl_over"), (F._law_pl_common, "_law_pl_common")], [], b__law_rt, (.fn "_law_rt"), cls, [], [], [], xcs⟩
def b__law_pl_plus : Bl := (.cons (.asg (.nm 2) (.own (.rep (.frz (.disp (.cons (.cst (.int 0)) .nil))) (.bi .max (.cons (.bi .len (.cons (.var 0) .nil)) (.cons (.bi .len (.cons (.var 1) .nil)) .nil)))))) (.cons (.for (.nm 3) (.seq (.tup (.cons (.var 0) (.cons (.var 1) .nil)))) (.cons (.for (.tp (.cons (.nm 4) (.cons (.nm 5) .nil))) (.enum (.var 3)) (.cons (.asg (.sub (.var 2) (.var 4)) (.bin .add (.idx (.var 2) (.var 4)) (.var 5))) .nil)) .nil)) (.cons (.ret (.call F._law_pl (.cons (.var 2) .nil))) .nil)))
def d__law_pl_plus : Df := ⟨F._law_pl_plus, "_law_pl_plus", ["one", "other"], ["one", "other", "found", "poly", "at", "number"], 36, [(F._law_pl, "_law_pl")], [], b__law_pl_plus, (.fn "_law_pl_plus"), cls, [], [], [], xcs⟩
def b__law_pl_times : Bl := (.cons (.ife (.or (.cmp .eq (.var 0) (.tup .nil)) (.cmp .eq (.var 1) (.tup .nil))) (.cons (.ret (.tup .nil)) .nil) .nil) (.cons (.asg (.nm 2) (.own (.rep (.frz (.disp (.cons (.cst (.int 0)) .nil))) (.bin .sub (.bin .add (.bi .len (.cons (.var 0) .nil)) (.bi .len (.cons (.var 1) .nil))) (.cst (.int 1)))))) (.cons (.for (.tp (.cons (.nm 3) (.cons (.nm 4) .nil))) (.enum (.var 0)) (.cons (.for (.tp (.cons (.nm 5) (.cons (.nm 6) .nil))) (.enum (.var 1)) (.cons (.asg (.sub (.var 2) (.bin .add (.var 3) (.var 5))) (.bin .add (.idx (.var 2) (.bin .add (.var 3) (.var 5))) (.bin .mul (.var 4) (.var 6)))) .nil)) .nil)) (.cons (.ret (.bi .tuple (.cons (.var 2) .nil))) .nil))))
def d__law_pl_times : Df := ⟨F._law_pl_times, "_law_pl_times", ["one", "other"], ["one", "other", "found", "at", "left", "spot", "right"], 33, [], [], b__law_pl_times, (.fn "_law_pl_times"), cls, [], [], [], xcs⟩
def b__law_pl_moved : Bl := (.cons (.asg (.nm 2) (.tup .nil)) (.cons (.for (.nm 3) (.seq (.stp (.var 0) .no .no (.neg (.cst (.int 1))))) (.cons (.asg (.nm 2) (.call F._law_pl_plus (.cons (.call F._law_pl_times (.cons (.var 2) (.cons (.call F._law_pl (.cons (.tup (.cons (.var 1) (.cons (.cst (.int 1)) .nil))) .nil)) .nil))) (.cons (.call F._law_pl (.cons (.tup (.cons (.var 3) .nil)) .nil)) .nil)))) .nil)) (.cons (.ret (.var 2)) .nil)))
def d__law_pl_moved : Df := ⟨F._law_pl_moved, "_law_pl_moved", ["poly", "many"], ["poly", "many", "found", "number"], 39, [(F._law_pl_plus, "_law_pl_plus"), (F._law_pl, "_law_pl"), (F._law_pl_times, "_law_pl_times")], [], b__law_pl_moved, (.fn "_law_pl_moved"), cls, [], [], [], xcs⟩
def b__law_rt_moved : Bl := (.cons (.ret (.call F._law_rt (.cons (.call F._law_pl_moved (.cons (.idx (.var 0) (.cst (.int 0))) (.cons (.var 1) .nil))) (.cons (.call F._law_pl_moved (.cons (.idx (.var 0) (.cst (.int 1))) (.cons (.var 1) .nil))) .nil)))) .nil)
def d__law_rt_moved : Df := ⟨F._law_rt_moved, "_law_rt_moved", ["ratio", "many"], ["ratio", "many"], 48, [(F._law_rt, "_law_rt"), (F._law_pl_moved, "_law_pl_moved")], [], b__law_rt_moved, (.fn "_law_rt_moved"), cls, [], [], [], xcs⟩
def b__law_pl_at : Bl := (.cons (.asg (.nm 2) (.cst (.int 0))) (.cons (.for (.nm 3) (.seq (.stp (.var 0) .no .no (.neg (.cst (.int 1))))) (.cons (.asg (.nm 2) (.bin .add (.bin .mul (.var 2) (.var 1)) (.var 3))) .nil)) (.cons (.ret (.var 2)) .nil)))
def d__law_pl_at : Df := ⟨F._law_pl_at, "_law_pl_at", ["poly", "place"], ["poly", "place", "found", "number"], 33, [], [], b__law_pl_at, (.fn "_law_pl_at"), cls, [], [], [], xcs⟩
def b__law_rt_at : Bl := (.cons (.asg (.nm 2) (.call F._law_pl_at (.cons (.idx (.var 0) (.cst (.int 1))) (.cons (.var 1) .nil)))) (.cons (.ret (.ite (.cmp .ne (.var 2) (.cst (.int 0))) (.call F._law_fr (.cons (.call F._law_pl_at (.cons (.idx (.var 0) (.cst (.int 0))) (.cons (.var 1) .nil))) (.cons (.var 2) .nil))) (.cst .non))) .nil))
def d__law_rt_at : Df := ⟨F._law_rt_at, "_law_rt_at", ["ratio", "place"], ["ratio", "place", "bottom"], 39, [(F._law_fr, "_law_fr"), (F._law_pl_at, "_law_pl_at")], [], b__law_rt_at, (.fn "_law_rt_at"), cls, [], [], [], xcs⟩
def b__law_tm_numbers : Bl := (.cons (.par [2, 3] (.cons (.own (.disp .nil)) (.cons (.idx (.var 0) (.cst (.int 0))) .nil))) (.cons (.for (.nm 4) (.rng1 (.var 1)) (.cons (.ex (.app (.var 2) (.var 3))) (.cons (.asg (.nm 3) (.call F._law_fr_times (.cons (.var 3) (.cons (.call F._law_rt_at (.cons (.idx (.var 0) (.cst (.int 1))) (.cons (.var 4) .nil))) .nil)))) .nil))) (.cons (.retF (.var 2)) .nil)))
def d__law_tm_numbers : Df := ⟨F._law_tm_numbers, "_law_tm_numbers", ["term", "many"], ["term", "many", "found", "number", "place"], 42, [(F._law_fr_times, "_law_fr_times"), (F._law_rt_at, "_law_rt_at")], [], b__law_tm_numbers, (.fn "_law_tm_numbers"), cls, [], [], [], xcs⟩
def b__law_tm_drawn : Bl := (.cons (.asg (.nm 2) (.own (.disp .nil))) (.cons (.for (.nm 3) (.rng1 (.cst (.int 2))) (.cons (.asg (.nm 4) (.tup (.cons (.call F._law_pick (.cons (.var 0) (.cons (.frz (.disp (.cons (.cst (.int 1)) (.cons (.cst (.int 1)) (.cons (.neg (.cst (.int 1))) (.cons (.cst (.int 2)) .nil)))))) .nil))) .nil))) (.cons (.for (.nm 5) (.rng1 (.call F._law_roll (.cons (.var 0) (.cons (.bin .add (.var 1) (.cst (.int 1))) .nil)))) (.cons (.asg (.nm 4) (.call F._law_pl_times (.cons (.var 4) (.cons (.call F._law_pick (.cons (.var 0) (.cons (.frz (.disp (.cons (.tup (.cons (.cst (.int 1)) (.cons (.cst (.int 1)) .nil))) (.cons (.tup (.cons (.cst (.int 2)) (.cons (.cst (.int 1)) .nil))) (.cons (.tup (.cons (.cst (.int 1)) (.cons (.cst (.int 2)) .nil))) (.cons (.tup (.cons (.cst (.int 3)) (.cons (.cst (.int 1)) .nil))) (.cons (.tup (.cons (.cst (.int 3)) (.cons (.cst (.int 2)) .nil))) (.cons (.tup (.cons (.cst (.int 1)) (.cons (.cst (.int 0)) (.cons (.cst (.int 1)) .nil)))) (.cons (.tup (.cons (.neg (.cst (.int 1))) (.cons (.cst (.int 2)) .nil))) .nil))))))))) .nil))) .nil)))) .nil)) (.cons (.ex (.app (.var 2) (.var 4))) .nil)))) (.cons (.ret (.tup (.cons (.call F._law_fr (.cons (.call F._law_pick (.cons (.var 0) (.cons (.frz (.disp (.cons (.cst (.int 1)) (.cons (.cst (.int 1)) (.cons (.neg (.cst (.int 2))) (.cons (.cst (.int 3)) .nil)))))) .nil))) (.cons (.call F._law_pick (.cons (.var 0) (.cons (.frz (.disp (.cons (.cst (.int 1)) (.cons (.cst (.int 2)) .nil)))) .nil))) .nil))) (.cons (.call F._law_rt (.cons (.idx (.var 2) (.cst (.int 0))) (.cons (.idx (.var 2) (.cst (.int 1))) .nil))) .nil)))) .nil)))
def d__law_tm_drawn : Df := ⟨F._law_tm_drawn, "_law_tm_drawn", ["dice", "degree"], ["dice", "degree", "polys", "turn", "poly", "time"], 48, [(F._law_rt, "_law_rt"), (F._law_fr, "_law_fr"), (F._law_pick, "_law_pick"), (F._law_roll, "_law_roll"), (F._law_pl_times, "_law_pl_times")], [], b__law_tm_drawn, (.fn "_law_tm_drawn"), cls, [], [], [], xcs⟩
def b_require_place : Bl := (.cons (.ife (.or (.not (.call F.is_integer (.cons (.var 0) .nil))) (.not (.chn .le .le (.cst (.int 0)) (.var 0) (.glb G.MAX_PLACE)))) (.cons (.raise 0 (.cst .non)) .nil) .nil) .nil)
def d_require_place : Df := ⟨F.require_place, "require_place", ["place"], ["place"], 36, [(F.is_integer, "is_integer")], [(G.MAX_PLACE, "MAX_PLACE")], b_require_place, (.fn "require_place"), cls, [], [], [], xcs⟩
def b_Term_numbers : Bl := (.cons (.ex (.call F.require_place (.cons (.var 1) .nil))) (.cons (.ife (.or (.not (.call F.is_integer (.cons (.var 2) .nil))) (.not (.chn .le .le (.cst (.int 0)) (.var 2) (.glb G.MOST_AT_ONCE)))) (.cons (.raise 0 (.cst .non)) .nil) .nil) (.cons (.ret (.bi .tuple (.cons (.call F.numbers_of (.cons (.var 0) (.cons (.var 1) (.cons (.var 2) .nil)))) .nil))) .nil)))
def d_Term_numbers : Df := ⟨F.Term_numbers, "numbers", ["self", "place", "many"], ["self", "place", "many"], 45, [(F.numbers_of, "numbers_of"), (F.is_integer, "is_integer"), (F.require_place, "require_place")], [(G.MOST_AT_ONCE, "MOST_AT_ONCE")], b_Term_numbers, (.me "Term"), cls, [], [], [], xcs⟩
def b_Term_number : Bl := (.cons (.ex (.call F.require_place (.cons (.var 1) .nil))) (.cons (.ret (.idx (.call F.numbers_of (.cons (.var 0) (.cons (.var 1) (.cons (.cst (.int 1)) .nil)))) (.cst (.int 0)))) .nil))
def d_Term_number : Df := ⟨F.Term_number, "number", ["self", "place"], ["self", "place"], 45, [(F.numbers_of, "numbers_of"), (F.require_place, "require_place")], [], b_Term_number, (.me "Term"), cls, [], [], [], xcs⟩
def b_Term_eq : Bl := (.cons (.ife (.not (.isC "Term" (.var 1))) (.cons (.ret (.cst (.bl false))) .nil) .nil) (.cons (.ret (.and (.cmp .eq (.fld "Term" 0 (.var 0)) (.fld "Term" 0 (.var 1))) (.cmp .eq (.fld "Term" 1 (.var 0)) (.fld "Term" 1 (.var 1))))) .nil))
def d_Term_eq : Df := ⟨F.Term_eq, "__eq__", ["self", "other"], ["self", "other"], 33, [], [], b_Term_eq, (.me "Term"), cls, [], [], [], xcs⟩
def b_Term_ratio : Bl := (.cons (.ret (.fld "Term" 1 (.var 0))) .nil)
def d_Term_ratio : Df := ⟨F.Term_ratio, "ratio", ["self"], ["self"], 33, [], [], b_Term_ratio, (.pr "Term"), cls, [], [], [], xcs⟩
def b__law_right : Bl := (.cons (.asg (.nm 1) (.call F._law_tm_drawn (.cons (.var 0) (.cons (.cst (.int 2)) .nil)))) (.cons (.asg (.tp (.cons (.nm 2) (.cons (.nm 3) .nil))) (.tup (.cons (.new F.Term_init "Term" 2 (.cons (.idx (.var 1) (.cst (.int 0))) (.cons (.idx (.var 1) (.cst (.int 1))) .nil))) (.cons (.call F._law_tm_numbers (.cons (.var 1) (.cons (.cst (.int 40)) .nil))) .nil)))) (.cons (.asg (.nm 4) (.call F._law_pick (.cons (.var 0) (.cons (.frz (.disp (.cons (.cst (.int 0)) (.cons (.cst (.int 1)) (.cons (.cst (.int 2)) (.cons (.cst (.int 7)) (.cons (.cst (.int 20)) .nil))))))) .nil)))) (.cons (.ife (.cmp .ne (.meth F.Term_numbers "Term" (.call F.term_moved (.cons (.var 2) (.cons (.var 4) .nil))) (.cons (.cst (.int 0)) (.cons (.cst (.int 6)) .nil))) (.bi .tuple (.cons (.slc (.var 3) (.so (.var 4)) (.so (.bin .add (.var 4) (.cst (.int 6))))) .nil))) (.cons (.ret (.cst (.bl false))) .nil) .nil) (.cons (.ife (.cmp .ne (.prop F.Term_ratio "Term" (.call F.term_moved (.cons (.var 2) (.cons (.var 4) .nil)))) (.call F._law_rt_moved (.cons (.idx (.var 1) (.cst (.int 1))) (.cons (.var 4) .nil)))) (.cons (.ret (.cst (.bl false))) .nil) .nil) (.cons (.asg (.tp (.cons (.nm 5) (.cons (.nm 6) .nil))) (.tup (.cons (.bin .add (.cst (.int 1)) (.call F._law_roll (.cons (.var 0) (.cons (.cst (.int 6)) .nil)))) (.cons (.call F._law_roll (.cons (.var 0) (.cons (.cst (.int 6)) .nil))) .nil)))) (.cons (.asg (.nm 7) (.call F.term_section (.cons (.var 2) (.cons (.var 5) (.cons (.var 6) .nil))))) (.cons (.ife (.cmp .ne (.meth F.Term_numbers "Term" (.var 7) (.cons (.cst (.int 0)) (.cons (.cst (.int 5)) .nil))) (.bi .tuple (.cons (.frz (.comp [8] (.nm 8) (.rng1 (.cst (.int 5))) .nil (.idx (.var 3) (.bin .add (.bin .mul (.var 5) (.var 8)) (.var 6))))) .nil))) (.cons (.ret (.cst (.bl false))) .nil) .nil) (.cons (.ife (.and (.cmp .lt (.var 5) (.cst (.int 4))) (.neO F.Term_eq "Term" (.call F.term_section (.cons (.var 7) (.cons (.cst (.int 2)) (.cons (.cst (.int 1)) .nil)))) (.call F.term_section (.cons (.var 2) (.cons (.bin .mul (.cst (.int 2)) (.var 5)) (.cons (.bin .add (.var 5) (.var 6)) .nil)))))) (.cons (.ret (.cst (.bl false))) .nil) .nil) (.cons (.asg (.nm 9) (.call F._law_fr (.cons (.call F._law_pick (.cons (.var 0) (.cons (.frz (.disp (.cons (.cst (.int 1)) (.cons (.neg (.cst (.int 1))) (.cons (.cst (.int 2)) (.cons (.neg (.cst (.int 3))) .nil)))))) .nil))) (.cons (.call F._law_pick (.cons (.var 0) (.cons (.frz (.disp (.cons (.cst (.int 1)) (.cons (.cst (.int 2)) (.cons (.cst (.int 5)) .nil))))) .nil))) .nil)))) (.cons (.par [10, 11] (.cons (.call F.powers (.cons (.var 9) .nil)) (.cons (.tup (.cons (.cst (.int 1)) (.cons (.cst (.int 1)) .nil))) .nil))) (.cons (.for (.nm 8) (.rng1 (.cst (.int 6))) (.cons (.ife (.cmp .ne (.meth F.Term_number "Term" (.var 10) (.cons (.var 8) .nil)) (.var 11)) (.cons (.ret (.cst (.bl false))) .nil) .nil) (.cons (.asg (.nm 11) (.call F._law_fr_times (.cons (.var 11) (.cons (.var 9) .nil)))) .nil))) (.cons (.asg (.nm 12) (.call F._law_roll (.cons (.var 0) (.cons (.cst (.int 7)) .nil)))) (.cons (.asg (.nm 13) (.own (.disp (.cons (.frz (.rep (.frz (.disp (.cons (.cst (.int 1)) .nil))) (.cst (.int 10)))) .nil)))) (.cons (.for (.nm 14) (.rng1 (.var 12)) (.cons (.ex (.app (.var 13) (.frz (.comp [8] (.nm 8) (.rng1 (.cst (.int 10))) .nil (.bi .sum (.cons (.slc (.idx (.var 13) (.neg (.cst (.int 1)))) .no (.so (.bin .add (.var 8) (.cst (.int 1))))) .nil)))))) .nil)) (.cons (.ret (.cmp .eq (.frz (.comp [15] (.nm 15) (.seq (.meth F.Term_numbers "Term" (.call F.binomials (.cons (.var 12) .nil)) (.cons (.cst (.int 0)) (.cons (.cst (.int 10)) .nil)))) .nil (.idx (.var 15) (.cst (.int 0))))) (.idx (.var 13) (.var 12)))) .nil))))))))))))))))
def d__law_right : Df := ⟨F._law_right, "_law_right", ["dice"], ["dice", "term", "made", "own", "many", "step", "first", "told", "at", "number", "base", "total", "much", "rows", "turn", "one"], 75, [(F.binomials, "binomials"), (F._law_roll, "_law_roll"), (F._law_fr_times, "_law_fr_times"), (F.powers, "powers"), (F._law_fr, "_law_fr"), (F._law_pick, "_law_pick"), (F.term_section, "term_section"), (F.term_moved, "term_moved"), (F._law_rt_moved, "_law_rt_moved"), (F._law_tm_numbers, "_law_tm_numbers"), (F._law_tm_drawn, "_law_tm_drawn")], [], b__law_right, (.fn "_law_right"), cls, [(F.Term_numbers, "Term", "numbers"), (F.Term_number, "Term", "number"), (F.Term_eq, "Term", "__eq__")], [(F.Term_ratio, "Term", "ratio")], [(F.Term_init, "Term", "Term")], xcs⟩
def b__law_dice : Bl := (.cons (.asg (.nm 2) (.ite (.cmp .lt (.var 1) (.bi .len (.cons (.var 0) .nil))) (.bi .int (.cons (.idx (.var 0) (.var 1)) .nil)) (.bin .add (.bin .mul (.cst (.int 137)) (.var 1)) (.cst (.int 41))))) (.cons (.asg (.nm 3) (.bin .mod (.bi .int (.cons (.bi .abs (.cons (.var 2) .nil)) .nil)) (.bin .pow (.bin .pow (.cst (.int 10)) (.cst (.int 53))) (.cst (.int 6))))) (.cons (.asg (.nm 4) (.bin .add (.bin .add (.bin .add (.bin .mul (.bin .mod (.var 3) (.cst (.int 2305843009213693907))) (.cst (.int 73))) (.bin .mul (.cst (.int 619)) (.var 1))) (.bin .mul (.cst (.int 41)) (.bi .int (.cons (.cmp .lt (.var 2) (.cst (.int 0))) .nil)))) (.cst (.int 17)))) (.cons (.ret (.own (.disp (.cons (.bi .max (.cons (.cst (.int 0)) (.cons (.bin .sub (.var 3) (.bin .pow (.cst (.int 10)) (.cst (.int 16)))) .nil))) (.cons (.var 4) (.cons (.cst (.int 0)) .nil)))))) .nil))))
def d__law_dice : Df := ⟨F._law_dice, "_law_dice", ["script", "spot"], ["script", "spot", "cell", "great", "seed"], 33, [], [], b__law_dice, (.fn "_law_dice"), cls, [], [], [], xcs⟩
def b_Term_first : Bl := (.cons (.ret (.fld "Term" 0 (.var 0))) .nil)
def d_Term_first : Df := ⟨F.Term_first, "first", ["self"], ["self"], 33, [], [], b_Term_first, (.pr "Term"), cls, [], [], [], xcs⟩
def b_law : Bl := (.cons (.for (.nm 1) (.rng1 (.bi .max (.cons (.cst (.int 1)) (.cons (.bi .min (.cons (.cst (.int 8)) (.cons (.bi .len (.cons (.var 0) .nil)) .nil))) .nil)))) (.cons (.asg (.nm 2) (.call F._law_dice (.cons (.var 0) (.cons (.var 1) .nil)))) (.cons (.for (.nm 3) (.rng1 (.cst (.int 3))) (.cons (.ife (.not (.call F._law_right (.cons (.var 2) .nil))) (.cons (.ret (.cst (.bl false))) .nil) .nil) .nil)) .nil))) (.cons (.asg (.nm 4) (.call F.factorials .nil)) (.cons (.asg (.nm 5) (.own (.disp (.cons (.meth F.Term_numbers "Term" (.var 4) (.cons (.cst (.int 0)) (.cons (.cst (.int 6)) .nil))) (.cons (.meth F.Term_number "Term" (.call F.term_times (.cons (.var 4) (.cons (.call F.powers (.cons (.tup (.cons (.cst (.int 1)) (.cons (.cst (.int 2)) .nil))) .nil)) .nil))) (.cons (.cst (.int 4)) .nil)) (.cons (.meth F.Term_number "Term" (.call F.binomials (.cons (.cst (.int 60)) .nil)) (.cons (.cst (.int 1)) .nil)) .nil)))))) (.cons (.ex (.app (.var 5) (.prop F.Term_first "Term" (.call F.term_moved (.cons (.var 4) (.cons (.cst (.int 3)) .nil)))))) (.cons (.ret (.cmp .eq (.var 5) (.frz (.disp (.cons (.tup (.cons (.tup (.cons (.cst (.int 1)) (.cons (.cst (.int 1)) .nil))) (.cons (.tup (.cons (.cst (.int 1)) (.cons (.cst (.int 1)) .nil))) (.cons (.tup (.cons (.cst (.int 2)) (.cons (.cst (.int 1)) .nil))) (.cons (.tup (.cons (.cst (.int 6)) (.cons (.cst (.int 1)) .nil))) (.cons (.tup (.cons (.cst (.int 24)) (.cons (.cst (.int 1)) .nil))) (.cons (.tup (.cons (.cst (.int 120)) (.cons (.cst (.int 1)) .nil))) .nil))))))) (.cons (.tup (.cons (.cst (.int 3)) (.cons (.cst (.int 2)) .nil))) (.cons (.tup (.cons (.cst (.int 61)) (.cons (.cst (.int 1)) .nil))) (.cons (.tup (.cons (.cst (.int 6)) (.cons (.cst (.int 1)) .nil))) .nil)))))))) .nil)))))
def d_law : Df := ⟨F.law, "law", ["script"], ["script", "spot", "dice", "turn", "fact", "told"], 78, [(F.term_moved, "term_moved"), (F.binomials, "binomials"), (F.term_times, "term_times"), (F.powers, "powers"), (F.factorials, "factorials"), (F._law_right, "_law_right"), (F._law_dice, "_law_dice")], [], b_law, (.fn "law"), cls, [(F.Term_number, "Term", "number"), (F.Term_numbers, "Term", "numbers")], [(F.Term_first, "Term", "first")], [], xcs⟩
end LW
/-! ### promises of the defs -/
namespace LW
open PySem DL PM
abbrev dI (p : List Int) : List D := p.map D.int
abbrev P (p : List Int) : D := .tup (dI p)
abbrev Fr (r : Rat) : D := .tup [.int r.num, .int (r.den : Int)]
abbrev Dice (p : Addr) (a b c : Int) (S : Sto) : Sto := sup S p (.lst [.int a, .int b, .int c])
abbrev HasDice (S : Sto) (p : Addr) : Prop := ∃ a b c : Int, S p = some (.lst [.int a, .int b, .int c])
/-- an int within 2^9000 -/
abbrev Sm (x : Int) : Prop := Bd 60000000 x
abbrev SmF (r : Rat) : Prop := Bd 3000 r.num ∧ Bd 3000 (r.den : Int)
abbrev SmP (p : List Int) : Prop := BdP 60000000 p ∧ p.length ≤ 60
def isI : D → Bool
  | .int _ => true
  | _ => false
def isPl : D → Bool
  | .tup xs => xs.all isI && (match xs.getLast? with
    | some (.int 0) => false
    | _ => true)
  | _ => false
def Ty (v : D) : Prop := ∃ t, typD v = some t
def Ty2 (v : D) : Prop := Ty v ∧ ∀ xs, v = .tup xs → ∀ x ∈ xs, Ty x
abbrev sp_common_share : FSp := fun ds S R Q => ∃ a b : Int, ds = [.int a, .int b] ∧ Q (.int (Int.gcd a b)) S
abbrev sp__law_gcd : FSp := sp_common_share
abbrev sp_is_integer : FSp := fun ds S R Q => ∃ v, ds = [v] ∧ Ty v ∧ Q (.bl (isI v)) S
abbrev sp__law_is_int : FSp := sp_is_integer
abbrev sp_is_plain_poly : FSp := fun ds S R Q => ∃ v, ds = [v] ∧ Ty2 v ∧ Q (.bl (isPl v)) S
abbrev sp_is_poly : FSp := sp_is_plain_poly
abbrev sp__law_pl_is : FSp := sp_is_plain_poly
abbrev sp_require_poly : FSp := fun ds S R Q => ∃ p, ds = [P p] ∧ Nrm p ∧ Q .non S
abbrev sp_require_polys : FSp := fun ds S R Q => ∃ p q, ds = [P p, P q] ∧ Nrm p ∧ Nrm q ∧ Q .non S
abbrev sp_is_broken : FSp := fun ds S R Q => ∃ r, ds = [Fr r] ∧ Q (.bl true) S
abbrev sp_require_broken : FSp := fun ds S R Q => ∃ r, ds = [Fr r] ∧ Q .non S
abbrev sp_require_moves : FSp := fun ds S R Q => ∃ m : Int, ds = [.int m] ∧ m.natAbs ≤ 1000 ∧ Q .non S
abbrev sp_broken_in : FSp := fun ds S R Q => ∃ t b : Int, ds = [.int t, .int b] ∧ b ≠ 0 ∧ Sm b ∧ Q (Fr (Rat.divInt t b)) S
abbrev sp__law_fr : FSp := sp_broken_in
abbrev sp__law_fr_plus : FSp := fun ds S R Q => ∃ r s, ds = [Fr r, Fr s] ∧ SmF r ∧ SmF s ∧ Q (Fr (r + s)) S
abbrev sp__law_fr_times : FSp := fun ds S R Q => ∃ r s, ds = [Fr r, Fr s] ∧ SmF r ∧ SmF s ∧ Q (Fr (r * s)) S
abbrev sp_poly_in : FSp := fun ds S R Q => ∃ v p, ds = [v] ∧ (res S v = .tup (dI p) ∨ res S v = .lst (dI p)) ∧ p.length ≤ 1000 ∧ Q (P (trim p)) S
abbrev sp__law_pl : FSp := sp_poly_in
abbrev sp_plus_in : FSp := fun ds S R Q => ∃ p q, ds = [P p, P q] ∧ p.length ≤ 500 ∧ q.length ≤ 500 ∧ Q (P (pplus p q)) S
abbrev sp__law_pl_plus : FSp := sp_plus_in
abbrev sp_by_in : FSp := fun ds S R Q => ∃ k p, ds = [.int k, P p] ∧ Bd 60000000 k ∧ SmP p ∧ Q (P (pby k p)) S
abbrev sp__law_pl_by : FSp := sp_by_in
abbrev sp_times_in : FSp := fun ds S R Q => ∃ p q, ds = [P p, P q] ∧ SmP p ∧ SmP q ∧ Q (P (pmul p q)) S
abbrev sp__law_pl_times : FSp := sp_times_in
abbrev sp_content_in : FSp := fun ds S R Q => ∃ p, ds = [P p] ∧ p.length ≤ 1000 ∧ Q (.int (pcon p)) S
abbrev sp__law_content : FSp := sp_content_in
abbrev sp_over_in : FSp := fun ds S R Q => ∃ p, ∃ n : Int, ds = [P p, .int n] ∧ n ≠ 0 ∧ p.length ≤ 1000 ∧ Q (P (p.map fun c => c.fdiv n)) S
abbrev sp_lowest_in : FSp := fun ds S R Q => ∃ p, ds = [P p] ∧ Nrm p ∧ SmP p ∧ Q (P (plow p)) S
abbrev sp__law_pl_lowest : FSp := sp_lowest_in
abbrev sp_derived_in : FSp := fun ds S R Q => ∃ p, ds = [P p] ∧ SmP p ∧ Q (P (pder p)) S
abbrev sp_value_at_in : FSp := fun ds S R Q => ∃ p, ∃ a b : Int, ds = [P p, .tup [.int a, .int b]] ∧ BdP 300 p ∧ p.length ≤ 20 ∧ 0 < b ∧ Bd 10 a ∧ Bd 10 b ∧ Q (Fr (pe p (Rat.divInt a b))) S
abbrev sp__law_pl_value : FSp := fun ds S R Q => ∃ p r, ds = [P p, Fr r] ∧ BdP 300 p ∧ p.length ≤ 20 ∧ Bd 10 r.num ∧ Bd 10 (r.den : Int) ∧ Q (Fr (pe p r)) S
abbrev sp_degree_in : FSp := fun ds S R Q => ∃ p, ds = [P p] ∧ p.length ≤ 1000 ∧ Q (.int ((p.length : Int) - 1)) S
abbrev sp_poly_plus : FSp := fun ds S R Q => ∃ p q, ds = [P p, P q] ∧ Nrm p ∧ Nrm q ∧ p.length ≤ 500 ∧ q.length ≤ 500 ∧ Q (P (pplus p q)) S
abbrev sp_poly_times : FSp := fun ds S R Q => ∃ p q, ds = [P p, P q] ∧ Nrm p ∧ Nrm q ∧ SmP p ∧ SmP q ∧ Q (P (pmul p q)) S
abbrev sp_by_number : FSp := fun ds S R Q => ∃ k p, ds = [.int k, P p] ∧ Nrm p ∧ Bd 60000000 k ∧ SmP p ∧ Q (P (pby k p)) S
abbrev sp_moved : FSp := fun ds S R Q => ∃ p m, ds = [P p, .int m] ∧ Nrm p ∧ BdP 100 p ∧ p.length ≤ 20 ∧ m.natAbs ≤ 1000 ∧ Q (P (pmov m p)) S
abbrev sp_derived : FSp := fun ds S R Q => ∃ p, ds = [P p] ∧ Nrm p ∧ SmP p ∧ Q (P (pder p)) S
abbrev sp_degree : FSp := fun ds S R Q => ∃ p, ds = [P p] ∧ Nrm p ∧ p.length ≤ 1000 ∧ Q (.int ((p.length : Int) - 1)) S
abbrev sp_lowest_poly : FSp := sp_lowest_in
abbrev sp_poly_at : FSp := fun ds S R Q => ∃ p r, ds = [P p, Fr r] ∧ Nrm p ∧ BdP 300 p ∧ p.length ≤ 20 ∧ Bd 10 r.num ∧ Bd 10 (r.den : Int) ∧ Q (Fr (pe p r)) S
abbrev sp__law_dice : FSp := fun ds S R Q => ∃ ns, ∃ i : Nat, ds = [.scr ns, .int i] ∧ ∀ p a b c, S p = none → Q (.ref p) (Dice p a b c S)
abbrev sp__law_roll : FSp := fun ds S R Q => ∃ p t, ds = [.ref p, .int t] ∧ HasDice S p ∧ 0 < t ∧ t < 2 ^ 30 ∧ ∀ r a b c : Int, 0 ≤ r → r < t → Q (.int r) (Dice p a b c S)
abbrev sp__law_pick : FSp := fun ds S R Q => ∃ p xs, ds = [.ref p, .lst xs] ∧ HasDice S p ∧ xs ≠ [] ∧ xs.length < 1000 ∧ ∀ x ∈ xs, ∀ a b c : Int, Q x (Dice p a b c S)
abbrev sp__law_pl_drawn : FSp := fun ds S R Q => ∃ p, ∃ m : Nat, ds = [.ref p, .int m] ∧ HasDice S p ∧ m ≤ 20 ∧ ∀ q, ∀ a b c : Int, Nrm q → BdP 2 q → q.length ≤ m + 1 → q ≠ [] → Q (P q) (Dice p a b c S)
abbrev sp_law : FSp := fun ds S R Q => ∃ ns, ds = [.scr ns] ∧ ∀ S', Q (.bl true) S'

/-! ### division -/
/-- bits of rests -/
def xb (a b m l : Nat) : Nat := a + (m + 1 - l) * (b + 1)
abbrev sp_require_some : FSp := fun ds S R Q => ∃ p, ds = [P p] ∧ p ≠ [] ∧ Q .non S
abbrev sp_minus_in : FSp := fun ds S R Q => ∃ p q, ds = [P p, P q] ∧ p.length ≤ 500 ∧ SmP q ∧ Q (P (pplus p (pby (-1) q))) S
structure PdB (a b : Nat) (p d : List Int) (t : Int) (q r : List Int) : Prop where
  pos : 0 < t
  dv : Pdv p d t q r
  bt : Bd (xb a b p.length d.length + 1) t
  bq : BdP (xb a b p.length d.length) q
  br : BdP (xb a b p.length d.length) r
  lq : q.length ≤ p.length
structure PdIn (a b : Nat) (p d : List Int) : Prop where
  np : Nrm p
  nd : Nrm d
  ne : d ≠ []
  lp : p.length ≤ 40
  ld : d.length ≤ 40
  bp : BdP a p
  bd : BdP b d
  xb : xb a b p.length d.length ≤ 50000000
abbrev sp_parted_in : FSp := fun ds S R Q => ∃ p d a b, ds = [P p, P d] ∧ PdIn a b p d ∧ ∀ t q r, PdB a b p d t q r → ((∃ s, Nrm s ∧ ∀ x, pei p x = pei s x * pei d x) → t = 1) → Q (.tup [.int t, P q, P r]) S
/-- the law's own way, a turn -/
def lpS (d : List Int) (k : Nat) (s : Int × List Int × List Int) : Int × List Int × List Int :=
  if cf s.2.1 (k + d.length - 1) = 0 then s else
    (s.1 * cf d (d.length - 1), (List.range s.2.1.length).map (fun n => cf d (d.length - 1) * cf s.2.1 n - if k ≤ n ∧ n - k < d.length then cf s.2.1 (k + d.length - 1) * cf d (n - k) else 0),
      (List.range s.2.2.length).map fun n => cf d (d.length - 1) * cf s.2.2 n + if n = k then cf s.2.1 (k + d.length - 1) else 0)
def lpR (d : List Int) : Nat → Int × List Int × List Int → Int × List Int × List Int
  | 0, s => s
  | k + 1, s => lpR d k (lpS d k s)
def lsg (t : Int) : Int := if 0 < t then 1 else -1
def lprE (s : Int × List Int × List Int) : Int × List Int × List Int := (lsg s.1 * s.1, trim (s.2.2.map fun c => lsg s.1 * c), trim (s.2.1.map fun c => lsg s.1 * c))
def lprt (p d : List Int) : Int × List Int × List Int := lprE (lpR d (p.length + 1 - d.length) (1, p, List.replicate (p.length + 1 - d.length) 0))
abbrev sp__law_pl_parted : FSp := fun ds S R Q => ∃ p d a b, ds = [P p, P d] ∧ PdIn a b p d ∧ ∀ t q r, PdB a b p d t q r → (t, q, r) = lprt p d → Q (.tup [.int t, P q, P r]) S
/-- a number and a poly, lowest together -/
def lpD (t : Int) (r : List Int) : D := .tup [.int (t.fdiv (Int.gcd t (pcon r))), P (r.map fun c => c.fdiv (Int.gcd t (pcon r)))]
abbrev sp_rest_in : FSp := fun ds S R Q => ∃ p d a b, ds = [P p, P d] ∧ PdIn a b p d ∧ ∀ t q r, PdB a b p d t q r → Q (lpD t r) S
abbrev sp_rest : FSp := sp_rest_in
abbrev sp_quotient_in : FSp := fun ds S R Q => ∃ p d a b, ds = [P p, P d] ∧ PdIn a b p d ∧ ∀ t q r, PdB a b p d t q r → Q (lpD t q) S
abbrev sp__law_pl_over : FSp := sp_quotient_in
noncomputable def dvB (d p : List Int) : Bool := if d = [] then decide (p = []) else decide (prem p d = [])
abbrev sp_does_divide_in : FSp := fun ds S R Q => ∃ p d a b, ds = [P d, P p] ∧ (d ≠ [] → PdIn a b p d) ∧ Nrm p ∧ Nrm d ∧ Q (.bl (dvB d p)) S
abbrev sp_does_divide : FSp := sp_does_divide_in
abbrev sp__law_pl_divides : FSp := sp_does_divide_in
abbrev sp_quotient : FSp := fun ds S R Q => ∃ p d a b, ds = [P p, P d] ∧ PdIn a b p d ∧ (dvB d p = true → ∀ t q r, PdB a b p d t q r → Q (lpD t q) S) ∧ (dvB d p = false → Q .non S)
/-- bounds that let Euclid's way go on: lengths and bits of both -/
def gOk (_ m a l b : Nat) : Bool := decide (m ≤ 25) && (decide (l ≤ 25) && (decide (a ≤ 2000) && decide (b ≤ 2000)))
abbrev sp_common_in : FSp := fun ds S R Q => ∃ p q a b, ds = [P p, P q] ∧ Nrm p ∧ Nrm q ∧ SmP p ∧ SmP q ∧ BdP a p ∧ BdP b q ∧ gOk (q.length + 1) p.length a q.length b = true ∧ Q (P (pgcd (plow p) (plow q))) S
abbrev sp_common : FSp := sp_common_in
abbrev sp__law_pl_common : FSp := sp_common_in
abbrev sp_content_of : FSp := fun ds S R Q => ∃ ps : List (List Int), ds = [.lst (ps.map fun p => P p)] ∧ (∀ p ∈ ps, p.length ≤ 1000) ∧ Q (.int (ps.foldl (fun g p => Int.gcd (g : Int) (pcon p)) 0 : Nat)) S
/-! ### ratios -/
abbrev Rt (t b : List Int) : D := .tup [P t, P b]
structure RI (T B : List Int) : Prop where
  nT : Nrm T
  nB : Nrm B
  ne : B ≠ []
  bT : BdP 2000 T
  bB : BdP 2000 B
  lT : T.length ≤ 25
  lB : B.length ≤ 25
structure Rw (t b : List Int) : Prop where
  nt : Nrm t
  nb : Nrm b
  ne : b ≠ []
  bt : BdP 300 t
  bb : BdP 300 b
  lt : t.length ≤ 7
  lb : b.length ≤ 7
structure Ra (t b : List Int) : Prop where
  w : Rw t b
  lw : Low t b
structure Rb (t b : List Int) : Prop where
  lw : Low t b
  bt : BdP 42 t
  bb : BdP 42 b
  lt : t.length ≤ 4
  lb : b.length ≤ 4
theorem Rb.a {t b : List Int} (h : Rb t b) : Ra t b := ⟨⟨h.lw.nt, h.lw.nb, h.lw.ne, h.bt.mono (by decide), h.bb.mono (by decide), by have := h.lt; omega, by have := h.lb; omega⟩, h.lw⟩
abbrev sp_exact_in : FSp := fun ds S R Q => ∃ p d s a b, ds = [P p, P d] ∧ PdIn a b p d ∧ Nrm s ∧ (∀ x, pei p x = pei s x * pei d x) ∧ Q (P s) S
abbrev sp_divided : FSp := sp_exact_in
abbrev sp_ratio_in : FSp := fun ds S R Q => ∃ T B, ds = [P T, P B] ∧ RI T B ∧ ∀ t b, Low t b → Crs t b T B → Q (Rt t b) S
abbrev sp_ratio_of : FSp := sp_ratio_in
abbrev sp__law_rt : FSp := sp_ratio_in
abbrev sp_ratio_of_poly : FSp := fun ds S R Q => ∃ m : Int, ∃ p, ds = [.int m, P p] ∧ m ≠ 0 ∧ RI p [m] ∧ ∀ t b, Low t b → Crs t b p [m] → Q (Rt t b) S
abbrev sp_ratio_plus_in : FSp := fun ds S R Q => ∃ t1 b1 t2 b2, ds = [Rt t1 b1, Rt t2 b2] ∧ Rw t1 b1 ∧ Rw t2 b2 ∧ ∀ t b, Low t b → Crs t b (pplus (pmul t1 b2) (pmul t2 b1)) (pmul b1 b2) → Q (Rt t b) S
abbrev sp__law_rt_plus : FSp := sp_ratio_plus_in
abbrev sp_ratio_plus : FSp := fun ds S R Q => ∃ t1 b1 t2 b2, ds = [Rt t1 b1, Rt t2 b2] ∧ Ra t1 b1 ∧ Ra t2 b2 ∧ ∀ t b, Low t b → Crs t b (pplus (pmul t1 b2) (pmul t2 b1)) (pmul b1 b2) → Q (Rt t b) S
abbrev sp_ratio_minus_in : FSp := fun ds S R Q => ∃ t1 b1 t2 b2, ds = [Rt t1 b1, Rt t2 b2] ∧ Rw t1 b1 ∧ Rw t2 b2 ∧ ∀ t b, Low t b → Crs t b (pplus (pmul t1 b2) (pby (-1) (pmul t2 b1))) (pmul b1 b2) → Q (Rt t b) S
abbrev sp_ratio_minus : FSp := fun ds S R Q => ∃ t1 b1 t2 b2, ds = [Rt t1 b1, Rt t2 b2] ∧ Ra t1 b1 ∧ Ra t2 b2 ∧ ∀ t b, Low t b → Crs t b (pplus (pmul t1 b2) (pby (-1) (pmul t2 b1))) (pmul b1 b2) → Q (Rt t b) S
abbrev sp__law_rt_minus : FSp := fun ds S R Q => ∃ t1 b1 t2 b2, ds = [Rt t1 b1, Rt t2 b2] ∧ Rw t1 b1 ∧ Rb t2 b2 ∧ ∀ t b, Low t b → Crs t b (pplus (pmul t1 b2) (pmul (pby (-1) t2) b1)) (pmul b1 b2) → Q (Rt t b) S
abbrev sp_ratio_times_in : FSp := fun ds S R Q => ∃ t1 b1 t2 b2, ds = [Rt t1 b1, Rt t2 b2] ∧ Rw t1 b1 ∧ Rw t2 b2 ∧ ∀ t b, Low t b → Crs t b (pmul t1 t2) (pmul b1 b2) → Q (Rt t b) S
abbrev sp__law_rt_times : FSp := sp_ratio_times_in
abbrev sp_ratio_times : FSp := fun ds S R Q => ∃ t1 b1 t2 b2, ds = [Rt t1 b1, Rt t2 b2] ∧ Ra t1 b1 ∧ Ra t2 b2 ∧ ∀ t b, Low t b → Crs t b (pmul t1 t2) (pmul b1 b2) → Q (Rt t b) S
abbrev sp_ratio_over : FSp := fun ds S R Q => ∃ t1 b1 t2 b2, ds = [Rt t1 b1, Rt t2 b2] ∧ Ra t1 b1 ∧ Ra t2 b2 ∧ t2 ≠ [] ∧ ∀ t b, Low t b → Crs t b (pmul t1 b2) (pmul b1 t2) → Q (Rt t b) S
abbrev sp_broken_over : FSp := fun ds S R Q => ∃ r s, ds = [Fr r, Fr s] ∧ s ≠ 0 ∧ SmF r ∧ SmF s ∧ Q (Fr (r / s)) S
abbrev sp_ratio_at_in : FSp := fun ds S R Q => ∃ t b r, ds = [Rt t b, Fr r] ∧ Rb t b ∧ Bd 10 r.num ∧ Bd 10 (r.den : Int) ∧ Q (if pe b r = 0 then .non else Fr (pe t r / pe b r)) S
abbrev sp_ratio_at : FSp := sp_ratio_at_in
abbrev sp_whole_in : FSp := fun ds S R Q => ∃ t b, ds = [Rt t b] ∧ Rb t b ∧ ∀ m q r, PdB 42 42 t b m q r → Q (lpD m q) S
abbrev sp_whole_part : FSp := sp_whole_in
abbrev sp_proper_in : FSp := fun ds S R Q => ∃ t b, ds = [Rt t b] ∧ Rb t b ∧ ∀ m q r, PdB 42 42 t b m q r → ∀ t' b', Low t' b' → Crs t' b' r (pby m b) → Q (Rt t' b') S
abbrev sp_proper_part : FSp := sp_proper_in
def unP : D → List Int
  | .tup xs => xs.filterMap fun x => match x with
    | .int i => some i
    | _ => none
  | _ => []
open Classical in
noncomputable def isRt : D → Bool
  | .tup [x0, x1] => isPl x0 && isPl x1 && decide (Low (unP x0) (unP x1))
  | _ => false
def PO (x : D) : Prop := (∃ p, x = P p ∧ BdP 610 p ∧ p.length ≤ 13) ∨ (Ty2 x ∧ isPl x = false)
def RtOk (v : D) : Prop := (Ty v ∧ ∀ xs, v ≠ .tup xs) ∨ (∃ xs, v = .tup xs ∧ xs.length ≠ 2) ∨ ∃ x0 x1, v = .tup [x0, x1] ∧ PO x0 ∧ PO x1
abbrev sp_is_plain_ratio : FSp := fun ds S R Q => ∃ v, ds = [v] ∧ RtOk v ∧ Q (.bl (isRt v)) S
abbrev sp_is_ratio : FSp := sp_is_plain_ratio
abbrev sp__law_rt_is : FSp := sp_is_plain_ratio
abbrev sp_require_ratio : FSp := fun ds S R Q => ∃ t b, ds = [Rt t b] ∧ Ra t b ∧ Q .non S
abbrev sp_require_ratios : FSp := fun ds S R Q => ∃ t1 b1 t2 b2, ds = [Rt t1 b1, Rt t2 b2] ∧ Ra t1 b1 ∧ Ra t2 b2 ∧ Q .non S
abbrev sp__law_rt_drawn : FSp := fun ds S R Q => ∃ p, ∃ m : Nat, ds = [.ref p, .int m] ∧ HasDice S p ∧ m ≤ 3 ∧ ∀ t b, ∀ x y z : Int, Rb t b → Q (Rt t b) (Dice p x y z S)
abbrev sp__law_some : FSp := fun ds S R Q => ∃ p, ds = [.ref p] ∧ HasDice S p ∧ ∀ t b, ∀ x y z : Int, Rb t b → Q (Rt t b) (Dice p x y z S)
abbrev sp__law_near : FSp := fun ds S R Q => ∃ p t b, ds = [.ref p, Rt t b] ∧ HasDice S p ∧ Rb t b ∧ ∀ vs : List D, ∀ x y z : Int, (∀ v ∈ vs, RtOk v) → Q (.lst vs) (Dice p x y z S)
abbrev sp__law_parts_right : FSp := fun ds S R Q => ∃ t b, ds = [Rt t b] ∧ Rb t b ∧ Q (.bl true) S
abbrev sp__law_right : FSp := fun ds S R Q => ∃ p, ds = [.ref p] ∧ HasDice S p ∧ ∀ x y z : Int, Q (.bl true) (Dice p x y z S)
end LW
/-! ### promises: roots -/
namespace LW
open PySem DL PM
abbrev sp_value_in : FSp := fun ds S R Q => ∃ p, ∃ x : Int, ds = [P p, .int x] ∧ BdP 2000 p ∧ p.length ≤ 60 ∧ Bd 2000 x ∧ Q (.int (pei p x)) S
abbrev sp__law_pl_at : FSp := sp_value_in
abbrev sp_by_modulus : FSp := fun ds S R Q => ∃ v p, ∃ m : Int, ds = [v, .int m] ∧ (v = P p ∨ ∃ l, v = .ref l ∧ S l = some (.lst (dI p))) ∧ p.length ≤ 1000 ∧ 0 < m ∧ Q (P (pm m p)) S
/-- ends with 1 -/
def End1 (g : List Int) : Prop := g ≠ [] ∧ cf g (g.length - 1) = 1
abbrev sp_parted_by : FSp := fun ds S R Q => ∃ f g, ∃ m : Int, ds = [P f, P g, .int m] ∧ 1 < m ∧ Bd 20000000 m ∧ Rd m f ∧ Rd m g ∧ End1 g ∧ f.length ≤ 20 ∧ g.length ≤ 20 ∧
  ∀ q r e, Nrm q → Nrm r → Rd m q → Rd m r → r.length < g.length → (∀ x, pei f x = pei q x * pei g x + pei r x + m * pei e x) → Q (.tup [P q, P r]) S
abbrev sp_inverse_in : FSp := fun ds S R Q => ∃ n m : Int, ds = [.int n, .int m] ∧ 1 < m ∧ Bd 2000000 m ∧ (∃ a b : Int, a * n + b * m = 1) ∧ ∀ r : Int, 0 ≤ r → r < m → m ∣ r * n - 1 → Q (.int r) S
abbrev sp_with_last_one : FSp := fun ds S R Q => ∃ f, ∃ p : Nat, ds = [P f, .int p] ∧ Pri p ∧ p < 9216 ∧ Nrm f ∧ f ≠ [] ∧ Rd p f ∧ f.length ≤ 20 ∧
  ∀ w, ∀ k l : Int, ∀ e1 e2, Nrm w → Rd p w → End1 w → w.length = f.length → (∀ n, pei w n = k * pei f n + p * pei e1 n) → (∀ n, pei f n = l * pei w n + p * pei e2 n) → Q (P w) S
abbrev sp_common_modulo : FSp := fun ds S R Q => ∃ f g, ∃ p : Nat, ds = [P f, P g, .int p] ∧ Pri p ∧ p < 9216 ∧ Nrm f ∧ Nrm g ∧ f ≠ [] ∧ Rd p f ∧ Rd p g ∧ f.length ≤ 20 ∧ g.length ≤ 20 ∧
  ∀ h, Nrm h → h ≠ [] → Rd p h → Com p f g h [] → Q (P h) S
abbrev sp_next_prime : FSp := fun ds S R Q => ∃ n : Nat, ds = [.int n] ∧ 2 ≤ n ∧ (∃ p, Pri p ∧ n < p ∧ p < 9216) ∧ ∀ r : Nat, Pri r → n < r → (∀ p, Pri p → n < p → r ≤ p) → Q (.int r) S
/-- a poly without a root twice, with bounded integers -/
structure Slm (f : List Int) : Prop where
  n : Nrm f
  l2 : 2 ≤ f.length
  l5 : f.length ≤ 5
  b : BdP 130 f
  z : ∃ (u v : List Int) (c : Int), c ≠ 0 ∧ ∀ x, pei u x * pei f x + pei v x * pei (pder f) x = c
/-- a prime by which a poly and its slope have nothing in common -/
def GoodP (f : List Int) (p : Nat) : Prop := Pri p ∧ p < 9216 ∧ ∃ (u v : List Int) (c : Int), ¬ (p : Int) ∣ c ∧ ∀ x, (p : Int) ∣ c - (pei u x * pei f x + pei v x * pei (pder f) x)
abbrev sp_good_prime : FSp := fun ds S R Q => ∃ f, ds = [P f] ∧ Slm f ∧ ∀ p : Nat, GoodP f p → Q (.int p) S
abbrev sp_balanced : FSp := fun ds S R Q => ∃ x m : Int, ds = [.int x, .int m] ∧ 0 < m ∧ Bd 60000000 m ∧ Q (.int (bal x m)) S
abbrev sp_led_up : FSp := fun ds S R Q => ∃ f, ∃ a : Int, ∃ p : Nat, ∃ B : Int, ds = [P f, .int a, .int p, .int B] ∧ Slm f ∧ GoodP f p ∧ 0 ≤ a ∧ a < p ∧ (p : Int) ∣ pei f a ∧ 0 ≤ B ∧ Bd 132 B ∧
  ∀ r : Int, (p : Int) ∣ r - a → Bd 400 r → (∀ z : Int, pei f z = 0 → (p : Int) ∣ z - a → (z.natAbs : Int) ≤ B → r = z) → Q (.int r) S
abbrev sp_lowest_over : FSp := fun ds S R Q => ∃ p d a b, ds = [P p, P d] ∧ PdIn a b p d ∧ ∀ t q r, PdB a b p d t q r → Q (P (plow q)) S
abbrev sp_slim_in : FSp := fun ds S R Q => ∃ f, ds = [P f] ∧ Nrm f ∧ 2 ≤ f.length ∧ f.length ≤ 5 ∧ BdP 70 f ∧ ∀ s, Slm s → (∀ r : Int, pei s r = 0 ↔ pei f r = 0) → Q (P s) S
abbrev sp_integer_roots : FSp := fun ds S R Q => ∃ f, ds = [P f] ∧ Nrm f ∧ f ≠ [] ∧ f.length ≤ 5 ∧ BdP 70 f ∧ ∀ rs : List Int, rs.Pairwise (· < ·) → (∀ z, z ∈ rs ↔ pei f z = 0) → Q (.lst (dI rs)) S
abbrev sp_root_places : FSp := fun ds S R Q => ∃ f, ds = [P f] ∧ Nrm f ∧ f ≠ [] ∧ f.length ≤ 5 ∧ BdP 70 f ∧ ∀ rs : List Int, rs.Pairwise (· < ·) → (∀ z, z ∈ rs ↔ 0 ≤ z ∧ pei f z = 0) → Q (.lst (dI rs)) S
end LW
/-! ### promises: terms -/
namespace LW
open PySem DL PM
abbrev Tm (f : Rat) (t b : List Int) : D := .obj "Term" [Fr f, Rt t b]
abbrev Kr (t b : List Int) : D := .obj "KnownRatio" [Rt t b]
/-- no place is a root -/
def NoRt (p : List Int) : Prop := ∀ n : Nat, pei p n ≠ 0
/-- the value of a ratio at a place -/
def rtv (t b : List Int) (n : Nat) : Rat := Rat.divInt (pei t n) (pei b n)
/-- the number at a place -/
def tmN (f : Rat) (t b : List Int) : Nat → Rat
  | 0 => f
  | n + 1 => tmN f t b n * rtv t b n
abbrev tmL (f : Rat) (t b : List Int) (n m : Nat) : List D := (List.range m).map fun i => Fr (tmN f t b (n + i))
structure TmIn (t b : List Int) : Prop where
  lw : Low t b
  t0 : t ≠ []
  lt : t.length ≤ 5
  lb : b.length ≤ 5
  bt : BdP 70 t
  bb : BdP 70 b
  nt : NoRt t
  nb : NoRt b
abbrev sp_broken_times : FSp := sp__law_fr_times
abbrev sp_KnownRatio_init : FSp := fun ds S R Q => ∃ p q v, ds = [.ref p, v] ∧ S p = some (.obj "KnownRatio" q [none]) ∧ S q = some .dx ∧ Q .non (sup S p (.obj "KnownRatio" q [some v]))
abbrev sp_Term_init : FSp := fun ds S R Q => ∃ p q x v, ds = [.ref p, x, v] ∧ S p = some (.obj "Term" q [none, none]) ∧ S q = some .dx ∧ ((∃ t b, v = Kr t b ∧ Q .non (sup S p (.obj "Term" q [some x, some (Rt t b)]))) ∨
  (∃ f t b, x = Fr f ∧ f ≠ 0 ∧ v = Rt t b ∧ TmIn t b ∧ Q .non (sup S p (.obj "Term" q [some x, some v]))))
abbrev sp_made_term : FSp := fun ds S R Q => ∃ f t b, ds = [Fr f, Rt t b] ∧ Q (Tm f t b) S
abbrev sp_is_factor : FSp := fun ds S R Q => ∃ f : Rat, ds = [Fr f] ∧ f ≠ 0 ∧ Q (.bl true) S
abbrev sp_is_rootless : FSp := fun ds S R Q => ∃ t b, ds = [Rt t b] ∧ TmIn t b ∧ Q (.bl true) S
abbrev sp_is_passed_ratio : FSp := sp_is_rootless
abbrev sp_value_of : FSp := fun ds S R Q => ∃ t b, ∃ n : Nat, ds = [Rt t b, .int n] ∧ BdP 2000 t ∧ BdP 2000 b ∧ t.length ≤ 60 ∧ b.length ≤ 60 ∧ n ≤ 100000 ∧ pei b n ≠ 0 ∧ Q (Fr (rtv t b n)) S
abbrev sp__law_rt_at : FSp := sp_value_of
/-- the numbers to a place can be told -/
structure Nums (f : Rat) (t b : List Int) (n : Nat) : Prop where
  bt : BdP 2000 t
  bb : BdP 2000 b
  lt : t.length ≤ 60
  lb : b.length ≤ 60
  nb : ∀ i, i < n → pei b i ≠ 0
  s1 : ∀ i, i < n → SmF (tmN f t b i)
  s2 : ∀ i, i < n → SmF (rtv t b i)
abbrev sp_numbers_of : FSp := fun ds S R Q => ∃ f t b, ∃ n m : Nat, ds = [Tm f t b, .int n, .int m] ∧ n + m ≤ 2001 ∧ Nums f t b (n + m) ∧ Q (.lst (tmL f t b n m)) S
abbrev sp__law_tm_numbers : FSp := fun ds S R Q => ∃ f t b, ∃ m : Nat, ds = [.tup [Fr f, Rt t b], .int m] ∧ m ≤ 2001 ∧ Nums f t b m ∧ Q (.lst (tmL f t b 0 m)) S
abbrev sp_require_place : FSp := fun ds S R Q => ∃ n : Nat, ds = [.int n] ∧ n ≤ 2000 ∧ Q .non S
abbrev sp_Term_number : FSp := fun ds S R Q => ∃ f t b, ∃ n : Nat, ds = [Tm f t b, .int n] ∧ n ≤ 2000 ∧ Nums f t b (n + 1) ∧ Q (Fr (tmN f t b n)) S
abbrev sp_Term_numbers : FSp := fun ds S R Q => ∃ f t b, ∃ n m : Nat, ds = [Tm f t b, .int n, .int m] ∧ n ≤ 1000 ∧ m ≤ 200 ∧ Nums f t b (n + m) ∧ Q (.tup (tmL f t b n m)) S
abbrev sp_Term_first : FSp := fun ds S R Q => ∃ f t b, ds = [Tm f t b] ∧ Q (Fr f) S
abbrev sp_Term_ratio : FSp := fun ds S R Q => ∃ f t b, ds = [Tm f t b] ∧ Q (Rt t b) S
def termS (t b : List Int) : Str := Str.empty ++ ("term of degrees " : Str) ++ (toString ((t.length : Int) - 1) : Str) ++ (", " : Str) ++ (toString ((b.length : Int) - 1) : Str)
abbrev sp_Term_str : FSp := fun ds S R Q => ∃ f t b, ds = [Tm f t b] ∧ t.length ≤ 60 ∧ b.length ≤ 60 ∧ Q (.str (termS t b)) S
abbrev sp_Term_eq : FSp := fun ds S R Q => ∃ f t b v, ds = [Tm f t b, v] ∧ ((∃ g u c, v = Tm g u c ∧ Q (.bl (decide (f = g) && (decide (t = u) && decide (b = c)))) S) ∨ (Ty v ∧ Q (.bl false) S))
abbrev sp_require_term : FSp := fun ds S R Q => ∃ f t b, ds = [Tm f t b] ∧ Q .non S
abbrev sp_require_factor : FSp := fun ds S R Q => ∃ f : Rat, ds = [Fr f] ∧ f ≠ 0 ∧ Q .non S
abbrev sp_term_times : FSp := fun ds S R Q => ∃ f t b g u c, ds = [Tm f t b, Tm g u c] ∧ SmF f ∧ SmF g ∧ Rw t b ∧ Rw u c ∧ ∀ t' b', Low t' b' → Crs t' b' (pmul t u) (pmul b c) → Q (Tm (f * g) t' b') S
structure Rv (l : Nat) (t b : List Int) : Prop where
  nt : Nrm t
  nb : Nrm b
  ne : b ≠ []
  bt : BdP 300 t
  bb : BdP 300 b
  lt : t.length ≤ l
  lb : b.length ≤ l
abbrev sp_ratio_over_in : FSp := fun ds S R Q => ∃ t1 b1 t2 b2 l m, ds = [Rt t1 b1, Rt t2 b2] ∧ Rv l t1 b1 ∧ Rv m t2 b2 ∧ l + m ≤ 14 ∧ t2 ≠ [] ∧ ∀ t b, Low t b → Crs t b (pmul t1 b2) (pmul b1 t2) → Q (Rt t b) S
abbrev sp_term_over : FSp := fun ds S R Q => ∃ f t b g u c l m, ds = [Tm f t b, Tm g u c] ∧ SmF f ∧ SmF g ∧ g ≠ 0 ∧ Rv l t b ∧ Rv m u c ∧ l + m ≤ 14 ∧ u ≠ [] ∧ ∀ t' b', Low t' b' → Crs t' b' (pmul t c) (pmul b u) → Q (Tm (f / g) t' b') S
abbrev sp_term_by : FSp := fun ds S R Q => ∃ r f t b, ds = [Fr r, Tm f t b] ∧ r ≠ 0 ∧ SmF r ∧ SmF f ∧ Q (Tm (r * f) t b) S
abbrev sp__law_rt_over : FSp := fun ds S R Q => ∃ t1 b1 t2 b2, ds = [Rt t1 b1, Rt t2 b2] ∧ Rw t1 b1 ∧ TmIn t2 b2 ∧ ∀ t b, Low t b → Crs t b (pmul t1 b2) (pmul b1 t2) → Q (Rt t b) S
/-- first numbers that are drawn -/
def Fst (f : Rat) : Prop := f ≠ 0 ∧ Bd 2 f.num ∧ Bd 2 (f.den : Int)
abbrev sp__law_tm_made : FSp := fun ds S R Q => ∃ f t b, ds = [.tup [Fr f, Rt t b]] ∧ f ≠ 0 ∧ TmIn t b ∧ Q (Tm f t b) S
end LW
/-! ### promises: terms at other places -/
namespace LW
open PySem DL PM
abbrev sp_moved_in : FSp := fun ds S R Q => ∃ p m, ds = [P p, .int m] ∧ BdP 1000 p ∧ p.length ≤ 30 ∧ m.natAbs ≤ 1000 ∧ Q (P (pmov m p)) S
abbrev sp__law_pl_moved : FSp := sp_moved_in
/-- s k + r in the place of k -/
def pst (s r : Nat) (p : List Int) : List Int := trim ((List.range (pmov r p).length).map fun (i : Nat) => cf (pmov r p) i * (s : Int) ^ i)
/-- the product for n places behind one another -/
def secN (s r : Nat) (p : List Int) : Nat → List Int
  | 0 => [1]
  | n + 1 => pmul (secN s r p n) (pst s (r + n) p)
abbrev sp_require_within : FSp := fun ds S R Q => ∃ v a b : Int, ds = [.int v, .int a, .int b] ∧ a ≤ v ∧ v ≤ b ∧ Q .non S
abbrev sp_stretched_in : FSp := fun ds S R Q => ∃ p, ∃ s r : Nat, ds = [P p, .int s, .int r] ∧ BdP 1000 p ∧ p.length ≤ 30 ∧ 1 ≤ s ∧ s ≤ 6 ∧ r ≤ 127 ∧ Q (P (pst s r p)) S
abbrev sp_ratio_moved_in : FSp := fun ds S R Q => ∃ t b, ∃ m : Nat, ds = [Rt t b, .int m] ∧ BdP 1000 t ∧ BdP 1000 b ∧ t.length ≤ 30 ∧ b.length ≤ 30 ∧ m ≤ 60 ∧ Q (Rt (pmov m t) (pmov m b)) S
abbrev sp__law_rt_moved : FSp := fun ds S R Q => ∃ t b, ∃ m : Nat, ds = [Rt t b, .int m] ∧ TmIn t b ∧ m ≤ 60 ∧ ∀ t' b', Low t' b' → Crs t' b' (pmov m t) (pmov m b) → Q (Rt t' b') S
abbrev sp_term_moved : FSp := fun ds S R Q => ∃ f t b, ∃ m : Nat, ds = [Tm f t b, .int m] ∧ m ≤ 60 ∧ Nums f t b (m + 1) ∧ BdP 1000 t ∧ BdP 1000 b ∧ t.length ≤ 30 ∧ b.length ≤ 30 ∧ Q (Tm (tmN f t b m) (pmov m t) (pmov m b)) S
/-- polys whose product for so many places can be made lowest -/
structure SecIn (s : Nat) (t : List Int) : Prop where
  n : Nrm t
  ne : t ≠ []
  b : BdP 750 t
  l : (t.length - 1) * s ≤ 24
  p : ∀ r n, r ≤ 100 → n ≤ s → BdP 2000 (secN s r t n)
abbrev sp_term_section : FSp := fun ds S R Q => ∃ f t b, ∃ s r : Nat, ds = [Tm f t b, .int s, .int r] ∧ 1 ≤ s ∧ s ≤ 6 ∧ r ≤ 60 ∧ Nums f t b (r + 1) ∧ SecIn s t ∧ SecIn s b ∧
  ∀ t' b', Low t' b' → Crs t' b' (secN s r t s) (secN s r b s) → Q (Tm (tmN f t b r) t' b') S
abbrev sp_powers : FSp := fun ds S R Q => ∃ r : Rat, ds = [Fr r] ∧ r ≠ 0 ∧ SmF r ∧ Q (Tm 1 [r.num] [(r.den : Int)]) S
abbrev sp_factorials : FSp := fun ds S R Q => ds = [] ∧ Q (Tm 1 [1, 1] [1]) S
abbrev sp_binomials : FSp := fun ds S R Q => ∃ n : Nat, ds = [.int n] ∧ n ≤ 60 ∧ ∀ t b, Low t b → Crs t b [(n : Int) + 1, 1] [1, 1] → Q (Tm 1 t b) S
/-- small values at the first places -/
def Vb (t : List Int) : Prop := ∀ i : Nat, i ≤ 60 → Bd 50 (pei t i)
abbrev sp__law_tm_drawn : FSp := fun ds S R Q => ∃ p, ds = [.ref p, .int 2] ∧ HasDice S p ∧ ∀ f t b, ∀ x y z : Int, Fst f → TmIn t b → Vb t → Vb b → Q (.tup [Fr f, Rt t b]) (Dice p x y z S)
end LW

namespace LW
open PySem DL PM
/-! ### promises, by number -/
def fnT : List FSp := [sp_value_in, sp_balanced, sp_inverse_in, sp_derived_in, sp_led_up, sp_next_prime, sp_poly_in, sp_by_modulus, sp_parted_by, sp_by_in, sp_with_last_one, sp_common_modulo, sp_good_prime, sp_over_in, sp_common_share, sp_content_in, sp_lowest_in, sp_plus_in, sp_minus_in, sp_times_in, sp_parted_in, sp_quotient_in, sp_lowest_over, sp_common_in, sp_slim_in, sp_degree_in, sp_integer_roots, sp_root_places, sp_is_rootless, sp_content_of, sp_exact_in, sp_divided, sp_ratio_in, sp_is_integer, sp_is_plain_poly, sp_is_plain_ratio, sp_is_passed_ratio, sp_is_broken, sp_is_factor, sp_Term_init, sp_KnownRatio_init, sp_made_term, sp_moved_in, sp_ratio_moved_in, sp_broken_in, sp_broken_times, sp_value_of, sp_numbers_of, sp_require_within, sp_require_term, sp_term_moved, sp_binomials, sp_ratio_times_in, sp_term_times, sp_require_factor, sp_powers, sp_factorials, sp__law_roll, sp__law_gcd, sp__law_fr, sp__law_fr_times, sp__law_pick, sp_stretched_in, sp_term_section, sp__law_content, sp__law_pl_by, sp__law_pl, sp__law_pl_parted, sp__law_pl_over, sp__law_pl_lowest, sp__law_pl_common, sp__law_rt, sp__law_pl_plus, sp__law_pl_times, sp__law_pl_moved, sp__law_rt_moved, sp__law_pl_at, sp__law_rt_at, sp__law_tm_numbers, sp__law_tm_drawn, sp_require_place, sp_Term_numbers, sp_Term_number, sp_Term_eq, sp_Term_ratio, sp__law_right, sp__law_dice, sp_Term_first, sp_law]
def glT : List D := [(.tup []), (.tup [(.tup []), (.tup [(.int 1)])]), (.int 13), (.int 60), (.tup [(.int 1)]), (.int 6), (.int 2000), (.int 200)]
def Gm : Gam := ⟨fun k => fnT.getD k fun _ _ _ _ => False, fun k => glT.getD k .non, cls, xcs⟩
theorem has_KnownRatio : Gm.has "KnownRatio" = true := by decide +kernel
theorem has_Term : Gm.has "Term" = true := by decide +kernel
theorem fn_value_in : Gm.fn F.value_in = sp_value_in := rfl
theorem fn_balanced : Gm.fn F.balanced = sp_balanced := rfl
theorem fn_inverse_in : Gm.fn F.inverse_in = sp_inverse_in := rfl
theorem fn_derived_in : Gm.fn F.derived_in = sp_derived_in := rfl
theorem fn_led_up : Gm.fn F.led_up = sp_led_up := rfl
theorem fn_next_prime : Gm.fn F.next_prime = sp_next_prime := rfl
theorem fn_poly_in : Gm.fn F.poly_in = sp_poly_in := rfl
theorem fn_by_modulus : Gm.fn F.by_modulus = sp_by_modulus := rfl
theorem fn_parted_by : Gm.fn F.parted_by = sp_parted_by := rfl
theorem fn_by_in : Gm.fn F.by_in = sp_by_in := rfl
theorem fn_with_last_one : Gm.fn F.with_last_one = sp_with_last_one := rfl
theorem fn_common_modulo : Gm.fn F.common_modulo = sp_common_modulo := rfl
theorem fn_good_prime : Gm.fn F.good_prime = sp_good_prime := rfl
theorem fn_over_in : Gm.fn F.over_in = sp_over_in := rfl
theorem fn_common_share : Gm.fn F.common_share = sp_common_share := rfl
theorem fn_content_in : Gm.fn F.content_in = sp_content_in := rfl
theorem fn_lowest_in : Gm.fn F.lowest_in = sp_lowest_in := rfl
theorem fn_plus_in : Gm.fn F.plus_in = sp_plus_in := rfl
theorem fn_minus_in : Gm.fn F.minus_in = sp_minus_in := rfl
theorem fn_times_in : Gm.fn F.times_in = sp_times_in := rfl
theorem fn_parted_in : Gm.fn F.parted_in = sp_parted_in := rfl
theorem fn_quotient_in : Gm.fn F.quotient_in = sp_quotient_in := rfl
theorem fn_lowest_over : Gm.fn F.lowest_over = sp_lowest_over := rfl
theorem fn_common_in : Gm.fn F.common_in = sp_common_in := rfl
theorem fn_slim_in : Gm.fn F.slim_in = sp_slim_in := rfl
theorem fn_degree_in : Gm.fn F.degree_in = sp_degree_in := rfl
theorem fn_integer_roots : Gm.fn F.integer_roots = sp_integer_roots := rfl
theorem fn_root_places : Gm.fn F.root_places = sp_root_places := rfl
theorem fn_is_rootless : Gm.fn F.is_rootless = sp_is_rootless := rfl
theorem fn_content_of : Gm.fn F.content_of = sp_content_of := rfl
theorem fn_exact_in : Gm.fn F.exact_in = sp_exact_in := rfl
theorem fn_divided : Gm.fn F.divided = sp_divided := rfl
theorem fn_ratio_in : Gm.fn F.ratio_in = sp_ratio_in := rfl
theorem fn_is_integer : Gm.fn F.is_integer = sp_is_integer := rfl
theorem fn_is_plain_poly : Gm.fn F.is_plain_poly = sp_is_plain_poly := rfl
theorem fn_is_plain_ratio : Gm.fn F.is_plain_ratio = sp_is_plain_ratio := rfl
theorem fn_is_passed_ratio : Gm.fn F.is_passed_ratio = sp_is_passed_ratio := rfl
theorem fn_is_broken : Gm.fn F.is_broken = sp_is_broken := rfl
theorem fn_is_factor : Gm.fn F.is_factor = sp_is_factor := rfl
theorem fn_Term_init : Gm.fn F.Term_init = sp_Term_init := rfl
theorem fn_KnownRatio_init : Gm.fn F.KnownRatio_init = sp_KnownRatio_init := rfl
theorem fn_made_term : Gm.fn F.made_term = sp_made_term := rfl
theorem fn_moved_in : Gm.fn F.moved_in = sp_moved_in := rfl
theorem fn_ratio_moved_in : Gm.fn F.ratio_moved_in = sp_ratio_moved_in := rfl
theorem fn_broken_in : Gm.fn F.broken_in = sp_broken_in := rfl
theorem fn_broken_times : Gm.fn F.broken_times = sp_broken_times := rfl
theorem fn_value_of : Gm.fn F.value_of = sp_value_of := rfl
theorem fn_numbers_of : Gm.fn F.numbers_of = sp_numbers_of := rfl
theorem fn_require_within : Gm.fn F.require_within = sp_require_within := rfl
theorem fn_require_term : Gm.fn F.require_term = sp_require_term := rfl
theorem fn_term_moved : Gm.fn F.term_moved = sp_term_moved := rfl
theorem fn_binomials : Gm.fn F.binomials = sp_binomials := rfl
theorem fn_ratio_times_in : Gm.fn F.ratio_times_in = sp_ratio_times_in := rfl
theorem fn_term_times : Gm.fn F.term_times = sp_term_times := rfl
theorem fn_require_factor : Gm.fn F.require_factor = sp_require_factor := rfl
theorem fn_powers : Gm.fn F.powers = sp_powers := rfl
theorem fn_factorials : Gm.fn F.factorials = sp_factorials := rfl
theorem fn__law_roll : Gm.fn F._law_roll = sp__law_roll := rfl
theorem fn__law_gcd : Gm.fn F._law_gcd = sp__law_gcd := rfl
theorem fn__law_fr : Gm.fn F._law_fr = sp__law_fr := rfl
theorem fn__law_fr_times : Gm.fn F._law_fr_times = sp__law_fr_times := rfl
theorem fn__law_pick : Gm.fn F._law_pick = sp__law_pick := rfl
theorem fn_stretched_in : Gm.fn F.stretched_in = sp_stretched_in := rfl
theorem fn_term_section : Gm.fn F.term_section = sp_term_section := rfl
theorem fn__law_content : Gm.fn F._law_content = sp__law_content := rfl
theorem fn__law_pl_by : Gm.fn F._law_pl_by = sp__law_pl_by := rfl
theorem fn__law_pl : Gm.fn F._law_pl = sp__law_pl := rfl
theorem fn__law_pl_parted : Gm.fn F._law_pl_parted = sp__law_pl_parted := rfl
theorem fn__law_pl_over : Gm.fn F._law_pl_over = sp__law_pl_over := rfl
theorem fn__law_pl_lowest : Gm.fn F._law_pl_lowest = sp__law_pl_lowest := rfl
theorem fn__law_pl_common : Gm.fn F._law_pl_common = sp__law_pl_common := rfl
theorem fn__law_rt : Gm.fn F._law_rt = sp__law_rt := rfl
theorem fn__law_pl_plus : Gm.fn F._law_pl_plus = sp__law_pl_plus := rfl
theorem fn__law_pl_times : Gm.fn F._law_pl_times = sp__law_pl_times := rfl
theorem fn__law_pl_moved : Gm.fn F._law_pl_moved = sp__law_pl_moved := rfl
theorem fn__law_rt_moved : Gm.fn F._law_rt_moved = sp__law_rt_moved := rfl
theorem fn__law_pl_at : Gm.fn F._law_pl_at = sp__law_pl_at := rfl
theorem fn__law_rt_at : Gm.fn F._law_rt_at = sp__law_rt_at := rfl
theorem fn__law_tm_numbers : Gm.fn F._law_tm_numbers = sp__law_tm_numbers := rfl
theorem fn__law_tm_drawn : Gm.fn F._law_tm_drawn = sp__law_tm_drawn := rfl
theorem fn_require_place : Gm.fn F.require_place = sp_require_place := rfl
theorem fn_Term_numbers : Gm.fn F.Term_numbers = sp_Term_numbers := rfl
theorem fn_Term_number : Gm.fn F.Term_number = sp_Term_number := rfl
theorem fn_Term_eq : Gm.fn F.Term_eq = sp_Term_eq := rfl
theorem fn_Term_ratio : Gm.fn F.Term_ratio = sp_Term_ratio := rfl
theorem fn__law_right : Gm.fn F._law_right = sp__law_right := rfl
theorem fn__law_dice : Gm.fn F._law_dice = sp__law_dice := rfl
theorem fn_Term_first : Gm.fn F.Term_first = sp_Term_first := rfl
theorem fn_law : Gm.fn F.law = sp_law := rfl
theorem gl_NOUGHT_forms : Gm.gl G.NOUGHT_forms = (.tup []) := rfl
theorem gl_NOUGHT_ratios : Gm.gl G.NOUGHT_ratios = (.tup [(.tup []), (.tup [(.int 1)])]) := rfl
theorem gl_MOST_NUMBERS : Gm.gl G.MOST_NUMBERS = (.int 13) := rfl
theorem gl_MOST_MOVED : Gm.gl G.MOST_MOVED = (.int 60) := rfl
theorem gl_ONE : Gm.gl G.ONE = (.tup [(.int 1)]) := rfl
theorem gl_MOST_STEP : Gm.gl G.MOST_STEP = (.int 6) := rfl
theorem gl_MAX_PLACE : Gm.gl G.MAX_PLACE = (.int 2000) := rfl
theorem gl_MOST_AT_ONCE : Gm.gl G.MOST_AT_ONCE = (.int 200) := rfl
local macro_rules | `(tactic| walk_at "wpx") => `(tactic| simp only [wpS, wpE, wpEs, wpFs, wpO, wpL, wpI, wpG, wpGs, wpTs, getV, setV, delV, delVs, parV, tgsLen, tstD, binD, cmpD, biD, res_i, res_b, res_s, res_n, res_t, res_l, res_c, res_ob, res_dc, res_sup, isCD,  seqD_t, seqD_l, seqD_c, seqD_sup, sup_same, sup_sup, pick_rev, at2_0, at2_1, at3_0, at3_1, at3_2, ix3_0, ix3_1, ix3_2, Option.some.injEq, exists_eq_left',  if_true, if_false, Bool.false_eq_true, List.length_cons, List.length_nil, decide_true, decide_false, Bool.not_true, Bool.not_false, true_and, and_true, fn_value_in, fn_balanced, fn_inverse_in, fn_derived_in, fn_led_up, fn_next_prime, fn_poly_in, fn_by_modulus, fn_parted_by, fn_by_in, fn_with_last_one, fn_common_modulo, fn_good_prime, fn_over_in, fn_common_share, fn_content_in, fn_lowest_in, fn_plus_in, fn_minus_in, fn_times_in, fn_parted_in, fn_quotient_in, fn_lowest_over, fn_common_in, fn_slim_in, fn_degree_in, fn_integer_roots, fn_root_places, fn_is_rootless, fn_content_of, fn_exact_in, fn_divided, fn_ratio_in, fn_is_integer, fn_is_plain_poly, fn_is_plain_ratio, fn_is_passed_ratio, fn_is_broken, fn_is_factor, fn_Term_init, fn_KnownRatio_init, fn_made_term, fn_moved_in, fn_ratio_moved_in, fn_broken_in, fn_broken_times, fn_value_of, fn_numbers_of, fn_require_within, fn_require_term, fn_term_moved, fn_binomials, fn_ratio_times_in, fn_term_times, fn_require_factor, fn_powers, fn_factorials, fn__law_roll, fn__law_gcd, fn__law_fr, fn__law_fr_times, fn__law_pick, fn_stretched_in, fn_term_section, fn__law_content, fn__law_pl_by, fn__law_pl, fn__law_pl_parted, fn__law_pl_over, fn__law_pl_lowest, fn__law_pl_common, fn__law_rt, fn__law_pl_plus, fn__law_pl_times, fn__law_pl_moved, fn__law_rt_moved, fn__law_pl_at, fn__law_rt_at, fn__law_tm_numbers, fn__law_tm_drawn, fn_require_place, fn_Term_numbers, fn_Term_number, fn_Term_eq, fn_Term_ratio, fn__law_right, fn__law_dice, fn_Term_first, fn_law, has_KnownRatio, has_Term, gl_NOUGHT_forms, gl_NOUGHT_ratios, gl_MOST_NUMBERS, gl_MOST_MOVED, gl_ONE, gl_MOST_STEP, gl_MAX_PLACE, gl_MOST_AT_ONCE])
local macro_rules | `(tactic| walk_at "wpc") => `(tactic| ((try dsimp only); rw [wpB]; simp only [wpS, wpE, wpEs, wpFs, wpO, wpL, wpI, wpG, wpGs, wpTs, getV, setV, delV, delVs, parV, tgsLen, tstD, binD, cmpD, biD, res_i, res_b, res_s, res_n, res_t, res_l, res_c, res_ob, res_dc, res_sup, isCD,  seqD_t, seqD_l, seqD_c, seqD_sup, sup_same, sup_sup, pick_rev, at2_0, at2_1, at3_0, at3_1, at3_2, ix3_0, ix3_1, ix3_2, Option.some.injEq, exists_eq_left',  if_true, if_false, Bool.false_eq_true, List.length_cons, List.length_nil, decide_true, decide_false, Bool.not_true, Bool.not_false, true_and, and_true, fn_value_in, fn_balanced, fn_inverse_in, fn_derived_in, fn_led_up, fn_next_prime, fn_poly_in, fn_by_modulus, fn_parted_by, fn_by_in, fn_with_last_one, fn_common_modulo, fn_good_prime, fn_over_in, fn_common_share, fn_content_in, fn_lowest_in, fn_plus_in, fn_minus_in, fn_times_in, fn_parted_in, fn_quotient_in, fn_lowest_over, fn_common_in, fn_slim_in, fn_degree_in, fn_integer_roots, fn_root_places, fn_is_rootless, fn_content_of, fn_exact_in, fn_divided, fn_ratio_in, fn_is_integer, fn_is_plain_poly, fn_is_plain_ratio, fn_is_passed_ratio, fn_is_broken, fn_is_factor, fn_Term_init, fn_KnownRatio_init, fn_made_term, fn_moved_in, fn_ratio_moved_in, fn_broken_in, fn_broken_times, fn_value_of, fn_numbers_of, fn_require_within, fn_require_term, fn_term_moved, fn_binomials, fn_ratio_times_in, fn_term_times, fn_require_factor, fn_powers, fn_factorials, fn__law_roll, fn__law_gcd, fn__law_fr, fn__law_fr_times, fn__law_pick, fn_stretched_in, fn_term_section, fn__law_content, fn__law_pl_by, fn__law_pl, fn__law_pl_parted, fn__law_pl_over, fn__law_pl_lowest, fn__law_pl_common, fn__law_rt, fn__law_pl_plus, fn__law_pl_times, fn__law_pl_moved, fn__law_rt_moved, fn__law_pl_at, fn__law_rt_at, fn__law_tm_numbers, fn__law_tm_drawn, fn_require_place, fn_Term_numbers, fn_Term_number, fn_Term_eq, fn_Term_ratio, fn__law_right, fn__law_dice, fn_Term_first, fn_law, has_KnownRatio, has_Term, gl_NOUGHT_forms, gl_NOUGHT_ratios, gl_MOST_NUMBERS, gl_MOST_MOVED, gl_ONE, gl_MOST_STEP, gl_MAX_PLACE, gl_MOST_AT_ONCE]))

theorem gcd_fmod (a b : Int) : Int.gcd b (a.fmod b) = Int.gcd a b := by
  have e : a.fmod b = a - (a.fdiv b) * b := by
    have := Int.fmod_add_mul_fdiv a b
    rw [Int.mul_comm b] at this
    omega
  rw [e, Int.gcd_comm b, Int.gcd_sub_mul_right_left]
theorem fmod_lt (a b : Int) (h : b ≠ 0) : (a.fmod b).natAbs < b.natAbs := by
  have h1 := Int.fmod_eq_emod (a := a) (b := b)
  have h2 := Int.emod_nonneg a h
  have h3 := Int.emod_lt a h
  rw [h1]
  split
  · omega
  · rename_i z
    have : a % b ≠ 0 := fun e => z (.inr (Int.dvd_of_emod_eq_zero e))
    omega
theorem sok_common_share : SpecOk Gm d_common_share := by
  rintro ds S R Q ⟨a, b, rfl, q⟩
  refine ⟨rfl, ?_⟩
  show wpB Gm b_common_share _ _ [some (.int a), some (.int b)] S
  unfold b_common_share
  walk_at "wpc"
  refine ⟨fun m ρ S' => ∃ x y : Int, m = y.natAbs ∧ ρ = [some (.int x), some (.int y)] ∧ S' = S ∧ Int.gcd x y = Int.gcd a b, ⟨_, a, b, rfl, rfl, rfl, rfl⟩, ?_⟩
  rintro m _ _ ⟨x, y, rfl, rfl, rfl, hg⟩
  walk_at "wpx"
  by_cases hy : y = 0
  · subst hy
    walk_at "wpc"
    refine rtq ?_
    have e : (if x < 0 then -x else x) = (Int.gcd a b : Int) := by
      rw [← hg, Int.gcd_zero_right]
      split <;> omega
    rw [e]; exact q
  · simp only [hy, decide_false, Bool.not_false, if_true]
    walk_at "wpc"
    exact ⟨hy, _, fmod_lt x y hy, y, x.fmod y, rfl, rfl, rfl, by rw [gcd_fmod]; exact hg⟩
theorem sok__law_gcd : SpecOk Gm d__law_gcd := sok_common_share
theorem sok_is_integer : SpecOk Gm d_is_integer := by
  rintro ds S R Q ⟨v, rfl, ⟨t, ht⟩, q⟩
  refine ⟨rfl, ?_⟩
  show wpB Gm b_is_integer _ _ [some v] S
  unfold b_is_integer
  walk_at "wpc"
  rw [res_ty ht]
  refine ⟨t, ht, by decide, ?_⟩
  cases v <;> cases ht <;> first | exact rtq q | (refine ⟨_, rfl, by decide, rtq q⟩)
theorem divs (t b : Int) (hb : b ≠ 0) : t.fdiv (if b > 0 then (Int.gcd t b : Int) else 0 - (Int.gcd t b : Int)) = (Rat.divInt t b).num ∧ b.fdiv (if b > 0 then (Int.gcd t b : Int) else 0 - (Int.gcd t b : Int)) = ((Rat.divInt t b).den : Int) := by
  have d1 : (Int.gcd t b : Int) ∣ t := Int.gcd_dvd_left ..
  have d2 : (Int.gcd t b : Int) ∣ b := Int.gcd_dvd_right ..
  rw [Rat.num_divInt, Rat.den_divInt, if_neg hb, Int.gcd_comm b t]
  by_cases h : b > 0
  · rw [if_pos h, Int.fdiv_eq_ediv_of_dvd d1, Int.fdiv_eq_ediv_of_dvd d2, Int.sign_eq_one_of_pos h, Int.one_mul]
    refine ⟨rfl, ?_⟩
    rw [Int.natCast_ediv, Int.natAbs_of_nonneg (by omega)]
  · have hn : b < 0 := by omega
    have e : 0 - (Int.gcd t b : Int) = -(Int.gcd t b : Int) := by omega
    rw [if_neg h, e, Int.fdiv_eq_ediv_of_dvd (Int.neg_dvd.mpr d1), Int.fdiv_eq_ediv_of_dvd (Int.neg_dvd.mpr d2), Int.sign_eq_neg_one_of_neg hn, Int.ediv_neg, Int.ediv_neg]
    refine ⟨?_, ?_⟩
    · rw [Int.neg_mul, Int.one_mul, Int.neg_ediv_of_dvd d1]
    · have e2 : (b.natAbs : Int) = -b := by omega
      rw [Int.natCast_ediv, e2, Int.neg_ediv_of_dvd d2]
theorem noPy {x y : Int} : PyOk x y := trivial
theorem sok_broken_in : SpecOk Gm d_broken_in := by
  rintro ds S R Q ⟨t, b, rfl, hb, hs, q⟩
  refine ⟨rfl, ?_⟩
  show wpB Gm b_broken_in _ _ [some (.int t), some (.int b), none] S
  unfold b_broken_in
  walk_at "wpc"
  refine ⟨t, b, rfl, ?_⟩
  have hg : (Int.gcd t b) ≠ 0 := fun e => hb (Int.gcd_eq_zero_iff.mp e).2
  have hle : (Int.gcd t b) ≤ b.natAbs := Nat.le_of_dvd (by omega) (Int.natAbs_dvd_natAbs.mpr (Int.gcd_dvd_right t b))
  obtain ⟨e1, e2⟩ := divs t b hb
  walk_at "wpc"
  by_cases h : 0 < b
  · simp only [h, decide_true, if_true] at e1 e2 ⊢
    walk_at "wpc"
    refine ⟨by omega, noPy, by omega, noPy, by decide, ?_⟩
    rw [e1, e2]
    exact rtq q
  · simp only [h, decide_false, Bool.false_eq_true, if_false]
    rw [if_neg h] at e1 e2
    walk_at "wpc"
    refine ⟨by omega, noPy, by omega, noPy, by decide, ?_⟩
    rw [e1, e2]
    exact rtq q
theorem sok__law_fr : SpecOk Gm d__law_fr := by
  rintro ds S R Q ⟨t, b, rfl, hb, hs, q⟩
  refine ⟨rfl, ?_⟩
  show wpB Gm b__law_fr _ _ [some (.int t), some (.int b), none] S
  unfold b__law_fr
  walk_at "wpc"
  refine ⟨t, b, rfl, ?_⟩
  have hg : (Int.gcd t b) ≠ 0 := fun e => hb (Int.gcd_eq_zero_iff.mp e).2
  have hle : (Int.gcd t b) ≤ b.natAbs := Nat.le_of_dvd (by omega) (Int.natAbs_dvd_natAbs.mpr (Int.gcd_dvd_right t b))
  obtain ⟨e1, e2⟩ := divs t b hb
  walk_at "wpc"
  by_cases h : 0 < b
  · simp only [h, decide_true, if_true] at e1 e2 ⊢
    walk_at "wpc"
    refine ⟨by omega, noPy, by omega, noPy, by decide, ?_⟩
    rw [e1, e2]
    exact rtq q
  · simp only [h, decide_false, Bool.false_eq_true, if_false] at e1 e2 ⊢
    walk_at "wpc"
    refine ⟨by omega, noPy, by omega, noPy, by decide, ?_⟩
    rw [e1, e2]
    exact rtq q

theorem sok__law_fr_times : SpecOk Gm d__law_fr_times := by
  rintro ds S R Q ⟨r, s, rfl, hr, hs, q⟩
  refine ⟨rfl, ?_⟩
  show wpB Gm b__law_fr_times _ _ [some (.tup [.int r.num, .int (r.den : Int)]), some (.tup [.int s.num, .int (s.den : Int)])] S
  unfold b__law_fr_times
  walk_at "wpc"
  refine ⟨mulOk hr.1 hs.1 (by decide) (by decide), mulOk hr.2 hs.2 (by decide) (by decide), _, _, rfl, ?_, ?_, ?_⟩
  · exact Int.mul_ne_zero (Int.natCast_ne_zero.mpr r.den_nz) (Int.natCast_ne_zero.mpr s.den_nz)
  · exact (Bd.mul hr.2 hs.2).mono (by decide)
  · have e : Rat.divInt (r.num * s.num) (r.den * s.den) = r * s := by
      rw [← Rat.divInt_mul_divInt, Rat.num_divInt_den, Rat.num_divInt_den]
    rw [e]
    exact rtq q
theorem dI_len (p : List Int) : (dI p).length = p.length := List.length_map ..
theorem dI_get {p : List Int} {i : Nat} (h : i < p.length) : (dI p)[i]? = some (.int (cf p i)) := by
  rw [List.getElem?_map, List.getElem?_eq_getElem h, cf_lt h]; rfl
theorem dI_take (p : List Int) (m : Nat) : (dI p).take m = dI (p.take m) := (List.map_take ..).symm
theorem dI_at {p : List Int} {i : Nat} (h : i < p.length) : atD (dI p) (i : Int) = some (.int (cf p i)) := at_nat (dI_get h)
theorem take_succ_cf {p : List Int} {i : Nat} (h : i < p.length) : p.take (i + 1) = p.take i ++ [cf p i] := by
  rw [List.take_succ, List.getElem?_eq_getElem h, cf_lt h]; rfl
theorem sok_poly_in : SpecOk Gm d_poly_in := by
  rintro ds S R Q ⟨v, p, rfl, hv, hp, q⟩
  refine ⟨rfl, ?_⟩
  show wpB Gm b_poly_in _ _ [some v, none] S
  unfold b_poly_in
  rcases hv with e | e
  all_goals
    walk_at "wpc"
    simp only [e]
    rw [dI_len]
    walk_at "wpc"
    refine ⟨fun m ρ S' => ρ = [some v, some (.int m)] ∧ S' = S ∧ m ≤ p.length ∧ trim (p.take m) = trim p, ⟨p.length, rfl, rfl, Nat.le_refl _, by rw [List.take_length]⟩, ?_⟩
    rintro m _ _ ⟨rfl, rfl, hm, ht⟩
    walk_at "wpx"
    simp only [e]
    cases m with
    | zero =>
      rw [List.take_zero] at ht
      rw [if_neg (by simp)]
      walk_at "wpc"
      simp only [e]
      rw [← ht] at q
      have hl : 0 ≤ (dI p).length := Nat.zero_le _
      have hc := cut_to hl
      rw [List.take_zero] at hc
      rw [show ((0 : Nat) : Int) = (0 : Int) from rfl] at hc ⊢
      rw [hc]
      exact rtq q
    | succ m =>
      have e1 : ((m + 1 : Nat) : Int) - 1 = (m : Int) := by omega
      have hat : atD (dI p) (((m + 1 : Nat) : Int) - 1) = some (.int (cf p m)) := by rw [e1]; exact dI_at (by omega)
      rw [if_pos (by simp), hat]
      walk_at "wpx"
      by_cases h : cf p m = 0
      · simp only [h, decide_true, if_true]
        walk_at "wpc"
        refine ⟨_, _, rfl, rfl, m, by omega, ?_, rfl, by omega, ?_⟩
        · rw [e1]
        · rw [take_succ_cf (by omega), trim_snoc, if_pos h] at ht; exact ht
      · simp only [h, decide_false, Bool.false_eq_true, if_false]
        rw [take_succ_cf (by omega), trim_snoc, if_neg h, ← take_succ_cf (by omega)] at ht
        walk_at "wpc"
        simp only [e]
        have hl : m + 1 ≤ (dI p).length := by rw [dI_len]; exact hm
        rw [cut_to hl, dI_take, ht]
        exact rtq q

theorem dI_map (f : Int → Int) (p : List Int) : dI (p.map f) = p.map fun c => D.int (f c) := by
  show List.map _ (List.map _ _) = _
  rw [List.map_map]
  rfl
theorem dI_cons (c : Int) (l : List Int) : dI (c :: l) = .int c :: dI l := rfl
theorem it_l (p : List Int) : IT 1 (.lst (dI p)) := fun d hd => by obtain ⟨c, _, e⟩ := List.mem_map.mp hd; subst e; trivial
theorem it_t (p : List Int) : IT 1 (.tup (dI p)) := fun d hd => by obtain ⟨c, _, e⟩ := List.mem_map.mp hd; subst e; trivial
theorem dI_nil {p : List Int} (h : dI p = []) : p = [] := List.map_eq_nil_iff.mp h
theorem sok__law_pl : SpecOk Gm d__law_pl := by
  rintro ds S R Q ⟨v, p, rfl, hv, hp, q⟩
  refine ⟨rfl, ?_⟩
  show wpB Gm b__law_pl _ _ [some v, none] S
  unfold b__law_pl
  rcases hv with e | e
  all_goals
    walk_at "wpc"
    simp only [e]
    walk_at "wpc"
    refine ⟨fun m ρ S' => ∃ l, m = l.length ∧ ρ = [some v, some (.lst (dI l))] ∧ S' = S ∧ trim l = trim p ∧ l.length ≤ 1000, ⟨_, p, rfl, rfl, rfl, rfl, hp⟩, ?_⟩
    rintro m _ _ ⟨l, rfl, rfl, rfl, ht, hl⟩
    walk_at "wpx"
    refine ⟨by decide, ?_⟩
    refine eqD_it (n := 1) (m := 1) (it_l l) (fun _ h => nomatch h) (by decide) (by decide) (fun z => ?_) (fun z => ?_)
    · have hl0 : l = [] := dI_nil (D.lst.inj z)
      subst hl0
      walk_at "wpx"
      walk_at "wpc"
      rw [← ht] at q
      exact rtq q
    · walk_at "wpx"
      have hne : l ≠ [] := fun h => z (by rw [h]; rfl)
      obtain ⟨k, c, rfl⟩ : ∃ k c, l = k ++ [c] := ⟨_, _, (List.dropLast_concat_getLast hne).symm⟩
      have hlast : atD (dI (k ++ [c])) (-1) = some (.int c) := at_last (by simp)
      have hdrop : cutD (dI (k ++ [c])) none (some (-1)) = dI k := by rw [cut_last]; simp
      have hlen : (k ++ [c]).length = k.length + 1 := by simp
      rw [hlast]
      walk_at "wpx"
      rw [trim_snoc] at ht
      by_cases h : c = 0
      · simp only [h, decide_true, if_true] at ht ⊢
        walk_at "wpc"
        rw [h] at hdrop
        rw [hdrop]
        exact ⟨k.length, by rw [← h, hlen]; omega, k, rfl, rfl, rfl, ht, by omega⟩
      · rw [if_neg h] at ht
        simp only [h, decide_false, Bool.false_eq_true, if_false]
        walk_at "wpc"
        rw [← ht] at q
        exact rtq q
theorem sok_content_in : SpecOk Gm d_content_in := by
  rintro ds S R Q ⟨p, rfl, hp, q⟩
  refine ⟨rfl, ?_⟩
  show wpB Gm b_content_in _ _ [some (P p), none, none] S
  unfold b_content_in
  walk_at "wpc"
  walk_at "wpc"
  refine forL_ind (fun rest ρ S' => ∃ (r : List Int) (g : Nat) (x : Option D), rest = dI r ∧ ρ = [some (P p), some (.int g), x] ∧ S' = S ∧ r.foldl (fun g c => Int.gcd (g : Int) c) g = pcon p) ?_ ?_ _ _ _ ⟨p, 0, none, rfl, rfl, rfl, rfl⟩
  · rintro ρ S' ⟨r, g, x, e, rfl, rfl, h⟩
    have hr : r = [] := dI_nil e.symm
    subst hr
    refine ⟨trivial, ?_⟩
    walk_at "wpc"
    rw [← h] at q
    exact rtq q
  · rintro d rest ρ S' N ⟨r, g, x, e, rfl, rfl, h⟩ hN
    cases r with
    | nil => cases e
    | cons c r =>
      cases e
      refine ⟨trivial, ?_⟩
      walk_at "wpc"
      refine ⟨_, _, rfl, ?_⟩
      dsimp only
      rw [wpB]
      exact hN _ _ ⟨r, Int.gcd g c, some (.int c), rfl, rfl, rfl, h⟩
theorem sok__law_content : SpecOk Gm d__law_content := sok_content_in
theorem sok_over_in : SpecOk Gm d_over_in := by
  rintro ds S R Q ⟨p, n, rfl, hn, hp, q⟩
  refine ⟨rfl, ?_⟩
  show wpB Gm b_over_in _ _ [some (P p), some (.int n), none] S
  unfold b_over_in
  walk_at "wpc"
  refine compL_mapG (α := Int) D.int (fun c => .int (c.fdiv n)) trivial p [] (fun c hc N hN => ?_) ?_
  · walk_at "wpx"
    exact ⟨hn, noPy, hN⟩
  · show RtQ Q (.tup ([] ++ _)) S
    have e : dI (p.map fun c => c.fdiv n) = p.map fun c => D.int (c.fdiv n) := dI_map _ _
    rw [List.nil_append, ← e]
    exact rtq q
theorem sok_degree_in : SpecOk Gm d_degree_in := by
  rintro ds S R Q ⟨p, rfl, hp, q⟩
  refine ⟨rfl, ?_⟩
  show wpB Gm b_degree_in _ _ [some (P p)] S
  unfold b_degree_in
  walk_at "wpc"
  rw [dI_len]
  exact rtq q
theorem sok_by_in : SpecOk Gm d_by_in := by
  rintro ds S R Q ⟨k, p, rfl, hk, hp, q⟩
  refine ⟨rfl, ?_⟩
  show wpB Gm b_by_in _ _ [some (.int k), some (P p), none] S
  unfold b_by_in
  walk_at "wpc"
  unfold pby at q
  by_cases h : k = 0
  · rw [if_pos h] at q
    simp only [h, decide_true, Bool.not_true, Bool.false_eq_true, if_false]
    exact rtq q
  · rw [if_neg h] at q
    simp only [h, decide_false, Bool.not_false, if_true]
    refine compL_mapG (α := Int) D.int (fun c => .int (k * c)) trivial p [] (fun c hc N hN => ?_) ?_
    · walk_at "wpx"
      exact ⟨mulOk hk (hp.1 c hc) (by decide) (by decide), hN⟩
    · show RtQ Q (.tup ([] ++ _)) S
      have e : dI (p.map (k * ·)) = p.map fun c => D.int (k * c) := dI_map _ _
      rw [List.nil_append, ← e]
      exact rtq q
theorem sok__law_pl_by : SpecOk Gm d__law_pl_by := by
  rintro ds S R Q ⟨k, p, rfl, hk, hp, q⟩
  refine ⟨rfl, ?_⟩
  show wpB Gm b__law_pl_by _ _ [some (.int k), some (P p), none] S
  unfold b__law_pl_by
  walk_at "wpc"
  unfold pby at q
  by_cases h : k = 0
  · rw [if_pos h] at q
    simp only [h, decide_true, Bool.not_true, Bool.false_eq_true, if_false]
    exact ⟨by decide, rtq q⟩
  · rw [if_neg h] at q
    simp only [h, decide_false, Bool.not_false, if_true]
    refine compL_mapG (α := Int) D.int (fun c => .int (k * c)) trivial p [] (fun c hc N hN => ?_) ?_
    · walk_at "wpx"
      exact ⟨mulOk hk (hp.1 c hc) (by decide) (by decide), hN⟩
    · show RtQ Q (.tup ([] ++ _)) S
      have e : dI (p.map (k * ·)) = p.map fun c => D.int (k * c) := dI_map _ _
      rw [List.nil_append, ← e]
      exact rtq q
theorem sok_derived_in : SpecOk Gm d_derived_in := by
  rintro ds S R Q ⟨p, rfl, hp, q⟩
  refine ⟨rfl, ?_⟩
  show wpB Gm b_derived_in _ _ [some (P p), none, none] S
  unfold b_derived_in
  walk_at "wpc"
  rw [enumD_map D.int 0 p]
  have hb : ∀ x ∈ num 0 p, x.1 < p.length ∧ x.2 ∈ p := by
    have : ∀ (l : List Int) (n : Nat), ∀ x ∈ num n l, x.1 < n + l.length ∧ x.2 ∈ l := by
      intro l
      induction l with
      | nil => intro n x h; cases h
      | cons c l ih =>
        intro n x h
        rw [num] at h
        rcases List.mem_cons.mp h with e | h
        · subst e; exact ⟨by simp, List.mem_cons_self⟩
        · obtain ⟨h1, h2⟩ := ih (n + 1) x h
          exact ⟨by simp; omega, List.mem_cons_of_mem _ h2⟩
    intro x hx
    have := this p 0 x hx
    simpa using this
  refine compL_mapG (α := Nat × Int) (fun x => .tup [.int x.1, .int x.2]) (fun x => .int (x.1 * x.2)) trivial _ [] (fun x hx N hN => ?_) ?_
  · walk_at "wpx"
    obtain ⟨h1, h2⟩ := hb x hx
    have hk : (x.1 : Int).natAbs < 2 ^ 60 := by have := hp.2; omega
    exact ⟨mulOk hk (hp.1 _ h2) (by decide) (by decide), hN⟩
  · show RtQ Q (.tup (cutD ([] ++ _) (some 1) none)) S
    have e : ([] ++ (num 0 p).map fun x => D.int (x.1 * x.2)) = dI ((List.range p.length).map fun (i : Nat) => (i : Int) * cf p i) := by
      have : ∀ (l : List Int) (n : Nat), ((num n l).map fun x => D.int (x.1 * x.2)) = dI ((List.range l.length).map fun (i : Nat) => ((n + i : Nat) : Int) * cf l i) := by
        intro l
        induction l with
        | nil => intro n; rfl
        | cons c l ih =>
          intro n
          rw [num, List.map_cons, ih (n + 1), List.length_cons, List.range_succ_eq_map, List.map_cons, dI_cons, List.map_map]
          congr 2
          apply List.map_congr_left
          intro i hi
          show ((n + 1 + i : Nat) : Int) * cf l i = ((n + (i + 1) : Nat) : Int) * cf (c :: l) (i + 1)
          rw [cf_cons_succ]
          congr 2
          omega
      have h0 := this p 0
      simp only [Nat.zero_add] at h0
      exact h0
    rw [e]
    have hl : ∀ l : List Int, cutD (dI l) (some 1) none = dI (l.drop 1) := fun l => by
      cases l with
      | nil => rfl
      | cons a l => 
        have := cut_from (xs := dI (a :: l)) (m := 1) (by simp)
        rw [show ((1 : Nat) : Int) = (1 : Int) from rfl] at this
        rw [this]
        exact (List.map_drop ..).symm
    rw [hl]
    have e2 : ((List.range p.length).map fun (i : Nat) => (i : Int) * cf p i).drop 1 = pder p := by
      unfold pder
      cases h : p.length with
      | zero => rfl
      | succ n =>
        rw [List.range_succ_eq_map, List.map_cons, List.drop_succ_cons, List.drop_zero, List.map_map]
        apply List.map_congr_left
        intro i hi
        show ((i + 1 : Nat) : Int) * cf p (i + 1) = _
        rw [Int.natCast_add]; rfl
    rw [e2]
    exact rtq q

theorem rep0 (a : Nat) : (List.replicate a [D.int 0]).flatten = dI (List.replicate a 0) := by
  induction a with
  | zero => rfl
  | succ a ih => rw [List.replicate_succ, List.flatten_cons, ih, List.replicate_succ, dI_cons]; rfl
theorem cf_rep0 (a n : Nat) : cf (List.replicate a 0) n = 0 := by
  by_cases h : n < a
  · rw [cf_lt (by simpa using h)]; simp
  · rw [cf_ge (by simpa using h)]
theorem drop_cf {p : List Int} {i : Nat} (h : i < p.length) : p.drop i = cf p i :: p.drop (i + 1) := by
  rw [List.drop_eq_getElem_cons h, cf_lt h]
theorem dI_set (F : List Int) (k : Nat) (x : Int) : (dI F).set k (.int x) = dI (F.set k x) := by
  show (List.map _ F).set k _ = List.map _ _
  rw [List.map_set]
theorem cf_set {F : List Int} {k n : Nat} {x : Int} (h : k < F.length) : cf (F.set k x) n = if n = k then x else cf F n := by
  by_cases hn : n < F.length
  · rw [cf_lt (by simpa using hn), List.getElem_set]
    by_cases e : k = n
    · rw [if_pos e, if_pos e.symm]
    · rw [if_neg e, if_neg (fun z => e z.symm), cf_lt hn]
  · rw [cf_ge (by simpa using hn), cf_ge (by omega), if_neg (by omega)]
def frow (p q : List Int) (i j n : Nat) : Int := sumN i (fun k => if k ≤ n then cf p k * cf q (n - k) else 0) + if i ≤ n ∧ n - i < j then cf p i * cf q (n - i) else 0
theorem frow_next (p q : List Int) (i n : Nat) : frow p q i q.length n = frow p q (i + 1) 0 n := by
  unfold frow
  rw [sumN, if_neg (c := i + 1 ≤ n ∧ n - (i + 1) < 0) (by omega)]
  by_cases h : i ≤ n
  · rw [if_pos h]
    by_cases l : n - i < q.length
    · rw [if_pos ⟨h, l⟩]; omega
    · rw [if_neg (fun z => l z.2), cf_ge (p := q) (by omega)]; omega
  · rw [if_neg (fun z => h z.1), if_neg h]; omega
theorem frow_step (p q : List Int) (i j n : Nat) : frow p q i (j + 1) n = if n = i + j then frow p q i j (i + j) + cf p i * cf q j else frow p q i j n := by
  unfold frow
  by_cases e : n = i + j
  · subst e
    rw [if_pos rfl, if_pos ⟨by omega, by omega⟩, if_neg (c := i ≤ i + j ∧ i + j - i < j) (by omega)]
    have : i + j - i = j := by omega
    rw [this]; omega
  · rw [if_neg e]
    by_cases c : i ≤ n ∧ n - i < j
    · rw [if_pos c, if_pos ⟨c.1, by omega⟩]
    · rw [if_neg c, if_neg (by omega)]
theorem frow_end (p q : List Int) (n : Nat) : frow p q p.length 0 n = conv p q n := by
  unfold frow conv
  rw [if_neg (by omega), Int.add_zero]
  have a : sumN (max p.length (n + 1)) (fun k => if k ≤ n then cf p k * cf q (n - k) else 0) = sumN p.length fun k => if k ≤ n then cf p k * cf q (n - k) else 0 := sumN_more (by omega) fun k h1 h2 => by
    rw [cf_ge h1, Int.zero_mul]; split <;> rfl
  have b : sumN (max p.length (n + 1)) (fun k => if k ≤ n then cf p k * cf q (n - k) else 0) = sumN (n + 1) fun k => if k ≤ n then cf p k * cf q (n - k) else 0 := sumN_more (by omega) fun k h1 h2 => by
    rw [if_neg (by omega)]
  rw [← a, b]
  exact sumN_congr fun k hk => if_pos (by omega)
theorem trim_ext {p q : List Int} (h : ∀ i, cf p i = cf q i) : trim p = trim q := ext (nrm_trim p) (nrm_trim q) fun i => by rw [cf_trim, cf_trim, h]
theorem cf_pad (p : List Int) (a i : Nat) : cf (p ++ List.replicate a 0) i = cf p i := by
  induction a with
  | zero => rw [List.replicate_zero, List.append_nil]
  | succ a ih => rw [List.replicate_succ', ← List.append_assoc, cf_append_zero, ih]
theorem cf_zip {L M : List Int} (h : L.length = M.length) (i : Nat) : cf ((L.zip M).map fun x => x.1 + x.2) i = cf L i + cf M i := by
  by_cases l : i < L.length
  · rw [cf_lt (by simp; omega), cf_lt l, cf_lt (by omega)]; simp
  · rw [cf_ge (by simp; omega), cf_ge (by omega), cf_ge (by omega)]; rfl
theorem sok_plus_in : SpecOk Gm d_plus_in := by
  rintro ds S R Q ⟨p, q, rfl, hp, hq, h⟩
  refine ⟨rfl, ?_⟩
  show wpB Gm b_plus_in _ _ [some (P p), some (P q), none, none, none, none, none] S
  unfold b_plus_in
  walk_at "wpc"
  rw [dI_len, dI_len]
  refine ⟨_, _, rfl, rfl, ?_⟩
  generalize hm : (if (q.length : Int) > (p.length : Int) then (q.length : Int) else (p.length : Int)) = m
  have m1 : (p.length : Int) ≤ m := by rw [← hm]; split <;> omega
  have m2 : (q.length : Int) ≤ m := by rw [← hm]; split <;> omega
  have m3 : m ≤ 500 := by rw [← hm]; split <;> omega
  walk_at "wpc"
  rw [dI_len, dI_len]
  refine ⟨by decide, by omega, by omega, by rw [sizeLine_eq]; omega, ?_⟩
  rw [rep0, List.append_nil]
  have c1 : dI p ++ dI (List.replicate (m - p.length).toNat 0) = dI (p ++ List.replicate (m - p.length).toNat 0) := (List.map_append ..).symm
  have c2 : dI q ++ dI (List.replicate (m - q.length).toNat 0) = dI (q ++ List.replicate (m - q.length).toNat 0) := (List.map_append ..).symm
  rw [c1]
  refine ⟨by rw [dI_len, sizeLine_eq]; simp; omega, by decide, by omega, by omega, by rw [sizeLine_eq]; omega, ?_⟩
  rw [rep0, List.append_nil, c2]
  refine ⟨by rw [dI_len, sizeLine_eq]; simp; omega, ?_⟩
  walk_at "wpc"
  rw [zipD_map D.int D.int]
  refine compL_mapG (α := Int × Int) (fun (x : Int × Int) => .tup [.int x.1, .int x.2]) (fun (x : Int × Int) => .int (x.1 + x.2)) trivial _ [] (fun x hx N hN => ?_) ?_
  · walk_at "wpx"
    exact hN
  · have hl : (p ++ List.replicate (m - p.length).toNat 0).length = (q ++ List.replicate (m - q.length).toNat 0).length := by simp; omega
    refine ⟨_, ((p ++ List.replicate (m - p.length).toNat 0).zip (q ++ List.replicate (m - q.length).toNat 0)).map fun (x : Int × Int) => x.1 + x.2, rfl, .inr ?_, ?_, ?_⟩
    · show D.lst _ = D.lst (List.map _ (List.map _ _))
      rw [List.map_map]; rfl
    · simp; omega
    · have e : trim (((p ++ List.replicate (m - p.length).toNat 0).zip (q ++ List.replicate (m - q.length).toNat 0)).map fun (x : Int × Int) => x.1 + x.2) = pplus p q := by
        unfold pplus
        refine trim_ext fun i => ?_
        rw [cf_zip hl, cf_pad, cf_pad, cf_map_range]
        split
        · rfl
        · rw [cf_ge (p := p) (by omega), cf_ge (p := q) (by omega)]; rfl
      rw [e]
      exact rtq h
theorem sok_times_in : SpecOk Gm d_times_in := by
  rintro ds S R Q ⟨p, q, rfl, hp, hq, h⟩
  refine ⟨rfl, ?_⟩
  show wpB Gm b_times_in _ _ [some (P p), some (P q), none, none, none, none, none] S
  unfold b_times_in
  walk_at "wpc"
  refine eqD_it (n := 1) (m := 1) (it_t p) (fun _ h => nomatch h) (by decide) (by decide) (fun z => ?_) (fun z => ?_)
  · have e : p = [] := dI_nil (D.tup.inj z)
    subst e
    walk_at "wpx"
    exact rtq h
  walk_at "wpx"
  refine eqD_it (n := 1) (m := 1) (it_t q) (fun _ h => nomatch h) (by decide) (by decide) (fun z2 => ?_) (fun z2 => ?_)
  · have e : q = [] := dI_nil (D.tup.inj z2)
    subst e
    have e2 : pmul p [] = [] := by unfold pmul; rw [if_pos (.inr rfl)]
    rw [e2] at h
    walk_at "wpx"
    exact rtq h
  have n1 : p ≠ [] := fun e => z (by rw [e]; rfl)
  have n2 : q ≠ [] := fun e => z2 (by rw [e]; rfl)
  have l1 : 0 < p.length := List.length_pos_iff.mpr n1
  have l2 : 0 < q.length := List.length_pos_iff.mpr n2
  walk_at "wpx"
  rw [wpB]
  walk_at "wpc"
  rw [dI_len, dI_len]
  have a1 := hp.2
  have a2 := hq.2
  refine ⟨by decide, by omega, by omega, by rw [sizeLine_eq]; omega, fun r hr => ?_⟩
  have er : (List.replicate ((p.length : Int) + (q.length : Int) - 1).toNat [D.int 0]).flatten = dI (List.replicate (p.length + q.length - 1) 0) := by
    rw [rep0]; congr 2; omega
  rw [er]
  walk_at "wpc"
  refine forL_ind (fun rest ρ S' => ∃ i F x y z u, i ≤ p.length ∧ rest = enumD i (dI (p.drop i)) ∧ ρ = [some (P p), some (P q), some (.ref r), x, y, z, u] ∧ S' = sup S r (.lst (dI F)) ∧ F.length = p.length + q.length - 1 ∧ ∀ n, n < p.length + q.length - 1 → cf F n = frow p q i 0 n) ?_ ?_ _ _ _ ⟨0, _, _, _, _, _, Nat.zero_le _, rfl, rfl, rfl, by simp, fun n hn => by rw [cf_rep0]; simp [frow, sumN]⟩
  · rintro ρ S' ⟨i, F, x, y, z, u, hi, er, rfl, rfl, hF, hf⟩
    have hi2 : i = p.length := by
      cases hd : p.drop i with
      | nil => have := List.drop_eq_nil_iff.mp hd; omega
      | cons c l => rw [hd] at er; cases er
    subst hi2
    refine ⟨trivial, ?_⟩
    walk_at "wpc"
    refine rtq_sup hr ?_
    have e : F = pmul p q := by
      unfold pmul
      rw [if_neg (fun z => z.elim n1 n2)]
      refine List.ext_getElem (by simp [hF]) fun n h1 h2 => ?_
      have := hf n (by omega)
      rw [cf_lt h1] at this
      rw [this, frow_end]
      simp
    rw [e]
    exact h
  · rintro d rest ρ S' N ⟨i, F, x, y, z, u, hi, er, rfl, rfl, hF, hf⟩ hN
    cases hd : p.drop i with
    | nil => rw [hd] at er; cases er
    | cons c l =>
      have hi2 : i < p.length := by
        have := congrArg List.length hd
        rw [List.length_drop, List.length_cons] at this
        omega
      rw [drop_cf hi2] at hd
      obtain ⟨rfl, rfl⟩ := List.cons.inj hd
      rw [drop_cf hi2] at er
      cases er
      refine ⟨trivial, ?_⟩
      walk_at "wpx"
      walk_at "wpc"
      refine forL_ind (fun rest ρ S' => ∃ j F z u, j ≤ q.length ∧ rest = enumD j (dI (q.drop j)) ∧ ρ = [some (P p), some (P q), some (.ref r), some (.int i), some (.int (cf p i)), z, u] ∧ S' = sup S r (.lst (dI F)) ∧ F.length = p.length + q.length - 1 ∧ ∀ n, n < p.length + q.length - 1 → cf F n = frow p q i j n) ?_ ?_ _ _ _ ⟨0, F, _, _, Nat.zero_le _, rfl, rfl, rfl, hF, hf⟩
      · rintro ρ S' ⟨j, F, z, u, hj, er, rfl, rfl, hF, hf⟩
        have hj2 : j = q.length := by
          cases hd : q.drop j with
          | nil => have := List.drop_eq_nil_iff.mp hd; omega
          | cons c l => rw [hd] at er; cases er
        subst hj2
        refine ⟨trivial, ?_⟩
        try dsimp only
        rw [wpB]
        exact hN _ _ ⟨i + 1, F, _, _, _, _, hi2, rfl, rfl, rfl, hF, fun n hn => by rw [hf n hn, frow_next]⟩
      · rintro d rest ρ S' N' ⟨j, F, z, u, hj, er, rfl, rfl, hF, hf⟩ hN'
        cases hd : q.drop j with
        | nil => rw [hd] at er; cases er
        | cons c l =>
          have hj2 : j < q.length := by
            have := congrArg List.length hd
            rw [List.length_drop, List.length_cons] at this
            omega
          rw [drop_cf hj2] at hd
          obtain ⟨rfl, rfl⟩ := List.cons.inj hd
          rw [drop_cf hj2] at er
          cases er
          refine ⟨trivial, ?_⟩
          have eij : (i : Int) + (j : Int) = ((i + j : Nat) : Int) := by omega
          walk_at "wpx"
          walk_at "wpc"
          rw [eij, dI_at (by omega)]
          walk_at "wpx"
          refine ⟨mulOk (hp.1.cf i) (hq.1.cf j) (by decide) (by decide), r, dI F, _, i + j, rfl, rfl, sup_same, ix_nat (by rw [dI_len]; omega), ?_⟩
          rw [dI_set]
          simp only [sup_sup]
          rw [wpB]
          refine hN' _ _ ⟨j + 1, _, _, _, hj2, rfl, rfl, rfl, by rw [List.length_set]; exact hF, fun n hn => ?_⟩
          rw [cf_set (by omega), frow_step]
          by_cases e : n = i + j
          · rw [if_pos e, if_pos e, hf _ (by omega)]
          · rw [if_neg e, if_neg e, hf n hn]
theorem sok__law_pl_times : SpecOk Gm d__law_pl_times := by
  rintro ds S R Q ⟨p, q, rfl, hp, hq, h⟩
  refine ⟨rfl, ?_⟩
  show wpB Gm b__law_pl_times _ _ [some (P p), some (P q), none, none, none, none, none] S
  unfold b__law_pl_times
  walk_at "wpc"
  refine ⟨by decide, ?_⟩
  refine eqD_it (n := 1) (m := 1) (it_t p) (fun _ h => nomatch h) (by decide) (by decide) (fun z => ?_) (fun z => ?_)
  · have e : p = [] := dI_nil (D.tup.inj z)
    subst e
    walk_at "wpx"
    refine ⟨by decide, ?_⟩
    exact rtq h
  walk_at "wpx"
  refine ⟨by decide, ?_⟩
  refine eqD_it (n := 1) (m := 1) (it_t q) (fun _ h => nomatch h) (by decide) (by decide) (fun z2 => ?_) (fun z2 => ?_)
  · have e : q = [] := dI_nil (D.tup.inj z2)
    subst e
    have e2 : pmul p [] = [] := by unfold pmul; rw [if_pos (.inr rfl)]
    rw [e2] at h
    walk_at "wpx"
    refine ⟨by decide, ?_⟩
    exact rtq h
  have n1 : p ≠ [] := fun e => z (by rw [e]; rfl)
  have n2 : q ≠ [] := fun e => z2 (by rw [e]; rfl)
  have l1 : 0 < p.length := List.length_pos_iff.mpr n1
  have l2 : 0 < q.length := List.length_pos_iff.mpr n2
  walk_at "wpx"
  rw [wpB]
  walk_at "wpc"
  rw [dI_len, dI_len]
  have a1 := hp.2
  have a2 := hq.2
  refine ⟨by decide, by omega, by omega, by rw [sizeLine_eq]; omega, fun r hr => ?_⟩
  have er : (List.replicate ((p.length : Int) + (q.length : Int) - 1).toNat [D.int 0]).flatten = dI (List.replicate (p.length + q.length - 1) 0) := by
    rw [rep0]; congr 2; omega
  rw [er]
  walk_at "wpc"
  refine forL_ind (fun rest ρ S' => ∃ i F x y z u, i ≤ p.length ∧ rest = enumD i (dI (p.drop i)) ∧ ρ = [some (P p), some (P q), some (.ref r), x, y, z, u] ∧ S' = sup S r (.lst (dI F)) ∧ F.length = p.length + q.length - 1 ∧ ∀ n, n < p.length + q.length - 1 → cf F n = frow p q i 0 n) ?_ ?_ _ _ _ ⟨0, _, _, _, _, _, Nat.zero_le _, rfl, rfl, rfl, by simp, fun n hn => by rw [cf_rep0]; simp [frow, sumN]⟩
  · rintro ρ S' ⟨i, F, x, y, z, u, hi, er, rfl, rfl, hF, hf⟩
    have hi2 : i = p.length := by
      cases hd : p.drop i with
      | nil => have := List.drop_eq_nil_iff.mp hd; omega
      | cons c l => rw [hd] at er; cases er
    subst hi2
    refine ⟨trivial, ?_⟩
    walk_at "wpc"
    refine rtq_sup hr ?_
    have e : F = pmul p q := by
      unfold pmul
      rw [if_neg (fun z => z.elim n1 n2)]
      refine List.ext_getElem (by simp [hF]) fun n h1 h2 => ?_
      have := hf n (by omega)
      rw [cf_lt h1] at this
      rw [this, frow_end]
      simp
    rw [e]
    exact h
  · rintro d rest ρ S' N ⟨i, F, x, y, z, u, hi, er, rfl, rfl, hF, hf⟩ hN
    cases hd : p.drop i with
    | nil => rw [hd] at er; cases er
    | cons c l =>
      have hi2 : i < p.length := by
        have := congrArg List.length hd
        rw [List.length_drop, List.length_cons] at this
        omega
      rw [drop_cf hi2] at hd
      obtain ⟨rfl, rfl⟩ := List.cons.inj hd
      rw [drop_cf hi2] at er
      cases er
      refine ⟨trivial, ?_⟩
      walk_at "wpx"
      walk_at "wpc"
      refine forL_ind (fun rest ρ S' => ∃ j F z u, j ≤ q.length ∧ rest = enumD j (dI (q.drop j)) ∧ ρ = [some (P p), some (P q), some (.ref r), some (.int i), some (.int (cf p i)), z, u] ∧ S' = sup S r (.lst (dI F)) ∧ F.length = p.length + q.length - 1 ∧ ∀ n, n < p.length + q.length - 1 → cf F n = frow p q i j n) ?_ ?_ _ _ _ ⟨0, F, _, _, Nat.zero_le _, rfl, rfl, rfl, hF, hf⟩
      · rintro ρ S' ⟨j, F, z, u, hj, er, rfl, rfl, hF, hf⟩
        have hj2 : j = q.length := by
          cases hd : q.drop j with
          | nil => have := List.drop_eq_nil_iff.mp hd; omega
          | cons c l => rw [hd] at er; cases er
        subst hj2
        refine ⟨trivial, ?_⟩
        try dsimp only
        rw [wpB]
        exact hN _ _ ⟨i + 1, F, _, _, _, _, hi2, rfl, rfl, rfl, hF, fun n hn => by rw [hf n hn, frow_next]⟩
      · rintro d rest ρ S' N' ⟨j, F, z, u, hj, er, rfl, rfl, hF, hf⟩ hN'
        cases hd : q.drop j with
        | nil => rw [hd] at er; cases er
        | cons c l =>
          have hj2 : j < q.length := by
            have := congrArg List.length hd
            rw [List.length_drop, List.length_cons] at this
            omega
          rw [drop_cf hj2] at hd
          obtain ⟨rfl, rfl⟩ := List.cons.inj hd
          rw [drop_cf hj2] at er
          cases er
          refine ⟨trivial, ?_⟩
          have eij : (i : Int) + (j : Int) = ((i + j : Nat) : Int) := by omega
          walk_at "wpx"
          walk_at "wpc"
          rw [eij, dI_at (by omega)]
          walk_at "wpx"
          refine ⟨mulOk (hp.1.cf i) (hq.1.cf j) (by decide) (by decide), r, dI F, _, i + j, rfl, rfl, sup_same, ix_nat (by rw [dI_len]; omega), ?_⟩
          rw [dI_set]
          simp only [sup_sup]
          rw [wpB]
          refine hN' _ _ ⟨j + 1, _, _, _, hj2, rfl, rfl, rfl, by rw [List.length_set]; exact hF, fun n hn => ?_⟩
          rw [cf_set (by omega), frow_step]
          by_cases e : n = i + j
          · rw [if_pos e, if_pos e, hf _ (by omega)]
          · rw [if_neg e, if_neg e, hf n hn]

theorem sok__law_pl_plus : SpecOk Gm d__law_pl_plus := by
  rintro ds S R Q ⟨p, q, rfl, hp, hq, h⟩
  refine ⟨rfl, ?_⟩
  show wpB Gm b__law_pl_plus _ _ [some (P p), some (P q), none, none, none, none] S
  unfold b__law_pl_plus
  walk_at "wpc"
  rw [dI_len, dI_len]
  refine ⟨by decide, _, _, rfl, rfl, ?_⟩
  generalize hm : (if (q.length : Int) > (p.length : Int) then (q.length : Int) else (p.length : Int)) = m
  have m1 : (p.length : Int) ≤ m := by rw [← hm]; split <;> omega
  have m2 : (q.length : Int) ≤ m := by rw [← hm]; split <;> omega
  have m3 : m ≤ 500 := by rw [← hm]; split <;> omega
  have m4 : m.toNat = max p.length q.length := by rw [← hm]; split <;> omega
  refine ⟨by omega, by omega, by rw [sizeLine_eq]; omega, fun r hr => ?_⟩
  rw [rep0]
  walk_at "wpc"
  refine ⟨by decide, ?_⟩
  refine forL_ind (fun rest ρ S' => ∃ F x y z, ρ = [some (P p), some (P q), some (.ref r), x, y, z] ∧ S' = sup S r (.lst (dI F)) ∧ F.length = m.toNat ∧ ((rest = [P p, P q] ∧ ∀ n, cf F n = 0) ∨ (rest = [P q] ∧ ∀ n, cf F n = cf p n) ∨ (rest = [] ∧ ∀ n, cf F n = cf p n + cf q n))) ?_ ?_ _ _ _ ⟨_, _, _, _, rfl, rfl, by simp, .inl ⟨rfl, fun n => cf_rep0 _ n⟩⟩
  · rintro ρ S' ⟨F, x, y, z, rfl, rfl, hF, (⟨e, _⟩ | ⟨e, _⟩ | ⟨_, hf⟩)⟩
    · cases e
    · cases e
    · refine ⟨trivial, ?_⟩
      walk_at "wpc"
      refine ⟨_, F, rfl, .inr res_sup, by omega, ?_⟩
      refine rtq_sup hr ?_
      have e : trim F = pplus p q := by
        unfold pplus
        refine trim_ext fun i => ?_
        rw [hf, cf_map_range]
        split
        · rfl
        · rw [cf_ge (p := p) (by omega), cf_ge (p := q) (by omega)]; rfl
      rw [e]
      exact h
  · rintro d rest ρ S' N ⟨F, x, y, z, rfl, rfl, hF, hr2⟩ hN
    obtain ⟨g, G, rfl, hg, hG, hgo⟩ : ∃ (g : List Int) (G : Nat → Int), d = P g ∧ g.length ≤ m.toNat ∧ (∀ n, cf F n = G n) ∧ ∀ (F' : List Int) (x y z : Option D), F'.length = m.toNat → (∀ n, cf F' n = G n + cf g n) → N [some (P p), some (P q), some (.ref r), x, y, z] (sup S r (.lst (dI F'))) := by
      rcases hr2 with ⟨e, hf⟩ | ⟨e, hf⟩ | ⟨e, _⟩
      · cases e
        exact ⟨p, fun _ => 0, rfl, by omega, hf, fun F' x y z hl hc => hN _ _ ⟨F', x, y, z, rfl, rfl, hl, .inr (.inl ⟨rfl, fun n => by rw [hc n]; exact Int.zero_add _⟩)⟩⟩
      · cases e
        exact ⟨q, cf p, rfl, by omega, hf, fun F' x y z hl hc => hN _ _ ⟨F', x, y, z, rfl, rfl, hl, .inr (.inr ⟨rfl, hc⟩)⟩⟩
      · cases e
    refine ⟨trivial, ?_⟩
    walk_at "wpc"
    refine forL_ind (fun rest ρ S' => ∃ i F y z, i ≤ g.length ∧ rest = enumD i (dI (g.drop i)) ∧ ρ = [some (P p), some (P q), some (.ref r), some (P g), y, z] ∧ S' = sup S r (.lst (dI F)) ∧ F.length = m.toNat ∧ ∀ n, cf F n = G n + if n < i then cf g n else 0) ?_ ?_ _ _ _ ⟨0, F, _, _, Nat.zero_le _, rfl, rfl, rfl, hF, fun n => by rw [hG n, if_neg (by omega)]; omega⟩
    · rintro ρ S' ⟨i, F, y, z, hi, er, rfl, rfl, hF, hf⟩
      have hi2 : i = g.length := by
        cases hd : g.drop i with
        | nil => have := List.drop_eq_nil_iff.mp hd; omega
        | cons c l => rw [hd] at er; cases er
      subst hi2
      refine ⟨trivial, ?_⟩
      try dsimp only
      rw [wpB]
      refine hgo F _ _ _ hF fun n => ?_
      rw [hf n]
      split
      · rfl
      · rw [cf_ge (p := g) (by omega)]
    · rintro d rest ρ S' N' ⟨i, F, y, z, hi, er, rfl, rfl, hF, hf⟩ hN'
      cases hd : g.drop i with
      | nil => rw [hd] at er; cases er
      | cons c l =>
        have hi2 : i < g.length := by
          have := congrArg List.length hd
          rw [List.length_drop, List.length_cons] at this
          omega
        rw [drop_cf hi2] at hd
        obtain ⟨rfl, rfl⟩ := List.cons.inj hd
        rw [drop_cf hi2] at er
        cases er
        refine ⟨trivial, ?_⟩
        walk_at "wpx"
        walk_at "wpc"
        rw [dI_at (by omega)]
        walk_at "wpx"
        refine ⟨r, dI F, _, i, rfl, rfl, sup_same, ix_nat (by rw [dI_len]; omega), ?_⟩
        rw [dI_set]
        simp only [sup_sup]
        rw [wpB]
        refine hN' _ _ ⟨i + 1, _, _, _, hi2, rfl, rfl, rfl, by rw [List.length_set]; exact hF, fun n => ?_⟩
        rw [cf_set (by omega)]
        by_cases e : n = i
        · rw [if_pos e, if_pos (by omega), hf i, if_neg (by omega), e]; omega
        · rw [if_neg e, hf n]
          by_cases l : n < i
          · rw [if_pos l, if_pos (by omega)]
          · rw [if_neg l, if_neg (by omega)]
theorem top_at {p : List Int} (h : p ≠ []) : atD (dI p) (-1) = some (.int (cf p (p.length - 1))) := by
  have hl : 0 < p.length := List.length_pos_iff.mpr h
  refine at_last ?_
  rw [List.getLast?_eq_getElem?, dI_len, dI_get (by omega)]
theorem pcon_pos {p : List Int} (hn : Nrm p) (h : p ≠ []) : pcon p ≠ 0 := fun e => by
  have hl : 0 < p.length := List.length_pos_iff.mpr h
  have := pcon_zero e _ (List.getElem_mem (show p.length - 1 < p.length by omega))
  rw [← cf_lt (by omega)] at this
  exact nrm_top hn h this
theorem pcon_sm {p : List Int} (hn : Nrm p) (h : p ≠ []) (hp : BdP 60000000 p) : pcon p < 2 ^ 60000000 := by
  have hl : 0 < p.length := List.length_pos_iff.mpr h
  have m := List.getElem_mem (show p.length - 1 < p.length by omega)
  have z := nrm_top hn h
  rw [cf_lt (by omega)] at z
  exact Nat.lt_of_le_of_lt (pcon_le m z) (hp _ m)
theorem sok_lowest_in : SpecOk Gm d_lowest_in := by
  rintro ds S R Q ⟨p, rfl, hn, hp, h⟩
  refine ⟨rfl, ?_⟩
  show wpB Gm b_lowest_in _ _ [some (P p), none] S
  unfold b_lowest_in
  walk_at "wpc"
  refine eqD_it (n := 1) (m := 1) (it_t p) (fun _ h => nomatch h) (by decide) (by decide) (fun z => ?_) (fun z => ?_)
  · have e : p = [] := dI_nil (D.tup.inj z)
    subst e
    walk_at "wpx"
    exact rtq h
  have n1 : p ≠ [] := fun e => z (by rw [e]; rfl)
  walk_at "wpx"
  rw [wpB]
  walk_at "wpc"
  refine ⟨p, rfl, by have := hp.2; omega, ?_⟩
  walk_at "wpc"
  rw [top_at n1]
  walk_at "wpx"
  have s1 := pcon_sm hn n1 hp.1
  have s2 := pcon_pos hn n1
  unfold plow at h
  rw [if_neg n1] at h
  by_cases c : 0 < cf p (p.length - 1)
  · rw [if_pos c] at h
    simp only [c, decide_true, if_true]
    exact ⟨p, _, rfl, by omega, by have := hp.2; omega, rtq h⟩
  · rw [if_neg c] at h
    simp only [c, decide_false, Bool.false_eq_true, if_false]
    exact ⟨p, _, rfl, by omega, by have := hp.2; omega, rtq h⟩
theorem sok__law_pl_lowest : SpecOk Gm d__law_pl_lowest := by
  rintro ds S R Q ⟨p, rfl, hn, hp, h⟩
  refine ⟨rfl, ?_⟩
  show wpB Gm b__law_pl_lowest _ _ [some (P p), none, none] S
  unfold b__law_pl_lowest
  walk_at "wpc"
  refine ⟨p, rfl, by have := hp.2; omega, ?_⟩
  walk_at "wpc"
  by_cases n1 : p = []
  · subst n1
    have e : ((pcon [] : Nat) : Int) = 0 := rfl
    simp only [e, decide_true, if_true]
    walk_at "wpc"
    exact ⟨by decide, rtq h⟩
  have s1 := pcon_sm hn n1 hp.1
  have s2 := pcon_pos hn n1
  have s4 : ¬ ((pcon p : Int) = 0) := by omega
  simp only [s4, decide_false, Bool.false_eq_true, if_false]
  rw [wpB]
  walk_at "wpc"
  rw [top_at n1]
  walk_at "wpx"
  unfold plow at h
  rw [if_neg n1] at h
  by_cases c : 0 < cf p (p.length - 1)
  · rw [if_pos c] at h
    simp only [c, decide_true, if_true]
    walk_at "wpc"
    refine compL_mapG (α := Int) D.int (fun x => .int (x.fdiv (pcon p : Int))) trivial p [] (fun x hx N hN => ?_) ?_
    · walk_at "wpx"
      exact ⟨by omega, noPy, hN⟩
    · show RtQ Q (.tup ([] ++ _)) S
      have e : dI (p.map fun x => x.fdiv (pcon p : Int)) = p.map fun x => D.int (x.fdiv (pcon p : Int)) := dI_map _ _
      rw [List.nil_append, ← e]
      exact rtq h
  · rw [if_neg c] at h
    simp only [c, decide_false, Bool.false_eq_true, if_false]
    walk_at "wpc"
    refine compL_mapG (α := Int) D.int (fun x => .int (x.fdiv (0 - (pcon p : Int)))) trivial p [] (fun x hx N hN => ?_) ?_
    · walk_at "wpx"
      exact ⟨by omega, noPy, hN⟩
    · show RtQ Q (.tup ([] ++ _)) S
      have e : dI (p.map fun x => x.fdiv (0 - (pcon p : Int))) = p.map fun x => D.int (x.fdiv (0 - (pcon p : Int))) := dI_map _ _
      rw [List.nil_append, ← e]
      exact rtq h

theorem sok_moved_in : SpecOk Gm d_moved_in := by
  rintro ds S R Q ⟨p, m, rfl, hb, hl, hm, h⟩
  refine ⟨rfl, ?_⟩
  show wpB Gm b_moved_in _ _ [some (P p), some (.int m), none, none] S
  unfold b_moved_in
  have bm : Bd 10 m := by unfold Bd; omega
  walk_at "wpc"
  walk_at "wpc"
  refine ⟨by decide, by decide, ?_⟩
  rw [← List.map_reverse]
  refine forL_ind (fun rest ρ S' => ∃ r s x, rest = dI r ∧ p = r.reverse ++ s ∧ ρ = [some (P p), some (.int m), some (P (pmov m s)), x] ∧ S' = S) ?_ ?_ _ _ _ ⟨p.reverse, [], none, rfl, by simp, rfl, rfl⟩
  · rintro ρ S' ⟨r, s, x, er, e, rfl, rfl⟩
    have hr : r = [] := dI_nil er.symm
    subst hr
    refine ⟨trivial, ?_⟩
    walk_at "wpc"
    rw [List.reverse_nil, List.nil_append] at e
    rw [e] at h
    exact rtq h
  · rintro d rest ρ S' N ⟨r, s, x, er, e, rfl, rfl⟩ hN
    cases r with
    | nil => cases er
    | cons c r =>
      cases er
      refine ⟨trivial, ?_⟩
      have hs : BdP 1000 s := fun y hy => hb y (by rw [e]; exact List.mem_append_right _ hy)
      have hls : s.length ≤ 30 := by have := congrArg List.length e; rw [List.length_append] at this; omega
      obtain ⟨b1, b2⟩ := bd_pmov bm (by decide) hs (by omega)
      have l1 : (trim [m, 1]).length ≤ 2 := trim_len _
      have l2 : (trim [c]).length ≤ 1 := trim_len _
      have l3 := pmul_len (pmov m s) (trim [m, 1])
      have t1 : BdP 60000000 (trim [m, 1]) := bd_trim fun d hd => by
        rcases List.mem_cons.mp hd with q | hd
        · rw [q]; exact bm.mono (by decide)
        · rcases List.mem_cons.mp hd with q | hd
          · rw [q]; unfold Bd; exact Nat.one_lt_two_pow (by decide)
          · cases hd
      walk_at "wpc"
      refine ⟨by decide, _, [m, 1], rfl, .inl rfl, by simp, ?_⟩
      refine ⟨_, _, rfl, ⟨b1.mono (by omega), by omega⟩, ⟨t1, by omega⟩, ?_⟩
      walk_at "wpx"
      refine ⟨by decide, _, [c], rfl, .inl rfl, by simp, ?_⟩
      refine ⟨_, _, rfl, by omega, by omega, ?_⟩
      dsimp only
      rw [wpB]
      exact hN _ _ ⟨r, c :: s, _, rfl, by rw [e]; simp, rfl, rfl⟩
theorem sok__law_pl_moved : SpecOk Gm d__law_pl_moved := by
  rintro ds S R Q ⟨p, m, rfl, hb, hl, hm, h⟩
  refine ⟨rfl, ?_⟩
  show wpB Gm b__law_pl_moved _ _ [some (P p), some (.int m), none, none] S
  unfold b__law_pl_moved
  have bm : Bd 10 m := by unfold Bd; omega
  walk_at "wpc"
  refine ⟨by decide, ?_⟩
  walk_at "wpc"
  refine ⟨by decide, by decide, ?_⟩
  rw [← List.map_reverse]
  refine forL_ind (fun rest ρ S' => ∃ r s x, rest = dI r ∧ p = r.reverse ++ s ∧ ρ = [some (P p), some (.int m), some (P (pmov m s)), x] ∧ S' = S) ?_ ?_ _ _ _ ⟨p.reverse, [], none, rfl, by simp, rfl, rfl⟩
  · rintro ρ S' ⟨r, s, x, er, e, rfl, rfl⟩
    have hr : r = [] := dI_nil er.symm
    subst hr
    refine ⟨trivial, ?_⟩
    walk_at "wpc"
    rw [List.reverse_nil, List.nil_append] at e
    rw [e] at h
    exact rtq h
  · rintro d rest ρ S' N ⟨r, s, x, er, e, rfl, rfl⟩ hN
    cases r with
    | nil => cases er
    | cons c r =>
      cases er
      refine ⟨trivial, ?_⟩
      have hs : BdP 1000 s := fun y hy => hb y (by rw [e]; exact List.mem_append_right _ hy)
      have hls : s.length ≤ 30 := by have := congrArg List.length e; rw [List.length_append] at this; omega
      obtain ⟨b1, b2⟩ := bd_pmov bm (by decide) hs (by omega)
      have l1 : (trim [m, 1]).length ≤ 2 := trim_len _
      have l2 : (trim [c]).length ≤ 1 := trim_len _
      have l3 := pmul_len (pmov m s) (trim [m, 1])
      have t1 : BdP 60000000 (trim [m, 1]) := bd_trim fun d hd => by
        rcases List.mem_cons.mp hd with q | hd
        · rw [q]; exact bm.mono (by decide)
        · rcases List.mem_cons.mp hd with q | hd
          · rw [q]; unfold Bd; exact Nat.one_lt_two_pow (by decide)
          · cases hd
      walk_at "wpc"
      refine ⟨by decide, _, [m, 1], rfl, .inl rfl, by simp, ?_⟩
      refine ⟨_, _, rfl, ⟨b1.mono (by omega), by omega⟩, ⟨t1, by omega⟩, ?_⟩
      walk_at "wpx"
      refine ⟨by decide, _, [c], rfl, .inl rfl, by simp, ?_⟩
      refine ⟨_, _, rfl, by omega, by omega, ?_⟩
      dsimp only
      rw [wpB]
      exact hN _ _ ⟨r, c :: s, _, rfl, by rw [e]; simp, rfl, rfl⟩
theorem fr_zero : Fr 0 = .tup [.int 0, .int 1] := rfl
theorem fr_int (c : Int) : Fr (c : Rat) = .tup [.int c, .int 1] := rfl
theorem bd_pe {s : List Int} {r : Rat} (hs : BdP 300 s) (hl : s.length ≤ 20) (h1 : Bd 10 r.num) (h2 : Bd 10 (r.den : Int)) : SmF (pe s r) ∧ SmF (pe s r * r) := by
  have hd : (0 : Int) < (r.den : Int) := by have := r.den_nz; omega
  have e := hv_val r.num hd s
  rw [Rat.num_divInt_den] at e
  obtain ⟨b1, b2⟩ := bd_hv h1 h2 hs
  have e2 : pe s r * r = Rat.divInt ((hv r.num r.den s).1 * r.den * r.num) ((hv r.num r.den s).2 * r.den) := by
    rw [← Rat.divInt_mul_divInt, e, Rat.num_divInt_den]
  refine ⟨?_, ?_⟩
  · rw [← e]
    exact ⟨(bd_num (b1.mul h2)).mono (by omega), (bd_den b2 (by omega)).mono (by omega)⟩
  · rw [e2]
    exact ⟨(bd_num ((b1.mul h2).mul h1)).mono (by omega), (bd_den (b2.mul h2) (by omega)).mono (by omega)⟩

theorem all_dI : ∀ {xs : List D}, xs.all isI = true → ∃ p, xs = dI p
  | [], _ => ⟨[], rfl⟩
  | x :: xs, h => by
    rw [List.all_cons, Bool.and_eq_true] at h
    obtain ⟨p, rfl⟩ := all_dI h.2
    cases x <;> first | exact ⟨_ :: p, rfl⟩ | cases h.1
theorem dI_all (p : List Int) : (dI p).all isI = true := by
  induction p with
  | nil => rfl
  | cons c p ih => rw [dI_cons, List.all_cons, ih]; rfl
theorem isPl_dI (p : List Int) : isPl (.tup (dI p)) = (match p.getLast? with | some 0 => false | _ => true) := by
  show ((dI p).all isI && (match (dI p).getLast? with | some (.int 0) => false | _ => true)) = _
  rw [dI_all, Bool.true_and]
  have e : (dI p).getLast? = p.getLast?.map D.int := List.getLast?_map ..
  rw [e]
  cases p.getLast? with
  | none => rfl
  | some c =>
    show (match some (D.int c) with | some (.int 0) => false | _ => true) = (match some c with | some 0 => false | _ => true)
    by_cases h : c = 0
    · subst h; rfl
    · have a : (match some (D.int c) with | some (.int 0) => false | _ => true) = true := by
        split
        · rename_i z; exact absurd (D.int.inj (Option.some.inj z)) h
        · rfl
      have b : (match some c with | some 0 => false | _ => true) = true := by
        split
        · rename_i z; exact absurd (Option.some.inj z) h
        · rfl
      rw [a, b]
theorem isPl_nrm {p : List Int} (h : Nrm p) : isPl (P p) = true := by
  rw [isPl_dI]
  split
  · rename_i e; exact absurd rfl (h 0 e)
  · rfl
theorem ty2_P (p : List Int) : Ty2 (P p) := ⟨⟨_, rfl⟩, fun xs e x hx => by cases e; obtain ⟨c, _, rfl⟩ := List.mem_map.mp hx; exact ⟨_, rfl⟩⟩
theorem sok_is_plain_poly : SpecOk Gm d_is_plain_poly := by
  rintro ds S R Q ⟨v, rfl, ⟨⟨t, ht⟩, hx⟩, h⟩
  refine ⟨rfl, ?_⟩
  show wpB Gm b_is_plain_poly _ _ [some v, none] S
  unfold b_is_plain_poly
  walk_at "wpc"
  rw [res_ty ht]
  refine ⟨t, ht, by decide, ?_⟩
  have other : isiB t "tuple" = false → isPl v = false → (if (!isiB t "tuple") = true then wpB Gm (Bl.cons (Sm.ret (.cst (.bl false))) .nil) { nx := fun _ S => RtQ Q .non S, rt := RtQ Q } (fun k x _ S => RtQ (R k) x S) [some v, none] S else False) := fun e1 e2 => by
    rw [e1, Bool.not_false, if_pos rfl]
    walk_at "wpc"
    rw [e2] at h
    exact rtq h
  cases v with
  | tup xs =>
    cases ht
    have e1 : isiB "tuple" "tuple" = true := rfl
    rw [e1, Bool.not_true, if_neg Bool.false_ne_true]
    walk_at "wpx"
    refine compL_map (fun d => .bl (isI d)) trivial xs [] (fun d hd N hN => ?_) ?_
    · walk_at "wpx"
      exact ⟨d, rfl, hx xs rfl d hd, hN⟩
    · refine ⟨xs.map isI, by rw [List.nil_append, List.map_map]; rfl, ?_⟩
      have ea : (xs.map isI).all id = xs.all isI := by rw [List.all_map]; rfl
      rw [ea]
      by_cases hall : xs.all isI = true
      · obtain ⟨p, rfl⟩ := all_dI hall
        rw [dI_all, Bool.not_true, if_neg Bool.false_ne_true]
        try dsimp only
        rw [wpB]
        walk_at "wpc"
        refine ⟨by decide, ?_⟩
        refine eqD_it (n := 1) (m := 1) (it_t p) (fun _ h => nomatch h) (by decide) (by decide) (fun z => ?_) (fun z => ?_)
        · have e : p = [] := dI_nil (D.tup.inj z)
          subst e
          walk_at "wpx"
          exact rtq h
        · have n1 : p ≠ [] := fun e => z (by rw [e]; rfl)
          walk_at "wpx"
          rw [top_at n1]
          walk_at "wpx"
          have hl : 0 < p.length := List.length_pos_iff.mpr n1
          have e3 : p.getLast? = some (cf p (p.length - 1)) := by rw [List.getLast?_eq_getElem?, List.getElem?_eq_getElem (by omega), cf_lt (by omega)]
          have e2 : isPl (.tup (dI p)) = !decide (cf p (p.length - 1) = 0) := by
            rw [isPl_dI, e3]
            by_cases z : cf p (p.length - 1) = 0
            · rw [z]; rfl
            · rw [decide_eq_false z]
              split
              · rename_i w; exact absurd (Option.some.inj w) z
              · rfl
          rw [← e2]
          exact rtq h
      · have hf : xs.all isI = false := by simpa using hall
        rw [hf, Bool.not_false, if_pos rfl]
        walk_at "wpc"
        have e2 : isPl (.tup xs) = false := by
          show (xs.all isI && _) = false
          rw [hf, Bool.false_and]
        rw [e2] at h
        exact rtq h
  | ref a => cases ht
  | ty a => cases ht
  | scr a => cases ht
  | non => cases ht; exact other rfl rfl
  | bl a => cases ht; exact other rfl rfl
  | int a => cases ht; exact other rfl rfl
  | str a => cases ht; exact other rfl rfl
  | lst a => cases ht; exact other rfl rfl
  | obj c a => cases ht
  | dct => cases ht; exact other rfl rfl
theorem sok_is_broken : SpecOk Gm d_is_broken := by
  rintro ds S R Q ⟨r, rfl, h⟩
  refine ⟨rfl, ?_⟩
  show wpB Gm b_is_broken _ _ [some (Fr r)] S
  unfold b_is_broken
  walk_at "wpc"
  refine ⟨_, rfl, by decide, ?_⟩
  have e1 : isiB "tuple" "tuple" = true := rfl
  rw [e1]
  walk_at "wpx"
  have e2 : (!decide (((0 + 1 + 1 : Nat) : Int) = 2)) = false := by decide
  rw [e2]
  walk_at "wpx"
  refine ⟨_, rfl, ⟨_, rfl⟩, ?_⟩
  have e3 : ∀ i, isI (.int i) = true := fun _ => rfl
  rw [e3]
  walk_at "wpx"
  refine ⟨_, rfl, ⟨_, rfl⟩, ?_⟩
  rw [e3]
  walk_at "wpx"
  rw [wpB]
  walk_at "wpc"
  have hd : (0 : Int) < (r.den : Int) := by have := r.den_nz; omega
  simp only [hd, decide_true, if_true]
  refine ⟨_, _, rfl, ?_⟩
  have e4 : Int.gcd r.num (r.den : Int) = 1 := r.reduced
  rw [e4]
  exact rtq h

theorem sup_self {S : Sto} {p : Addr} {o : DO} (h : S p = some o) : sup S p o = S := by
  funext a
  unfold sup
  split
  · rename_i e; rw [e, h]
  · rfl
theorem eqD_same {n : Nat} {x : D} {k : Bool → Prop} (h : IT n x) (hn : n ≤ 64) (q : k true) : eqD x x k := eqD_it h h hn hn (fun _ => q) fun z => absurd rfl z
theorem fmod_rng (a t : Int) (h : 0 < t) : 0 ≤ a.fmod t ∧ a.fmod t < t := ⟨Int.fmod_nonneg_of_pos a h, Int.fmod_lt_of_pos a h⟩
theorem sok__law_dice : SpecOk Gm d__law_dice := by
  rintro ds S R Q ⟨ns, i, rfl, q⟩
  refine ⟨rfl, ?_⟩
  show wpB Gm b__law_dice _ _ [some (.scr ns), some (.int i), none, none, none] S
  unfold b__law_dice
  walk_at "wpc"
  by_cases h : (i : Int) < (ns.length : Int)
  · simp only [h, decide_true, if_true]
    refine ⟨ns[i]'(by omega), L2.atI_nat (List.getElem?_eq_getElem (by omega)), ?_⟩
    generalize ns[i]'(by omega) = c
    walk_at "wpc"
    refine ⟨⟨by decide, by decide +kernel⟩, ⟨by decide, by decide +kernel⟩, by decide +kernel, ?_⟩
    generalize Int.fmod _ _ = g
    walk_at "wpc"
    refine ⟨by decide, .of_right (by decide), .of_left (by decide), .of_left (by decide), ?_⟩
    walk_at "wpc"
    refine ⟨⟨by decide, by decide +kernel⟩, _, _, rfl, rfl, by decide, fun p hp => ?_⟩
    exact rtq (q p _ _ _ hp)
  · simp only [h, decide_false, Bool.false_eq_true, if_false]
    refine ⟨.of_left (by decide), ?_⟩
    generalize 137 * (i : Int) + 41 = c
    walk_at "wpc"
    refine ⟨⟨by decide, by decide +kernel⟩, ⟨by decide, by decide +kernel⟩, by decide +kernel, ?_⟩
    generalize Int.fmod _ _ = g
    walk_at "wpc"
    refine ⟨by decide, .of_right (by decide), .of_left (by decide), .of_left (by decide), ?_⟩
    walk_at "wpc"
    refine ⟨⟨by decide, by decide +kernel⟩, _, _, rfl, rfl, by decide, fun p hp => ?_⟩
    exact rtq (q p _ _ _ hp)
theorem sok__law_roll : SpecOk Gm d__law_roll := by
  rintro ds S R Q ⟨p, t, rfl, ⟨a, b, c, hS⟩, ht, ht2, q⟩
  refine ⟨rfl, ?_⟩
  show wpB Gm b__law_roll _ _ [some (.ref p), some (.int t), none, none, none] S
  unfold b__law_roll
  rw [← sup_self hS]
  have hpy : t.natAbs < 2 ^ 9000 := Nat.lt_of_lt_of_le (show t.natAbs < 2 ^ 30 by omega) (Nat.pow_le_pow_right (by decide) (by decide))
  walk_at "wpc"
  by_cases h : 0 < a
  · simp only [h, decide_true, if_true]
    walk_at "wpc"
    refine ⟨by omega, ?_⟩
    walk_at "wpc"
    refine ⟨by omega, noPy, _, _, _, 0, rfl, rfl, sup_same, rfl, ?_⟩
    simp only [sup_sup, List.set_cons_zero]
    walk_at "wpc"
    obtain ⟨r1, r2⟩ := fmod_rng a t ht
    exact rtq (q _ _ _ _ r1 r2)
  · simp only [h, decide_false, Bool.false_eq_true, if_false]
    rw [wpB]
    walk_at "wpc"
    refine ⟨_, _, _, 2, rfl, rfl, sup_same, rfl, ?_⟩
    simp only [sup_sup, List.set_cons_succ, List.set_cons_zero]
    walk_at "wpc"
    refine ⟨.of_left (by decide), by decide, ?_⟩
    obtain ⟨o1, o2⟩ := fmod_rng (b + 49979693 * (c + 1)) 2305843009213693951 (by decide)
    revert o1 o2
    generalize Int.fmod _ _ = o
    intro o1 o2
    walk_at "wpc"
    have ho : o.natAbs < 2 ^ 61 := by omega
    refine ⟨mulOk ho ho (by decide) (by decide), .of_left (by decide), by decide, .of_right (by decide), ?_⟩
    walk_at "wpc"
    refine ⟨by decide, noPy, by omega, ?_⟩
    obtain ⟨r1, r2⟩ := fmod_rng ((Int.fmod (o * o + 131 * (c + 1)) 2305843009213693921 * 32452867 + o).fdiv 65599) t ht
    exact rtq (q _ _ _ _ r1 r2)
theorem sok__law_pick : SpecOk Gm d__law_pick := by
  rintro ds S R Q ⟨p, xs, rfl, hS, hne, hl, q⟩
  refine ⟨rfl, ?_⟩
  show wpB Gm b__law_pick _ _ [some (.ref p), some (.lst xs)] S
  unfold b__law_pick
  walk_at "wpc"
  have hp : 0 < xs.length := List.length_pos_iff.mpr hne
  refine ⟨p, _, rfl, hS, by omega, by omega, fun r a b c h0 h1 => ?_⟩
  obtain ⟨n, rfl⟩ : ∃ n : Nat, r = n := ⟨r.toNat, by omega⟩
  walk_at "wpx"
  have hn : n < xs.length := by omega
  exact ⟨xs[n], at_nat (List.getElem?_eq_getElem hn), rtq (q _ (List.getElem_mem hn) a b c)⟩
theorem dI7 : ([D.int 0, .int 1, .int 1, .int (-1), .int 2, .int (-2), .int 3] : List D) = dI [0, 1, 1, -1, 2, -2, 3] := rfl
theorem nrm_snoc {l : List Int} {c : Int} (h : c ≠ 0) : Nrm (l ++ [c]) := fun d hd => by
  rw [List.getLast?_append, List.getLast?_singleton] at hd
  simp at hd
  rw [← hd]; exact h
theorem nrm_pby {k : Int} {p : List Int} (h : Nrm p) : Nrm (pby k p) := by
  unfold pby
  split
  · exact nrm_nil
  · rename_i hk
    refine nrm_of_top fun ne => ?_
    have hp : p ≠ [] := fun e => ne (by rw [e]; rfl)
    rw [List.length_map, cf_map _ (Int.mul_zero k)]
    exact Int.mul_ne_zero hk (nrm_top h hp)
theorem pby_len (k : Int) (p : List Int) : (pby k p).length ≤ p.length := by
  unfold pby
  split
  · exact Nat.zero_le _
  · rw [List.length_map]; exact Nat.le_refl _

def dropB : Nat → Bl → Bl
  | 0, b => b
  | n + 1, .cons _ r => dropB n r
  | _ + 1, .nil => .nil
theorem sok_minus_in : SpecOk Gm d_minus_in := by
  rintro ds S R Q ⟨p, q, rfl, hp, hq, h⟩
  refine ⟨rfl, ?_⟩
  show wpB Gm b_minus_in _ _ [some (P p), some (P q)] S
  unfold b_minus_in
  walk_at "wpc"
  refine ⟨-1, q, rfl, Nat.one_lt_two_pow (by decide), hq, ?_⟩
  exact ⟨p, _, rfl, hp, Nat.le_trans (pby_len' _ _) (by have := hq.2; omega), rtq h⟩
theorem bd_mono {k m : Nat} {c : Int} (h : Bd k c) : BdP k (mono m c) := fun d hd => by
  unfold mono at hd
  rcases List.mem_append.mp hd with z | z
  · rw [(List.mem_replicate.mp z).2]; exact bd_zero
  · rw [List.mem_singleton.mp z]; exact h
theorem bdp_of {k : Nat} {p : List Int} (h : ∀ i, Bd k (cf p i)) : BdP k p := fun c hc => by
  obtain ⟨i, hi, e⟩ := List.mem_iff_getElem.mp hc
  have := h i
  rw [cf_lt hi, e] at this
  exact this
/-- the numbers of one step of the division -/
theorem step_num {c e : Int} (he : e ≠ 0) : let s := if e > 0 then (Int.gcd c e : Int) else 0 - (Int.gcd c e : Int)
    s ≠ 0 ∧ s.natAbs ≤ e.natAbs ∧ 0 < e.fdiv s ∧ (e.fdiv s).natAbs ≤ e.natAbs ∧ (c.fdiv s).natAbs ≤ c.natAbs ∧ e.fdiv s * c = c.fdiv s * e := by
  intro s
  have g0 : 0 < Int.gcd c e := Int.gcd_pos_of_ne_zero_right _ he
  have d1 : (Int.gcd c e : Int) ∣ c := Int.gcd_dvd_left ..
  have d2 : (Int.gcd c e : Int) ∣ e := Int.gcd_dvd_right ..
  have sa : s.natAbs = Int.gcd c e := by
    have e1 : s = if e > 0 then (Int.gcd c e : Int) else 0 - (Int.gcd c e : Int) := rfl
    rw [e1]
    split
    · exact Int.natAbs_natCast _
    · rw [Int.zero_sub, Int.natAbs_neg]; exact Int.natAbs_natCast _
  have s1 : s ∣ c := by rw [← Int.natAbs_dvd, sa]; exact d1
  have s2 : s ∣ e := by rw [← Int.natAbs_dvd, sa]; exact d2
  have hs : s ≠ 0 := by omega
  obtain ⟨x, hx⟩ := s1
  obtain ⟨y, hy⟩ := s2
  have f1 : c.fdiv s = x := by rw [hx]; exact Int.mul_fdiv_cancel_left x hs
  have f2 : e.fdiv s = y := by rw [hy]; exact Int.mul_fdiv_cancel_left y hs
  have le : ∀ {z w : Int}, z = s * w → w.natAbs ≤ z.natAbs := fun {z w} h => by
    rw [h, Int.natAbs_mul]
    exact Nat.le_mul_of_pos_left _ (by omega)
  refine ⟨hs, ?_, ?_, ?_, ?_, ?_⟩
  · have : e.natAbs = s.natAbs * y.natAbs := by rw [hy, Int.natAbs_mul]
    have y0 : y.natAbs ≠ 0 := fun z => by rw [z] at this; omega
    rw [this]; exact Nat.le_mul_of_pos_right _ (by omega)
  · rw [f2]
    have sg : s = if e > 0 then (Int.gcd c e : Int) else 0 - (Int.gcd c e : Int) := rfl
    by_cases p : e > 0
    · rw [if_pos p] at sg
      have : 0 < s * y := by rw [← hy]; exact p
      exact Int.not_le.mp fun z => by have := Int.mul_le_mul_of_nonneg_left z (show 0 ≤ s by omega); omega
    · rw [if_neg p] at sg
      have h1 : s * y < 0 := by rw [← hy]; omega
      have h2 : 0 < (-s) * y := by rw [Int.neg_mul]; omega
      exact Int.not_le.mp fun z => by have := Int.mul_le_mul_of_nonneg_left z (show 0 ≤ -s by omega); omega
  · rw [f2]; exact le hy
  · rw [f1]; exact le hx
  · rw [f1, f2, hx, hy]; grind

theorem rep1_flat : ∀ m : Nat, (List.replicate m [D.int 0]).flatten = dI (List.replicate m 0)
  | 0 => rfl
  | m + 1 => by rw [List.replicate_succ, List.flatten_cons, rep1_flat m]; rfl
theorem mono_dI (m : Nat) (c : Int) : dI (List.replicate m 0) ++ [D.int c] = dI (mono m c) := by
  unfold mono
  show _ = List.map _ (_ ++ _)
  rw [List.map_append]; rfl
theorem xb_step {a b j : Nat} : a + (j + 1) * (b + 1) = (b + (a + j * (b + 1))) + 1 := by rw [Nat.add_mul]; omega
theorem bd_step {K b : Nat} {r d : List Int} {by' s : Int} {m : Nat} (hr : BdP K r) (hd : BdP b d) (h1 : Bd b by') (h2 : Bd K s) : BdP (b + K + 1) (pplus (pby by' r) (pby (-1) (pmul (mono m s) d))) := bdp_of fun i => by
  rw [cf_pplus, cf_pby, cf_pby, cf_pmul, conv_mono]
  refine Bd.add (h1.mul (hr.cf i)) ?_
  split
  · have e : -1 * (s * cf d (i - m)) = -(s * cf d (i - m)) := by omega
    rw [e]
    exact ((h2.mul (hd.cf _)).mono (by omega)).neg
  · exact bd_zero
theorem bd_mm {K b : Nat} {d : List Int} {s : Int} {m : Nat} (hd : BdP b d) (h2 : Bd K s) : BdP (K + b) (pmul (mono m s) d) := bdp_of fun i => by
  rw [cf_pmul, conv_mono]
  split
  · exact h2.mul (hd.cf _)
  · exact bd_zero
theorem top_pmul {p q : List Int} (hp : p ≠ []) (hq : q ≠ []) : cf (pmul p q) ((pmul p q).length - 1) = cf p (p.length - 1) * cf q (q.length - 1) := by
  have l1 := List.length_pos_iff.mpr hp
  have l2 := List.length_pos_iff.mpr hq
  rw [cf_pmul, pmul_length hp hq]
  unfold conv
  rw [sumN_one (k := p.length - 1) (by omega) fun i hi ne => by
    by_cases l : p.length ≤ i
    · rw [cf_ge l, Int.zero_mul]
    · rw [cf_ge (p := q) (by omega), Int.mul_zero]]
  congr 2
  omega
theorem step_one {c e w : Int} (he : e ≠ 0) (h : c = w * e) : e.fdiv (if e > 0 then (Int.gcd c e : Int) else 0 - (Int.gcd c e : Int)) = 1 := by
  have g : Int.gcd c e = e.natAbs := by
    rw [h]
    exact Int.gcd_mul_left_left ..
  have : (if e > 0 then (Int.gcd c e : Int) else 0 - (Int.gcd c e : Int)) = e := by rw [g]; split <;> omega
  rw [this]
  exact Int.fdiv_self he
/-- a whole multiple stays one -/
def Whl (r d : List Int) : Prop := ∃ w, Nrm w ∧ ∀ x, pei r x = pei w x * pei d x
theorem whl_top {r d : List Int} (hr : Nrm r) (hd : Nrm d) (ne : d ≠ []) (n1 : r ≠ []) (h : Whl r d) : ∃ w, cf r (r.length - 1) = w * cf d (d.length - 1) := by
  obtain ⟨w, nw, e⟩ := h
  have er : r = pmul w d := pei_inj hr (nrm_pmul nw hd) fun x => by rw [e, pei_pmul]
  have w0 : w ≠ [] := fun z => n1 (by rw [er, z]; unfold pmul; rw [if_pos (.inl rfl)])
  rw [er, top_pmul w0 ne]
  exact ⟨_, rfl⟩
theorem whl_step {r d : List Int} (h : Whl r d) (m : Nat) (st : Int) : Whl (pplus (pby 1 r) (pby (-1) (pmul (mono m st) d))) d := by
  obtain ⟨w, nw, e⟩ := h
  refine ⟨pplus w (pby (-1) (mono m st)), nrm_pplus _ _, fun x => ?_⟩
  rw [pei_pplus, pei_pplus, pei_pby, pei_pby, pei_pby, pei_pmul, e]; grind
theorem sok_parted_in : SpecOk Gm d_parted_in := by
  rintro ds S R Q ⟨p, d, a, b, rfl, I, h⟩
  refine ⟨rfl, ?_⟩
  obtain ⟨np, nd, ne, lp, ld, bp, bd, hx⟩ := I
  have ld0 : 0 < d.length := List.length_pos_iff.mpr ne
  have top := nrm_top nd ne
  show wpB Gm b_parted_in _ _ [some (P p), some (P d), none, none, none, none, none, none, none] S
  unfold b_parted_in
  walk_at "wpc"
  rw [top_at ne]
  walk_at "wpx"
  walk_at "wpc"
  refine ⟨by decide, ?_⟩
  try walk_at "wpc"
  refine ⟨fun m ρ S' => ∃ j t q r x y z, m = r.length ∧ ρ = [some (P p), some (P d), some (.int t), some (P q), some (P r), some (.int (cf d (d.length - 1))), x, y, z] ∧ S' = S ∧
    0 < t ∧ Nrm q ∧ Nrm r ∧ (∀ n, t * pei p n = pei q n * pei d n + pei r n) ∧ j + r.length ≤ p.length ∧ j ≤ p.length + 1 - d.length ∧ Bd (j * (b + 1) + 1) t ∧ BdP (a + j * (b + 1)) q ∧ BdP (a + j * (b + 1)) r ∧ q.length ≤ p.length ∧ (Whl p d → t = 1 ∧ Whl r d),
    ⟨_, 0, 1, [], p, _, _, _, rfl, rfl, rfl, by decide, nrm_nil, np, fun n => by rw [pei_nil]; omega, by omega, by omega, by show (1 : Nat) < 2 ^ _; exact Nat.one_lt_two_pow (by omega), fun c hc => (nomatch hc), by rw [Nat.zero_mul]; exact bp, Nat.zero_le _, fun w => ⟨rfl, w⟩⟩, ?_⟩
  rintro m _ _ ⟨j, t, q, r, x, y, z, rfl, rfl, rfl, ht, hq, hr, he, hj, hj2, b1, b2, b3, l1, hwh⟩
  walk_at "wpx"
  rw [dI_len, dI_len]
  by_cases hl : d.length ≤ r.length
  · have c1 : (d.length : Int) ≤ (r.length : Int) := by omega
    simp only [c1, decide_true, if_true]
    have n1 : r ≠ [] := fun e => by rw [e, List.length_nil] at hl; omega
    have jx : j + 1 ≤ p.length + 1 - d.length := by omega
    have jb : (j + 1) * (b + 1) ≤ (p.length + 1 - d.length) * (b + 1) := Nat.mul_le_mul_right _ jx
    have es := xb_step (a := a) (b := b) (j := j)
    unfold xb at hx
    obtain ⟨s1, s2, s3, s4, s5, s6⟩ := step_num (c := cf r (r.length - 1)) top
    have bt : Bd b (cf d (d.length - 1)) := bd.cf _
    have bc : Bd (a + j * (b + 1)) (cf r (r.length - 1)) := b3.cf _
    walk_at "wpc"
    rw [top_at n1]
    walk_at "wpx"
    refine ⟨_, _, rfl, ?_⟩
    walk_at "wpc"
    generalize hs : (if cf d (d.length - 1) > 0 then (Int.gcd (cf r (r.length - 1)) (cf d (d.length - 1)) : Int) else 0 - (Int.gcd (cf r (r.length - 1)) (cf d (d.length - 1)) : Int)) = s at *
    by_cases cp : 0 < cf d (d.length - 1)
    case' pos => rw [if_pos cp] at hs; simp only [cp, decide_true, if_true]
    case' neg => rw [if_neg cp] at hs; simp only [cp, decide_false, Bool.false_eq_true, if_false]
    all_goals
      rw [hs]
      walk_at "wpc"
      rw [dI_len, dI_len, top_at n1]
      walk_at "wpx"
      have hm : ((r.length : Int) - (d.length : Int)).toNat = r.length - d.length := by omega
      rw [hm, rep1_flat, dI_len, mono_dI]
      refine ⟨s1, noPy, by decide, by omega, by omega, by rw [sizeLine_eq]; omega, s1, noPy, by decide, by rw [sizeLine_eq, List.length_replicate]; omega, ?_⟩
      have q1 : Bd b ((cf d (d.length - 1)).fdiv s) := Nat.lt_of_le_of_lt s4 bt
      have q2 : Bd (a + j * (b + 1)) ((cf r (r.length - 1)).fdiv s) := Nat.lt_of_le_of_lt s5 bc
      have one : Whl p d → (cf d (d.length - 1)).fdiv s = 1 := fun w => by
        obtain ⟨w, ew⟩ := whl_top hr nd ne n1 (hwh w).2
        have so := step_one top ew
        first
          | (rw [if_pos cp] at so; rw [hs] at so; exact so)
          | (rw [if_neg cp] at so; rw [hs] at so; exact so)
      generalize hby : (cf d (d.length - 1)).fdiv s = by' at *
      generalize hst : (cf r (r.length - 1)).fdiv s = st at *
      have rne : mono (r.length - d.length) st ≠ [] := fun e => by have := mono_len (r.length - d.length) st; rw [e] at this; cases this
      walk_at "wpc"
      refine ⟨mulOk b1 q1 (by omega) (by omega), by', q, rfl, q1.mono (by omega), ⟨b2.mono (by omega), by omega⟩, ?_⟩
      refine ⟨_, _, rfl, Nat.le_trans (pby_len' _ _) (by omega), by rw [mono_len]; omega, ?_⟩
      walk_at "wpc"
      refine ⟨by', r, rfl, q1.mono (by omega), ⟨b3.mono (by omega), by omega⟩, _, _, rfl, ⟨(bd_mono q2).mono (by omega), by rw [mono_len]; omega⟩, ⟨bd.mono (by omega), by omega⟩, ?_⟩
      refine ⟨_, _, rfl, Nat.le_trans (pby_len' _ _) (by omega), ⟨?_, ?_⟩, ?_⟩
      · exact (bd_mm bd q2).mono (by omega)
      · rw [pmul_length rne ne, mono_len]; omega
      try dsimp only
      try rw [wpB]
      have sl := step_len hr nd ne hl s6
      refine ⟨_, sl, j + 1, t * by', _, _, _, _, _, rfl, rfl, rfl, Int.mul_pos ht s3, nrm_pplus _ _, nrm_pplus _ _, pdv_step he _, by omega, jx, ?_, ?_, ?_, ?_, fun w => ?_⟩
      · exact (b1.mul q1).mono (by rw [Nat.add_mul]; omega)
      · rw [es]
        exact bd_pplus ((bd_pby b2 q1)) ((bd_mono q2).mono (by omega))
      · rw [es]
        exact bd_step b3 bd q1 q2
      · have := pplus_len (pby by' q) (mono (r.length - d.length) st)
        have := pby_len' by' q
        rw [mono_len] at *
        omega
      · have o := one w
        subst o
        exact ⟨by rw [(hwh w).1, Int.mul_one], whl_step (hwh w).2 _ _⟩
  · have c1 : ¬ (d.length : Int) ≤ (r.length : Int) := by omega
    simp only [c1, decide_false, Bool.false_eq_true, if_false]
    walk_at "wpc"
    have jb : j * (b + 1) ≤ (p.length + 1 - d.length) * (b + 1) := Nat.mul_le_mul_right _ hj2
    refine ⟨by decide, rtq (h t q r ⟨ht, ⟨by omega, hq, hr, by omega, he⟩, b1.mono ?_, b2.mono ?_, b3.mono ?_, l1⟩ fun w => (hwh w).1)⟩ <;> unfold xb <;> omega

theorem lp_gcd {t : Int} (ht : 0 < t) (r : List Int) : (Int.gcd t (pcon r) : Int) ≠ 0 := by
  have := Int.gcd_pos_of_ne_zero_left (pcon r : Int) (show t ≠ 0 by omega)
  omega
theorem lp_le {t : Int} {k : Nat} (ht : 0 < t) (b : Bd k t) (r : List Int) : Bd k (Int.gcd t (pcon r) : Int) := by
  have h := Int.gcd_dvd_left (a := t) (b := (pcon r : Int))
  have := Int.le_of_dvd ht h
  unfold Bd at *
  omega
theorem sok_quotient_in : SpecOk Gm d_quotient_in := by
  rintro ds S R Q ⟨p, d, a, b, rfl, I, h⟩
  refine ⟨rfl, ?_⟩
  have hx := I.xb
  show wpB Gm b_quotient_in _ _ [some (P p), some (P d), none, none, none, none] S
  unfold b_quotient_in
  walk_at "wpc"
  refine ⟨p, d, a, b, rfl, I, fun t q r B _ => ?_⟩
  have lr : q.length ≤ 1000 := by have := B.lq; have := I.lp; omega
  have bt := (B.bt.mono (show _ ≤ 60000000 by omega))
  walk_at "wpx"
  walk_at "wpc"
  refine ⟨q, rfl, lr, _, _, rfl, ?_⟩
  walk_at "wpc"
  have g0 := lp_gcd B.pos q
  have gb := lp_le B.pos bt q
  refine ⟨g0, noPy, q, _, rfl, g0, lr, by decide, rtq (h t q r B)⟩
theorem plow_nilIff (r : List Int) : plow r = [] ↔ r = [] := ⟨fun e => by
  have := plow_len r
  rw [e] at this
  exact List.eq_nil_of_length_eq_zero this.symm, fun e => by rw [e]; rfl⟩
theorem prem_nil {d : List Int} (nd : Nrm d) (ne : d ≠ []) : prem [] d = [] := by
  have : Pdv [] d 1 [] [] := ⟨by decide, nrm_nil, nrm_nil, List.length_pos_iff.mpr ne, fun n => by rw [pei_nil]; omega⟩
  rw [prem_of nd this]; rfl

theorem lpD_uniq {t t' : Int} {r r' : List Int} (ht : 0 < t) (ht' : 0 < t') (h : pby t' r = pby t r') : lpD t r = lpD t' r' := by
  have c := congrArg pcon h
  rw [pcon_pby, pcon_pby] at c
  have g1 := lp_gcd ht r
  have g2 := lp_gcd ht' r'
  have eg : t'.natAbs * Int.gcd t (pcon r) = t.natAbs * Int.gcd t' (pcon r') := by
    have a1 : Int.gcd (t' * t) (t' * (pcon r : Int)) = t'.natAbs * Int.gcd t (pcon r) := Int.gcd_mul_left ..
    have a2 : Int.gcd (t * t') (t * (pcon r' : Int)) = t.natAbs * Int.gcd t' (pcon r') := Int.gcd_mul_left ..
    have e1 : t' * (pcon r : Int) = t * (pcon r' : Int) := by
      have : ((t'.natAbs * pcon r : Nat) : Int) = ((t.natAbs * pcon r' : Nat) : Int) := by rw [c]
      rw [Int.natCast_mul, Int.natCast_mul, Int.natAbs_of_nonneg (by omega), Int.natAbs_of_nonneg (by omega)] at this
      exact this
    rw [← a1, ← a2, e1, Int.mul_comm t' t]
  have eg2 : t' * (Int.gcd t (pcon r) : Int) = t * (Int.gcd t' (pcon r') : Int) := by
    have : ((t'.natAbs * Int.gcd t (pcon r) : Nat) : Int) = ((t.natAbs * Int.gcd t' (pcon r') : Nat) : Int) := by rw [eg]
    rw [Int.natCast_mul, Int.natCast_mul, Int.natAbs_of_nonneg (by omega), Int.natAbs_of_nonneg (by omega)] at this
    exact this
  have d1 : (Int.gcd t (pcon r) : Int) ∣ t := Int.gcd_dvd_left ..
  have d2 : (Int.gcd t' (pcon r') : Int) ∣ t' := Int.gcd_dvd_left ..
  have dc1 : ∀ i, (Int.gcd t (pcon r) : Int) ∣ cf r i := fun i => by
    by_cases l : i < r.length
    · exact Int.dvd_trans (Int.gcd_dvd_right ..) ((pcon_dvd r 0).2 _ (by rw [cf_lt l]; exact List.getElem_mem _))
    · rw [cf_ge (by omega)]; exact Int.dvd_zero _
  have dc2 : ∀ i, (Int.gcd t' (pcon r') : Int) ∣ cf r' i := fun i => by
    by_cases l : i < r'.length
    · exact Int.dvd_trans (Int.gcd_dvd_right ..) ((pcon_dvd r' 0).2 _ (by rw [cf_lt l]; exact List.getElem_mem _))
    · rw [cf_ge (by omega)]; exact Int.dvd_zero _
  have cc : ∀ i, t' * cf r i = t * cf r' i := fun i => by
    have := congrArg (fun z => cf z i) h
    simpa only [cf_pby] using this
  have ln : r.length = r'.length := by
    have := congrArg List.length h
    rwa [pby_length (by omega), pby_length (by omega)] at this
  unfold lpD
  generalize (Int.gcd t (pcon r) : Int) = g at *
  generalize (Int.gcd t' (pcon r') : Int) = g' at *
  have e1 : t.fdiv g = t'.fdiv g' := by
    obtain ⟨x, hx⟩ := d1
    obtain ⟨y, hy⟩ := d2
    rw [hx, hy, Int.mul_fdiv_cancel_left x g1, Int.mul_fdiv_cancel_left y g2]
    rw [hx, hy] at eg2
    exact Int.eq_of_mul_eq_mul_left (Int.mul_ne_zero g1 g2) (by grind)
  have e2 : (r.map fun c => c.fdiv g) = (r'.map fun c => c.fdiv g') := by
    refine List.ext_getElem (by rw [List.length_map, List.length_map, ln]) fun i h1 h2 => ?_
    rw [List.length_map] at h1 h2
    rw [List.getElem_map, List.getElem_map]
    have c1 := cc i
    obtain ⟨x, hx⟩ := dc1 i
    obtain ⟨y, hy⟩ := dc2 i
    rw [cf_lt h1] at hx c1
    rw [cf_lt h2] at hy c1
    rw [hx, hy, Int.mul_fdiv_cancel_left x g1, Int.mul_fdiv_cancel_left y g2]
    rw [hx, hy] at c1
    refine Int.eq_of_mul_eq_mul_left (Int.mul_ne_zero (show t' ≠ 0 by omega) g1) ?_
    rw [Int.mul_assoc, c1, ← Int.mul_assoc, ← eg2]
  rw [e1, e2]
theorem bd_plow {k : Nat} {p : List Int} (hn : Nrm p) (h : BdP k p) : BdP k (plow p) := bdp_of fun i => by
  by_cases e : p = []
  · subst e; rw [plow_nil, cf_nil]; exact bd_zero
  · have z := cf_plow p i
    have s := psh_ne hn e
    have b := h.cf i
    rw [← z] at b
    unfold Bd at *
    rw [Int.natAbs_mul] at b
    exact Nat.lt_of_le_of_lt (Nat.le_mul_of_pos_left _ (by omega)) b
theorem plow_plow {p : List Int} (np : Nrm p) : plow (plow p) = plow p := by
  by_cases e : p = []
  · subst e; rfl
  · have h := pby_plow p np
    have s := psh_ne np e
    have : plow (pby (psh p) (plow p)) = plow (plow p) := plow_pby s (nrm_plow np)
    rw [h] at this
    exact this.symm
abbrev GK : Nat := 100350
theorem gOk_gc {p q : List Int} {a b n : Nat} (np : Nrm p) (nq : Nrm q) (bp : BdP a p) (bq : BdP b q) (h : gOk n p.length a q.length b = true) : ∃ n, GC GK 25 n (plow p) (plow q) := by
  unfold gOk at h
  simp only [Bool.and_eq_true, decide_eq_true_eq] at h
  obtain ⟨h1, h2, h3, h4⟩ := h
  exact gc_all (a := 2000) (c := 6) (nrm_plow np) (nrm_plow nq) (by rw [plow_len]; exact h1) (by rw [plow_len]; exact h2) ((bd_plow np bp).mono h3) ((bd_plow nq bq).mono h4) (by decide) (by decide) (by decide) (plow_plow np)
theorem gc_step {n : Nat} {x y : List Int} (h : GC GK 25 n x y) (e : y ≠ []) : PdIn GK GK x y ∧ ∃ n, GC GK 25 n y (prem x y) := by
  cases n with
  | zero => exact absurd h e
  | succ n =>
    rcases h with h | ⟨bx, bY, lx, ly, nx, ny, g⟩
    · exact absurd h e
    · refine ⟨⟨nx, ny, e, by omega, by omega, bx, bY, ?_⟩, n, g⟩
      unfold xb
      have : (x.length + 1 - y.length) * (GK + 1) ≤ 26 * (GK + 1) := Nat.mul_le_mul_right _ (by omega)
      have e1 : 26 * (GK + 1) = 2609126 := rfl
      have e2 : GK = 100350 := rfl
      omega
theorem sok_common_in : SpecOk Gm d_common_in := by
  rintro ds S R Q ⟨p, q, a, b, rfl, np, nq, sp, sq, bp, bq, gk, h⟩
  refine ⟨rfl, ?_⟩
  show wpB Gm b_common_in _ _ [some (P p), some (P q)] S
  unfold b_common_in
  walk_at "wpc"
  refine ⟨p, rfl, np, sp, q, rfl, nq, sq, ?_⟩
  walk_at "wpc"
  obtain ⟨g0, hg0⟩ := gOk_gc np nq bp bq gk
  refine ⟨fun m ρ S' => ∃ x y n, m = y.length ∧ ρ = [some (P x), some (P y)] ∧ S' = S ∧ Nrm x ∧ Nrm y ∧ GC GK 25 n x y ∧ pgcd x y = pgcd (plow p) (plow q),
    ⟨_, plow p, plow q, g0, rfl, rfl, rfl, nrm_plow np, nrm_plow nq, hg0, rfl⟩, ?_⟩
  rintro m _ _ ⟨x, y, n, rfl, rfl, rfl, nx, ny, gk, hg⟩
  walk_at "wpx"
  refine eqD_it (n := 1) (m := 1) (it_t y) (fun _ h => nomatch h) (by decide) (by decide) (fun z => ?_) (fun z => ?_)
  · have e : y = [] := dI_nil (D.tup.inj z)
    subst e
    walk_at "wpx"
    walk_at "wpc"
    rw [← hg, pgcd_nil] at h
    exact rtq h
  · have e : ¬ y = [] := fun e => z (by rw [e]; rfl)
    have l0 : 0 < y.length := List.length_pos_iff.mpr e
    obtain ⟨I, n2, g2⟩ := gc_step gk e
    walk_at "wpx"
    walk_at "wpc"
    have ix := I.xb
    have iy := I.ld
    refine ⟨x, y, GK, GK, rfl, I, fun t q r B _ => ?_⟩
    walk_at "wpx"
    refine ⟨r, rfl, B.dv.hr, ⟨B.br.mono (by omega), by have := B.dv.hl; omega⟩, ?_⟩
    try dsimp only
    try rw [wpB]
    refine ⟨_, by rw [plow_len]; exact B.dv.hl, y, plow r, n2, rfl, rfl, rfl, ny, nrm_plow B.dv.hr, by rw [← prem_of ny B.dv]; exact g2, ?_⟩
    rw [← hg, pgcd_step nx ny e, prem_of ny B.dv]

theorem sok__law_pl_common : SpecOk Gm d__law_pl_common := by
  rintro ds S R Q ⟨p, q, a, b, rfl, np, nq, sp, sq, bp, bq, gk, h⟩
  refine ⟨rfl, ?_⟩
  show wpB Gm b__law_pl_common _ _ [some (P p), some (P q), none, none] S
  unfold b__law_pl_common
  walk_at "wpc"
  refine ⟨p, rfl, np, sp, q, rfl, nq, sq, ?_⟩
  walk_at "wpc"
  obtain ⟨g0, hg0⟩ := gOk_gc np nq bp bq gk
  refine ⟨fun m ρ S' => ∃ x y n, m = y.length ∧ ρ = [some (P p), some (P q), some (P x), some (P y)] ∧ S' = S ∧ Nrm x ∧ Nrm y ∧ GC GK 25 n x y ∧ pgcd x y = pgcd (plow p) (plow q),
    ⟨_, plow p, plow q, g0, rfl, rfl, rfl, nrm_plow np, nrm_plow nq, hg0, rfl⟩, ?_⟩
  rintro m _ _ ⟨x, y, n, rfl, rfl, rfl, nx, ny, gk, hg⟩
  walk_at "wpx"
  refine ⟨by decide, eqD_it (n := 1) (m := 1) (it_t y) (fun _ h => nomatch h) (by decide) (by decide) (fun z => ?_) (fun z => ?_)⟩
  · have e : y = [] := dI_nil (D.tup.inj z)
    subst e
    walk_at "wpx"
    walk_at "wpc"
    rw [← hg, pgcd_nil] at h
    exact rtq h
  · have e : ¬ y = [] := fun e => z (by rw [e]; rfl)
    have l0 : 0 < y.length := List.length_pos_iff.mpr e
    obtain ⟨I, n2, g2⟩ := gc_step gk e
    walk_at "wpx"
    walk_at "wpc"
    have ix := I.xb
    have iy := I.ld
    refine ⟨x, y, GK, GK, rfl, I, fun t q r B _ => ?_⟩
    walk_at "wpx"
    refine ⟨r, rfl, B.dv.hr, ⟨B.br.mono (by omega), by have := B.dv.hl; omega⟩, ?_⟩
    try dsimp only
    try rw [wpB]
    refine ⟨_, by rw [plow_len]; exact B.dv.hl, y, plow r, n2, rfl, rfl, rfl, ny, nrm_plow B.dv.hr, by rw [← prem_of ny B.dv]; exact g2, ?_⟩
    rw [← hg, pgcd_step nx ny e, prem_of ny B.dv]
theorem sok_content_of : SpecOk Gm d_content_of := by
  rintro ds S R Q ⟨ps, rfl, hp, q⟩
  refine ⟨rfl, ?_⟩
  show wpB Gm b_content_of _ _ [some (.lst (ps.map fun p => P p)), none, none] S
  unfold b_content_of
  walk_at "wpc"
  walk_at "wpc"
  refine forL_ind (fun rest ρ S' => ∃ (r : List (List Int)) (g : Nat) (x : Option D), rest = r.map (fun p => P p) ∧ (∀ p ∈ r, p.length ≤ 1000) ∧ ρ = [some (.lst (ps.map fun p => P p)), some (.int g), x] ∧ S' = S ∧ r.foldl (fun g p => Int.gcd (g : Int) (pcon p)) g = ps.foldl (fun g p => Int.gcd (g : Int) (pcon p)) 0) ?_ ?_ _ _ _ ⟨ps, 0, none, rfl, hp, rfl, rfl, rfl⟩
  · rintro ρ S' ⟨r, g, x, e, hp, rfl, rfl, h⟩
    have hr : r = [] := List.map_eq_nil_iff.mp e.symm
    subst hr
    refine ⟨trivial, ?_⟩
    walk_at "wpc"
    rw [← h] at q
    exact rtq q
  · rintro d rest ρ S' N ⟨r, g, x, e, hp, rfl, rfl, h⟩ hN
    cases r with
    | nil => cases e
    | cons c r =>
      cases e
      refine ⟨trivial, ?_⟩
      walk_at "wpc"
      refine ⟨c, rfl, hp c (.head _), _, _, rfl, ?_⟩
      dsimp only
      rw [wpB]
      exact hN _ _ ⟨r, Int.gcd g (pcon c), some (P c), rfl, fun p hp' => hp p (.tail _ hp'), rfl, rfl, h⟩
theorem sok__law_pl_over : SpecOk Gm d__law_pl_over := by
  rintro ds S R Q ⟨p, d, a, b, rfl, I, h⟩
  refine ⟨rfl, ?_⟩
  have hx := I.xb
  show wpB Gm b__law_pl_over _ _ [some (P p), some (P d), none, none, none, none] S
  unfold b__law_pl_over
  walk_at "wpc"
  refine ⟨p, d, a, b, rfl, I, fun t q r B _ => ?_⟩
  have lr : q.length ≤ 1000 := by have := B.lq; have := I.lp; omega
  have bt := (B.bt.mono (show _ ≤ 60000000 by omega))
  have g0 := lp_gcd B.pos q
  have gb := lp_le B.pos bt q
  have ec : cutD [D.int t, P q, P r] none (some 2) = [D.int t, P q] := rfl
  walk_at "wpx"
  try rw [ec]
  walk_at "wpx"
  walk_at "wpc"
  refine ⟨q, rfl, lr, _, _, rfl, ?_⟩
  walk_at "wpc"
  refine ⟨g0, noPy, ?_⟩
  refine compL_mapG (α := Int) D.int (fun c => .int (c.fdiv (Int.gcd t (pcon q) : Int))) trivial q [] (fun c hc N hN => ?_) ?_
  · walk_at "wpx"
    exact ⟨g0, noPy, hN⟩
  · try refine ⟨by decide, ?_⟩
    have e : dI (q.map fun c => c.fdiv (Int.gcd t (pcon q) : Int)) = q.map fun c => D.int (c.fdiv (Int.gcd t (pcon q) : Int)) := dI_map _ _
    have := h t q r B
    unfold lpD at this
    rw [List.nil_append, ← e]
    exact rtq this

/-- k - 1, .., 0 -/
def dn : Nat → List D
  | 0 => []
  | k + 1 => .int k :: dn k
theorem range_dn : ∀ k : Nat, rangeD ((k : Int) - 1) (-1) k = dn k
  | 0 => rfl
  | k + 1 => by
    have ih := range_dn k
    unfold rangeD at ih ⊢
    rw [List.range_succ_eq_map, List.map_cons, List.map_map, dn, ← ih]
    congr 1
    · congr 1; omega
    · refine List.map_congr_left fun i _ => ?_
      show D.int _ = D.int _
      congr 1
      show ((k + 1 : Nat) : Int) - 1 + ((i + 1 : Nat) : Int) * -1 = _
      omega
theorem range_dn' {m l : Nat} (hl : 0 < l) : rangeD ((m : Int) - (l : Int)) (-1) ((m : Int) - (l : Int) - -1).toNat = dn (m + 1 - l) := by
  by_cases h : l ≤ m + 1
  · have e : ((m : Int) - (l : Int) - -1).toNat = m + 1 - l := by omega
    rw [e, ← range_dn]
    congr 1; omega
  · have e : ((m : Int) - (l : Int) - -1).toNat = 0 := by omega
    have e2 : m + 1 - l = 0 := by omega
    rw [e, e2]; rfl
theorem dI_mulr (c : Int) (p : List Int) : (p.map fun x => D.int (x * c)) = dI (p.map fun x => x * c) := by
  show _ = List.map _ (List.map _ _)
  rw [List.map_map]; rfl
theorem trim_len_cf {L : List Int} {n : Nat} (h : ∀ i, n ≤ i → cf L i = 0) : (trim L).length ≤ n := by
  by_cases e : trim L = []
  · rw [e]; exact Nat.zero_le _
  · have t := nrm_top (nrm_trim L) e
    rw [cf_trim] at t
    by_cases l : n ≤ (trim L).length - 1
    · exact absurd (h _ l) t
    · omega
theorem sub_set {S S2 : Sto} {p : Addr} {o : DO} (h : S p = none) (sb : Sub S S2) : Sub S (sup S2 p o) := fun a u e => by
  by_cases q : a = p
  · rw [q, h] at e; cases e
  · rw [sup_ne q]; exact sb a u e
theorem parted_fin {p d L F : List Int} {a b N j : Nat} {T s : Int} (hs : s = 1 ∨ s = -1) (hp : 0 < s * T) (ld0 : 0 < d.length) (hN : p.length + 1 - d.length = N) (hj : j ≤ N) (b1 : Bd (j * (b + 1) + 1) T) (b2 : BdP (a + j * (b + 1)) L) (b3 : BdP (a + j * (b + 1)) F)
    (l2 : F.length = N) (hz : ∀ i, 0 + d.length - 1 ≤ i → cf L i = 0) (he : ∀ n, T * pei p n = pei F n * pei d n + pei L n) : PdB a b p d (s * T) (trim (F.map fun c => s * c)) (trim (L.map fun c => s * c)) := by
  have jb : j * (b + 1) ≤ N * (b + 1) := Nat.mul_le_mul_right _ hj
  have na : ∀ x : Int, (s * x).natAbs = x.natAbs := fun x => by rcases hs with rfl | rfl <;> omega
  have bm : ∀ {k : Nat} {q : List Int}, BdP k q → BdP k (trim (q.map fun c => s * c)) := fun {k q} h => bd_trim fun c hc => by
    obtain ⟨x, hx, rfl⟩ := List.mem_map.mp hc
    show Int.natAbs _ < _
    rw [na]; exact h x hx
  have hx : xb a b p.length d.length = a + N * (b + 1) := by unfold xb; rw [hN]
  refine ⟨hp, ⟨by omega, nrm_trim _, nrm_trim _, ?_, fun n => ?_⟩, ?_, ?_, ?_, ?_⟩
  · have := trim_len_cf (L := L.map fun c => s * c) (n := d.length - 1) fun i hi => by
      rw [cf_map (fun c => s * c) (Int.mul_zero _), hz i (by omega), Int.mul_zero]
    omega
  · rw [pei_trim, pei_trim, pei_map, pei_map, Int.mul_assoc, he n, Int.mul_add, Int.mul_assoc]
  · show Int.natAbs _ < _
    rw [na]
    exact b1.mono (by omega)
  · exact (bm b3).mono (by omega)
  · exact (bm b2).mono (by omega)
  · have := trim_len (F.map fun c => s * c)
    rw [List.length_map] at this
    omega
theorem sok__law_pl_parted : SpecOk Gm d__law_pl_parted := by
  rintro ds S R Q ⟨p, d, a, b, rfl, I, h⟩
  refine ⟨rfl, ?_⟩
  obtain ⟨np, nd, ne, lp, ld, bp, bd, hx⟩ := I
  have ld0 : 0 < d.length := List.length_pos_iff.mpr ne
  have top := nrm_top nd ne
  show wpB Gm b__law_pl_parted _ _ [some (P p), some (P d), none, none, none, none, none, none, none, none] S
  unfold b__law_pl_parted
  walk_at "wpc"
  rw [dI_len, dI_len]
  refine fun l hl => ⟨by decide, _, _, rfl, rfl, ?_⟩
  have hN : (if (p.length : Int) - (d.length : Int) + 1 > 0 then (p.length : Int) - (d.length : Int) + 1 else 0) = ((p.length + 1 - d.length : Nat) : Int) := by split <;> omega
  rw [hN]
  refine ⟨by omega, by omega, by rw [sizeLine_eq]; omega, fun f hf => ?_⟩
  have lf : f ≠ l := fun e => by rw [e, sup_same] at hf; cases hf
  have hf0 : S f = none := by rw [← hf, sup_ne lf]
  have er : (List.replicate ((p.length + 1 - d.length : Nat) : Int).toNat [D.int 0]).flatten = dI (List.replicate (p.length + 1 - d.length) 0) := by rw [rep0]; congr 2
  rw [er]
  walk_at "wpc"
  rw [dI_len, dI_len]
  refine ⟨_, _, _, _, rfl, rfl, rfl, L2.RgC.neg (by omega) (by omega) (by decide) (by decide), by rw [sizeLine_eq]; omega, ?_⟩
  rw [range_dn' ld0]
  unfold xb at hx
  generalize hNN : p.length + 1 - d.length = N at *
  have lN : N ≤ p.length := by omega
  refine forL_ind (fun rest ρ S' => ∃ k j T L F x5 x6 x7 x8 l f, rest = dn k ∧ k + j = N ∧ ρ = [some (P p), some (P d), some (.ref l), some (.int T), some (.ref f), x5, x6, x7, x8, none] ∧ S' l = some (.lst (dI L)) ∧ S' f = some (.lst (dI F)) ∧ l ≠ f ∧ S l = none ∧ S f = none ∧ Sub S S' ∧
      T ≠ 0 ∧ Bd (j * (b + 1) + 1) T ∧ BdP (a + j * (b + 1)) L ∧ BdP (a + j * (b + 1)) F ∧ L.length = p.length ∧ F.length = N ∧ (∀ i, k + d.length - 1 ≤ i → cf L i = 0) ∧ (∀ n, T * pei p n = pei F n * pei d n + pei L n) ∧ lpR d k (T, L, F) = lpR d N (1, p, List.replicate N 0)) ?_ ?_ _ _ _
      ⟨N, 0, 1, p, List.replicate N 0, _, _, _, _, l, f, rfl, rfl, rfl, ?_, sup_same, fun e => lf e.symm, hl, hf0, ?_, by decide, ?_, ?_, ?_, rfl, by simp, ?_, ?_, rfl⟩
  rotate_left 2
  · rw [sup_ne (fun e => lf e.symm), sup_same]
  · exact (sub_sup hl).trans (sub_sup hf)
  · show (1 : Nat) < 2 ^ _; exact Nat.one_lt_two_pow (by omega)
  · rw [Nat.zero_mul]; exact bp
  · intro c hc; rw [(List.mem_replicate.mp hc).2]; exact bd_zero
  · intro i hi; exact cf_ge (by omega)
  · intro n; rw [pei_zero n _ (cf_rep0 N)]; omega
  · rintro ρ S' ⟨k, j, T, L, F, x5, x6, x7, x8, l, f, hk, hj, rfl, hL, hF, hlf, hSl, hSf, sb, hT, b1, b2, b3, l1, l2, hz, he, hr⟩
    have k0 : k = 0 := by cases k with | zero => rfl | succ k => cases hk
    subst k0
    refine ⟨trivial, ?_⟩
    walk_at "wpc"
    have bs : ∀ s : Int, s = 1 ∨ s = -1 → Bd 1 s := fun s hs => by rcases hs with rfl | rfl <;> (unfold Bd; decide)
    have jb : j * (b + 1) ≤ N * (b + 1) := Nat.mul_le_mul_right _ (by omega)
    by_cases cp : 0 < T
    · simp only [cp, decide_true, if_true]
      have fin := parted_fin (s := 1) (.inl rfl) (by omega) ld0 hNN (show j ≤ N by omega) b1 b2 b3 l2 hz he
      have bs := bs (1) (.inl rfl)
      walk_at "wpc"
      refine ⟨mulOk bs b1 (by decide) (by omega), ?_⟩
      simp only [seqD_of hF]
      refine compL_mapG D.int (fun c => .int (1 * c)) hF F [] (fun c hc N hN => ?_) ?_
      · walk_at "wpx"
        exact ⟨mulOk bs (b3 c hc) (by decide) (by omega), hN⟩
      refine ⟨_, _, rfl, .inr (by rw [List.nil_append, res_l, ← dI_map]), by rw [List.length_map]; omega, ?_⟩
      simp only [seqD_of hL]
      refine compL_mapG D.int (fun c => .int (1 * c)) hL L [] (fun c hc N hN => ?_) ?_
      · walk_at "wpx"
        exact ⟨mulOk bs (b2 c hc) (by decide) (by omega), hN⟩
      refine ⟨_, _, rfl, .inr (by rw [List.nil_append, res_l, ← dI_map]), by rw [List.length_map]; omega, by decide, ?_⟩
      refine ⟨S, sb, h _ _ _ fin ?_⟩
      unfold lprt
      rw [hNN, ← hr]
      show _ = lprE (T, L, F)
      unfold lprE lsg
      rw [if_pos cp]
    · simp only [cp, decide_false, Bool.false_eq_true, if_false]
      have fin := parted_fin (s := -1) (.inr rfl) (by omega) ld0 hNN (show j ≤ N by omega) b1 b2 b3 l2 hz he
      have bs := bs (-1) (.inr rfl)
      walk_at "wpc"
      refine ⟨mulOk bs b1 (by decide) (by omega), ?_⟩
      simp only [seqD_of hF]
      refine compL_mapG D.int (fun c => .int (-1 * c)) hF F [] (fun c hc N hN => ?_) ?_
      · walk_at "wpx"
        exact ⟨mulOk bs (b3 c hc) (by decide) (by omega), hN⟩
      refine ⟨_, _, rfl, .inr (by rw [List.nil_append, res_l, ← dI_map]), by rw [List.length_map]; omega, ?_⟩
      simp only [seqD_of hL]
      refine compL_mapG D.int (fun c => .int (-1 * c)) hL L [] (fun c hc N hN => ?_) ?_
      · walk_at "wpx"
        exact ⟨mulOk bs (b2 c hc) (by decide) (by omega), hN⟩
      refine ⟨_, _, rfl, .inr (by rw [List.nil_append, res_l, ← dI_map]), by rw [List.length_map]; omega, by decide, ?_⟩
      refine ⟨S, sb, h _ _ _ fin ?_⟩
      unfold lprt
      rw [hNN, ← hr]
      show _ = lprE (T, L, F)
      unfold lprE lsg
      rw [if_neg cp]
  · rintro dd rest ρ S' N' ⟨k, j, T, L, F, x5, x6, x7, x8, l, f, hk, hj, rfl, hL, hF, hlf, hSl, hSf, sb, hT, b1, b2, b3, l1, l2, hz, he, hr⟩ hN'
    cases k with
    | zero => cases hk
    | succ k =>
    obtain ⟨rfl, rfl⟩ := List.cons.inj hk
    refine ⟨trivial, ?_⟩
    walk_at "wpc"
    simp only [res_of hL]
    have eij : (k : Int) + ((dI d).length : Int) - 1 = ((k + d.length - 1 : Nat) : Int) := by rw [dI_len]; omega
    rw [eij, dI_at (by omega)]
    walk_at "wpx"
    walk_at "wpc"
    by_cases cz : cf L (k + d.length - 1) = 0
    · simp only [cz, decide_true, Bool.not_true, Bool.false_eq_true, if_false]
      try dsimp only
      try rw [wpB]
      try rw [wpB]
      have bx := b1
      refine hN' _ _ ⟨k, j + 1, T, L, F, _, _, _, _, l, f, rfl, by omega, rfl, hL, hF, hlf, hSl, hSf, sb, hT, b1.mono ?_, b2.mono ?_, b3.mono ?_, l1, l2, fun i hi => ?_, he, ?_⟩
      · rw [Nat.add_mul]; omega
      · rw [Nat.add_mul]; omega
      · rw [Nat.add_mul]; omega
      · by_cases e : i = k + d.length - 1
        · rw [e]; exact cz
        · exact hz i (by omega)
      · rw [← hr, lpR]
        unfold lpS
        rw [if_pos cz]
    · rw [decide_eq_false cz, Bool.not_false, if_pos rfl]
      walk_at "wpc"
      simp only [seqD_of hL]
      have btop : Bd b (cf d (d.length - 1)) := bd.cf _
      have jb : (j + 1) * (b + 1) ≤ N * (b + 1) := Nat.mul_le_mul_right _ (by omega)
      have js : (j + 1) * (b + 1) = j * (b + 1) + (b + 1) := by rw [Nat.add_mul, Nat.one_mul]
      refine compL_mapG D.int (fun c => .int (c * cf d (d.length - 1))) hL L [] (fun c hc N hN => ?_) ?_
      · walk_at "wpx"
        rw [top_at ne]
        walk_at "wpx"
        exact ⟨mulOk (b2 c hc) btop (by omega) (by omega), hN⟩
      rw [top_at ne, List.nil_append, dI_mulr]
      refine fun l' hl' => ?_
      walk_at "wpx"
      refine ⟨mulOk b1 btop (by omega) (by omega), ?_⟩
      walk_at "wpc"
      have n1 : f ≠ l' := fun e => by rw [← e, hF] at hl'; cases hl'
      have hF1 : sup S' l' (.lst (dI (L.map fun x => x * cf d (d.length - 1)))) f = some (.lst (dI F)) := by rw [sup_ne n1]; exact hF
      simp only [seqD_of hF1]
      refine compL_mapG D.int (fun c => .int (c * cf d (d.length - 1))) hF1 F [] (fun c hc N hN => ?_) ?_
      · walk_at "wpx"
        rw [top_at ne]
        walk_at "wpx"
        exact ⟨mulOk (b3 c hc) btop (by omega) (by omega), hN⟩
      rw [List.nil_append, dI_mulr]
      refine fun f' hf' => ?_
      have n2 : l' ≠ f' := fun e => by rw [← e, sup_same] at hf'; cases hf'
      have hl0 : S l' = none := by
        cases q : S l' with
        | none => rfl
        | some o => rw [sb _ _ q] at hl'; cases hl'
      have hf0' : S f' = none := by
        rw [sup_ne (fun e => n2 e.symm)] at hf'
        cases q : S f' with
        | none => rfl
        | some o => rw [sb _ _ q] at hf'; cases hf'
      walk_at "wpc"
      generalize htp : cf d (d.length - 1) = tp at *
      generalize hla : cf L (k + d.length - 1) = la at *
      have bla : Bd (a + j * (b + 1)) la := by rw [← hla]; exact b2.cf _
      rw [dI_at (by rw [List.length_map]; omega)]
      walk_at "wpx"
      refine ⟨_, _, _, k, rfl, rfl, sup_same, ix_nat (by rw [dI_len, List.length_map]; omega), ?_⟩
      rw [dI_set]
      simp only [sup_sup]
      have cF : ∀ n, cf ((F.map fun x => x * tp).set k (cf (F.map fun x => x * tp) k + la)) n = cf (pplus (pby tp F) (mono k la)) n := fun n => by
        rw [cf_set (by rw [List.length_map]; omega), cf_pplus, cf_pby, cf_mono, cf_map (fun x => x * tp) (Int.zero_mul _), cf_map (fun x => x * tp) (Int.zero_mul _)]
        by_cases e : n = k
        · rw [if_pos e, if_pos e, e, Int.mul_comm]
        · rw [if_neg e, if_neg e, Int.mul_comm]; omega
      have lF : ((F.map fun x => x * tp).set k (cf (F.map fun x => x * tp) k + la)).length = N := by rw [List.length_set, List.length_map]; exact l2
      generalize ((F.map fun x => x * tp).set k (cf (F.map fun x => x * tp) k + la)) = F2 at *
      have cL : ∀ n, cf (L.map fun x => x * tp) n = tp * cf L n := fun n => by rw [cf_map (fun x => x * tp) (Int.zero_mul _), Int.mul_comm]
      have lL : (L.map fun x => x * tp).length = p.length := by rw [List.length_map]; exact l1
      generalize (L.map fun x => x * tp) = L1 at *
      generalize (F.map fun x => x * tp) = F1 at *
      walk_at "wpc"
      refine forL_ind (fun rest ρ S2 => ∃ i L2 x7 x8, i ≤ d.length ∧ rest = enumD i (dI (d.drop i)) ∧ ρ = [some (P p), some (P d), some (.ref l'), some (.int (T * tp)), some (.ref f'), some (.int k), some (.int la), x7, x8, none] ∧ S2 l' = some (.lst (dI L2)) ∧ S2 f' = some (.lst (dI F2)) ∧ Sub S S2 ∧
        L2.length = p.length ∧ ∀ n, cf L2 n = tp * cf L n - if k ≤ n ∧ n - k < i then la * cf d (n - k) else 0) ?_ ?_ _ _ _ ⟨0, L1, _, _, Nat.zero_le _, rfl, rfl, ?_, sup_same, sub_set hf0' (sub_set hl0 sb), lL, fun n => by rw [cL, if_neg (by omega)]; omega⟩
      rotate_left 2
      · rw [sup_ne n2, sup_same]
      · rintro ρ S2 ⟨i, L2, x7, x8, hi, er, rfl, h1, h2, h3, h4, h5⟩
        have hi2 : i = d.length := by
          cases hd : d.drop i with
          | nil => have := List.drop_eq_nil_iff.mp hd; omega
          | cons c l => rw [hd] at er; cases er
        subst hi2
        have cL2 : ∀ n, cf L2 n = cf (pplus (pby tp L) (pby (-1) (pmul (mono k la) d))) n := fun n => by
          rw [h5, cf_pplus, cf_pby, cf_pby, cf_pmul, conv_mono]
          by_cases e : k ≤ n
          · by_cases e2 : n - k < d.length
            · rw [if_pos ⟨e, e2⟩, if_pos e]; omega
            · rw [if_neg (fun z => e2 z.2), if_pos e, cf_ge (p := d) (by omega), Int.mul_zero]; omega
          · rw [if_neg (fun z => e z.1), if_neg e]; omega
        refine ⟨trivial, ?_⟩
        try dsimp only
        try rw [wpB]
        try rw [wpB]
        refine hN' _ _ ⟨k, j + 1, T * tp, L2, F2, _, _, _, _, l', f', rfl, by omega, rfl, h1, h2, n2, hl0, hf0', h3, Int.mul_ne_zero hT top, ?_, ?_, ?_, h4, lF, fun i hi => ?_, fun n => ?_, ?_⟩
        · exact (b1.mul btop).mono (by omega)
        · exact bdp_of fun i => by rw [cL2]; exact ((bd_step b2 bd btop bla).cf i).mono (by omega)
        · exact bdp_of fun i => by rw [cF]; exact ((bd_pplus (bd_pby b3 btop) ((bd_mono bla).mono (show _ ≤ b + (a + j * (b + 1)) by omega))).cf i).mono (by omega)
        · rw [h5]
          by_cases e : i = k + d.length - 1
          · subst e
            rw [if_pos (by omega), hla]
            have : k + d.length - 1 - k = d.length - 1 := by omega
            rw [this, htp, Int.mul_comm]; omega
          · rw [hz i (by omega), if_neg (by omega)]; omega
        · rw [pei_ext n _ _ cL2, pei_ext n _ _ cF]
          exact pdv_step he k n
        · rw [← hr, lpR]
          unfold lpS
          rw [if_neg (by show ¬ cf L _ = 0; rw [hla]; exact cz)]
          show _ = lpR d k (T * cf d (d.length - 1), _, _)
          rw [htp]
          have eL : L2 = (List.range L.length).map fun n => tp * cf L n - if k ≤ n ∧ n - k < d.length then la * cf d (n - k) else 0 := by
            refine List.ext_getElem (by rw [List.length_map, List.length_range, h4, l1]) fun n g1 g2 => ?_
            rw [List.getElem_map, List.getElem_range, ← h5, cf_lt g1]
          have eF : F2 = (List.range F.length).map fun n => tp * cf F n + if n = k then la else 0 := by
            refine List.ext_getElem (by rw [List.length_map, List.length_range, lF, l2]) fun n g1 g2 => ?_
            rw [List.getElem_map, List.getElem_range, ← cf_lt g1, cF, cf_pplus, cf_pby, cf_mono]
          rw [eL, eF, ← hla]
      · rintro dd rest ρ S2 N2 ⟨i, L2, x7, x8, hi, er, rfl, h1, h2, h3, h4, h5⟩ hN2
        cases hd : d.drop i with
        | nil => rw [hd] at er; cases er
        | cons c l =>
          have hi2 : i < d.length := by
            have := congrArg List.length hd
            rw [List.length_drop, List.length_cons] at this
            omega
          rw [drop_cf hi2] at hd
          obtain ⟨rfl, rfl⟩ := List.cons.inj hd
          rw [drop_cf hi2] at er
          cases er
          refine ⟨trivial, ?_⟩
          have eki : (k : Int) + (i : Int) = ((k + i : Nat) : Int) := by omega
          walk_at "wpx"
          walk_at "wpc"
          simp only [res_of h1]
          rw [eki, dI_at (by omega)]
          walk_at "wpx"
          refine ⟨mulOk bla (bd.cf i) (by omega) (by omega), l', dI L2, _, k + i, rfl, rfl, h1, ix_nat (by rw [dI_len]; omega), ?_⟩
          rw [dI_set]
          rw [wpB]
          refine hN2 _ _ ⟨i + 1, _, _, _, hi2, rfl, rfl, sup_same, by rw [sup_ne (fun e => n2 e.symm)]; exact h2, sub_set hl0 h3, by rw [List.length_set]; exact h4, fun n => ?_⟩
          rw [cf_set (by omega)]
          by_cases e : n = k + i
          · have : n - k = i := by omega
            rw [if_pos e, if_pos (by omega), h5, if_neg (by omega), e, show k + i - k = i by omega]; omega
          · rw [if_neg e, h5]
            by_cases l : k ≤ n ∧ n - k < i
            · rw [if_pos l, if_pos (by omega)]
            · rw [if_neg l, if_neg (by omega)]

theorem gOk_13 : ∀ m, m ≤ 25 → ∀ l, l ≤ 25 → gOk (l + 1) m 2000 l 2000 = true := fun m h l h' => by unfold gOk; rw [decide_eq_true h, decide_eq_true h']; rfl

theorem sok_exact_in : SpecOk Gm d_exact_in := by
  rintro ds S R Q ⟨p, d, s, a, b, rfl, I, ns, e, h⟩
  refine ⟨rfl, ?_⟩
  show wpB Gm b_exact_in _ _ [some (P p), some (P d)] S
  unfold b_exact_in
  walk_at "wpc"
  refine eqD_it (n := 1) (m := 1) (it_t p) (fun _ h => nomatch h) (by decide) (by decide) (fun z => ?_) (fun z => ?_)
  · have e0 : p = [] := dI_nil (D.tup.inj z)
    subst e0
    have : s = [] := by
      have : pmul s d = [] := pei_inj (nrm_pmul ns I.nd) nrm_nil fun x => by rw [pei_pmul, ← e]
      exact (pmul_zero this).resolve_right I.ne
    subst this
    walk_at "wpx"
    exact rtq h
  · walk_at "wpx"
    refine ⟨p, d, a, b, rfl, I, fun t q r B one => ?_⟩
    walk_at "wpx"
    have t1 := one ⟨s, ns, e⟩
    subst t1
    have D : Pdv p d 1 s [] := ⟨by decide, ns, nrm_nil, List.length_pos_iff.mpr I.ne, fun n => by rw [pei_nil, e]; omega⟩
    have u := (Pdv.uniq I.nd B.dv D).1
    have eq : q = s := pei_inj B.dv.hq ns fun x => by
      have := congrArg (fun l => pei l x) u
      simp only [pei_pby] at this
      omega
    rw [eq]
    exact rtq h
theorem sok_divided : SpecOk Gm d_divided := by
  rintro ds S R Q ⟨p, d, s, a, b, rfl, I, ns, e, h⟩
  refine ⟨rfl, ?_⟩
  show wpB Gm b_divided _ _ [some (P p), some (P d)] S
  unfold b_divided
  walk_at "wpc"
  exact ⟨p, d, s, a, b, rfl, I, ns, e, rtq h⟩
/-- bounds of the common one -/
theorem gf_pd {T B g h1 h2 : List Int} (I : RI T B) (z : T ≠ []) (F : GF T B g h1 h2) : PdIn 2000 2400 T g ∧ PdIn 2000 2400 B g := by
  have key : ∀ {A s : List Int}, Nrm A → A ≠ [] → BdP 2000 A → A.length ≤ 25 → Nrm s → (∀ x, pei A x = pei s x * pei g x) → PdIn 2000 2400 A g := fun {A s} nA zA bA lA ns e => by
    have eA : A = pmul s g := pei_inj nA (nrm_pmul ns F.ng) fun x => by rw [e, pei_pmul]
    have s0 : s ≠ [] := fun q => zA (by rw [eA, q]; unfold pmul; rw [if_pos (.inl rfl)])
    have sl := List.length_pos_iff.mpr s0
    have lg : g.length ≤ A.length := by rw [eA, pmul_length s0 F.ge]; omega
    have bg : BdP (2000 + 25 * (2 * 6 + 4)) g := bd_fac (L := 25) (k := 6) (by decide) (pei_ne nA zA) bA lA (by omega) e
    refine ⟨nA, F.ng, F.ge, by omega, by omega, bA, bg.mono (by decide), ?_⟩
    unfold xb
    have : (A.length + 1 - g.length) * (2400 + 1) ≤ 26 * 2401 := Nat.mul_le_mul (by omega) (by decide)
    omega
  exact ⟨key I.nT z I.bT I.lT F.n1 F.e1, key I.nB I.ne I.bB I.lB F.n2 F.e2⟩
theorem sok_ratio_in : SpecOk Gm d_ratio_in := by
  rintro ds S R Q ⟨T, B, rfl, I, h⟩
  refine ⟨rfl, ?_⟩
  show wpB Gm b_ratio_in _ _ [some (P T), some (P B), none, none] S
  unfold b_ratio_in
  walk_at "wpc"
  refine eqD_it (n := 1) (m := 1) (it_t T) (fun _ h => nomatch h) (by decide) (by decide) (fun z => ?_) (fun z => ?_)
  · have e0 : T = [] := dI_nil (D.tup.inj z)
    subst e0
    walk_at "wpx"
    walk_at "wpc"
    exact rtq (h [] [1] low_nought fun x => by simp only [pei_nil]; omega)
  · have z : T ≠ [] := fun e => z (by rw [e]; rfl)
    walk_at "wpx"
    rw [wpB]
    walk_at "wpc"
    refine ⟨T, B, 2000, 2000, rfl, I.nT, I.nB, ⟨I.bT.mono (by decide), by have := I.lT; omega⟩, ⟨I.bB.mono (by decide), by have := I.lB; omega⟩, I.bT, I.bB, gOk_13 _ I.lT _ I.lB, ?_⟩
    obtain ⟨h1, h2, F⟩ := gf_ex I.nT I.nB z I.ne
    obtain ⟨pd1, pd2⟩ := gf_pd I z F
    walk_at "wpc"
    refine ⟨T, _, h1, _, _, rfl, pd1, F.n1, F.e1, B, _, h2, _, _, rfl, pd2, F.n2, F.e2, ?_⟩
    try dsimp only
    walk_at "wpc"
    have ll : h1.length ≤ 1000 ∧ h2.length ≤ 1000 := by
      have a1 := I.lT
      have a2 := I.lB
      have e1 : T = pmul h1 _ := pei_inj I.nT (nrm_pmul F.n1 F.ng) fun x => by rw [F.e1, pei_pmul]
      have e2 : B = pmul h2 _ := pei_inj I.nB (nrm_pmul F.n2 F.ng) fun x => by rw [F.e2, pei_pmul]
      have gl := List.length_pos_iff.mpr F.ge
      have l2 := congrArg List.length e2
      rw [pmul_length F.ne F.ge] at l2
      by_cases q : h1 = []
      · rw [q]; exact ⟨by decide, by omega⟩
      · have l1 := congrArg List.length e1
        rw [pmul_length q F.ge] at l1
        omega
    refine ⟨by decide, [h1, h2], rfl, fun p hp => ?_, ?_⟩
    · simp only [List.mem_cons, List.not_mem_nil, or_false] at hp
      rcases hp with rfl | rfl
      · exact ll.1
      · exact ll.2
    have ef : ([h1, h2].foldl (fun g p => Int.gcd (g : Int) (pcon p)) 0 : Nat) = Nat.gcd (pcon h1) (pcon h2) := by
      show Nat.gcd (Nat.gcd 0 (pcon h1)) (pcon h2) = _
      rw [Nat.gcd_zero_left]
    rw [ef]
    walk_at "wpc"
    rw [top_at F.ne]
    walk_at "wpx"
    obtain ⟨s0, lw, cr⟩ := low_nf F.n1 F.n2 F.ne F.cop rfl
    by_cases c : 0 < cf h2 (h2.length - 1)
    · simp only [c, decide_true, if_true] at s0 lw cr ⊢
      walk_at "wpc"
      exact ⟨h1, _, rfl, s0, ll.1, h2, _, rfl, s0, ll.2, by decide, rtq (h _ _ lw (crs_gf F cr))⟩
    · simp only [c, decide_false, Bool.false_eq_true, if_false] at s0 lw cr ⊢
      walk_at "wpc"
      exact ⟨h1, _, rfl, s0, ll.1, h2, _, rfl, s0, ll.2, by decide, rtq (h _ _ lw (crs_gf F cr))⟩

theorem lpD_whole {T g h q r : List Int} {a b : Nat} {t : Int} (nh : Nrm h) (ng : Nrm g) (ge : g ≠ []) (e : ∀ x, pei T x = pei h x * pei g x) (B : PdB a b T g t q r) : lpD t q = .tup [.int 1, P h] := by
  have D : Pdv T g 1 h [] := ⟨by decide, nh, nrm_nil, List.length_pos_iff.mpr ge, fun n => by rw [pei_nil, e]; omega⟩
  rw [lpD_uniq B.pos (by decide) (Pdv.uniq ng B.dv D).1]
  unfold lpD
  have g1 : Int.gcd 1 (pcon h) = 1 := Int.one_gcd ..
  rw [g1]
  have : (h.map fun c => c.fdiv ((1 : Nat) : Int)) = h := by
    show (h.map fun c => c.fdiv (1 : Int)) = h
    rw [List.map_congr_left (g := id) fun c _ => Int.fdiv_one c, List.map_id]
  rw [this]
  rfl
theorem pby_one {p : List Int} (np : Nrm p) : pby 1 p = p := pei_inj (nrm_pby' np) np fun x => by rw [pei_pby, Int.one_mul]
theorem gf_len {T B g h1 h2 : List Int} (I : RI T B) (z : T ≠ []) (F : GF T B g h1 h2) : (BdP 2400 h1 ∧ h1.length ≤ 25) ∧ BdP 2400 h2 ∧ h2.length ≤ 25 := by
  have a1 := I.lT
  have a2 := I.lB
  have e1 : T = pmul h1 g := pei_inj I.nT (nrm_pmul F.n1 F.ng) fun x => by rw [F.e1, pei_pmul]
  have e2 : B = pmul h2 g := pei_inj I.nB (nrm_pmul F.n2 F.ng) fun x => by rw [F.e2, pei_pmul]
  have q : h1 ≠ [] := fun q => z (by rw [e1, q]; unfold pmul; rw [if_pos (.inl rfl)])
  have gl := List.length_pos_iff.mpr F.ge
  have l2 := congrArg List.length e2
  rw [pmul_length F.ne F.ge] at l2
  have l1 := congrArg List.length e1
  rw [pmul_length q F.ge] at l1
  have f1 : BdP (2000 + 25 * (2 * 6 + 4)) h1 := bd_fac (L := 25) (k := 6) (s := g) (by decide) (pei_ne I.nT z) I.bT I.lT (by omega) fun x => by rw [F.e1, Int.mul_comm]
  have f2 : BdP (2000 + 25 * (2 * 6 + 4)) h2 := bd_fac (L := 25) (k := 6) (s := g) (by decide) (pei_ne I.nB I.ne) I.bB I.lB (by omega) fun x => by rw [F.e2, Int.mul_comm]
  exact ⟨⟨f1.mono (by decide), by omega⟩, f2.mono (by decide), by omega⟩
theorem sok__law_rt : SpecOk Gm d__law_rt := by
  rintro ds S R Q ⟨T, B, rfl, I, h⟩
  refine ⟨rfl, ?_⟩
  show wpB Gm b__law_rt _ _ [some (P T), some (P B), none, none, none, none, none, none, none] S
  unfold b__law_rt
  walk_at "wpc"
  refine ⟨by decide, eqD_it (n := 1) (m := 1) (it_t T) (fun _ h => nomatch h) (by decide) (by decide) (fun z => ?_) (fun z => ?_)⟩
  · have e0 : T = [] := dI_nil (D.tup.inj z)
    subst e0
    walk_at "wpx"
    walk_at "wpc"
    exact ⟨by decide, by decide, by decide, rtq (h [] [1] low_nought fun x => by simp only [pei_nil]; omega)⟩
  · have z : T ≠ [] := fun e => z (by rw [e]; rfl)
    walk_at "wpx"
    rw [wpB]
    walk_at "wpc"
    refine ⟨T, B, 2000, 2000, rfl, I.nT, I.nB, ⟨I.bT.mono (by decide), by have := I.lT; omega⟩, ⟨I.bB.mono (by decide), by have := I.lB; omega⟩, I.bT, I.bB, gOk_13 _ I.lT _ I.lB, ?_⟩
    obtain ⟨h1, h2, F⟩ := gf_ex I.nT I.nB z I.ne
    obtain ⟨pd1, pd2⟩ := gf_pd I z F
    walk_at "wpc"
    refine ⟨T, _, _, _, rfl, pd1, fun t1 q1 r1 B1 => ?_⟩
    rw [lpD_whole F.n1 F.ng F.ge F.e1 B1]
    refine ⟨B, _, _, _, rfl, pd2, fun t2 q2 r2 B2 => ?_⟩
    rw [lpD_whole F.n2 F.ng F.ge F.e2 B2]
    walk_at "wpx"
    refine ⟨by decide, ?_⟩
    obtain ⟨⟨g1, g2⟩, g3, g4⟩ := gf_len I z F
    have s1 : Bd 60000000 (1 : Int) := Bd.mono (k := 1) (by unfold Bd; decide) (by decide)
    walk_at "wpc"
    refine ⟨1, h1, rfl, s1, ⟨g1.mono (by decide), by omega⟩, 1, h2, rfl, s1, ⟨g3.mono (by decide), by omega⟩, ?_⟩
    rw [pby_one F.n1, pby_one F.n2]
    walk_at "wpx"
    walk_at "wpc"
    refine ⟨h1, rfl, by omega, h2, rfl, by omega, _, _, rfl, ?_⟩
    walk_at "wpc"
    rw [top_at F.ne]
    walk_at "wpx"
    obtain ⟨s0, lw, cr⟩ := low_nf F.n1 F.n2 F.ne F.cop rfl
    have eg : (Int.gcd (pcon h1 : Int) (pcon h2 : Int)) = Nat.gcd (pcon h1) (pcon h2) := rfl
    rw [eg]
    by_cases c : 0 < cf h2 (h2.length - 1)
    · simp only [c, decide_true, if_true] at s0 lw cr ⊢
      walk_at "wpc"
      refine compL_mapG D.int (fun c => .int (c.fdiv (Nat.gcd (pcon h1) (pcon h2) : Int))) trivial h1 [] (fun c hc N hN => ?_) ?_
      · walk_at "wpx"
        exact ⟨s0, noPy, hN⟩
      refine compL_mapG D.int (fun c => .int (c.fdiv (Nat.gcd (pcon h1) (pcon h2) : Int))) trivial h2 [] (fun c hc N hN => ?_) ?_
      · walk_at "wpx"
        exact ⟨s0, noPy, hN⟩
      rw [List.nil_append, List.nil_append, ← dI_map, ← dI_map]
      exact ⟨by decide, rtq (h _ _ lw (crs_gf F cr))⟩
    · simp only [c, decide_false, Bool.false_eq_true, if_false] at s0 lw cr ⊢
      walk_at "wpc"
      refine compL_mapG D.int (fun c => .int (c.fdiv (0 - (Nat.gcd (pcon h1) (pcon h2) : Int)))) trivial h1 [] (fun c hc N hN => ?_) ?_
      · walk_at "wpx"
        exact ⟨s0, noPy, hN⟩
      refine compL_mapG D.int (fun c => .int (c.fdiv (0 - (Nat.gcd (pcon h1) (pcon h2) : Int)))) trivial h2 [] (fun c hc N hN => ?_) ?_
      · walk_at "wpx"
        exact ⟨s0, noPy, hN⟩
      rw [List.nil_append, List.nil_append, ← dI_map, ← dI_map]
      exact ⟨by decide, rtq (h _ _ lw (crs_gf F cr))⟩

theorem ri_of {T B : List Int} (nT : Nrm T) (nB : Nrm B) (ne : B ≠ []) (bT : BdP 605 T) (bB : BdP 605 B) (lT : T.length ≤ 13) (lB : B.length ≤ 13) : RI T B := ⟨nT, nB, ne, bT.mono (by decide), bB.mono (by decide), by omega, by omega⟩
theorem mul_7 {p q : List Int} (bp : BdP 300 p) (bq : BdP 300 q) (lp : p.length ≤ 7) (lq : q.length ≤ 7) : BdP 604 (pmul p q) ∧ (pmul p q).length ≤ 13 := by
  refine ⟨bd_pmul (m := 4) bp bq (by have : 2 ^ 4 = 16 := rfl; omega), ?_⟩
  by_cases a : p = []
  · subst a; unfold pmul; rw [if_pos (.inl rfl)]; decide
  by_cases b : q = []
  · subst b; unfold pmul; rw [if_pos (.inr rfl)]; decide
  rw [pmul_length a b]; omega
theorem pmul_ne {p q : List Int} (a : p ≠ []) (b : q ≠ []) : pmul p q ≠ [] := fun z => (pmul_zero z).elim a b
theorem rw_sm {p : List Int} (b : BdP 300 p) (l : p.length ≤ 7) : SmP p := ⟨b.mono (by decide), by omega⟩
theorem ri_plus {t1 b1 t2 b2 : List Int} (A : Rw t1 b1) (B : Rw t2 b2) : RI (pplus (pmul t1 b2) (pmul t2 b1)) (pmul b1 b2) := by
  obtain ⟨m1, l1⟩ := mul_7 A.bt B.bb A.lt B.lb
  obtain ⟨m2, l2⟩ := mul_7 B.bt A.bb B.lt A.lb
  obtain ⟨m3, l3⟩ := mul_7 A.bb B.bb A.lb B.lb
  refine ri_of (nrm_pplus _ _) (nrm_pmul A.nb B.nb) (pmul_ne A.ne B.ne) (bd_pplus m1 m2) (m3.mono (by decide)) (Nat.le_trans (pplus_len _ _) (by omega)) l3
theorem ri_times {t1 b1 t2 b2 : List Int} (A : Rw t1 b1) (B : Rw t2 b2) : RI (pmul t1 t2) (pmul b1 b2) := by
  obtain ⟨m1, l1⟩ := mul_7 A.bt B.bt A.lt B.lt
  obtain ⟨m3, l3⟩ := mul_7 A.bb B.bb A.lb B.lb
  exact ri_of (nrm_pmul A.nt B.nt) (nrm_pmul A.nb B.nb) (pmul_ne A.ne B.ne) (m1.mono (by decide)) (m3.mono (by decide)) l1 l3
theorem ri_minus {t1 b1 t2 b2 : List Int} (A : Rw t1 b1) (B : Rw t2 b2) : RI (pplus (pmul t1 b2) (pby (-1) (pmul t2 b1))) (pmul b1 b2) := by
  obtain ⟨m1, l1⟩ := mul_7 A.bt B.bb A.lt B.lb
  obtain ⟨m2, l2⟩ := mul_7 B.bt A.bb B.lt A.lb
  obtain ⟨m3, l3⟩ := mul_7 A.bb B.bb A.lb B.lb
  have nm : BdP 604 (pby (-1) (pmul t2 b1)) := bdp_of fun i => by
    rw [cf_pby]
    have : -1 * cf (pmul t2 b1) i = -(cf (pmul t2 b1) i) := by omega
    rw [this]; exact (m2.cf i).neg
  refine ri_of (nrm_pplus _ _) (nrm_pmul A.nb B.nb) (pmul_ne A.ne B.ne) (bd_pplus m1 nm) (m3.mono (by decide)) (Nat.le_trans (pplus_len _ _) ?_) l3
  have := pby_len' (-1) (pmul t2 b1)
  omega
theorem ri_over {t1 b1 t2 b2 : List Int} (A : Rw t1 b1) (B : Rw t2 b2) (z : t2 ≠ []) : RI (pmul t1 b2) (pmul b1 t2) := by
  obtain ⟨m1, l1⟩ := mul_7 A.bt B.bb A.lt B.lb
  obtain ⟨m3, l3⟩ := mul_7 A.bb B.bt A.lb B.lt
  exact ri_of (nrm_pmul A.nt B.nb) (nrm_pmul A.nb B.nt) (pmul_ne A.ne z) (m1.mono (by decide)) (m3.mono (by decide)) l1 l3
theorem it_rt (t b : List Int) : IT 2 (Rt t b) := fun d hd => by
  rcases List.mem_cons.mp hd with rfl | hd
  · exact it_t t
  · rw [List.mem_singleton.mp hd]; exact it_t b
theorem sok_ratio_times_in : SpecOk Gm d_ratio_times_in := by
  rintro ds S R Q ⟨t1, b1, t2, b2, rfl, A, B, h⟩
  refine ⟨rfl, ?_⟩
  show wpB Gm b_ratio_times_in _ _ [some (Rt t1 b1), some (Rt t2 b2)] S
  unfold b_ratio_times_in
  have I := ri_times A B
  walk_at "wpc"
  exact ⟨t1, t2, rfl, rw_sm A.bt A.lt, rw_sm B.bt B.lt, b1, b2, rfl, rw_sm A.bb A.lb, rw_sm B.bb B.lb, _, _, rfl, I, fun t b lw cr => rtq (h t b lw cr)⟩

theorem pei_pmov (m x : Int) : ∀ p : List Int, pei (pmov m p) x = pei p (x + m)
  | [] => rfl
  | c :: p => by
    rw [pmov, pei_pplus, pei_pmul, pei_trim, pei_trim, pei_pmov m x p]
    simp only [pei_cons, pei_nil]
    grind
theorem pmov_ne {m : Int} {p : List Int} (np : Nrm p) (ne : p ≠ []) : pmov m p ≠ [] := fun z => ne (pei_inj np nrm_nil fun n => by
  have := pei_pmov m (n - m) p
  rw [z, pei_nil] at this
  rw [pei_nil, this]
  congr 1; omega)
theorem pmov_back {m : Int} {p : List Int} (np : Nrm p) : pmov (-m) (pmov m p) = p := pei_inj (nrm_pmov _ _) np fun x => by
  rw [pei_pmov, pei_pmov]; congr 1; omega
theorem pmov_top (m : Int) : ∀ p : List Int, Nrm p → p ≠ [] → (pmov m p).length = p.length ∧ cf (pmov m p) (p.length - 1) = cf p (p.length - 1)
  | [], _, ne => absurd rfl ne
  | c :: q, np, _ => by
    have n2 : Nrm [m, 1] := fun c hc => by
      have e : [m, 1].getLast? = some 1 := rfl
      rw [e] at hc
      cases hc; decide
    have e2 : trim [m, 1] = [m, 1] := trim_of_nrm n2
    have np2 : Nrm (pmov m (c :: q)) := nrm_pmov _ _
    have c0 := nrm_top np (List.cons_ne_nil _ _)
    have ge : ∀ {i : Nat}, cf (pmov m (c :: q)) i ≠ 0 → i < (pmov m (c :: q)).length := fun {i} h => by
      by_cases l : i < (pmov m (c :: q)).length
      · exact l
      · exact absurd (cf_ge (by omega)) h
    have tl : (trim [c]).length ≤ 1 := trim_len [c]
    have le := pplus_len (pmul (pmov m q) (trim [m, 1])) (trim [c])
    by_cases z : q = []
    · subst z
      have e : cf (pmov m [c]) 0 = c := by
        rw [pmov, pmov, cf_pplus, cf_trim]
        have : cf (pmul [] (trim [m, 1])) 0 = 0 := by unfold pmul; rw [if_pos (.inl rfl)]; rfl
        rw [this, cf_cons_zero]; omega
      have l1 : 0 < (pmov m [c]).length := ge (by rw [e]; exact c0)
      have l2 : (pmov m [c]).length ≤ 1 := by
        rw [pmov]
        have : (pmul (pmov m []) (trim [m, 1])).length = 0 := by rw [pmov]; unfold pmul; rw [if_pos (.inl rfl)]; rfl
        omega
      exact ⟨by rw [List.length_singleton]; omega, e⟩
    · have nq : Nrm q := fun d hd => np d (by rw [List.getLast?_cons]; rw [hd]; rfl)
      obtain ⟨i1, i2⟩ := pmov_top m q nq z
      have nz := pmov_ne (m := m) nq z
      have lq := List.length_pos_iff.mpr z
      have tp := top_pmul (q := [m, 1]) nz (List.cons_ne_nil _ _)
      rw [pmul_length nz (List.cons_ne_nil _ _), i1] at tp
      have ei : q.length + [m, 1].length - 1 - 1 = q.length := by rw [List.length_cons, List.length_singleton]; omega
      rw [ei, i2] at tp
      have e : cf (pmov m (c :: q)) q.length = cf q (q.length - 1) := by
        rw [pmov, cf_pplus, cf_trim, e2, tp]
        have a : cf [m, 1] ([m, 1].length - 1) = 1 := rfl
        have b : cf [c] q.length = 0 := cf_ge (by rw [List.length_singleton]; omega)
        rw [a, b]; omega
      have ec : cf (c :: q) ((c :: q).length - 1) = cf q (q.length - 1) := by
        have : (c :: q).length - 1 = (q.length - 1) + 1 := by rw [List.length_cons]; omega
        rw [this, cf_cons_succ]
      have l1 : q.length < (pmov m (c :: q)).length := ge (by rw [e, ← ec]; exact c0)
      have l2 : (pmov m (c :: q)).length ≤ q.length + 1 := by
        rw [pmov]
        have l := pmul_length (q := trim [m, 1]) nz (by rw [e2]; exact List.cons_ne_nil _ _)
        rw [e2] at l le ⊢
        rw [i1, List.length_cons, List.length_singleton] at l
        omega
      exact ⟨by rw [List.length_cons]; omega, by rw [ec, ← e]; congr 1⟩
theorem dvd_pmov {d m : Int} : ∀ {p : List Int}, (∀ i, d ∣ cf p i) → ∀ i, d ∣ cf (pmov m p) i
  | [], _, i => Int.dvd_zero _
  | c :: p, h, i => by
    have ih := dvd_pmov (m := m) (p := p) fun i => h (i + 1)
    rw [pmov, cf_pplus, cf_pmul, cf_trim]
    refine Int.dvd_add ?_ ?_
    · unfold conv
      have : ∀ n (f : Nat → Int), (∀ k, d ∣ f k) → d ∣ sumN n f := fun n f hf => by
        induction n with
        | zero => exact Int.dvd_zero _
        | succ n ih => rw [sumN]; exact Int.dvd_add ih (hf n)
      exact this _ _ fun k => Int.dvd_mul_of_dvd_left (ih k)
    · cases i with
      | zero => exact h 0
      | succ i => exact Int.dvd_zero _
theorem pcon_pmov {m : Int} {p : List Int} (np : Nrm p) : pcon (pmov m p) = pcon p := by
  refine Nat.dvd_antisymm (dvd_pcon fun i => ?_) (dvd_pcon fun i => dvd_pmov (pcon_dvd_cf p) i)
  have := dvd_pmov (m := -m) (pcon_dvd_cf (pmov m p)) i
  rw [pmov_back np] at this
  exact this
theorem low_mov {t b : List Int} (m : Int) (L : Low t b) : Low (pmov m t) (pmov m b) := by
  obtain ⟨u, v, n, n0, e⟩ := L.cop
  obtain ⟨l1, l2⟩ := pmov_top m b L.nb L.ne
  refine ⟨nrm_pmov _ _, nrm_pmov _ _, pmov_ne L.nb L.ne, by rw [l1, l2]; exact L.top, by rw [pcon_pmov L.nt, pcon_pmov L.nb]; exact L.con, pmov m u, pmov m v, n, n0, fun x => ?_⟩
  rw [pei_pmov, pei_pmov, pei_pmov, pei_pmov]
  exact e _

theorem itF (r : Rat) : IT 1 (Fr r) := fun d hd => by
  simp only [List.mem_cons, List.not_mem_nil, or_false] at hd
  rcases hd with rfl | rfl <;> trivial
theorem rb_pd {t b : List Int} (B : Rb t b) : PdIn 42 42 t b := by
  have l1 := B.lt
  have l2 := B.lb
  have l3 := List.length_pos_iff.mpr B.lw.ne
  refine ⟨B.lw.nt, B.lw.nb, B.lw.ne, by omega, by omega, B.bt, B.bb, ?_⟩
  unfold xb
  have : (t.length + 1 - b.length) * (42 + 1) ≤ 4 * 43 := Nat.mul_le_mul (by omega) (by decide)
  omega
theorem rb_xb {t b : List Int} (B : Rb t b) : xb 42 42 t.length b.length ≤ 214 := by
  have l1 := B.lt
  have l3 := List.length_pos_iff.mpr B.lw.ne
  unfold xb
  have : (t.length + 1 - b.length) * (42 + 1) ≤ 4 * 43 := Nat.mul_le_mul (by omega) (by decide)
  omega
theorem pd_ri {t b q r : List Int} {m : Int} (B : Rb t b) (D : PdB 42 42 t b m q r) : RI r (pby m b) := by
  have x := rb_xb B
  have m0 : m ≠ 0 := by have := D.pos; omega
  have l1 := D.dv.hl
  have l2 := B.lb
  refine ri_of D.dv.hr (nrm_pby' B.lw.nb) (fun z => B.lw.ne ?_) (D.br.mono (by omega)) ((bd_pby B.bb D.bt).mono (by omega)) (by omega) (by rw [pby_length m0]; omega)
  have := congrArg List.length z
  rw [pby_length m0] at this
  exact List.eq_nil_of_length_eq_zero this

theorem isPl_not' {x : D} (n : ∀ xs, x ≠ .tup xs) : isPl x = false := by
  cases x <;> first | rfl | exact absurd rfl (n _)
theorem unP_P (p : List Int) : unP (P p) = p := by
  show List.filterMap _ (List.map _ p) = p
  rw [List.filterMap_map]
  exact List.filterMap_some ..
theorem PO.ty2 {x : D} (h : PO x) : Ty2 x := by
  rcases h with ⟨p, rfl, _⟩ | ⟨t, _⟩
  · exact ty2_P p
  · exact t
theorem po_P {x : D} (h : PO x) (e : isPl x = true) : ∃ p, x = P p ∧ BdP 610 p ∧ p.length ≤ 13 := by
  rcases h with h | ⟨_, n⟩
  · exact h
  · rw [n] at e; cases e
theorem dI_inj : ∀ {p q : List Int}, dI p = dI q → p = q
  | [], [], _ => rfl
  | [], _ :: _, h => nomatch h
  | _ :: _, [], h => nomatch h
  | a :: p, b :: q, h => by
    obtain ⟨h1, h2⟩ := List.cons.inj h
    rw [D.int.inj h1, dI_inj h2]
theorem isPl_nrm' {p : List Int} (h : isPl (P p) = true) : Nrm p := fun c hc => by
  rw [isPl_dI] at h
  rw [hc] at h
  intro z
  subst z
  cases h
/-- the pair made of two is they themselves exactly if they are a lowest pair -/
theorem low_self {T B t b : List Int} (nB : Nrm B) (ne : B ≠ []) (nT : Nrm T) (L : Low t b) (h : Crs t b T B) : Rt t b = Rt T B ↔ Low T B := by
  constructor
  · intro e
    have e := D.tup.inj e
    have e1 := dI_inj (D.tup.inj (List.cons.inj e).1)
    have e2 := dI_inj (D.tup.inj (List.cons.inj (List.cons.inj e).2).1)
    rw [← e1, ← e2]; exact L
  · intro L'
    obtain ⟨e1, e2⟩ := low_uniq L L' h
    rw [e1, e2]
theorem sok_is_plain_ratio : SpecOk Gm d_is_plain_ratio := by
  rintro ds S R Q ⟨v, rfl, hv, h⟩
  refine ⟨rfl, ?_⟩
  show wpB Gm b_is_plain_ratio _ _ [some v, none] S
  unfold b_is_plain_ratio
  rcases hv with ⟨ht, hn⟩ | ⟨xs, rfl, hl⟩ | ⟨x0, x1, rfl, h0, h1⟩
  · have e : isRt v = false := by cases v <;> first | rfl | exact absurd rfl (hn _)
    rw [e] at h
    obtain ⟨t, ht⟩ := ht
    cases v <;> first | exact absurd rfl (hn _) | cases ht
    all_goals
      walk_at "wpc"
      refine ⟨_, rfl, by decide, ?_⟩
      rw [if_pos (by decide)]
      walk_at "wpc"
      exact rtq h
  · have e : isRt (.tup xs) = false := by
      unfold isRt
      split
      · rename_i e; cases e; exact absurd rfl hl
      · rfl
    rw [e] at h
    walk_at "wpc"
    refine ⟨_, rfl, by decide, ?_⟩
    rw [if_neg (by decide)]
    have c : ¬ ((xs.length : Int) = 2) := by omega
    simp only [c, decide_false, Bool.not_false, if_true]
    walk_at "wpc"
    exact rtq h
  · walk_at "wpc"
    refine ⟨_, rfl, by decide, ?_⟩
    rw [if_neg (by decide)]
    rw [if_neg (by decide)]
    refine compL_map (fun d => .bl (isPl d)) trivial [x0, x1] [] (fun d hd N hN => ?_) ?_
    · walk_at "wpx"
      refine ⟨d, rfl, ?_, hN⟩
      simp only [List.mem_cons, List.not_mem_nil, or_false] at hd
      rcases hd with rfl | rfl
      · exact h0.ty2
      · exact h1.ty2
    refine ⟨[isPl x0, isPl x1], rfl, ?_⟩
    have ea : ([isPl x0, isPl x1].all id) = (isPl x0 && isPl x1) := by simp
    rw [ea]
    have e : isRt (.tup [x0, x1]) = (isPl x0 && isPl x1 && @decide (Low (unP x0) (unP x1)) (Classical.propDecidable _)) := rfl
    rw [e] at h
    cases hall : isPl x0 && isPl x1
    · rw [hall] at h
      simp only [Bool.false_and] at h
      walk_at "wpx"
      walk_at "wpc"
      exact rtq h
    rw [hall, Bool.true_and] at h
    simp only [Bool.and_eq_true] at hall
    obtain ⟨a0, a1⟩ := hall
    obtain ⟨T, rfl, bT, lT⟩ := po_P h0 a0
    obtain ⟨B, rfl, bB, lB⟩ := po_P h1 a1
    rw [unP_P, unP_P] at h
    have nT := isPl_nrm' a0
    have nB := isPl_nrm' a1
    walk_at "wpx"
    rw [wpB]
    walk_at "wpc"
    refine eqD_it (n := 1) (m := 1) (it_t B) (fun _ h => nomatch h) (by decide) (by decide) (fun z => ?_) (fun z => ?_)
    · have e0 : B = [] := dI_nil (D.tup.inj z)
      subst e0
      have f : ¬ Low T [] := fun L => L.ne rfl
      simp only [f, decide_false] at h
      walk_at "wpx"
      exact rtq h
    · have ne : B ≠ [] := fun e => z (by rw [e]; rfl)
      walk_at "wpx"
      refine ⟨T, B, rfl, ⟨nT, nB, ne, bT.mono (by decide), bB.mono (by decide), by omega, by omega⟩, fun t b lw cr => ?_⟩
      have lf := low_self nB ne nT lw cr
      simp only [res_t]
      refine eqD_it (n := 2) (m := 2) (it_rt t b) (it_rt T B) (by decide) (by decide) (fun z => ?_) (fun z => ?_)
      · have L := lf.mp z
        simp only [L, decide_true] at h
        exact rtq h
      · have L : ¬ Low T B := fun q => z (lf.mpr q)
        simp only [L, decide_false] at h
        exact rtq h

theorem fmod_pos {x m : Int} (h : 0 < m) : x.fmod m = x % m := Int.fmod_eq_emod_of_nonneg _ (by omega)
theorem fdiv_pos {x m : Int} (h : 0 < m) : x.fdiv m = x / m := Int.fdiv_eq_ediv_of_nonneg _ (by omega)
theorem sok_value_in : SpecOk Gm d_value_in := by
  rintro ds S R Q ⟨p, x, rfl, hb, hl, hx, h⟩
  refine ⟨rfl, ?_⟩
  show wpB Gm b_value_in _ _ [some (P p), some (.int x), none, none] S
  unfold b_value_in
  walk_at "wpc"
  walk_at "wpc"
  refine ⟨by decide, by decide, ?_⟩
  rw [← List.map_reverse]
  refine forL_ind (fun rest ρ S' => ∃ r s y, rest = dI r ∧ p = r.reverse ++ s ∧ ρ = [some (P p), some (.int x), some (.int (pei s x)), y] ∧ S' = S) ?_ ?_ _ _ _ ⟨p.reverse, [], none, rfl, by simp, rfl, rfl⟩
  · rintro ρ S' ⟨r, s, y, er, e, rfl, rfl⟩
    have hr : r = [] := dI_nil er.symm
    subst hr
    refine ⟨trivial, ?_⟩
    walk_at "wpc"
    rw [List.reverse_nil, List.nil_append] at e
    rw [e] at h
    exact rtq h
  · rintro d rest ρ S' N ⟨r, s, y, er, e, rfl, rfl⟩ hN
    cases r with
    | nil => cases er
    | cons c r =>
      cases er
      refine ⟨trivial, ?_⟩
      have hs : BdP 2000 s := fun y hy => hb y (by rw [e]; exact List.mem_append_right _ hy)
      have hls : s.length ≤ 60 := by have := congrArg List.length e; rw [List.length_append] at this; omega
      have bv := (bd_pei hx hs).mono (show 2000 + s.length * (2000 + 1) ≤ 200000 by omega)
      walk_at "wpc"
      refine ⟨mulOk bv hx (by decide) (by decide), ?_⟩
      try dsimp only
      rw [wpB]
      exact hN _ _ ⟨r, c :: s, _, rfl, by rw [e]; simp, by rw [pei_cons, Int.mul_comm, Int.add_comm], rfl⟩
theorem sok__law_pl_at : SpecOk Gm d__law_pl_at := sok_value_in
theorem sok_by_modulus : SpecOk Gm d_by_modulus := by
  rintro ds S R Q ⟨v, p, m, rfl, hv, hp, hm, q⟩
  refine ⟨rfl, ?_⟩
  show wpB Gm b_by_modulus _ _ [some v, some (.int m), none] S
  unfold b_by_modulus
  have ne : m ≠ 0 := by omega
  rcases hv with rfl | ⟨l, rfl, hl⟩
  · walk_at "wpc"
    refine compL_mapG (α := Int) D.int (fun c => .int (c % m)) trivial p [] (fun c hc N hN => ?_) ?_
    · walk_at "wpx"
      rw [fmod_pos hm]
      exact ⟨ne, hN⟩
    · refine ⟨_, p.map (· % m), rfl, .inr ?_, by rw [List.length_map]; exact hp, rtq q⟩
      rw [List.nil_append, res_l, ← dI_map]
  · walk_at "wpc"
    simp only [seqD_of hl]
    refine compL_mapG (α := Int) D.int (fun c => .int (c % m)) hl p [] (fun c hc N hN => ?_) ?_
    · walk_at "wpx"
      rw [fmod_pos hm]
      exact ⟨ne, hN⟩
    · refine ⟨_, p.map (· % m), rfl, .inr ?_, by rw [List.length_map]; exact hp, rtq q⟩
      rw [List.nil_append, res_l, ← dI_map]
theorem sok_balanced : SpecOk Gm d_balanced := by
  rintro ds S R Q ⟨x, m, rfl, hm, hb, q⟩
  refine ⟨rfl, ?_⟩
  show wpB Gm b_balanced _ _ [some (.int x), some (.int m)] S
  unfold b_balanced
  walk_at "wpc"
  refine ⟨by omega, ?_⟩
  rw [fmod_pos hm]
  walk_at "wpc"
  have h1 := Int.emod_nonneg x (show m ≠ 0 by omega)
  have h2 := Int.emod_lt_of_pos x hm
  have b2 : Bd 2 (2 : Int) := by unfold Bd; decide
  have b1 : Bd 60000000 (x % m) := Nat.lt_of_le_of_lt (by omega) hb
  unfold bal at q
  refine ⟨mulOk b2 b1 (by decide) (by decide), ?_⟩
  by_cases h : m < 2 * (x % m)
  · have h' : 2 * (x % m) > m := h
    rw [if_pos h'] at q
    simp only [h, decide_true, if_true]
    exact rtq q
  · have h' : ¬ 2 * (x % m) > m := h
    rw [if_neg h'] at q
    simp only [h, decide_false, Bool.false_eq_true, if_false]
    exact rtq q
theorem sok_inverse_in : SpecOk Gm d_inverse_in := by
  rintro ds S R Q ⟨n, m, rfl, hm, hb, ⟨A, B, hAB⟩, q⟩
  refine ⟨rfl, ?_⟩
  show wpB Gm b_inverse_in _ _ [some (.int n), some (.int m), none, none, none, none, none] S
  unfold b_inverse_in
  walk_at "wpc"
  refine ⟨by omega, ?_⟩
  rw [fmod_pos (by omega)]
  have h1 := Int.emod_nonneg n (show m ≠ 0 by omega)
  have h2 := Int.emod_lt_of_pos n (show 0 < m by omega)
  have h3 := Int.mul_ediv_add_emod n m
  have h4 : n % m ≠ 0 := fun z => by
    have d : m ∣ 1 := ⟨A * (n / m) + B, by
      rw [z, Int.add_zero] at h3
      rw [← hAB]
      conv => lhs; rw [← h3]
      grind⟩
    have := Int.le_of_dvd (by decide) d
    omega
  try walk_at "wpx"
  walk_at "wpc"
  refine ⟨by decide, fun k ρ S' => ∃ o t l r : Int, ∃ x, k = t.natAbs ∧ ρ = [some (.int n), some (.int m), some (.int o), some (.int t), some (.int l), some (.int r), x] ∧ S' = S ∧ 0 < o ∧ o ≤ m ∧ 0 ≤ t ∧ t ≤ m ∧ m ∣ l * n - o ∧ m ∣ r * n - t ∧
      l.natAbs * t.natAbs + r.natAbs * o.natAbs ≤ m.natAbs ∧ l.natAbs ≤ m.natAbs ∧ r.natAbs ≤ m.natAbs ∧ ∃ a b : Int, a * o + b * t = 1,
    ⟨_, n % m, m, 1, 0, none, rfl, rfl, rfl, by omega, by omega, by omega, by omega, ⟨n / m, by omega⟩, ⟨-1, by omega⟩, by simp, by omega, by omega, A, B + A * (n / m), ?_⟩, ?_⟩
  · have : n % m = n - m * (n / m) := by omega
    rw [this, ← hAB]
    generalize n / m = k
    grind
  rintro k _ _ ⟨o, t, l, r, x, rfl, rfl, rfl, o0, om, t0, tm, d1, d2, hs, bl, br, a, b, hab⟩
  walk_at "wpx"
  by_cases ht : t = 0
  · subst ht
    simp only [decide_true, Bool.not_true, Bool.false_eq_true, if_false]
    walk_at "wpc"
    refine ⟨by omega, ?_⟩
    rw [fmod_pos (by omega)]
    have o1 : o = 1 := by
      rw [Int.mul_zero, Int.add_zero] at hab
      have : o ∣ 1 := ⟨a, by rw [Int.mul_comm]; omega⟩
      have := Int.le_of_dvd (by decide) this
      omega
    refine rtq (q _ (Int.emod_nonneg _ (by omega)) (Int.emod_lt_of_pos _ (by omega)) ?_)
    obtain ⟨e, he⟩ := d1
    have := Int.mul_ediv_add_emod l m
    refine ⟨e - l / m * n, ?_⟩
    have z : l % m = l - m * (l / m) := by omega
    rw [z, Int.sub_mul, Int.mul_sub, ← he, o1]
    grind
  · have tp : 0 < t := by omega
    rw [decide_eq_false ht, Bool.not_false, if_pos rfl]
    walk_at "wpc"
    rw [fdiv_pos tp]
    have g1 := Int.ediv_nonneg (a := o) (b := t) (by omega) (by omega)
    have g2 := Int.mul_ediv_add_emod o t
    have g3 := Int.emod_nonneg o (show t ≠ 0 by omega)
    have g4 := Int.emod_lt_of_pos o tp
    have g5 : o / t ≤ o := Int.ediv_le_self _ (by omega)
    refine ⟨ht, noPy, ?_⟩
    walk_at "wpc"
    have bm : ∀ z : Int, z.natAbs ≤ m.natAbs → Bd 2000000 z := fun z hz => Nat.lt_of_le_of_lt hz hb
    refine ⟨mulOk (bm _ (by omega)) (bm _ (by omega)) (by decide) (by decide), mulOk (bm _ (by omega)) (bm _ br) (by decide) (by decide), ?_⟩
    try dsimp only
    try rw [wpB]
    have e1 : o - o / t * t = o % t := by rw [Int.mul_comm]; omega
    rw [e1]
    obtain ⟨z1, hz1⟩ := d1
    obtain ⟨z2, hz2⟩ := d2
    have na : (l - o / t * r).natAbs ≤ l.natAbs + (o / t).natAbs * r.natAbs := by rw [← Int.natAbs_mul]; omega
    have no : o.natAbs = t.natAbs * (o / t).natAbs + (o % t).natAbs := by
      have : ((t.natAbs * (o / t).natAbs : Nat) : Int) = t * (o / t) := by rw [Int.natCast_mul]; congr 1 <;> omega
      omega
    have s1 := Nat.mul_le_mul_right t.natAbs na
    rw [Nat.add_mul] at s1
    have s2 : r.natAbs * o.natAbs = (o / t).natAbs * r.natAbs * t.natAbs + r.natAbs * (o % t).natAbs := by
      rw [no, Nat.mul_add, Nat.mul_comm (o / t).natAbs, Nat.mul_assoc, Nat.mul_comm (o / t).natAbs]
    have s3 : r.natAbs * (o % t).natAbs + (l - o / t * r).natAbs * t.natAbs ≤ m.natAbs := by omega
    refine ⟨by decide, _, (show (o % t).natAbs < t.natAbs by omega), t, o % t, r, l - o / t * r, _, rfl, rfl, rfl, tp, tm, g3, by omega, ⟨z2, hz2⟩, ⟨z1 - o / t * z2, ?_⟩, s3, br, ?_, b + a * (o / t) - 0, a, ?_⟩
    · have : o % t = o - t * (o / t) := by omega
      rw [this, Int.sub_mul, Int.mul_sub]
      have q1 : m * z1 = l * n - o := hz1.symm
      have q2 : m * (o / t * z2) = o / t * (r * n - t) := by rw [hz2]; grind
      rw [q1, q2]; grind
    · have := Nat.le_mul_of_pos_right (l - o / t * r).natAbs (show 0 < t.natAbs by omega)
      omega
    · rw [← hab]
      have : o % t = o - t * (o / t) := by omega
      rw [this]; grind
theorem sok_with_last_one : SpecOk Gm d_with_last_one := by
  rintro ds S R Q ⟨f, p, rfl, pp, pl, nf, ne, rf, lf, q⟩
  refine ⟨rfl, ?_⟩
  show wpB Gm b_with_last_one _ _ [some (P f), some (.int p)] S
  unfold b_with_last_one
  have p1 := pp.one
  have tp := rf.top nf ne
  have nd : ¬ (p : Int) ∣ cf f (f.length - 1) := fun d => by
    have := Int.le_of_dvd tp.1 d
    omega
  have bp : ∀ z : Int, 0 ≤ z → z ≤ p → Bd 14 z := fun z _ _ => by unfold Bd; omega
  walk_at "wpc"
  rw [top_at ne]
  walk_at "wpx"
  refine ⟨_, _, rfl, by omega, (bp _ (by omega) (by omega)).mono (by decide), pp.bez nd, fun k k0 k1 hk => ?_⟩
  walk_at "wpx"
  have bf : BdP 14 f := fun c hc => by have := rf c hc; exact bp c (by omega) (by omega)
  refine ⟨k, f, rfl, (bp k (by omega) (by omega)).mono (by decide), ⟨bf.mono (by decide), by omega⟩, ?_⟩
  refine ⟨_, pby k f, p, rfl, .inl rfl, by have := pby_len' k f; omega, by omega, ?_⟩
  obtain ⟨l1, c1⟩ := pm_top (p := p) (by omega) ne hk
  obtain ⟨⟨e1, h1⟩, l, e2, h2⟩ := last_cg hk
  refine rtq (q _ k l e1 e2 (nrm_pm _ _) (rd_pm (by omega) _) ⟨fun z => ?_, by rw [l1]; exact c1⟩ l1 h1 h2)
  rw [z] at l1
  exact ne (List.eq_nil_of_length_eq_zero l1.symm)

theorem end1_top {g : List Int} (h : End1 g) : cf g (g.length - 1) = 1 := h.2
theorem sok_parted_by : SpecOk Gm d_parted_by := by
  rintro ds S R Q ⟨p, d, m, rfl, m1, bm, rp, rd, en, lp, ld, h⟩
  refine ⟨rfl, ?_⟩
  obtain ⟨ne, top⟩ := en
  have ld0 : 0 < d.length := List.length_pos_iff.mpr ne
  have mz : m ≠ 0 := by omega
  show wpB Gm b_parted_by _ _ [some (P p), some (P d), some (.int m), none, none, none, none, none, none] S
  unfold b_parted_by
  walk_at "wpc"
  refine ⟨by rw [List.append_nil, dI_len, sizeLine_eq]; omega, fun l hl => ?_⟩
  rw [List.append_nil]
  walk_at "wpc"
  rw [dI_len, dI_len]
  refine ⟨by decide, _, _, rfl, rfl, ?_⟩
  have hN : (if (p.length : Int) - (d.length : Int) + 1 > 0 then (p.length : Int) - (d.length : Int) + 1 else 0) = ((p.length + 1 - d.length : Nat) : Int) := by split <;> omega
  rw [hN]
  refine ⟨by omega, by omega, by rw [sizeLine_eq]; omega, fun f hf => ?_⟩
  have lf : f ≠ l := fun e => by rw [e, sup_same] at hf; cases hf
  have hf0 : S f = none := by rw [← hf, sup_ne lf]
  have er : (List.replicate ((p.length + 1 - d.length : Nat) : Int).toNat [D.int 0]).flatten = dI (List.replicate (p.length + 1 - d.length) 0) := by rw [rep0]; congr 2
  rw [er]
  walk_at "wpc"
  rw [dI_len, dI_len]
  refine ⟨_, _, _, _, rfl, rfl, rfl, L2.RgC.neg (by omega) (by omega) (by decide) (by decide), by rw [sizeLine_eq]; omega, ?_⟩
  rw [range_dn' ld0]
  generalize hNN : p.length + 1 - d.length = N at *
  have lN : N ≤ p.length := by omega
  have rd0 : ∀ {L : List Int}, Rd m L → ∀ i, 0 ≤ cf L i ∧ cf L i < m := fun {L} h i => by
    by_cases l : i < L.length
    · rw [cf_lt l]; exact h _ (List.getElem_mem _)
    · rw [cf_ge (by omega)]; omega
  have bdm : ∀ z : Int, 0 ≤ z → z < m → Bd 20000000 z := fun z _ _ => Nat.lt_of_le_of_lt (by omega) bm
  refine forL_ind (fun rest ρ S' => ∃ k L F x5 x6 x7 x8, rest = dn k ∧ k ≤ N ∧ ρ = [some (P p), some (P d), some (.int m), some (.ref l), some (.ref f), x5, x6, x7, x8] ∧ S' l = some (.lst (dI L)) ∧ S' f = some (.lst (dI F)) ∧ Sub S S' ∧
      Rd m L ∧ Rd m F ∧ L.length = p.length ∧ F.length = N ∧ (∀ i, k + d.length - 1 ≤ i → cf L i = 0) ∧ (∀ i, i < k → cf F i = 0) ∧ ∃ e, ∀ n, pei p n = pei F n * pei d n + pei L n + m * pei e n) ?_ ?_ _ _ _
      ⟨N, p, List.replicate N 0, _, _, _, _, rfl, Nat.le_refl _, rfl, ?_, sup_same, ?_, rp, ?_, rfl, by simp, ?_, fun i _ => ?_, [], ?_⟩
  rotate_left 2
  · rw [sup_ne (fun e => lf e.symm), sup_same]
  · exact (sub_sup hl).trans (sub_sup hf)
  · intro c hc; rw [(List.mem_replicate.mp hc).2]; omega
  · intro i hi; exact cf_ge (by omega)
  · exact cf_rep0 N i
  · intro n; rw [pei_zero n _ (cf_rep0 N), pei_nil]; omega
  · rintro ρ S' ⟨k, L, F, x5, x6, x7, x8, hk, hkN, rfl, hL, hF, sb, rL, rF, l1, l2, hz, hfz, e, he⟩
    have k0 : k = 0 := by cases k with | zero => rfl | succ k => cases hk
    subst k0
    refine ⟨trivial, ?_⟩
    walk_at "wpc"
    refine ⟨_, F, m, rfl, .inr ⟨f, rfl, hF⟩, by omega, by omega, _, L, m, rfl, .inr ⟨l, rfl, hL⟩, by omega, by omega, by decide, S, sb, ?_⟩
    have lr := trim_len_cf (L := L.map (· % m)) (n := d.length - 1) fun i hi => by
      rw [cf_map (· % m) (by simp), hz i (by omega)]; simp
    refine h _ _ (padd e (padd (rmul (F.map (· / m)) d) (L.map (· / m)))) (nrm_pm _ _) (nrm_pm _ _) (rd_pm (by omega) _) (rd_pm (by omega) _) (by show (trim _).length < _; omega) fun n => ?_
    rw [he n, pei_pm m F n, pei_pm m L n, pei_padd, pei_padd, pei_rmul]
    grind
  · rintro dd rest ρ S' N' ⟨k, L, F, x5, x6, x7, x8, hk, hkN, rfl, hL, hF, sb, rL, rF, l1, l2, hz, hfz, e, he⟩ hN'
    cases k with
    | zero => cases hk
    | succ k =>
    obtain ⟨rfl, rfl⟩ := List.cons.inj hk
    refine ⟨trivial, ?_⟩
    walk_at "wpc"
    simp only [res_of hL]
    have eij : (k : Int) + ((dI d).length : Int) - 1 = ((k + d.length - 1 : Nat) : Int) := by rw [dI_len]; omega
    rw [eij, dI_at (by omega)]
    walk_at "wpx"
    refine ⟨mz, ?_⟩
    rw [fmod_pos (by omega)]
    walk_at "wpc"
    obtain ⟨t1, t2⟩ := rd0 rL (k + d.length - 1)
    rw [Int.emod_eq_of_lt t1 t2]
    generalize hla : cf L (k + d.length - 1) = la at *
    refine ⟨_, _, _, k, rfl, rfl, hF, ix_nat (by rw [dI_len]; omega), ?_⟩
    rw [dI_set]
    have n1 : l ≠ f := fun e => lf e.symm
    have cF : ∀ n, cf (F.set k la) n = if n = k then la else cf F n := fun n => cf_set (by omega)
    have lF : (F.set k la).length = N := by rw [List.length_set]; exact l2
    have rF2 : Rd m (F.set k la) := fun c hc => by
      rcases List.mem_or_eq_of_mem_set hc with z | z
      · exact rF c z
      · rw [z]; exact ⟨t1, t2⟩
    have pF : ∀ n, pei (F.set k la) n = pei F n + pei (mono k la) n := fun n => by
      rw [← pei_padd]
      refine pei_ext n _ _ fun i => ?_
      rw [cF, cf_padd, cf_mono]
      by_cases e : i = k
      · rw [if_pos e, if_pos e, e, hfz k (by omega)]; omega
      · rw [if_neg e, if_neg e]; omega
    have zF : ∀ i, i < k → cf (F.set k la) i = 0 := fun i hi => by rw [cF, if_neg (by omega)]; exact hfz i (by omega)
    generalize F.set k la = F2 at *
    walk_at "wpc"
    have hL1 : sup S' f (.lst (dI F2)) l = some (.lst (dI L)) := by rw [sup_ne n1]; exact hL
    refine forL_ind (fun rest ρ S2 => ∃ i L2 x7 x8, i ≤ d.length ∧ rest = enumD i (dI (d.drop i)) ∧ ρ = [some (P p), some (P d), some (.int m), some (.ref l), some (.ref f), some (.int k), some (.int la), x7, x8] ∧ S2 l = some (.lst (dI L2)) ∧ S2 f = some (.lst (dI F2)) ∧ Sub S S2 ∧
      L2.length = p.length ∧ Rd m L2 ∧ ∀ n, cf L2 n = if k ≤ n ∧ n - k < i then (cf L n - la * cf d (n - k)) % m else cf L n) ?_ ?_ _ _ _ ⟨0, L, _, _, Nat.zero_le _, rfl, rfl, hL1, sup_same, sub_set hf0 sb, l1, rL, fun n => by rw [if_neg (by omega)]⟩
    · rintro ρ S2 ⟨i, L2, x7, x8, hi, er, rfl, h1, h2, h3, h4, rL2, h5⟩
      have hi2 : i = d.length := by
        cases hd : d.drop i with
        | nil => have := List.drop_eq_nil_iff.mp hd; omega
        | cons c l => rw [hd] at er; cases er
      subst hi2
      refine ⟨trivial, ?_⟩
      try dsimp only
      try rw [wpB]
      obtain ⟨e2, he2⟩ := cg_of (m := m) (p := padd L (pby (-1) (pmul (mono k la) d))) (q := L2) fun n => by
        rw [cf_padd, cf_pby, cf_pmul, conv_mono, h5]
        by_cases e : k ≤ n
        · by_cases e2 : n - k < d.length
          · rw [if_pos e, if_pos ⟨e, e2⟩]
            have z : cf L n + -1 * (la * cf d (n - k)) = cf L n - la * cf d (n - k) := by omega
            rw [z]
            exact ⟨(cf L n - la * cf d (n - k)) / m, by have := Int.mul_ediv_add_emod (cf L n - la * cf d (n - k)) m; omega⟩
          · rw [if_pos e, if_neg (fun z => e2 z.2), cf_ge (p := d) (by omega)]
            exact ⟨0, by omega⟩
        · rw [if_neg e, if_neg (fun z => e z.1)]
          exact ⟨0, by omega⟩
      refine hN' _ _ ⟨k, L2, F2, _, _, _, _, rfl, by omega, rfl, h1, h2, h3, rL2, rF2, h4, lF, fun i hi => ?_, zF, padd e e2, fun n => ?_⟩
      · rw [h5]
        by_cases e : i = k + d.length - 1
        · subst e
          rw [if_pos (by omega), hla]
          have : k + d.length - 1 - k = d.length - 1 := by omega
          rw [this, top, Int.mul_one, Int.sub_self]; simp
        · rw [hz i (by omega), if_neg (by omega)]
      · have := he2 n
        rw [pei_padd, pei_pby, pei_pmul] at this
        rw [he n, pF, pei_padd]
        grind
    · rintro dd rest ρ S2 N2 ⟨i, L2, x7, x8, hi, er, rfl, h1, h2, h3, h4, rL2, h5⟩ hN2
      cases hd : d.drop i with
      | nil => rw [hd] at er; cases er
      | cons c l' =>
        have hi2 : i < d.length := by
          have := congrArg List.length hd
          rw [List.length_drop, List.length_cons] at this
          omega
        rw [drop_cf hi2] at hd
        obtain ⟨rfl, rfl⟩ := List.cons.inj hd
        rw [drop_cf hi2] at er
        cases er
        refine ⟨trivial, ?_⟩
        have eki : (k : Int) + (i : Int) = ((k + i : Nat) : Int) := by omega
        walk_at "wpx"
        walk_at "wpc"
        simp only [res_of h1]
        rw [eki, dI_at (by omega)]
        walk_at "wpx"
        obtain ⟨u1, u2⟩ := rd0 rd i
        have ba : Bd 20000000 la := bdm la t1 t2
        refine ⟨mulOk ba (bdm _ u1 u2) (by decide) (by decide), mz, l, dI L2, _, k + i, rfl, rfl, h1, ix_nat (by rw [dI_len]; omega), ?_⟩
        rw [fmod_pos (by omega), dI_set]
        try dsimp only
        try rw [wpB]
        have c2 : cf L2 (k + i) = cf L (k + i) := by rw [h5, if_neg (by omega)]
        refine hN2 _ _ ⟨i + 1, _, _, _, by omega, rfl, rfl, sup_same, by rw [sup_ne lf]; exact h2, sub_set hl h3, by rw [List.length_set]; exact h4, fun c hc => ?_, fun n => ?_⟩
        · rcases List.mem_or_eq_of_mem_set hc with z | z
          · exact rL2 c z
          · rw [z]; exact ⟨Int.emod_nonneg _ mz, Int.emod_lt_of_pos _ (by omega)⟩
        · rw [cf_set (by omega), c2]
          by_cases e : n = k + i
          · subst e
            rw [if_pos rfl, if_pos (by omega), show k + i - k = i by omega]
          · rw [if_neg e, h5]
            by_cases q : k ≤ n ∧ n - k < i
            · rw [if_pos q, if_pos (by omega)]
            · rw [if_neg q, if_neg (by omega)]

theorem compL_filt {α : Type} {bd : D → DL.Env → Sto → (DL.Env → Sto → Prop) → Prop} {tw : DL.Env → Sto → (Bool → Sto → Prop) → Prop} {ew : DL.Env → Sto → QD → Prop} {B : List D → Prop} {C : Sto → Prop} {Q : List D → Sto → Prop} {ρ : DL.Env} {S : Sto} (g f : α → D) (t : α → Bool) (hC : C S) :
    ∀ (l : List α) (acc : List D), (∀ l' : List D, l'.length ≤ acc.length + l.length → B l') → (∀ a ∈ l, ∀ (N1 : QD) (N2 : Sto → Prop), (t a = true → N1 (f a) S) → (t a = false → N2 S) → bd (g a) ρ S fun ρ' S1 => tw ρ' S1 fun b S2 => if b = true then ew ρ' S2 N1 else N2 S2) →
      Q (acc ++ (l.filter t).map f) S → compL bd tw ew B C Q ρ (l.map g) S acc := fun l acc hB h q =>
  compL_ind (fun rest S' acc' => S' = S ∧ ∃ m, rest = m.map g ∧ (∀ a ∈ m, a ∈ l) ∧ acc' ++ (m.filter t).map f = acc ++ (l.filter t).map f ∧ acc'.length + m.length ≤ acc.length + l.length) (fun S' acc' ⟨e1, m, e2, _, e3, _⟩ => by
      subst e1
      have : m = [] := List.map_eq_nil_iff.mp e2.symm
      subst this
      simp only [List.filter_nil, List.map_nil, List.append_nil] at e3
      subst e3
      exact ⟨hC, q⟩)
    (fun d rest S' acc' N ⟨e1, m, e2, e4, e3, e5⟩ hN => by
      subst e1
      cases m with
      | nil => cases e2
      | cons a m =>
        rw [List.map_cons] at e2
        obtain ⟨rfl, rfl⟩ := List.cons.inj e2
        rw [List.length_cons] at e5
        refine ⟨hC, h a (e4 a List.mem_cons_self) _ (fun S2 => N S2 acc') (fun ta => ⟨hB _ (by omega), hN _ _ ⟨rfl, m, rfl, fun x hx => e4 x (List.mem_cons_of_mem _ hx), ?_, by rw [List.length_append, List.length_singleton]; omega⟩⟩) (fun ta => hN _ _ ⟨rfl, m, rfl, fun x hx => e4 x (List.mem_cons_of_mem _ hx), ?_, by omega⟩)⟩
        · rw [← e3, List.filter_cons, if_pos ta, List.map_cons, List.append_assoc]; rfl
        · rw [← e3, List.filter_cons, if_neg (by rw [ta]; decide)]) _ _ _ ⟨rfl, l, rfl, fun _ h => h, rfl, Nat.le_refl _⟩
theorem sok_common_modulo : SpecOk Gm d_common_modulo := by
  rintro ds S R Q ⟨f, g, p, rfl, pp, pl, nf, ng, fne, rf, rg, lf, lg, q⟩
  refine ⟨rfl, ?_⟩
  show wpB Gm b_common_modulo _ _ [some (P f), some (P g), some (.int p)] S
  unfold b_common_modulo
  have p1 := pp.one
  have bp : Bd 20000000 (p : Int) := Nat.lt_trans (show (p : Int).natAbs < 2 ^ 14 by omega) (Nat.pow_lt_pow_right (by decide) (by decide))
  walk_at "wpc"
  refine ⟨fun k ρ S' => ∃ x y, k = y.length ∧ ρ = [some (P x), some (P y), some (.int p)] ∧ S' = S ∧ Nrm x ∧ Nrm y ∧ x ≠ [] ∧ Rd p x ∧ Rd p y ∧ x.length ≤ 20 ∧ y.length ≤ 20 ∧ Com p f g x y, ⟨_, f, g, rfl, rfl, rfl, nf, ng, fne, rf, rg, lf, lg, .start _ _ _⟩, ?_⟩
  rintro k _ _ ⟨x, y, rfl, rfl, rfl, nx, ny, xne, rx, ry, lx, ly, H⟩
  walk_at "wpx"
  refine eqD_it (n := 1) (m := 1) (it_t y) (fun _ h => nomatch h) (by decide) (by decide) (fun z => ?_) (fun z => ?_)
  · have e : y = [] := dI_nil (D.tup.inj z)
    subst e
    walk_at "wpx"
    walk_at "wpc"
    exact rtq (q x nx xne rx H)
  · have e : ¬ y = [] := fun e => z (by rw [e]; rfl)
    walk_at "wpx"
    walk_at "wpc"
    refine ⟨y, p, rfl, pp, pl, ny, e, ry, ly, fun w k l e1 e2 nw rw_ ew lw h1 h2 => ?_⟩
    walk_at "wpc"
    refine ⟨x, w, p, rfl, by omega, bp, rx, rw_, ew, lx, by omega, fun qq r er nq nr rq rr lr he => ?_⟩
    walk_at "wpx"
    try dsimp only
    try rw [wpB]
    exact ⟨_, by omega, w, r, rfl, rfl, rfl, nw, nr, ew.1, rw_, rr, by omega, by omega, (H.trans (.led h1 h2)).trans (.part he)⟩
theorem sok_next_prime : SpecOk Gm d_next_prime := by
  rintro ds S R Q ⟨n, rfl, n2, ⟨p0, pp, pn, pl⟩, q⟩
  refine ⟨rfl, ?_⟩
  show wpB Gm b_next_prime _ _ [some (.int n), none, none] S
  unfold b_next_prime
  walk_at "wpc"
  walk_at "wpc"
  refine ⟨fun k ρ S' => ∃ m : Nat, k = p0 - m ∧ ρ = [some (.int n), some (.int m), none] ∧ S' = S ∧ n < m ∧ m ≤ p0 ∧ ∀ p, Pri p → n < p → m ≤ p, ⟨_, n + 1, rfl, rfl, rfl, by omega, by omega, fun p _ h => h⟩, ?_⟩
  rintro k _ _ ⟨m, rfl, rfl, rfl, hm, hm0, hl⟩
  walk_at "wpx"
  refine ⟨_, _, rfl, rfl, ⟨by omega, by omega, by omega, by omega⟩, by omega, ?_⟩
  have er : rangeD 2 1 ((m : Int) - 2).toNat = (List.range (m - 2)).map fun i : Nat => D.int (2 + (i : Int) * 1) := by
    unfold rangeD
    rw [show ((m : Int) - 2).toNat = m - 2 by omega]
  rw [er]
  refine compL_filt _ (fun i : Nat => D.bl (decide ((m : Int).fmod (2 + (i : Int) * 1) = 0))) (fun i : Nat => decide ((2 + (i : Int) * 1) * (2 + (i : Int) * 1) ≤ m)) trivial _ _ (fun _ _ => trivial) (fun i hi N1 N2 h1 h2 => ?_) ?_
  · rw [List.mem_range] at hi
    have bi : Bd 14 (2 + (i : Int) * 1) := by unfold Bd; omega
    walk_at "wpx"
    refine ⟨mulOk bi bi (by decide) (by decide), ?_⟩
    by_cases h : (2 + (i : Int) * 1) * (2 + (i : Int) * 1) ≤ m
    · rw [decide_eq_true h, if_pos rfl]
      exact ⟨by omega, h1 (decide_eq_true h)⟩
    · rw [decide_eq_false h, if_neg Bool.false_ne_true]
      exact h2 (decide_eq_false h)
  · rw [List.nil_append]
    refine ⟨((List.range (m - 2)).filter fun i : Nat => decide ((2 + (i : Int) * 1) * (2 + (i : Int) * 1) ≤ m)).map fun i : Nat => decide ((m : Int).fmod (2 + (i : Int) * 1) = 0), by rw [List.map_map]; rfl, ?_⟩
    have key : ∀ i : Nat, (2 + (i : Int) * 1) * (2 + (i : Int) * 1) = (((2 + i) * (2 + i) : Nat) : Int) := fun i => by rw [Int.mul_one, Int.natCast_mul, Int.natCast_add]; rfl
    have keym : ∀ i : Nat, (m : Int).fmod (2 + (i : Int) * 1) = ((m % (2 + i) : Nat) : Int) := fun i => by
      rw [fmod_pos (by omega), Int.natCast_emod, Int.natCast_add, Int.mul_one]; rfl
    by_cases h : Pri m
    · have e : (((List.range (m - 2)).filter fun i : Nat => decide ((2 + (i : Int) * 1) * (2 + (i : Int) * 1) ≤ m)).map fun i : Nat => decide ((m : Int).fmod (2 + (i : Int) * 1) = 0)).any id = false := by
        rw [List.any_eq_false]
        intro b hb
        obtain ⟨i, hi, rfl⟩ := List.mem_map.mp hb
        obtain ⟨hi, _⟩ := List.mem_filter.mp hi
        rw [List.mem_range] at hi
        rw [keym]
        simp only [id, decide_eq_true_eq]
        intro z
        have d : (2 + i) ∣ m := Nat.dvd_of_mod_eq_zero (by omega)
        have := h.min _ (by omega) d
        omega
      rw [e]
      simp only [Bool.false_eq_true, if_false]
      walk_at "wpc"
      exact rtq (q m h hm hl)
    · have e : (((List.range (m - 2)).filter fun i : Nat => decide ((2 + (i : Int) * 1) * (2 + (i : Int) * 1) ≤ m)).map fun i : Nat => decide ((m : Int).fmod (2 + (i : Int) * 1) = 0)).any id = true := by
        have : ∃ a b : Nat, 1 < a ∧ a ≤ b ∧ a * b = m := Classical.byContradiction fun no => h ⟨by omega, fun e he ⟨f, hf⟩ => Classical.byContradiction fun ne => by
          have f1 : 1 < f := by
            rcases f with _ | _ | f
            · simp at hf; omega
            · simp at hf; omega
            · omega
          rcases Nat.le_total e f with z | z
          · exact no ⟨e, f, he, z, hf.symm⟩
          · exact no ⟨f, e, f1, z, by rw [Nat.mul_comm]; exact hf.symm⟩⟩
        obtain ⟨a, b, a1, ab, e⟩ := this
        have l1 : a * a ≤ m := by rw [← e]; exact Nat.mul_le_mul_left a ab
        have l2 : a < m := by
          have := Nat.mul_le_mul_left a (show 2 ≤ b by omega)
          omega
        refine List.any_eq_true.mpr ⟨true, List.mem_map.mpr ⟨a - 2, List.mem_filter.mpr ⟨List.mem_range.mpr (by omega), ?_⟩, ?_⟩, rfl⟩
        · rw [key, show 2 + (a - 2) = a by omega]
          exact decide_eq_true (by exact_mod_cast l1)
        · rw [keym, show 2 + (a - 2) = a by omega]
          exact decide_eq_true (by rw [← e, Nat.mul_mod_right]; rfl)
      rw [e]
      simp only [if_true]
      walk_at "wpc"
      try dsimp only
      try rw [wpB]
      have nm : m ≠ p0 := fun z => h (z ▸ pp)
      exact ⟨_, by omega, m + 1, rfl, rfl, rfl, by omega, by omega, fun p hp hnp => by
        have := hl p hp hnp
        have : m ≠ p := fun z => h (z ▸ hp)
        omega⟩
theorem pder_add (p q : List Int) (x : Int) : pei (pder (padd p q)) x = pei (pder p) x + pei (pder q) x := by
  rw [← pei_padd]
  exact pei_ext x _ _ fun i => by rw [cf_pder, cf_padd, cf_padd, cf_pder, cf_pder]; grind
theorem pder_pm (m : Int) (f : List Int) (x : Int) : pei (pder f) x = pei (pm m (pder (pm m f))) x + m * (pei ((pder (pm m f)).map (· / m)) x + pei (pder (f.map (· / m))) x) := by
  have a := pder_congr (p := f) (q := padd (pm m f) (pby m (f.map (· / m)))) (fun x => by rw [pei_padd, pei_pby, ← pei_pm]) x
  rw [pder_add, pder_by] at a
  have b := pei_pm m (pder (pm m f)) x
  grind
theorem pder_length (f : List Int) : (pder f).length = f.length - 1 := by unfold pder; rw [List.length_map, List.length_range]
theorem rd_bd {p : Nat} {f : List Int} (hp : p < 9216) (h : Rd p f) : BdP 14 f := fun c hc => by have := h c hc; unfold Bd; omega
theorem sok_good_prime : SpecOk Gm d_good_prime := by
  rintro ds S R Q ⟨f, rfl, sf, q⟩
  refine ⟨rfl, ?_⟩
  show wpB Gm b_good_prime _ _ [some (P f), none, none] S
  unfold b_good_prime
  have l2 := sf.l2
  have l5 := sf.l5
  have fne : f ≠ [] := fun z => by rw [z] at l2; simp at l2
  -- a prime that is good
  have ex : ∃ p0 : Nat, Pri p0 ∧ p0 < 9216 ∧ ¬ (p0 : Int) ∣ cf f (f.length - 1) ∧ ∃ (u v : List Int) (c : Int), ¬ (p0 : Int) ∣ c ∧ ∀ x, pei u x * pei f x + pei v x * pei (pder f) x = c := by
    have ld : (pder f).length = f.length - 1 := by unfold pder; rw [List.length_map, List.length_range]
    have dne : pder f ≠ [] := fun z => by rw [z] at ld; simp at ld; omega
    obtain ⟨u, v, c, hc, bc, hb⟩ := bez_bd _ f (pder f) 133 (Nat.lt_succ_self _) (by omega) sf.n (nrm_pder sf.n) dne (sf.b.mono (by decide)) (bd_pder (l := 3) sf.b (by omega)) sf.z
    have tb : Bd 130 (cf f (f.length - 1)) := sf.b.cf _
    have t0 := nrm_top sf.n fne
    have l3 : 3 ^ (f.length - 1) ≤ 3 ^ 4 := Nat.pow_le_pow_right (by decide) (by omega)
    have l4 : (133 + 1) * 3 ^ (f.length - 1) ≤ 10854 := Nat.mul_le_mul_left 134 l3
    have bN : Bd 10984 (cf f (f.length - 1) * c) := (tb.mul bc).mono (by omega)
    obtain ⟨p0, h1, h2, h3⟩ := prime_not (Int.mul_ne_zero t0 hc) (bN.mono (by decide))
    exact ⟨p0, h1, h2, fun d => h3 (Int.dvd_mul_of_dvd_left d), u, v, c, fun d => h3 (Int.dvd_mul_of_dvd_right d), hb⟩
  obtain ⟨p0, pp0, pl0, nl0, u0, v0, c0, nc0, hb0⟩ := ex
  have len0 : (pm (p0 : Int) f).length = f.length := by
    have a := pm_len p0 f
    refine Nat.le_antisymm a (Nat.le_of_not_lt fun z => nl0 ?_)
    have := cf_pm p0 f (f.length - 1)
    rw [cf_ge (by omega)] at this
    exact Int.dvd_of_emod_eq_zero this.symm
  walk_at "wpc"
  walk_at "wpc"
  refine ⟨fun μ ρ S' => ∃ (k : Nat) (r : Option D), μ = p0 - k ∧ ρ = [some (P f), some (.int k), r] ∧ S' = S ∧ Pri k ∧ k ≤ p0, ⟨_, 2, none, rfl, rfl, rfl, isP_pri (by decide) (by decide), pp0.one⟩, ?_⟩
  rintro μ _ S1 ⟨k, r, rfl, rfl, rfl, pk, kl⟩
  have k1 := pk.one
  walk_at "wpx"
  walk_at "wpc"
  refine ⟨_, f, k, rfl, .inl rfl, by omega, by omega, ?_⟩
  have r1 := rd_pm (m := (k : Int)) (by omega) f
  have b1 := rd_bd (by omega) r1
  have n1 := nrm_pm k f
  have l1 := pm_len k f
  have e1 := pei_pm k f
  have e2 := pder_pm k f
  have ne1 : pm (k : Int) f ≠ [] → (pm (k : Int) f).length ≤ 5 := fun _ => by omega
  generalize hf1 : pm (k : Int) f = f1 at *
  walk_at "wpc"
  rw [dI_len, dI_len]
  -- the next prime
  have nxt : k ≠ p0 → ∀ (Q' : QD) (R' : XD), (∀ r : Nat, Pri r → k < r → r ≤ p0 → Q' (.int r) S1) → sp_next_prime [.int k] S1 R' Q' := fun hk Q' R' h => ⟨k, rfl, by omega, ⟨p0, pp0, by omega, pl0⟩, fun r hr h1 h2 => h r hr h1 (h2 p0 pp0 (by omega))⟩
  by_cases hl : f1.length = f.length
  · have hl' : (f1.length : Int) = (f.length : Int) := by omega
    simp only [hl', decide_true, if_true]
    walk_at "wpc"
    have f1ne : f1 ≠ [] := fun z => by rw [z] at hl; simp at hl; omega
    refine ⟨f1, rfl, ⟨b1.mono (by decide), by omega⟩, ?_⟩
    have ld := pder_length f1
    refine ⟨_, pder f1, k, rfl, .inl rfl, by omega, by omega, ?_⟩
    have lg := pm_len (k : Int) (pder f1)
    refine ⟨f1, _, k, rfl, pk, by omega, n1, nrm_pm _ _, f1ne, r1, rd_pm (by omega) _, by omega, by omega, fun h nh hne rh H => ?_⟩
    walk_at "wpx"
    rw [dI_len]
    by_cases h1 : h.length = 1
    · have h1' : (h.length : Int) = 1 := by omega
      simp only [h1', decide_true, if_true]
      walk_at "wpc"
      refine rtq (q k ⟨pk, by omega, ?_⟩)
      obtain ⟨c, rfl⟩ := List.length_eq_one_iff.mp h1
      have hc := rh c (by simp)
      have c0 := nh c rfl
      obtain ⟨a, b, e, he⟩ := H.c3
      refine ⟨a, b, c, fun d => ?_, fun x => ?_⟩
      · have := Int.le_of_dvd (by omega) d; omega
      · have := he x
        have u1 := e1 x
        have u2 := e2 x
        rw [pei_cons, pei_nil] at this
        refine ⟨pei e x - pei a x * pei (f.map (· / (k : Int))) x - pei b x * (pei ((pder f1).map (· / (k : Int))) x + pei (pder (f.map (· / (k : Int)))) x), ?_⟩
        rw [u1, u2]
        grind
    · have h1' : ¬ (h.length : Int) = 1 := by omega
      simp only [h1', decide_false, Bool.false_eq_true, if_false]
      have kne : k ≠ p0 := fun z => by
        subst z
        obtain ⟨a, b, e, he⟩ := H.c1
        obtain ⟨a2, b2, e3, he2⟩ := H.c2
        have := len_one pk (z := padd (rmul u0 a) (rmul v0 a2)) (e := padd (rmul u0 (padd e (f.map (· / (k : Int))))) (rmul v0 (padd e3 (padd ((pder f1).map (· / (k : Int))) (pder (f.map (· / (k : Int)))))))) nh rh nc0 fun x => by
          rw [← hb0 x, e1 x, e2 x, he x, he2 x, pei_nil]
          simp only [pei_padd, pei_rmul]
          grind
        have := List.length_pos_iff.mpr hne
        omega
      rw [wpB]
      try dsimp only
      rw [wpB]
      walk_at "wpc"
      refine nxt kne _ _ fun r hr g1 g2 => ?_
      try dsimp only
      try rw [wpB]
      exact ⟨_, by omega, r, _, rfl, rfl, rfl, hr, g2⟩
  · have hl' : ¬ (f1.length : Int) = (f.length : Int) := by omega
    simp only [hl', decide_false, Bool.false_eq_true, if_false]
    have kne : k ≠ p0 := fun z => hl (by rw [← hf1, z]; exact len0)
    rw [wpB]
    walk_at "wpc"
    refine nxt kne _ _ fun r hr g1 g2 => ?_
    try dsimp only
    try rw [wpB]
    exact ⟨_, by omega, r, _, rfl, rfl, rfl, hr, g2⟩

theorem sok_led_up : SpecOk Gm d_led_up := by
  rintro ds S R Q ⟨f, a, p, B, rfl, sf, ⟨pp, pl, u, v, c, nc, hc⟩, a0, ap, da, B0, bB, q⟩
  refine ⟨rfl, ?_⟩
  show wpB Gm b_led_up _ _ [some (P f), some (.int a), some (.int p), some (.int B), none, none] S
  unfold b_led_up
  have p1 := pp.one
  have l5 := sf.l5
  have ld := pder_len f
  have bd : BdP 133 (pder f) := bd_pder (l := 3) sf.b (by omega)
  walk_at "wpc"
  refine ⟨f, rfl, ⟨sf.b.mono (by decide), by omega⟩, ?_⟩
  walk_at "wpx"
  walk_at "wpc"
  have b2 : Bd 2 (2 : Int) := by unfold Bd; decide
  refine ⟨fun μ ρ S' => ∃ x M : Int, μ = (2 * B + 2 - M).toNat ∧ ρ = [some (P f), some (.int x), some (.int p), some (.int B), some (P (pder f)), some (.int M)] ∧ S' = S ∧ 2 ≤ M ∧ Bd 280 M ∧ 0 ≤ x ∧ x < M ∧ (p : Int) ∣ x - a ∧ (p : Int) ∣ M ∧
      (∀ y : Int, ¬ (p : Int) ∣ y → ∃ s t : Int, s * y + t * M = 1) ∧ ∀ z : Int, pei f z = 0 → (p : Int) ∣ z - a → M ∣ z - x,
    ⟨_, a, p, rfl, rfl, rfl, by omega, ?_, a0, ap, ⟨0, by omega⟩, Int.dvd_refl _, fun y hy => pp.bez hy, fun z _ h => h⟩, ?_⟩
  · unfold Bd
    exact Nat.lt_trans (show (p : Int).natAbs < 2 ^ 14 by omega) (by decide)
  rintro μ _ S1 ⟨x, M, rfl, rfl, rfl, M2, bM, x0, xM, dx, dM, bz, hz⟩
  walk_at "wpx"
  refine ⟨mulOk b2 bB (by decide) (by decide), ?_⟩
  by_cases hM : M ≤ 2 * B + 1
  · simp only [hM, decide_true, if_true]
    walk_at "wpc"
    refine ⟨mulOk bM bM (by decide) (by decide), ?_⟩
    walk_at "wpc"
    have bx : Bd 280 x := Nat.lt_of_le_of_lt (show x.natAbs ≤ M.natAbs by omega) bM
    refine ⟨f, x, rfl, sf.b.mono (by decide), by omega, bx.mono (by decide), ?_⟩
    refine ⟨pder f, x, rfl, bd.mono (by decide), by omega, bx.mono (by decide), ?_⟩
    -- the slope's value has nothing in common with the prime
    have dfx : (p : Int) ∣ pei f x := by
      have := Int.dvd_add (pei_mod f dx) da
      rwa [Int.sub_add_cancel] at this
    have ny : ¬ (p : Int) ∣ pei (pder f) x := fun d => nc (by
      have h1 := hc x
      have h2 : (p : Int) ∣ pei u x * pei f x + pei v x * pei (pder f) x := Int.dvd_add (Int.dvd_mul_of_dvd_right dfx) (Int.dvd_mul_of_dvd_right d)
      have := Int.dvd_add h1 h2
      rwa [Int.sub_add_cancel] at this)
    have M0 : 2 * M ≤ M * M := Int.mul_le_mul_of_nonneg_right M2 (by omega)
    have bM2 : Bd 270 (M * M) := by
      have h1 : Bd 135 M := by
        unfold Bd at *
        have : (2 : Nat) ^ 135 = 8 * 2 ^ 132 := by decide
        omega
      exact h1.mul h1
    refine ⟨_, _, rfl, by omega, bM2.mono (by decide), bez_sq (bz _ ny), fun r r0 rM hr => ?_⟩
    walk_at "wpx"
    have bv := (bd_pei bx sf.b).mono (show 130 + f.length * (280 + 1) ≤ 2000 by omega)
    have br : Bd 270 r := Nat.lt_of_le_of_lt (show r.natAbs ≤ (M * M).natAbs by omega) bM2
    refine ⟨mulOk bv br (by decide) (by decide), by omega, ?_⟩
    rw [fmod_pos (by omega)]
    try dsimp only
    try rw [wpB]
    have M3 : M * M ≠ 0 := by omega
    have ed := Int.mul_ediv_add_emod (x - pei f x * r) (M * M)
    have dp : (p : Int) ∣ M * M := Int.dvd_mul_of_dvd_left dM
    refine ⟨_, ?_, (x - pei f x * r) % (M * M), M * M, rfl, rfl, rfl, by omega, bM2.mono (by decide), Int.emod_nonneg _ M3, Int.emod_lt_of_pos _ (by omega), ?_, dp, fun y hy => bez_sq (bz y hy), fun z h1 h2 => ?_⟩
    · omega
    · have e : (x - pei f x * r) % (M * M) - a = (x - a) - (pei f x * r + M * M * ((x - pei f x * r) / (M * M))) := by omega
      rw [e]
      exact Int.dvd_sub dx (Int.dvd_add (Int.dvd_mul_of_dvd_left dfx) (Int.dvd_mul_of_dvd_left dp))
    · have h3 := hensel h1 (hz z h1 h2) hr
      have e : z - (x - pei f x * r) % (M * M) = (z - (x - pei f x * r)) + M * M * ((x - pei f x * r) / (M * M)) := by omega
      rw [e]
      exact Int.dvd_add h3 (Int.dvd_mul_right _ _)
  · simp only [hM, decide_false, Bool.false_eq_true, if_false]
    walk_at "wpc"
    refine ⟨x, M, rfl, by omega, bM.mono (by decide), ?_⟩
    refine rtq (q _ ?_ ?_ fun z h1 h2 h3 => bal_eq (by omega) (hz z h1 h2) (by omega))
    · have h1 := Int.dvd_trans dM (bal_dvd x M)
      have := Int.dvd_add h1 dx
      have e : bal x M - x + (x - a) = bal x M - a := by omega
      rwa [e] at this
    · exact Nat.lt_trans (Nat.lt_trans (bal_lt (by omega)) bM) (by decide)
theorem plow_over {q : List Int} {g : Int} (nq : Nrm q) (hg : g ≠ 0) (h : ∀ i, g ∣ cf q i) : plow (q.map fun c => c.fdiv g) = plow q := by
  obtain ⟨e, n⟩ := over_pm hg nq h
  have : plow (pby g (q.map fun c => c.fdiv g)) = plow (q.map fun c => c.fdiv g) := plow_pby hg n
  rw [e] at this
  exact this.symm
theorem sok_lowest_over : SpecOk Gm d_lowest_over := by
  rintro ds S R Q ⟨p, d, a, b, rfl, I, h⟩
  refine ⟨rfl, ?_⟩
  have hx := I.xb
  show wpB Gm b_lowest_over _ _ [some (P p), some (P d)] S
  unfold b_lowest_over
  walk_at "wpc"
  refine ⟨p, d, a, b, rfl, I, fun t q r B => ?_⟩
  have g0 := lp_gcd B.pos q
  have gd : ∀ i, (Int.gcd t (pcon q) : Int) ∣ cf q i := fun i => Int.dvd_trans (Int.gcd_dvd_right ..) (pcon_dvd_cf q i)
  obtain ⟨eo, no⟩ := over_pm g0 B.dv.hq gd
  have pl := plow_over B.dv.hq g0 gd
  have bq : BdP 60000000 (q.map fun c => c.fdiv (Int.gcd t (pcon q) : Int)) := bdp_cf fun i => by
    have e := congrArg (fun l => cf l i) eo
    simp only [cf_pby] at e
    have bi := B.bq.cf i
    rw [← e] at bi
    have : Bd (xb a b p.length d.length) (cf (q.map fun c => c.fdiv (Int.gcd t (pcon q) : Int)) i) := Nat.lt_of_le_of_lt (by
      rw [Int.natAbs_mul]
      exact Nat.le_mul_of_pos_left _ (by omega)) bi
    exact this.mono (by omega)
  unfold lpD
  walk_at "wpx"
  have lq := B.lq
  have lp := I.lp
  refine ⟨_, rfl, no, ⟨bq, by rw [List.length_map]; omega⟩, ?_⟩
  rw [pl]
  exact rtq (h t q r B)
theorem gOk_5 : ∀ m, m ≤ 5 → ∀ l, l ≤ 5 → gOk (l + 1) m 80 l 80 = true := by decide +kernel
theorem sok_slim_in : SpecOk Gm d_slim_in := by
  rintro ds S R Q ⟨f, rfl, nf, l2, l5, bf, h⟩
  refine ⟨rfl, ?_⟩
  show wpB Gm b_slim_in _ _ [some (P f)] S
  unfold b_slim_in
  have ld := pder_len f
  have bd : BdP 73 (pder f) := bd_pder (l := 3) bf (by omega)
  obtain ⟨s, w, G, bg, lg, sne, bs, s2, s5, hr, hz⟩ := slim_main (L := 5) (k := 4) nf l2 l5 (by decide) bf
  walk_at "wpc"
  refine ⟨f, rfl, ⟨bf.mono (by decide), by omega⟩, ?_⟩
  refine ⟨f, pder f, 80, 80, rfl, nf, nrm_pder nf, ⟨bf.mono (by decide), by omega⟩, ⟨bd.mono (by decide), by omega⟩, bf.mono (by decide), bd.mono (by decide), gOk_5 _ l5 _ (by omega), ?_⟩
  refine ⟨f, _, 70, 130, rfl, ⟨nf, G.ng, G.ge, by omega, by omega, bf, bg.mono (by decide), ?_⟩, fun t q r B => ?_⟩
  · unfold xb
    have : (f.length + 1 - (pgcd (plow f) (plow (pder f))).length) * (130 + 1) ≤ 6 * 131 := Nat.mul_le_mul (by omega) (by decide)
    omega
  · have D : Pdv f (pgcd (plow f) (plow (pder f))) 1 s [] := ⟨by decide, G.n1, nrm_nil, List.length_pos_iff.mpr G.ge, fun n => by rw [pei_nil, G.e1]; omega⟩
    have u := (Pdv.uniq G.ng B.dv D).1
    have e : plow q = plow s := plow_of_mul (t := t) (by have := B.pos; omega) B.dv.hq G.n1 fun x => by
      have := congrArg (fun l => pei l x) u
      simp only [pei_pby] at this
      omega
    rw [e]
    exact rtq (h _ ⟨nrm_plow G.n1, s2, by omega, bs.mono (by decide), hz⟩ hr)

/-- a root by a prime led up -/
def LedR (f : List Int) (p : Nat) (B : Int) (x : Int × Int) : Prop := (p : Int) ∣ x.2 - x.1 ∧ Bd 400 x.2 ∧ ∀ z : Int, pei f z = 0 → (p : Int) ∣ z - x.1 → (z.natAbs : Int) ≤ B → x.2 = z
theorem sok_integer_roots : SpecOk Gm d_integer_roots := by
  rintro ds S R Q ⟨g, rfl, ng, gne, l5, bg, h⟩
  refine ⟨rfl, ?_⟩
  show wpB Gm b_integer_roots _ _ [some (P g), none, none, none, none, none, none] S
  unfold b_integer_roots
  have l1 := List.length_pos_iff.mpr gne
  walk_at "wpc"
  refine ⟨g, rfl, by omega, ?_⟩
  walk_at "wpx"
  by_cases hd : g.length = 1
  · have c1 : (g.length : Int) - 1 < 1 := by omega
    simp only [c1, decide_true, if_true]
    walk_at "wpc"
    refine ⟨by decide, rtq (h [] List.Pairwise.nil fun z => ?_)⟩
    obtain ⟨c, rfl⟩ := List.length_eq_one_iff.mp hd
    have := ng c rfl
    constructor
    · intro z; cases z
    · intro z
      rw [pei_cons, pei_nil] at z
      omega
  have c1 : ¬ (g.length : Int) - 1 < 1 := by omega
  simp only [c1, decide_false, Bool.false_eq_true, if_false]
  rw [wpB]
  walk_at "wpc"
  refine ⟨g, rfl, ng, by omega, l5, bg, fun f sf hr => ?_⟩
  have f2 := sf.l2
  have f5 := sf.l5
  walk_at "wpc"
  refine compL_mapG (α := Int) D.int (fun c => .int (if c < 0 then -c else c)) trivial f [] (fun c hc N hN => ?_) ?_
  · walk_at "wpx"
    exact hN
  refine ⟨f.map fun c => if c < 0 then -c else c, by rw [List.nil_append, List.map_map]; rfl, by rw [List.length_map]; omega, fun M hM hmax => ?_⟩
  obtain ⟨cM, hcM, rfl⟩ := List.mem_map.mp hM
  have bM : Bd 132 (1 + if cM < 0 then -cM else cM) := by
    have := sf.b cM hcM
    unfold Bd at *
    have e : (2 : Nat) ^ 132 = 4 * 2 ^ 130 := by decide
    split <;> omega
  have hle : ∀ c ∈ f, c.natAbs ≤ (1 + if cM < 0 then -cM else cM).natAbs := fun c hc => by
    have := hmax _ (List.mem_map_of_mem hc)
    split at this <;> (split at this <;> (split <;> omega))
  have B0 : 0 ≤ (1 + if cM < 0 then -cM else cM) := by split <;> omega
  generalize (1 + if cM < 0 then -cM else cM) = B at *
  refine ⟨f, rfl, sf, fun p gp => ?_⟩
  have pp := gp.1
  have pl := gp.2.1
  have p1 := pp.one
  walk_at "wpc"
  refine ⟨by decide, _, rfl, by omega, by omega, ?_⟩
  have er : rangeD 0 1 ((p : Int)).toNat = (List.range p).map fun i : Nat => D.int (i : Int) := by
    unfold rangeD
    rw [Int.toNat_natCast]
    exact List.map_congr_left fun i _ => by rw [Int.mul_one, Int.zero_add]
  rw [er]
  have bp : ∀ z : Int, 0 ≤ z → z < p → Bd 2000 z := fun z h1 h2 => by
    unfold Bd
    exact Nat.lt_trans (show z.natAbs < 2 ^ 14 by omega) (Nat.pow_lt_pow_right (by decide) (by decide))
  refine compL_filt _ (fun i : Nat => D.int (i : Int)) (fun i : Nat => decide (pei f (i : Int) % p = 0)) trivial _ _ (fun _ _ => trivial) (fun i hi N1 N2 h1 h2 => ?_) ?_
  · rw [List.mem_range] at hi
    walk_at "wpx"
    refine ⟨f, _, rfl, sf.b.mono (by decide), by omega, bp _ (by omega) (by omega), ?_⟩
    try walk_at "wpx"
    refine ⟨by omega, ?_⟩
    rw [fmod_pos (by omega)]
    by_cases hz : pei f (i : Int) % p = 0
    · rw [decide_eq_true hz, if_pos rfl]
      exact h1 (decide_eq_true hz)
    · rw [decide_eq_false hz, if_neg Bool.false_ne_true]
      exact h2 (decide_eq_false hz)
  rw [List.nil_append]
  have hrs : ∀ i ∈ (List.range p).filter (fun i : Nat => decide (pei f (i : Int) % p = 0)), i < p ∧ (p : Int) ∣ pei f (i : Int) := fun i hi => by
    obtain ⟨a, b⟩ := List.mem_filter.mp hi
    exact ⟨List.mem_range.mp a, Int.dvd_of_emod_eq_zero (of_decide_eq_true b)⟩
  have hrn : ((List.range p).filter (fun i : Nat => decide (pei f (i : Int) % p = 0))).Nodup := List.nodup_range.filter _
  have hrm : ∀ z : Int, pei f z = 0 → ∃ i ∈ (List.range p).filter (fun i : Nat => decide (pei f (i : Int) % p = 0)), (p : Int) ∣ z - i := fun z hz => by
    have m1 := Int.emod_nonneg z (show (p : Int) ≠ 0 by omega)
    have m2 := Int.emod_lt_of_pos z (show (0 : Int) < p by omega)
    have m3 := Int.mul_ediv_add_emod z p
    have d : (p : Int) ∣ z - (z % p).toNat := ⟨z / p, by omega⟩
    refine ⟨(z % p).toNat, List.mem_filter.mpr ⟨List.mem_range.mpr (by omega), decide_eq_true ?_⟩, d⟩
    have := pei_mod f d
    rw [hz] at this
    have := Int.dvd_neg.mpr this
    have e : -(0 - pei f ((z % p).toNat : Int)) = pei f ((z % p).toNat : Int) := by omega
    rw [e] at this
    exact Int.emod_eq_zero_of_dvd this
  generalize (List.range p).filter (fun i : Nat => decide (pei f (i : Int) % p = 0)) = rs at *
  walk_at "wpc"
  refine compL_ind (fun rest S' acc => S' = S ∧ ∃ (m : List Nat) (ps : List (Int × Int)), rest = m.map (fun i : Nat => D.int (i : Int)) ∧ ps.map (·.1) ++ m.map (fun i : Nat => (i : Int)) = rs.map (fun i : Nat => (i : Int)) ∧ (∀ i ∈ m, i ∈ rs) ∧ acc = dI (ps.map (·.2)) ∧ ∀ x ∈ ps, LedR f p B x) ?_ ?_ _ _ _ ⟨rfl, rs, [], rfl, rfl, fun _ h => h, rfl, fun _ h => nomatch h⟩
  · rintro S' acc ⟨rfl, m, ps, e1, e2, _, rfl, hl⟩
    have : m = [] := List.map_eq_nil_iff.mp e1.symm
    subst this
    rw [List.map_nil, List.append_nil] at e2
    refine ⟨trivial, ?_⟩
    walk_at "wpc"
    refine compL_filt (α := Int) (C := fun _ => True) D.int D.int (fun z => decide (pei f z = 0)) trivial (ps.map (·.2)) [] (fun _ _ => trivial) (fun z hz N1 N2 h1 h2 => ?_) ?_
    · obtain ⟨x, hx, rfl⟩ := List.mem_map.mp hz
      walk_at "wpx"
      refine ⟨f, _, rfl, sf.b.mono (by decide), by omega, (hl x hx).2.1.mono (by decide), ?_⟩
      try walk_at "wpx"
      by_cases hz : pei f x.2 = 0
      · rw [decide_eq_true hz, if_pos rfl]
        exact h1 (decide_eq_true hz)
      · rw [decide_eq_false hz, if_neg Bool.false_ne_true]
        exact h2 (decide_eq_false hz)
    rw [List.nil_append]
    refine ⟨_, rfl, fun ms hp hs => ?_⟩
    -- no result twice
    have nd : (ps.map (·.2)).Nodup := by
      have n1 : (ps.map (·.1)).Nodup := by
        rw [e2]
        exact List.Pairwise.map _ (fun a b h q => h (by omega)) hrn
      have n2 : ps.Pairwise fun x y => x.1 ≠ y.1 := (List.pairwise_map.mp n1)
      refine List.pairwise_map.mpr (List.Pairwise.imp_of_mem (fun {x y} hx hy hxy q => ?_) n2)
      have b1 : ∀ x ∈ ps, 0 ≤ x.1 ∧ x.1 < p := fun x hx => by
        have : x.1 ∈ rs.map (fun i : Nat => (i : Int)) := by rw [← e2]; exact List.mem_map_of_mem hx
        obtain ⟨i, hi, e⟩ := List.mem_map.mp this
        have := (hrs i hi).1
        omega
      have d1 := (hl x hx).1
      have d2 := (hl y hy).1
      have := Int.dvd_sub d2 d1
      rw [q] at this
      have e : y.2 - y.1 - (y.2 - x.1) = x.1 - y.1 := by omega
      rw [e] at this
      have := b1 x hx
      have := b1 y hy
      obtain ⟨k, hk⟩ := ‹(p : Int) ∣ x.1 - y.1›
      have k0 : k = 0 := by
        rcases Int.lt_trichotomy k 0 with z | z | z
        · have := Int.mul_le_mul_of_nonneg_left (show k ≤ -1 by omega) (show (0 : Int) ≤ p by omega)
          omega
        · exact z
        · have := Int.mul_le_mul_of_nonneg_left (show 1 ≤ k by omega) (show (0 : Int) ≤ p by omega)
          omega
      rw [k0, Int.mul_zero] at hk
      exact hxy (by omega)
    have nm : ms.Nodup := hp.nodup_iff.mpr (nd.filter _)
    have lt : ms.Pairwise (· < ·) := by
      have := hs.and nm
      exact this.imp fun {a b} h => by have := h.1; have := h.2; omega
    refine rtq (h ms lt fun z => ?_)
    rw [hp.mem_iff, List.mem_filter, decide_eq_true_eq, hr]
    constructor
    · exact fun a => a.2
    · intro hz
      have hz' := (hr z).mpr hz
      refine ⟨?_, hz⟩
      obtain ⟨i, hi, di⟩ := hrm z hz'
      have : (i : Int) ∈ ps.map (·.1) := by rw [e2]; exact List.mem_map_of_mem hi
      obtain ⟨x, hx, ex⟩ := List.mem_map.mp this
      have zb : (z.natAbs : Int) ≤ B := by
        have := root_le (B := B.natAbs) (pei_ne sf.n (fun q => by rw [q] at f2; simp at f2)) hle hz'
        omega
      have := (hl x hx).2.2 z hz' (by rw [ex]; exact di) zb
      exact List.mem_map.mpr ⟨x, hx, this⟩
  · rintro d rest S' acc N ⟨rfl, m, ps, e1, e2, hm, rfl, hl⟩ hN
    cases m with
    | nil => cases e1
    | cons i m =>
      rw [List.map_cons] at e1
      obtain ⟨rfl, rfl⟩ := List.cons.inj e1
      refine ⟨trivial, ?_⟩
      obtain ⟨hi, di⟩ := hrs i (hm i List.mem_cons_self)
      walk_at "wpx"
      refine ⟨f, i, p, B, rfl, sf, gp, by omega, by omega, di, B0, bM, fun r h1 h2 h3 => ?_⟩
      refine hN _ _ ⟨rfl, m, ps ++ [((i : Int), r)], rfl, ?_, fun j hj => hm j (List.mem_cons_of_mem _ hj), ?_, fun x hx => ?_⟩
      · rw [← e2, List.map_append, List.map_cons, List.append_assoc]; rfl
      · rw [List.map_append]
        show dI _ ++ _ = List.map _ (_ ++ _)
        rw [List.map_append]; rfl
      · rcases List.mem_append.mp hx with z | z
        · exact hl x z
        · rw [List.mem_singleton.mp z]; exact ⟨h1, h2, h3⟩
theorem sok_root_places : SpecOk Gm d_root_places := by
  rintro ds S R Q ⟨g, rfl, ng, gne, l5, bg, h⟩
  refine ⟨rfl, ?_⟩
  show wpB Gm b_root_places _ _ [some (P g), none] S
  unfold b_root_places
  walk_at "wpc"
  refine ⟨g, rfl, ng, gne, l5, bg, fun rs hs hr => ?_⟩
  walk_at "wpx"
  refine compL_filt (α := Int) (C := fun _ => True) D.int D.int (fun z => decide (0 ≤ z)) trivial rs [] (fun _ _ => trivial) (fun z hz N1 N2 h1 h2 => ?_) ?_
  · walk_at "wpx"
    by_cases hz : 0 ≤ z
    · rw [decide_eq_true hz, if_pos rfl]
      exact h1 (decide_eq_true hz)
    · rw [decide_eq_false hz, if_neg Bool.false_ne_true]
      exact h2 (decide_eq_false hz)
  · rw [List.nil_append]
    exact rtq (h _ (hs.filter _) fun z => by rw [List.mem_filter, hr, decide_eq_true_eq]; exact ⟨fun a => ⟨a.2, a.1⟩, fun a => ⟨a.2, a.1⟩⟩)

theorem new_endT {S : Sto} {p q : Addr} {a b : DO} (hp : S p = none) (hq : S q = none) : sdel (sdel (sup (sup S q a) p b) p) q = S := by
  funext x
  unfold sdel sup
  by_cases h1 : x = q
  · rw [if_pos h1, h1, hq]
  · rw [if_neg h1]
    by_cases h2 : x = p
    · rw [if_pos h2, h2, hp]
    · rw [if_neg h2, if_neg h2, if_neg h1]
theorem sok_KnownRatio_init : SpecOk Gm d_KnownRatio_init := by
  rintro ds S R Q ⟨p, q, v, rfl, hp, hq, h⟩
  refine ⟨rfl, ?_⟩
  show wpB Gm b_KnownRatio_init _ _ [some (.ref p), some v] S
  unfold b_KnownRatio_init
  walk_at "wpc"
  refine ⟨p, q, [none], rfl, hp, hq, by decide, ?_⟩
  rw [wpB]
  exact rtq h
theorem fr_num {r : Rat} (h : r ≠ 0) : r.num ≠ 0 := fun e => h (by rw [← Rat.num_divInt_den r, e, Rat.zero_divInt])
theorem sok_is_factor : SpecOk Gm d_is_factor := by
  rintro ds S R Q ⟨r, rfl, hr, h⟩
  refine ⟨rfl, ?_⟩
  show wpB Gm b_is_factor _ _ [some (Fr r)] S
  unfold b_is_factor
  walk_at "wpc"
  refine ⟨r, rfl, ?_⟩
  try walk_at "wpx"
  rw [decide_eq_false (fr_num hr)]
  exact rtq h
theorem sok_require_factor : SpecOk Gm d_require_factor := by
  rintro ds S R Q ⟨r, rfl, hr, h⟩
  refine ⟨rfl, ?_⟩
  show wpB Gm b_require_factor _ _ [some (Fr r)] S
  unfold b_require_factor
  walk_at "wpc"
  refine ⟨r, rfl, hr, ?_⟩
  try walk_at "wpx"
  rw [wpB]
  try dsimp only
  rw [wpB]
  exact rtq h
theorem no_roots {p : List Int} {rs : List Int} (h : NoRt p) (hr : ∀ z, z ∈ rs ↔ 0 ≤ z ∧ pei p z = 0) : rs = [] := by
  cases rs with
  | nil => rfl
  | cons z rs =>
    obtain ⟨z0, hz⟩ := (hr z).mp List.mem_cons_self
    have := h z.toNat
    rw [Int.toNat_of_nonneg z0] at this
    exact absurd hz this
theorem sok_is_rootless : SpecOk Gm d_is_rootless := by
  rintro ds S R Q ⟨t, b, rfl, I, h⟩
  refine ⟨rfl, ?_⟩
  show wpB Gm b_is_rootless _ _ [some (Rt t b)] S
  unfold b_is_rootless
  walk_at "wpc"
  refine eqD_it (n := 1) (m := 1) (it_t t) (fun _ h => nomatch h) (by decide) (by decide) (fun z => absurd (dI_nil (D.tup.inj z)) I.t0) (fun z => ?_)
  try walk_at "wpx"
  refine ⟨t, rfl, I.lw.nt, I.t0, I.lt, I.bt, fun rs _ hr => ?_⟩
  rw [no_roots I.nt hr]
  refine ⟨by decide, ?_⟩
  refine eqD_same (n := 1) (x := .lst []) (fun _ h => nomatch h) (by decide) ?_
  try walk_at "wpx"
  refine ⟨b, rfl, I.lw.nb, I.lw.ne, I.lb, I.bb, fun rs _ hr => ?_⟩
  rw [no_roots I.nb hr]
  refine ⟨by decide, ?_⟩
  refine eqD_same (n := 1) (x := .lst []) (fun _ h => nomatch h) (by decide) ?_
  try walk_at "wpx"
  exact rtq h
open Classical in
theorem isRt_low {t b : List Int} (h : Low t b) : isRt (Rt t b) = true := by
  show (isPl (P t) && isPl (P b) && decide (Low (unP (P t)) (unP (P b)))) = true
  rw [unP_P, unP_P, isPl_nrm h.nt, isPl_nrm h.nb, decide_eq_true h]
  rfl
theorem sok_is_passed_ratio : SpecOk Gm d_is_passed_ratio := by
  rintro ds S R Q ⟨t, b, rfl, I, h⟩
  refine ⟨rfl, ?_⟩
  show wpB Gm b_is_passed_ratio _ _ [some (Rt t b), none] S
  unfold b_is_passed_ratio
  have l1 := I.lt
  have l2 := I.lb
  walk_at "wpc"
  refine ⟨_, rfl, .inr (.inr ⟨_, _, rfl, .inl ⟨t, rfl, I.bt.mono (by decide), by omega⟩, .inl ⟨b, rfl, I.bb.mono (by decide), by omega⟩⟩), ?_⟩
  rw [isRt_low I.lw]
  walk_at "wpx"
  refine compL_mapG (α := List Int) (fun q => P q) (fun q => .bl true) trivial [t, b] [] (fun q hq N hN => ?_) ?_
  · walk_at "wpx"
    have : q.length ≤ 13 := by
      rcases List.mem_cons.mp hq with rfl | hq
      · omega
      · rw [List.mem_singleton.mp hq]; omega
    rw [dI_len, decide_eq_true (show (q.length : Int) ≤ 13 by omega)]
    exact hN
  · refine ⟨[true, true], rfl, ?_⟩
    try walk_at "wpx"
    rw [wpB]
    walk_at "wpc"
    exact ⟨t, b, rfl, I, rtq h⟩
theorem term_st {S : Sto} {p q : Addr} {x y : D} (hp : S p = some (.obj "Term" q [none, none])) (hq : S q = some .dx) : sup S p (.obj "Term" q [some x, none]) q = some .dx := by
  rw [sup_ne (fun e => by rw [e, hp] at hq; cases hq)]; exact hq
theorem sok_Term_init : SpecOk Gm d_Term_init := by
  rintro ds S R Q ⟨p, q, x, v, rfl, hp, hq, h⟩
  refine ⟨rfl, ?_⟩
  show wpB Gm b_Term_init _ _ [some (.ref p), some x, some v] S
  unfold b_Term_init
  walk_at "wpc"
  rcases h with ⟨t, b, e, h⟩ | ⟨f, t, b, e1, hf, e2, I, h⟩
  · subst e
    walk_at "wpx"
    refine ⟨rfl, ?_⟩
    walk_at "wpx"
    refine ⟨by decide, p, q, [none, none], rfl, hp, hq, by decide, ?_⟩
    refine ⟨p, q, _, rfl, sup_same, term_st (y := x) hp hq, Nat.lt_add_one 1, ?_⟩
    rw [wpB]
    try dsimp only
    rw [wpB, sup_sup]
    exact rtq h
  · subst e1 e2
    walk_at "wpx"
    refine ⟨_, rfl, ?_⟩
    walk_at "wpc"
    refine ⟨f, rfl, hf, ?_⟩
    walk_at "wpx"
    refine ⟨t, b, rfl, I, ?_⟩
    walk_at "wpx"
    rw [wpB]
    walk_at "wpc"
    refine ⟨by decide, p, q, [none, none], rfl, hp, hq, by decide, ?_⟩
    refine ⟨p, q, _, rfl, sup_same, term_st (y := Fr f) hp hq, Nat.lt_add_one 1, ?_⟩
    rw [wpB]
    try dsimp only
    rw [wpB, sup_sup]
    exact rtq h
theorem new_term {S : Sto} {R : XD} {Q : QD} {x v : D} {y : D} (h : ∀ (p q : Addr) (S' : Sto) (Q' : QD), S' p = some (.obj "Term" q [none, none]) → S' q = some .dx → Q' .non (sup S' p (.obj "Term" q [some x, some y])) → sp_Term_init [.ref p, x, v] S' R Q') (k : Q (.obj "Term" [x, y]) S) :
    ∀ p q, S p = none → S q = none → q ≠ p → sp_Term_init [.ref p, x, v] (sup (sup S q .dx) p (.obj "Term" q [none, none])) R fun v S2 => v = .non ∧ ∃ fs, S2 p = some (.obj "Term" q (fs.map some)) ∧ S2 q = some .dx ∧ Q (.obj "Term" fs) (sdel (sdel S2 p) q) := fun p q hp hq ne => by
  refine h p q _ _ sup_same (by rw [sup_ne ne, sup_same]) ⟨rfl, [x, y], sup_same, by rw [sup_ne ne, sup_ne ne, sup_same], ?_⟩
  rw [sup_sup, new_endT hp hq]
  exact k
theorem sok_made_term : SpecOk Gm d_made_term := by
  rintro ds S R Q ⟨f, t, b, rfl, h⟩
  refine ⟨rfl, ?_⟩
  show wpB Gm b_made_term _ _ [some (Fr f), some (Rt t b)] S
  unfold b_made_term
  walk_at "wpc"
  intro p q hp hq ne
  refine ⟨p, q, _, rfl, sup_same, (by rw [sup_ne ne, sup_same]), rfl, [Rt t b], sup_same, (by rw [sup_ne ne, sup_ne ne, sup_same]), ?_⟩
  rw [sup_sup, new_endT hp hq]
  exact new_term (fun p q S' Q' h1 h2 h3 => ⟨p, q, _, _, rfl, h1, h2, .inl ⟨t, b, rfl, h3⟩⟩) (rtq h)
theorem sok_Term_first : SpecOk Gm d_Term_first := by
  rintro ds S R Q ⟨f, t, b, rfl, h⟩
  refine ⟨rfl, ?_⟩
  show wpB Gm b_Term_first _ _ [some (Tm f t b)] S
  unfold b_Term_first
  walk_at "wpc"
  exact rtq h
theorem sok_Term_ratio : SpecOk Gm d_Term_ratio := by
  rintro ds S R Q ⟨f, t, b, rfl, h⟩
  refine ⟨rfl, ?_⟩
  show wpB Gm b_Term_ratio _ _ [some (Tm f t b)] S
  unfold b_Term_ratio
  walk_at "wpc"
  exact rtq h
theorem sok_require_term : SpecOk Gm d_require_term := by
  rintro ds S R Q ⟨f, t, b, rfl, h⟩
  refine ⟨rfl, ?_⟩
  show wpB Gm b_require_term _ _ [some (Tm f t b)] S
  unfold b_require_term
  walk_at "wpc"
  rw [if_neg (by decide)]
  rw [wpB]
  try dsimp only
  rw [wpB]
  exact rtq h
theorem sok_require_place : SpecOk Gm d_require_place := by
  rintro ds S R Q ⟨n, rfl, hn, h⟩
  refine ⟨rfl, ?_⟩
  show wpB Gm b_require_place _ _ [some (.int n)] S
  unfold b_require_place
  walk_at "wpc"
  refine ⟨_, rfl, ⟨_, rfl⟩, ?_⟩
  walk_at "wpx"
  rw [decide_eq_true (show (0 : Int) ≤ n by omega)]
  try walk_at "wpx"
  rw [decide_eq_true (show (n : Int) ≤ 2000 by omega)]
  try walk_at "wpx"
  rw [wpB]
  try dsimp only
  rw [wpB]
  exact rtq h

theorem sok_broken_times : SpecOk Gm d_broken_times := by
  rintro ds S R Q ⟨r, s, rfl, hr, hs, q⟩
  refine ⟨rfl, ?_⟩
  show wpB Gm b_broken_times _ _ [some (.tup [.int r.num, .int (r.den : Int)]), some (.tup [.int s.num, .int (s.den : Int)])] S
  unfold b_broken_times
  walk_at "wpc"
  refine ⟨mulOk hr.1 hs.1 (by decide) (by decide), mulOk hr.2 hs.2 (by decide) (by decide), _, _, rfl, ?_, ?_, ?_⟩
  · exact Int.mul_ne_zero (Int.natCast_ne_zero.mpr r.den_nz) (Int.natCast_ne_zero.mpr s.den_nz)
  · exact (Bd.mul hr.2 hs.2).mono (by decide)
  · have e : Rat.divInt (r.num * s.num) (r.den * s.den) = r * s := by
      rw [← Rat.divInt_mul_divInt, Rat.num_divInt_den, Rat.num_divInt_den]
    rw [e]
    exact rtq q
theorem bd_place {n : Nat} (h : n ≤ 100000) : Bd 20 (n : Int) := by unfold Bd; omega
theorem bd_at {p : List Int} {n : Nat} (h : BdP 2000 p) (l : p.length ≤ 60) (hn : n ≤ 100000) : Bd 60000000 (pei p n) := (bd_pei (bd_place hn) h).mono (show 2000 + p.length * (20 + 1) ≤ 60000000 by omega)
theorem sok_value_of : SpecOk Gm d_value_of := by
  rintro ds S R Q ⟨t, b, n, rfl, bt, bb, lt, lb, hn, nz, h⟩
  refine ⟨rfl, ?_⟩
  show wpB Gm b_value_of _ _ [some (Rt t b), some (.int n)] S
  unfold b_value_of
  walk_at "wpc"
  refine ⟨t, n, rfl, bt, lt, (bd_place hn).mono (by decide), b, n, rfl, bb, lb, (bd_place hn).mono (by decide), ?_⟩
  exact ⟨_, _, rfl, nz, bd_at bb lb hn, rtq h⟩
theorem sok__law_rt_at : SpecOk Gm d__law_rt_at := by
  rintro ds S R Q ⟨t, b, n, rfl, bt, bb, lt, lb, hn, nz, h⟩
  refine ⟨rfl, ?_⟩
  show wpB Gm b__law_rt_at _ _ [some (Rt t b), some (.int n), none] S
  unfold b__law_rt_at
  walk_at "wpc"
  refine ⟨b, n, rfl, bb, lb, (bd_place hn).mono (by decide), ?_⟩
  walk_at "wpc"
  rw [decide_eq_false nz]
  simp only [Bool.not_false, if_true]
  refine ⟨t, n, rfl, bt, lt, (bd_place hn).mono (by decide), ?_⟩
  exact ⟨_, _, rfl, nz, bd_at bb lb hn, rtq h⟩
/-- k, k + 1, .. -/
def upD (k : Nat) : Nat → List D
  | 0 => []
  | j + 1 => .int k :: upD (k + 1) j
theorem range_up : ∀ (k j : Nat), rangeD (k : Int) 1 j = upD k j
  | k, 0 => rfl
  | k, j + 1 => by
    rw [upD, ← range_up (k + 1) j]
    unfold rangeD
    rw [List.range_succ_eq_map, List.map_cons, List.map_map]
    congr 1
    refine List.map_congr_left fun i _ => ?_
    show D.int _ = D.int _
    congr 1
    show (k : Int) + ((i + 1 : Nat) : Int) * 1 = _
    omega
theorem tmL_succ (f : Rat) (t b : List Int) (n m : Nat) : tmL f t b n (m + 1) = tmL f t b n m ++ [Fr (tmN f t b (n + m))] := by
  unfold tmL
  rw [List.range_succ, List.map_append]; rfl
theorem tmL_len (f : Rat) (t b : List Int) (n m : Nat) : (tmL f t b n m).length = m := by
  rw [List.length_map, List.length_range]
theorem sdel_sup {S : Sto} {l : Addr} {o : DO} (h : S l = none) : sdel (sup S l o) l = S := by
  funext x
  unfold sdel sup
  by_cases e : x = l
  · rw [if_pos e, e, h]
  · rw [if_neg e, if_neg e]
theorem sok_numbers_of : SpecOk Gm d_numbers_of := by
  rintro ds S R Q ⟨f, t, b, n, m, rfl, hnm, N, h⟩
  refine ⟨rfl, ?_⟩
  show wpB Gm b_numbers_of _ _ [some (Tm f t b), some (.int n), some (.int m), none, none, none] S
  unfold b_numbers_of
  walk_at "wpc"
  simp only [List.getElem?_cons_zero, List.getElem?_cons_succ]
  refine ⟨by decide, fun l hl => ?_⟩
  walk_at "wpc"
  refine ⟨_, rfl, by omega, by omega, ?_⟩
  have e0 : rangeD 0 1 ((n : Int) + (m : Int)).toNat = upD 0 (n + m) := by
    rw [show ((n : Int) + (m : Int)).toNat = n + m by omega]
    exact range_up 0 (n + m)
  rw [e0]
  refine forL_ind (fun rest ρ S' => ∃ k j x, rest = upD k j ∧ k + j = n + m ∧ ρ = [some (Tm f t b), some (.int n), some (.int m), some (Fr (tmN f t b k)), some (.ref l), x] ∧ S' = sup S l (.lst (tmL f t b n (k - n)))) ?_ ?_ _ _ _ ⟨0, n + m, _, rfl, by omega, rfl, by rw [Nat.zero_sub]; rfl⟩
  · rintro ρ S' ⟨k, j, x, e1, e2, rfl, rfl⟩
    have j0 : j = 0 := by cases j with | zero => rfl | succ j => cases e1
    subst j0
    refine ⟨trivial, ?_⟩
    walk_at "wpc"
    have e3 : k - n = m := by omega
    rw [e3]
    exact ⟨l, _, rfl, sup_same, by rw [sdel_sup hl]; exact rtq h⟩
  · rintro d rest ρ S' N' ⟨k, j, x, e1, e2, rfl, rfl⟩ hN
    cases j with
    | zero => cases e1
    | succ j =>
      obtain ⟨rfl, rfl⟩ := List.cons.inj e1
      refine ⟨trivial, ?_⟩
      have step : ∀ S2, S2 = sup S l (.lst (tmL f t b n (k + 1 - n))) → N' [some (Tm f t b), some (.int n), some (.int m), some (Fr (tmN f t b (k + 1))), some (.ref l), some (.int k)] S2 := fun S2 e => hN _ _ ⟨k + 1, j, _, rfl, by omega, rfl, e⟩
      walk_at "wpc"
      by_cases c : n ≤ k
      · have c' : (n : Int) ≤ (k : Int) := by omega
        simp only [c', decide_true, if_true]
        walk_at "wpc"
        refine ⟨l, rfl, ⟨_, sup_same⟩, _, sup_same, by rw [tmL_len, sizeLine_eq]; omega, ?_⟩
        try dsimp only
        rw [wpB]
        walk_at "wpc"
        simp only [List.getElem?_cons_zero, List.getElem?_cons_succ]
        refine ⟨t, b, k, rfl, N.bt, N.bb, N.lt, N.lb, by omega, N.nb k (by omega), ?_⟩
        refine ⟨_, _, rfl, N.s1 k (by omega), N.s2 k (by omega), ?_⟩
        try dsimp only
        try rw [wpB]
        refine step _ ?_
        rw [show k + 1 - n = (k - n) + 1 by omega, tmL_succ, show n + (k - n) = k by omega]
      · have c' : ¬ (n : Int) ≤ (k : Int) := by omega
        simp only [c', decide_false, Bool.false_eq_true, if_false]
        rw [wpB]
        walk_at "wpc"
        simp only [List.getElem?_cons_zero, List.getElem?_cons_succ]
        refine ⟨t, b, k, rfl, N.bt, N.bb, N.lt, N.lb, by omega, N.nb k (by omega), ?_⟩
        refine ⟨_, _, rfl, N.s1 k (by omega), N.s2 k (by omega), ?_⟩
        try dsimp only
        try rw [wpB]
        refine step _ ?_
        rw [show k + 1 - n = 0 by omega, show k - n = 0 by omega]
theorem sok__law_tm_numbers : SpecOk Gm d__law_tm_numbers := by
  rintro ds S R Q ⟨f, t, b, m, rfl, hnm, N, h⟩
  refine ⟨rfl, ?_⟩
  show wpB Gm b__law_tm_numbers _ _ [some (.tup [Fr f, Rt t b]), some (.int m), none, none, none] S
  unfold b__law_tm_numbers
  walk_at "wpc"
  refine ⟨by decide, fun l hl => ?_⟩
  try simp only [List.getElem?_cons_zero, List.getElem?_cons_succ]
  walk_at "wpc"
  refine ⟨_, rfl, by omega, by omega, ?_⟩
  have e0 : rangeD 0 1 (m : Int).toNat = upD 0 m := by
    rw [Int.toNat_natCast]
    exact range_up 0 m
  rw [e0]
  refine forL_ind (fun rest ρ S' => ∃ k j x, rest = upD k j ∧ k + j = m ∧ ρ = [some (.tup [Fr f, Rt t b]), some (.int m), some (.ref l), some (Fr (tmN f t b k)), x] ∧ S' = sup S l (.lst (tmL f t b 0 k))) ?_ ?_ _ _ _ ⟨0, m, _, rfl, by omega, rfl, rfl⟩
  · rintro ρ S' ⟨k, j, x, e1, e2, rfl, rfl⟩
    have j0 : j = 0 := by cases j with | zero => rfl | succ j => cases e1
    subst j0
    refine ⟨trivial, ?_⟩
    walk_at "wpc"
    have e3 : k = m := by omega
    rw [e3]
    exact ⟨l, _, rfl, sup_same, by rw [sdel_sup hl]; exact rtq h⟩
  · rintro d rest ρ S' N' ⟨k, j, x, e1, e2, rfl, rfl⟩ hN
    cases j with
    | zero => cases e1
    | succ j =>
      obtain ⟨rfl, rfl⟩ := List.cons.inj e1
      refine ⟨trivial, ?_⟩
      have step : ∀ S2, S2 = sup S l (.lst (tmL f t b 0 (k + 1))) → N' [some (.tup [Fr f, Rt t b]), some (.int m), some (.ref l), some (Fr (tmN f t b (k + 1))), some (.int k)] S2 := fun S2 e => hN _ _ ⟨k + 1, j, _, rfl, by omega, rfl, e⟩
      walk_at "wpc"
      refine ⟨l, rfl, ⟨_, sup_same⟩, _, sup_same, by rw [tmL_len, sizeLine_eq]; omega, ?_⟩
      try dsimp only
      walk_at "wpc"
      refine ⟨t, b, k, rfl, N.bt, N.bb, N.lt, N.lb, by omega, N.nb k (by omega), ?_⟩
      refine ⟨_, _, rfl, N.s1 k (by omega), N.s2 k (by omega), ?_⟩
      try dsimp only
      try rw [wpB]
      refine step _ ?_
      rw [tmL_succ, Nat.zero_add]
theorem sok_Term_number : SpecOk Gm d_Term_number := by
  rintro ds S R Q ⟨f, t, b, n, rfl, hn, N, h⟩
  refine ⟨rfl, ?_⟩
  show wpB Gm b_Term_number _ _ [some (Tm f t b), some (.int n)] S
  unfold b_Term_number
  walk_at "wpc"
  refine ⟨n, rfl, hn, ?_⟩
  walk_at "wpc"
  refine ⟨f, t, b, n, 1, rfl, by omega, N, ?_⟩
  exact ⟨_, rfl, rtq h⟩
theorem sok_Term_numbers : SpecOk Gm d_Term_numbers := by
  rintro ds S R Q ⟨f, t, b, n, m, rfl, hn, hm, N, h⟩
  refine ⟨rfl, ?_⟩
  show wpB Gm b_Term_numbers _ _ [some (Tm f t b), some (.int n), some (.int m)] S
  unfold b_Term_numbers
  walk_at "wpc"
  refine ⟨n, rfl, by omega, ?_⟩
  walk_at "wpc"
  refine ⟨_, rfl, ⟨_, rfl⟩, ?_⟩
  walk_at "wpx"
  rw [decide_eq_true (show (0 : Int) ≤ m by omega)]
  try walk_at "wpx"
  rw [decide_eq_true (show (m : Int) ≤ 200 by omega)]
  try walk_at "wpx"
  rw [wpB]
  walk_at "wpc"
  refine ⟨f, t, b, n, m, rfl, by omega, N, ?_⟩
  exact rtq h
theorem eqFr {r s : Rat} {k : Bool → Prop} (h : k (decide (r = s))) : eqD (Fr r) (Fr s) k := by
  have inj : Fr r = Fr s → r = s := fun e => by
    have e := D.tup.inj e
    have e1 := D.int.inj (List.cons.inj e).1
    have e2 := D.int.inj (List.cons.inj (List.cons.inj e).2).1
    rw [← Rat.num_divInt_den r, ← Rat.num_divInt_den s, e1, e2]
  refine eqD_it (n := 1) (m := 1) (itF r) (itF s) (by decide) (by decide) (fun z => ?_) (fun z => ?_)
  · rw [decide_eq_true (inj z)] at h; exact h
  · rw [decide_eq_false (fun e => z (by rw [e]))] at h; exact h
theorem itR (t b : List Int) : IT 2 (Rt t b) := fun d hd => by
  simp only [List.mem_cons, List.not_mem_nil, or_false] at hd
  rcases hd with rfl | rfl
  · exact it_t t
  · exact it_t b
theorem eqRt {t b u c : List Int} {k : Bool → Prop} (h : k (decide (t = u) && decide (b = c))) : eqD (Rt t b) (Rt u c) k := by
  refine eqD_it (n := 2) (m := 2) (itR t b) (itR u c) (by decide) (by decide) (fun z => ?_) (fun z => ?_)
  · have e := D.tup.inj z
    have e1 := dI_inj (D.tup.inj (List.cons.inj e).1)
    have e2 := dI_inj (D.tup.inj (List.cons.inj (List.cons.inj e).2).1)
    rw [decide_eq_true e1, decide_eq_true e2] at h
    exact h
  · by_cases e1 : t = u
    · have e2 : b ≠ c := fun e2 => z (by rw [e1, e2])
      rw [decide_eq_false e2, Bool.and_false] at h; exact h
    · rw [decide_eq_false e1, Bool.false_and] at h; exact h
theorem sok_Term_eq : SpecOk Gm d_Term_eq := by
  rintro ds S R Q ⟨f, t, b, v, rfl, h⟩
  refine ⟨rfl, ?_⟩
  show wpB Gm b_Term_eq _ _ [some (Tm f t b), some v] S
  unfold b_Term_eq
  rcases h with ⟨g, u, c, rfl, h⟩ | ⟨⟨ty, ht⟩, h⟩
  · walk_at "wpc"
    rw [if_neg (by decide)]
    rw [wpB]
    walk_at "wpc"
    simp only [List.getElem?_cons_zero, List.getElem?_cons_succ]
    walk_at "wpx"
    refine eqFr ?_
    by_cases e : f = g
    · rw [decide_eq_true e] at h ⊢
      rw [if_pos rfl]
      refine eqRt ?_
      exact rtq h
    · rw [decide_eq_false e] at h ⊢
      exact rtq h
  · walk_at "wpc"
    have fin : RtQ Q (.bl false) S := rtq h
    cases v <;> cases ht
    all_goals
      refine ⟨_, rfl, ?_⟩
      walk_at "wpc"
      exact fin
theorem sok_term_times : SpecOk Gm d_term_times := by
  rintro ds S R Q ⟨f, t, b, g, u, c, rfl, s1, s2, w1, w2, h⟩
  refine ⟨rfl, ?_⟩
  show wpB Gm b_term_times _ _ [some (Tm f t b), some (Tm g u c), none] S
  unfold b_term_times
  walk_at "wpc"
  refine ⟨f, t, b, rfl, ?_⟩
  walk_at "wpc"
  refine ⟨g, u, c, rfl, ?_⟩
  walk_at "wpc"
  simp only [List.getElem?_cons_zero, List.getElem?_cons_succ]
  refine ⟨f, g, rfl, s1, s2, ?_⟩
  walk_at "wpc"
  simp only [List.getElem?_cons_zero, List.getElem?_cons_succ]
  refine ⟨t, b, u, c, rfl, w1, w2, fun t' b' L C => ?_⟩
  exact ⟨_, t', b', rfl, rtq (h t' b' L C)⟩
theorem mul_14 {p q : List Int} {l m : Nat} (bp : BdP 300 p) (bq : BdP 300 q) (lp : p.length ≤ l) (lq : q.length ≤ m) (h : l + m ≤ 14) : BdP 604 (pmul p q) ∧ (pmul p q).length ≤ 13 := by
  refine ⟨bd_pmul (m := 4) bp bq (by have : 2 ^ 4 = 16 := rfl; omega), ?_⟩
  by_cases a : p = []
  · subst a; unfold pmul; rw [if_pos (.inl rfl)]; decide
  by_cases b : q = []
  · subst b; unfold pmul; rw [if_pos (.inr rfl)]; decide
  rw [pmul_length a b]; omega
theorem rv_sm {p : List Int} {l : Nat} (b : BdP 300 p) (h : p.length ≤ l) (hl : l ≤ 14) : SmP p := ⟨b.mono (by decide), by omega⟩

theorem pei_movedT (m x : Int) : ∀ p : List Int, pei (pmov m p) x = pei p (x + m)
  | [] => rfl
  | c :: p => by
    rw [pmov, pei_pplus, pei_pmul, pei_movedT m x p, pei_cons]
    rw [pei_trim, pei_trim]
    simp only [pei_cons, pei_nil]
    grind
def scl (s : Int) : List Int → List Int
  | [] => []
  | c :: p => c :: (scl s p).map (s * ·)
theorem cf_scl (s : Int) : ∀ (p : List Int) (i : Nat), cf (scl s p) i = cf p i * s ^ i
  | [], i => by rw [scl, cf_nil, Int.zero_mul]
  | c :: p, 0 => by rw [scl, cf_cons_zero, cf_cons_zero, Int.pow_zero, Int.mul_one]
  | c :: p, i + 1 => by
    rw [scl, cf_cons_succ, cf_cons_succ, cf_map (fun x => s * x) (Int.mul_zero _), cf_scl s p i, Int.pow_succ]
    grind
theorem pei_scl (s x : Int) : ∀ p : List Int, pei (scl s p) x = pei p (s * x)
  | [] => rfl
  | c :: p => by
    rw [scl, pei_cons, pei_map, pei_scl s x p, pei_cons]
    grind
theorem cf_pst (s r : Nat) (p : List Int) (i : Nat) : cf (pst s r p) i = cf (pmov r p) i * (s : Int) ^ i := by
  unfold pst
  rw [cf_trim, cf_map_range]
  split
  · rfl
  · rw [cf_ge (by omega), Int.zero_mul]
theorem pei_pst (s r : Nat) (p : List Int) (x : Int) : pei (pst s r p) x = pei p ((s : Int) * x + r) := by
  rw [pei_ext x (pst s r p) (scl s (pmov r p)) fun i => by rw [cf_pst, cf_scl], pei_scl, pei_movedT]
theorem bd_mv {r k : Nat} {p : List Int} (hr : r ≤ 127) (h : BdP k p) (l : p.length ≤ 60) : BdP (k + p.length * 15) (pmov r p) ∧ (pmov r p).length ≤ p.length :=
  bd_pmov (l := 7) (by unfold Bd; omega) (by decide) h l
theorem bd_pst {s r k : Nat} {p : List Int} (hs : s ≤ 6) (hr : r ≤ 127) (h : BdP k p) (l : p.length ≤ 60) : BdP (k + p.length * 18) (pst s r p) ∧ (pst s r p).length ≤ p.length := by
  obtain ⟨b, lm⟩ := bd_mv hr h l
  refine ⟨bdp_cf fun i => ?_, ?_⟩
  · rw [cf_pst]
    by_cases hi : i < p.length
    · have e : Bd (3 * i) ((s : Int) ^ i) ∨ i = 0 := by
        by_cases z : i = 0
        · exact .inr z
        · left
          unfold Bd
          rw [Int.natAbs_pow, Nat.pow_mul]
          exact Nat.pow_lt_pow_left (show (s : Int).natAbs < 2 ^ 3 by omega) z
      rcases e with e | e
      · exact ((b.cf i).mul e).mono (by omega)
      · subst e
        rw [Int.pow_zero, Int.mul_one]
        exact (b.cf 0).mono (by omega)
    · rw [cf_ge (by omega), Int.zero_mul]; exact bd_zero
  · refine Nat.le_trans (trim_len _) ?_
    rw [List.length_map, List.length_range]; exact lm
theorem sok_require_within : SpecOk Gm d_require_within := by
  rintro ds S R Q ⟨v, a, b, rfl, h1, h2, h⟩
  refine ⟨rfl, ?_⟩
  show wpB Gm b_require_within _ _ [some (.int v), some (.int a), some (.int b)] S
  unfold b_require_within
  walk_at "wpc"
  refine ⟨_, rfl, ⟨_, rfl⟩, ?_⟩
  walk_at "wpx"
  rw [decide_eq_true h1]
  try walk_at "wpx"
  rw [decide_eq_true h2]
  try walk_at "wpx"
  rw [wpB]
  try dsimp only
  rw [wpB]
  exact rtq h
theorem sok_ratio_moved_in : SpecOk Gm d_ratio_moved_in := by
  rintro ds S R Q ⟨t, b, m, rfl, bt, bb, lt, lb, hm, h⟩
  refine ⟨rfl, ?_⟩
  show wpB Gm b_ratio_moved_in _ _ [some (Rt t b), some (.int m)] S
  unfold b_ratio_moved_in
  walk_at "wpc"
  exact ⟨t, m, rfl, bt, lt, by omega, b, m, rfl, bb, lb, by omega, by decide, rtq h⟩
theorem moved_ne {m : Int} {p : List Int} (n : Nrm p) (h : p ≠ []) : pmov m p ≠ [] := fun z => by
  obtain ⟨y, hy⟩ := pei_ne n h
  have := pei_movedT m (y - m) p
  rw [z, pei_nil, show y - m + m = y by omega] at this
  exact hy this.symm
theorem sok__law_rt_moved : SpecOk Gm d__law_rt_moved := by
  rintro ds S R Q ⟨t, b, m, rfl, I, hm, h⟩
  refine ⟨rfl, ?_⟩
  show wpB Gm b__law_rt_moved _ _ [some (Rt t b), some (.int m)] S
  unfold b__law_rt_moved
  have lt := I.lt
  have lb := I.lb
  obtain ⟨g1, g2⟩ := bd_mv (r := m) (by omega) I.bt (by omega)
  obtain ⟨g3, g4⟩ := bd_mv (r := m) (by omega) I.bb (by omega)
  walk_at "wpc"
  refine ⟨t, m, rfl, I.bt.mono (by decide), by omega, by omega, b, m, rfl, I.bb.mono (by decide), by omega, by omega, ?_⟩
  refine ⟨_, _, rfl, ⟨nrm_pmov _ _, nrm_pmov _ _, moved_ne I.lw.nb I.lw.ne, g1.mono (by omega), g3.mono (by omega), by omega, by omega⟩, fun t' b' lw cr => rtq (h t' b' lw cr)⟩
theorem sok_term_moved : SpecOk Gm d_term_moved := by
  rintro ds S R Q ⟨f, t, b, m, rfl, hm, N, bt, bb, lt, lb, h⟩
  refine ⟨rfl, ?_⟩
  show wpB Gm b_term_moved _ _ [some (Tm f t b), some (.int m)] S
  unfold b_term_moved
  walk_at "wpc"
  refine ⟨f, t, b, rfl, ?_⟩
  walk_at "wpc"
  refine ⟨m, 0, 60, rfl, by omega, by omega, ?_⟩
  walk_at "wpc"
  refine ⟨f, t, b, m, 1, rfl, by omega, N, ?_⟩
  refine ⟨_, rfl, ?_⟩
  simp only [List.getElem?_cons_zero, List.getElem?_cons_succ]
  refine ⟨t, b, m, rfl, bt, bb, lt, lb, hm, ?_⟩
  exact ⟨_, _, _, rfl, rtq h⟩
theorem sok_powers : SpecOk Gm d_powers := by
  rintro ds S R Q ⟨r, rfl, r0, sr, h⟩
  refine ⟨rfl, ?_⟩
  show wpB Gm b_powers _ _ [some (Fr r)] S
  unfold b_powers
  walk_at "wpc"
  refine ⟨r, rfl, r0, ?_⟩
  walk_at "wpc"
  have s1 : SmP [1] := ⟨fun c hc => by rw [List.mem_singleton.mp hc]; exact Bd.mono (k := 1) (by unfold Bd; decide) (by decide), by decide⟩
  refine ⟨by decide, r.num, [1], rfl, sr.1.mono (by decide), s1, (r.den : Int), [1], rfl, sr.2.mono (by decide), s1, by decide, ?_⟩
  have e1 : pby r.num [1] = [r.num] := by unfold pby; rw [if_neg (fr_num r0)]; simp
  have e2 : pby (r.den : Int) [1] = [(r.den : Int)] := by unfold pby; rw [if_neg (Int.natCast_ne_zero.mpr r.den_nz)]; simp
  rw [e1, e2]
  exact ⟨1, _, _, rfl, rtq h⟩
theorem sok_factorials : SpecOk Gm d_factorials := by
  rintro ds S R Q ⟨rfl, h⟩
  refine ⟨rfl, ?_⟩
  show wpB Gm b_factorials _ _ [] S
  unfold b_factorials
  walk_at "wpc"
  refine ⟨by decide, by decide, by decide, ?_⟩
  exact ⟨1, [1, 1], [1], rfl, rtq h⟩
theorem sok_binomials : SpecOk Gm d_binomials := by
  rintro ds S R Q ⟨n, rfl, hn, h⟩
  refine ⟨rfl, ?_⟩
  show wpB Gm b_binomials _ _ [some (.int n)] S
  unfold b_binomials
  walk_at "wpc"
  refine ⟨n, 0, 60, rfl, by omega, by omega, ?_⟩
  walk_at "wpc"
  have I : RI [(n : Int) + 1, 1] [1, 1] := by
    have b1 : Bd 2000 (1 : Int) := Bd.mono (k := 1) (by unfold Bd; decide) (by decide)
    have b2 : Bd 2000 ((n : Int) + 1) := Bd.mono (k := 7) (by unfold Bd; omega) (by decide)
    refine ⟨fun c hc => by cases hc; show (1 : Int) ≠ 0; decide, fun c hc => by cases hc; decide, by simp, fun c hc => ?_, fun c hc => ?_, by simp, by simp⟩
    · simp only [List.mem_cons, List.not_mem_nil, or_false] at hc
      rcases hc with rfl | rfl
      · exact b2
      · exact b1
    · simp only [List.mem_cons, List.not_mem_nil, or_false] at hc
      rcases hc with rfl | rfl <;> exact b1
  exact ⟨by decide, by decide, by decide, [(n : Int) + 1, 1], [1, 1], rfl, I, fun t b L C => ⟨1, t, b, rfl, rtq (h t b L C)⟩⟩
theorem sok_stretched_in : SpecOk Gm d_stretched_in := by
  rintro ds S R Q ⟨p, s, r, rfl, bp, lp, s1, s6, hr, h⟩
  refine ⟨rfl, ?_⟩
  show wpB Gm b_stretched_in _ _ [some (P p), some (.int s), some (.int r), none, none, none] S
  unfold b_stretched_in
  obtain ⟨mb, ml⟩ := bd_mv hr bp (by omega)
  walk_at "wpc"
  refine ⟨by decide, fun l hl => ?_⟩
  walk_at "wpc"
  refine ⟨p, r, rfl, bp, lp, by omega, ?_⟩
  generalize hm : pmov (r : Int) p = m at *
  have bs : ∀ i, i ≤ 60 → Bd 200 ((s : Int) ^ i) := fun i hi => by
    unfold Bd
    rw [Int.natAbs_pow]
    have h1 : (s : Int).natAbs ^ i ≤ (2 ^ 3) ^ i := Nat.pow_le_pow_left (by omega) i
    rw [← Nat.pow_mul] at h1
    exact Nat.lt_of_le_of_lt h1 (Nat.pow_lt_pow_right (by decide) (by omega))
  refine forL_ind (fun rest ρ S' => ∃ i x, rest = dI (m.drop i) ∧ i ≤ m.length ∧ ρ = [some (P p), some (.int s), some (.int r), some (.ref l), some (.int ((s : Int) ^ i)), x] ∧ S' = sup S l (.lst (dI ((List.range i).map fun (j : Nat) => cf m j * (s : Int) ^ j)))) ?_ ?_ _ _ _ ⟨0, _, rfl, Nat.zero_le _, rfl, rfl⟩
  · rintro ρ S' ⟨i, x, e1, e2, rfl, rfl⟩
    have hi : i = m.length := by
      have := List.drop_eq_nil_iff.mp (dI_nil e1.symm)
      omega
    subst hi
    refine ⟨trivial, ?_⟩
    walk_at "wpc"
    refine ⟨_, _, rfl, .inr (res_of sup_same), by rw [List.length_map, List.length_range]; omega, ?_⟩
    refine rtq_sup hl ?_
    unfold pst at h
    rw [hm] at h
    exact h
  · rintro d rest ρ S' N ⟨i, x, e1, e2, rfl, rfl⟩ hN
    cases hd : m.drop i with
    | nil => rw [hd] at e1; cases e1
    | cons c q =>
      have hi : i < m.length := by
        have := congrArg List.length hd
        rw [List.length_drop, List.length_cons] at this
        omega
      rw [drop_cf hi] at hd
      obtain ⟨rfl, rfl⟩ := List.cons.inj hd
      rw [drop_cf hi] at e1
      cases e1
      refine ⟨trivial, ?_⟩
      have bi := bs i (by omega)
      walk_at "wpc"
      refine ⟨l, rfl, ⟨_, sup_same⟩, mulOk ((mb.cf i).mono (show _ ≤ 2000 by omega)) bi (by decide) (by decide), _, sup_same, by rw [dI_len, List.length_map, List.length_range, sizeLine_eq]; omega, ?_⟩
      try dsimp only
      walk_at "wpc"
      have b1 : Bd 200 (s : Int) := by have z := bs 1 (by decide); rwa [Int.pow_one] at z
      refine ⟨_, _, rfl, rfl, mulOk bi b1 (by decide) (by decide), ?_⟩
      try dsimp only
      try rw [wpB]
      refine hN _ _ ⟨i + 1, _, rfl, by omega, by rw [Int.pow_succ], ?_⟩
      try rw [sup_sup]
      rw [List.range_succ, List.map_append]
      show _ = sup S l (.lst (List.map _ (_ ++ _)))
      rw [List.map_append]; rfl
theorem sec_len {s r k : Nat} {p : List Int} (hs : s ≤ 6) (hr : r + k ≤ 2000) (bp : BdP k p) (lp : p.length ≤ 60) : ∀ n, r + n ≤ 127 → (secN s r p n).length ≤ n * (p.length - 1) + 1
  | 0, _ => by rw [secN]; simp
  | n + 1, h => by
    have ih := sec_len hs hr bp lp n (by omega)
    have l2 := (bd_pst (r := r + n) hs (by omega) bp lp).2
    rw [secN, Nat.add_mul, Nat.one_mul]
    by_cases a : secN s r p n = []
    · rw [a]; unfold pmul; rw [if_pos (.inl rfl)]; simp
    by_cases b : pst s (r + n) p = []
    · rw [b]; unfold pmul; rw [if_pos (.inr rfl)]; simp
    rw [pmul_length a b]
    omega
theorem nrm_sec {s r : Nat} {p : List Int} : ∀ n, Nrm (secN s r p n)
  | 0 => fun c hc => by cases hc; decide
  | n + 1 => nrm_pmul (nrm_sec n) (nrm_trim _)

theorem pst_ne {s r : Nat} {p : List Int} (hs : 1 ≤ s) (n : Nrm p) (h : p ≠ []) : pst s r p ≠ [] := fun z => by
  have m := moved_ne (m := (r : Int)) n h
  have t := nrm_top (nrm_pmov (r : Int) p) m
  have c := cf_pst s r p ((pmov (r : Int) p).length - 1)
  rw [z, cf_nil] at c
  exact Int.mul_ne_zero t (Int.pow_ne_zero (by omega)) c.symm
theorem sec_ne {s r : Nat} {p : List Int} (hs : 1 ≤ s) (n : Nrm p) (h : p ≠ []) : ∀ k, secN s r p k ≠ []
  | 0 => by rw [secN]; simp
  | k + 1 => pmul_ne (sec_ne hs n h k) (pst_ne hs n h)
theorem SecIn.sm {s : Nat} {t : List Int} (h : SecIn s t) (hs : 1 ≤ s) (h6 : s ≤ 6) {r k : Nat} (hr : r ≤ 100) (hk : k ≤ s) : BdP 2000 (secN s r t k) ∧ (secN s r t k).length ≤ 25 := by
  have l1 := List.length_pos_iff.mpr h.ne
  have l2 := h.l
  have l3 : t.length - 1 ≤ 24 := Nat.le_trans (Nat.le_mul_of_pos_right _ (by omega)) l2
  have l := sec_len (s := s) (r := r) h6 (k := 750) (by omega) h.b (by omega) k (by omega)
  have : k * (t.length - 1) ≤ s * (t.length - 1) := Nat.mul_le_mul_right _ hk
  rw [Nat.mul_comm s] at this
  exact ⟨h.p r k hr hk, by omega⟩
theorem SecIn.len {s : Nat} {t : List Int} (h : SecIn s t) (hs : 1 ≤ s) : t.length ≤ 25 := by
  have l1 := List.length_pos_iff.mpr h.ne
  have l3 : t.length - 1 ≤ (t.length - 1) * s := Nat.le_mul_of_pos_right _ (by omega)
  have := h.l
  omega
theorem sok_term_section : SpecOk Gm d_term_section := by
  rintro ds S R Q ⟨f, t, b, s, r, rfl, s1, s6, hr, N, I, J, h⟩
  refine ⟨rfl, ?_⟩
  show wpB Gm b_term_section _ _ [some (Tm f t b), some (.int s), some (.int r), none, none, none] S
  unfold b_term_section
  have lt := I.len s1
  have lb := J.len s1
  walk_at "wpc"
  refine ⟨f, t, b, rfl, ?_⟩
  walk_at "wpc"
  refine ⟨s, 1, 6, rfl, by omega, by omega, ?_⟩
  walk_at "wpc"
  refine ⟨r, 0, 60, rfl, by omega, by omega, ?_⟩
  walk_at "wpc"
  walk_at "wpc"
  refine ⟨_, rfl, by omega, by omega, ?_⟩
  rw [show rangeD 0 1 (s : Int).toNat = upD 0 s by rw [Int.toNat_natCast]; exact range_up 0 s]
  refine forL_ind (fun rest ρ S' => ∃ k j x, rest = upD k j ∧ k + j = s ∧ ρ = [some (Tm f t b), some (.int s), some (.int r), some (P (secN s r t k)), some (P (secN s r b k)), x] ∧ S' = S) ?_ ?_ _ _ _ ⟨0, s, _, rfl, by omega, rfl, rfl⟩
  · rintro ρ S' ⟨k, j, x, e1, e2, rfl, rfl⟩
    have j0 : j = 0 := by cases j with | zero => rfl | succ j => cases e1
    subst j0
    have ks : k = s := by omega
    subst ks
    obtain ⟨m1, m2⟩ := I.sm s1 s6 (r := r) (by omega) (Nat.le_refl _)
    obtain ⟨m3, m4⟩ := J.sm s1 s6 (r := r) (by omega) (Nat.le_refl _)
    refine ⟨trivial, ?_⟩
    walk_at "wpc"
    refine ⟨f, t, b, r, 1, rfl, by omega, N, ?_⟩
    refine ⟨_, rfl, ?_⟩
    refine ⟨_, _, rfl, ⟨nrm_sec _, nrm_sec _, sec_ne s1 J.n J.ne _, m1, m3, m2, m4⟩, fun t' b' L C => ?_⟩
    exact ⟨_, _, _, rfl, rtq (h t' b' L C)⟩
  · rintro d rest ρ S' N' ⟨k, j, x, e1, e2, rfl, rfl⟩ hN
    cases j with
    | zero => cases e1
    | succ j =>
      obtain ⟨rfl, rfl⟩ := List.cons.inj e1
      obtain ⟨m1, m2⟩ := I.sm s1 s6 (r := r) (k := k) (by omega) (by omega)
      obtain ⟨m3, m4⟩ := J.sm s1 s6 (r := r) (k := k) (by omega) (by omega)
      obtain ⟨q1, q2⟩ := bd_pst (s := s) (r := r + k) s6 (by omega) I.b (by omega)
      obtain ⟨q3, q4⟩ := bd_pst (s := s) (r := r + k) s6 (by omega) J.b (by omega)
      refine ⟨trivial, ?_⟩
      walk_at "wpc"
      simp only [List.getElem?_cons_zero, List.getElem?_cons_succ]
      refine ⟨_, rfl, t, s, r + k, rfl, I.b.mono (by decide), by omega, s1, s6, by omega, ?_⟩
      refine ⟨_, _, rfl, ⟨m1.mono (by decide), by omega⟩, ⟨q1.mono (by omega), by omega⟩, ?_⟩
      walk_at "wpc"
      simp only [List.getElem?_cons_zero, List.getElem?_cons_succ]
      refine ⟨_, rfl, b, s, r + k, rfl, J.b.mono (by decide), by omega, s1, s6, by omega, ?_⟩
      refine ⟨_, _, rfl, ⟨m3.mono (by decide), by omega⟩, ⟨q3.mono (by omega), by omega⟩, ?_⟩
      try dsimp only
      try rw [wpB]
      exact hN _ _ ⟨k + 1, j, _, rfl, by omega, rfl, rfl⟩
/-! ### numbers of sections -/
def PR (p : List Int) (z : Int) : Nat → Int
  | 0 => 1
  | n + 1 => PR p z n * pei p (z + n)
theorem PR_add (p : List Int) (z : Int) (m : Nat) : ∀ n, PR p z (m + n) = PR p z m * PR p (z + m) n
  | 0 => by rw [Nat.add_zero, PR, Int.mul_one]
  | n + 1 => by
    rw [← Nat.add_assoc, PR, PR_add p z m n, PR, Int.mul_assoc]
    congr 3
    omega
theorem pei_sec (s r : Nat) (p : List Int) (x : Int) : ∀ n, pei (secN s r p n) x = PR p ((s : Int) * x + r) n
  | 0 => by rw [secN, PR, pei_cons, pei_nil]; omega
  | n + 1 => by
    rw [secN, pei_pmul, pei_sec s r p x n, pei_pst, PR, Int.natCast_add, Int.add_assoc]
theorem PR_ne {p : List Int} (h : NoRt p) (z : Nat) : ∀ n, PR p (z : Int) n ≠ 0
  | 0 => by rw [PR]; decide
  | n + 1 => by
    rw [PR]
    refine Int.mul_ne_zero (PR_ne h z n) ?_
    have := h (z + n)
    rwa [Int.natCast_add] at this
theorem nort_sec {s r : Nat} {p : List Int} (h : NoRt p) (n : Nat) : NoRt (secN s r p n) := fun k => by
  rw [pei_sec]
  have := PR_ne h (s * k + r) n
  rwa [Int.natCast_add, Int.natCast_mul] at this
theorem rtv_sec {t b : List Int} (h1 : NoRt t) (h2 : NoRt b) (f : Rat) (s r k : Nat) : ∀ n, tmN f t b (s * k + r + n) = tmN f t b (s * k + r) * rtv (secN s r t n) (secN s r b n) k
  | 0 => by
    have : rtv (secN s r t 0) (secN s r b 0) k = 1 := by
      unfold rtv
      rw [secN, secN, pei_cons, pei_nil, Int.mul_zero, Int.add_zero]; rfl
    rw [this, Rat.mul_one, Nat.add_zero]
  | n + 1 => by
    have e : rtv (secN s r t (n + 1)) (secN s r b (n + 1)) k = rtv (secN s r t n) (secN s r b n) k * rtv t b (s * k + r + n) := by
      unfold rtv
      rw [Rat.divInt_mul_divInt, secN, secN, pei_pmul, pei_pmul, pei_pst, pei_pst]
      have z : (s : Int) * (k : Int) + ((r + n : Nat) : Int) = ((s * k + r + n : Nat) : Int) := by
        rw [Int.natCast_add, Int.natCast_add, Int.natCast_add, Int.natCast_mul, Int.add_assoc]
      rw [z]
    rw [← Nat.add_assoc, tmN, rtv_sec h1 h2 f s r k n, e, Rat.mul_assoc]
theorem rtv_crs {t b T B : List Int} (C : Crs t b T B) (h1 : NoRt b) (h2 : NoRt B) (n : Nat) : rtv t b n = rtv T B n := by
  unfold rtv
  rw [Rat.divInt_eq_divInt_iff (h1 n) (h2 n)]
  exact C n
theorem tm_sec {f : Rat} {t b T B : List Int} {s r : Nat} (h1 : NoRt t) (h2 : NoRt b) (hB : NoRt B) (C : Crs T B (secN s r t s) (secN s r b s)) : ∀ k, tmN (tmN f t b r) T B k = tmN f t b (s * k + r)
  | 0 => by rw [tmN, Nat.mul_zero, Nat.zero_add]
  | k + 1 => by
    rw [tmN, tm_sec h1 h2 hB C k, rtv_crs C hB (nort_sec h2 s), ← rtv_sec h1 h2]
    congr 1
    rw [Nat.mul_add, Nat.mul_one]; omega
/-- a section of a section -/
theorem sec_sec {t b T B : List Int} {s r : Nat} (C : Crs T B (secN s r t s) (secN s r b s)) : Crs (secN 2 1 T 2) (secN 2 1 B 2) (secN (2 * s) (s + r) t (2 * s)) (secN (2 * s) (s + r) b (2 * s)) := fun x => by
  have key : ∀ p : List Int, pei (secN (2 * s) (s + r) p (2 * s)) x = pei (secN s r p s) (2 * x + 1) * pei (secN s r p s) (2 * x + 1 + 1) := fun p => by
    rw [pei_sec, pei_sec, pei_sec, Nat.two_mul, PR_add]
    congr 2
    · rw [Int.natCast_add, Int.natCast_add]; grind
    · rw [Int.natCast_add, Int.natCast_add]; grind
  have two : ∀ p : List Int, pei (secN 2 1 p 2) x = pei p (2 * x + 1) * pei p (2 * x + 1 + 1) := fun p => by
    rw [pei_sec, PR, PR, PR, Int.one_mul]
    congr 2
    · show (2 : Int) * x + 1 + 0 = _; omega
  rw [two, two, key, key]
  have a := C (2 * x + 1)
  have c := C (2 * x + 1 + 1)
  generalize pei (secN s r t s) (2 * x + 1) = A at *
  generalize pei (secN s r t s) (2 * x + 1 + 1) = A2 at *
  generalize pei (secN s r b s) (2 * x + 1) = B1 at *
  generalize pei (secN s r b s) (2 * x + 1 + 1) = B2 at *
  generalize pei T (2 * x + 1) = T1 at *
  generalize pei T (2 * x + 1 + 1) = T2 at *
  generalize pei B (2 * x + 1) = U1 at *
  generalize pei B (2 * x + 1 + 1) = U2 at *
  have e : T1 * T2 * (B1 * B2) = (T1 * B1) * (T2 * B2) := by grind
  rw [e, a, c]; grind

theorem sup_commT {S : Sto} {p r : Addr} {a b : DO} (h : p ≠ r) : sup (sup S r a) p b = sup (sup S p b) r a := by
  funext x
  unfold sup
  by_cases h1 : x = p
  · by_cases h2 : x = r
    · exact absurd (h1.symm.trans h2) h
    · rw [if_pos h1, if_neg h2, if_pos h1]
  · rw [if_neg h1]
    by_cases h2 : x = r
    · rw [if_pos h2, if_pos h2]
    · rw [if_neg h2, if_neg h2, if_neg h1]
theorem shortT (i : Int) (h1 : -1 ≤ i) (h2 : i ≤ 60) : (toString i : Str).length ≤ 10 := by
  have e : ∀ n : Fin 62, (Str.ofString (toString ((n.val : Int) - 1))).length ≤ 10 := by decide +kernel
  have := e ⟨(i + 1).toNat, by omega⟩
  rw [show (((⟨(i + 1).toNat, by omega⟩ : Fin 62).val : Nat) : Int) - 1 = i by show ((i + 1).toNat : Int) - 1 = i; omega] at this
  exact this
theorem nort_mul {p q : List Int} (h1 : NoRt p) (h2 : NoRt q) : NoRt (pmul p q) := fun n => by
  rw [pei_pmul]; exact Int.mul_ne_zero (h1 n) (h2 n)
theorem nort_ne {p : List Int} (h : NoRt p) : p ≠ [] := fun e => h 0 (by rw [e]; rfl)
/-- bits of a product of a small number and so many factors -/
def fb : Nat → Nat
  | 0 => 2
  | 1 => 4
  | _ => 9
structure Dp (i : Nat) (p : List Int) : Prop where
  n : Nrm p
  l : p.length ≤ 2 * i + 1
  b : BdP (fb i) p
  r : NoRt p
theorem dp_con {c : Int} (h0 : c ≠ 0) (hb : c.natAbs ≤ 2) : Dp 0 [c] := ⟨fun d hd => by cases hd; exact h0, by simp, fun d hd => by
  rw [List.mem_singleton.mp hd]; show c.natAbs < 4; omega, fun n => by rw [pei_cons, pei_nil]; omega⟩
structure Fc (q : List Int) : Prop where
  n : Nrm q
  l : q.length ≤ 3
  b : BdP 2 q
  r : NoRt q
theorem cf_pmul_con (c : Int) (q : List Int) (k : Nat) : cf (pmul [c] q) k = c * cf q k := by
  rw [cf_pmul]
  unfold conv
  rw [sumN_one (k := 0) (by omega) (fun i hi ne => by rw [cf_ge (p := [c]) (by simp; omega), Int.zero_mul]), cf_cons_zero, Nat.sub_zero]
theorem dp_mul {i : Nat} {p q : List Int} (hi : i < 2) (h : Dp i p) (f : Fc q) : Dp (i + 1) (pmul p q) := by
  have p0 := nort_ne h.r
  have q0 := nort_ne f.r
  have l1 := h.l
  have l2 := f.l
  refine ⟨nrm_pmul h.n f.n, by rw [pmul_length p0 q0]; omega, ?_, nort_mul h.r f.r⟩
  rcases Nat.lt_or_ge i 1 with z | z
  · have : i = 0 := by omega
    subst this
    have lp := List.length_pos_iff.mpr p0
    obtain ⟨c, rfl⟩ := List.length_eq_one_iff.mp (show p.length = 1 by omega)
    refine bdp_cf fun k => ?_
    rw [cf_pmul_con c q k]
    exact (h.b c (by simp)).mul (f.b.cf k)
  · have : i = 1 := by omega
    subst this
    exact bd_pmul (m := 3) h.b f.b (by have : 2 ^ 3 = 8 := rfl; omega)
theorem dp_mono {i : Nat} {p : List Int} (hi : i ≤ 2) (h : Dp i p) : Dp 2 p := by
  refine ⟨h.n, by have := h.l; omega, h.b.mono ?_, h.r⟩
  rcases i with _ | _ | _ | i
  · decide
  · decide
  · decide
  · omega
theorem fac_ok : ∀ q ∈ ([[1, 1], [2, 1], [1, 2], [3, 1], [3, 2], [1, 0, 1], [-1, 2]] : List (List Int)), Fc q := by
  have nt : ∀ q : List Int, (match q.getLast? with | some 0 => false | _ => true) = true → Nrm q := fun q h c hc z => by rw [hc, z] at h; cases h
  have bt : ∀ q : List Int, (q.all fun c => decide (c.natAbs < 4)) = true → BdP 2 q := fun q h c hc => (of_decide_eq_true (List.all_eq_true.mp h c hc) : c.natAbs < 4)
  intro q hq
  simp only [List.mem_cons, List.not_mem_nil, or_false] at hq
  rcases hq with rfl | rfl | rfl | rfl | rfl | rfl | rfl
  all_goals
    refine ⟨nt _ (by decide), by decide, bt _ (by decide), fun n => ?_⟩
    simp only [pei_cons, pei_nil]
  case inr.inr.inr.inr.inr.inl =>
    have := Int.mul_nonneg (show (0 : Int) ≤ n by omega) (show (0 : Int) ≤ n by omega)
    have e : (1 : Int) + n * (0 + n * (1 + n * 0)) = 1 + n * n := by rw [Int.mul_zero, Int.add_zero, Int.mul_one, Int.zero_add]
    rw [e]; omega
  all_goals omega
theorem sup_idT {S : Sto} {p : Addr} {o : DO} (h : S p = some o) : sup S p o = S := by
  funext x
  unfold sup
  by_cases e : x = p
  · rw [if_pos e, e, h]
  · rw [if_neg e]
theorem dice_in {S : Sto} {p l : Addr} {A B L : DO} (h : p ≠ l) : sup (sup (sup S p A) l L) p B = sup (sup S p B) l L := by rw [sup_commT h, sup_sup]
theorem fst_ok {t b : Int} (h0 : t ≠ 0) (h1 : t.natAbs < 4) (h2 : b ≠ 0) (h3 : b.natAbs < 4) : Fst (Rat.divInt t b) :=
  ⟨fun e => by
    rw [show (0 : Rat) = Rat.divInt 0 1 from rfl, Rat.divInt_eq_divInt_iff h2 (by decide)] at e
    omega, bd_num h1, bd_den h3 (by decide)⟩

theorem vb_of {T s t : List Int} (d : Dp 2 T) (e : ∀ x, pei T x = pei s x * pei t x) : Vb t := fun i hi => by
  have b := (bd_pei (k := 6) (x := (i : Int)) (by unfold Bd; omega) d.b).mono (show fb 2 + T.length * (6 + 1) ≤ 50 by have := d.l; have : fb 2 = 9 := rfl; omega)
  have n := d.r i
  rw [e] at b n
  have s0 : pei s (i : Int) ≠ 0 := fun z => n (by rw [z, Int.zero_mul])
  unfold Bd at *
  rw [Int.natAbs_mul] at b
  exact Nat.lt_of_le_of_lt (Nat.le_mul_of_pos_left _ (by omega)) b
theorem sok__law_tm_drawn : SpecOk Gm d__law_tm_drawn := by
  rintro ds S R Q ⟨p, rfl, ⟨a0, b0, c0, hS⟩, h⟩
  refine ⟨rfl, ?_⟩
  show wpB Gm b__law_tm_drawn _ _ [some (.ref p), some (.int 2), none, none, none, none] S
  unfold b__law_tm_drawn
  walk_at "wpc"
  refine ⟨by decide, fun l hl => ?_⟩
  have lp : p ≠ l := fun e => by rw [e] at hS; rw [hS] at hl; cases hl
  walk_at "wpc"
  refine ⟨_, rfl, by decide, by decide, ?_⟩
  have e0 : rangeD 0 1 (2 : Int).toNat = upD 0 2 := range_up 0 2
  rw [e0]
  have hD : ∀ {x y z : Int} {L : DO}, HasDice (sup (Dice p x y z S) l L) p := fun {x y z L} => ⟨x, y, z, (sup_ne lp).trans sup_same⟩
  refine forL_ind (fun rest ρ S' => ∃ k j x y z ls a b c, rest = upD k j ∧ k + j = 2 ∧ ρ = [some (.ref p), some (.int 2), some (.ref l), x, y, z] ∧ S' = sup (Dice p a b c S) l (.lst (ls.map fun q => P q)) ∧ ls.length = k ∧ ∀ q ∈ ls, Dp 2 q) ?_ ?_ _ _ _
    ⟨0, 2, _, _, _, [], a0, b0, c0, rfl, rfl, rfl, (congrArg (fun s => sup s l (.lst [])) (sup_idT hS)).symm, rfl, fun _ h => nomatch h⟩
  · rintro ρ S' ⟨k, j, x, y, z, ls, a, b, c, e1, e2, rfl, rfl, hl2, hd⟩
    have j0 : j = 0 := by cases j with | zero => rfl | succ j => cases e1
    subst j0
    have k2 : ls.length = 2 := by omega
    obtain ⟨T, B, rfl⟩ : ∃ T B, ls = [T, B] := by
      rcases ls with _ | ⟨T, _ | ⟨B, _ | ⟨u, v⟩⟩⟩
      · cases k2
      · cases k2
      · exact ⟨T, B, rfl⟩
      · simp at k2
    have dT := hd T (by simp)
    have dB := hd B (by simp)
    refine ⟨trivial, ?_⟩
    walk_at "wpc"
    refine ⟨by decide, p, _, rfl, hD, by simp, by simp, fun v hv x1 y1 z1 => ⟨by decide, p, _, rfl, ⟨_, _, _, sup_same⟩, by simp, by simp, fun w hw x2 y2 z2 => ?_⟩⟩
    have eS : Dice p x2 y2 z2 (Dice p x1 y1 z1 (sup (Dice p a b c S) l (.lst ([T, B].map fun q => P q)))) = sup (Dice p x2 y2 z2 S) l (.lst ([T, B].map fun q => P q)) := by
      show sup (sup (sup (sup S p _) l _) p _) p _ = _
      rw [sup_sup, dice_in lp]
    rw [eS]
    obtain ⟨t, rfl, t0, t4⟩ : ∃ t : Int, v = .int t ∧ t ≠ 0 ∧ t.natAbs < 4 := by
      simp only [List.mem_cons, List.not_mem_nil, or_false] at hv
      rcases hv with rfl | rfl | rfl | rfl <;> exact ⟨_, rfl, by decide, by decide⟩
    obtain ⟨u, rfl, u0, u4⟩ : ∃ t : Int, w = .int t ∧ t ≠ 0 ∧ t.natAbs < 4 := by
      simp only [List.mem_cons, List.not_mem_nil, or_false] at hw
      rcases hw with rfl | rfl <;> exact ⟨_, rfl, by decide, by decide⟩
    have bu : Bd 60000000 u := Bd.mono (k := 2) u4 (by decide)
    refine ⟨t, u, rfl, u0, bu, ?_⟩
    have hl2 : sup (Dice p x2 y2 z2 S) l (.lst ([T, B].map fun q => P q)) l = some (.lst ([T, B].map fun q => P q)) := sup_same
    simp only [res_of hl2]
    refine ⟨P T, rfl, P B, rfl, T, B, rfl, ri_of dT.n dB.n (nort_ne dB.r) (dT.b.mono (by decide)) (dB.b.mono (by decide)) (by have := dT.l; omega) (by have := dB.l; omega), fun t' b' lw cr => ?_⟩
    obtain ⟨⟨g1, g2⟩, g3, g4⟩ := low_bd (a := 9) (L := 5) (k := 4) (by decide) lw cr dT.n dB.n (nort_ne dB.r) dT.b dB.b dT.l dB.l
    obtain ⟨s, ns, f1, f2⟩ := low_fac lw cr
    have n1 : NoRt t' := fun n z => dT.r n (by rw [f1, z, Int.mul_zero])
    have n2 : NoRt b' := fun n z => dB.r n (by rw [f2, z, Int.mul_zero])
    have m1 := dT.l
    have m2 := dB.l
    exact ⟨by decide, rtq_sup (show sup S p _ l = none by rw [sup_ne (fun e => lp e.symm)]; exact hl) (h _ t' b' x2 y2 z2 (fst_ok t0 t4 u0 u4) ⟨lw, nort_ne n1, by omega, by omega, g1.mono (by decide), g2.mono (by decide), n1, n2⟩ (vb_of dT f1) (vb_of dB f2))⟩
  · rintro d rest ρ S' N' ⟨k, j, x, y, z, ls, a, b, c, e1, e2, rfl, rfl, hl2, hd⟩ hN
    cases j with
    | zero => cases e1
    | succ j =>
      obtain ⟨rfl, rfl⟩ := List.cons.inj e1
      refine ⟨trivial, ?_⟩
      walk_at "wpc"
      refine ⟨by decide, p, _, rfl, hD, by simp, by simp, fun v hv x1 y1 z1 => ⟨by decide, ?_⟩⟩
      rw [show Dice p x1 y1 z1 (sup (Dice p a b c S) l (.lst (ls.map fun q => P q))) = sup (Dice p x1 y1 z1 S) l (.lst (ls.map fun q => P q)) from dice_in lp]
      obtain ⟨t, rfl, t0, t4⟩ : ∃ t : Int, v = .int t ∧ t ≠ 0 ∧ t.natAbs ≤ 2 := by
        simp only [List.mem_cons, List.not_mem_nil, or_false] at hv
        rcases hv with rfl | rfl | rfl | rfl <;> exact ⟨_, rfl, by decide, by decide⟩
      walk_at "wpc"
      refine ⟨p, 3, rfl, hD, by decide, by decide, fun r x2 y2 z2 r0 r3 => ?_⟩
      rw [show Dice p x2 y2 z2 (sup (Dice p x1 y1 z1 S) l (.lst (ls.map fun q => P q))) = sup (Dice p x2 y2 z2 S) l (.lst (ls.map fun q => P q)) from dice_in lp]
      refine ⟨r, rfl, by omega, by omega, ?_⟩
      rw [show rangeD 0 1 r.toNat = upD 0 r.toNat from range_up 0 _]
      refine forL_ind (fun rest ρ S' => ∃ i m q z a b c, rest = upD i m ∧ i + m = r.toNat ∧ ρ = [some (.ref p), some (.int 2), some (.ref l), some (.int k), some (P q), z] ∧ S' = sup (Dice p a b c S) l (.lst (ls.map fun q => P q)) ∧ Dp i q) ?_ ?_ _ _ _
        ⟨0, r.toNat, [t], _, x2, y2, z2, rfl, by omega, rfl, rfl, dp_con t0 t4⟩
      · rintro ρ S' ⟨i, m, q, z, a, b, c, f1, f2, rfl, rfl, dq⟩
        refine ⟨trivial, ?_⟩
        walk_at "wpc"
        refine ⟨l, rfl, ⟨_, sup_same⟩, _, sup_same, by rw [List.length_map, sizeLine_eq]; omega, ?_⟩
        try dsimp only
        try rw [wpB]
        rw [sup_sup]
        refine hN _ _ ⟨k + 1, j, _, _, _, ls ++ [q], a, b, c, rfl, by omega, rfl, by rw [List.map_append]; rfl, by rw [List.length_append, List.length_singleton, hl2], fun q' hq' => ?_⟩
        rcases List.mem_append.mp hq' with z | z
        · exact hd q' z
        · rw [List.mem_singleton.mp z]
          exact dp_mono (by omega) dq
      · rintro d rest ρ S' N2 ⟨i, m, q, z, a, b, c, f1, f2, rfl, rfl, dq⟩ hN2
        cases m with
        | zero => cases f1
        | succ m =>
          obtain ⟨rfl, rfl⟩ := List.cons.inj f1
          refine ⟨trivial, ?_⟩
          walk_at "wpc"
          refine ⟨by decide, by decide, by decide, by decide, by decide, by decide, by decide, by decide, p, _, rfl, hD, by simp, by simp, fun v hv x3 y3 z3 => ?_⟩
          rw [show Dice p x3 y3 z3 (sup (Dice p a b c S) l (.lst (ls.map fun q => P q))) = sup (Dice p x3 y3 z3 S) l (.lst (ls.map fun q => P q)) from dice_in lp]
          obtain ⟨g, rfl, fg⟩ : ∃ g, v = P g ∧ Fc g := by
            have key : ∀ L : List (List Int), (∀ g ∈ L, Fc g) → v ∈ L.map (fun q => P q) → ∃ g, v = P g ∧ Fc g := fun L hL hv => by
              obtain ⟨g, hg, e⟩ := List.mem_map.mp hv
              exact ⟨g, e.symm, hL g hg⟩
            exact key _ fac_ok hv
          have lq := dq.l
          have lg := fg.l
          have fb9 : fb i ≤ 9 := by rcases i with _ | _ | i <;> simp [fb]
          refine ⟨q, g, rfl, ⟨dq.b.mono (by omega), by omega⟩, ⟨fg.b.mono (by decide), by omega⟩, ?_⟩
          try dsimp only
          try rw [wpB]
          exact hN2 _ _ ⟨i + 1, m, _, _, x3, y3, z3, rfl, by omega, rfl, rfl, dp_mul (by omega) dq fg⟩

def bdR (k : Nat) (r : Rat) : Prop := Bd k r.num ∧ Bd k (r.den : Int)
theorem bdR_smf {k : Nat} {r : Rat} (h : bdR k r) (hk : k ≤ 3000) : SmF r := ⟨h.1.mono hk, h.2.mono hk⟩
theorem bdR_mono {k l : Nat} {r : Rat} (h : bdR k r) (hk : k ≤ l) : bdR l r := ⟨h.1.mono hk, h.2.mono hk⟩
theorem bdR_mul {k l : Nat} {r s : Rat} (hk : 1 ≤ k + l) (h : bdR k r) (h' : bdR l s) : bdR (k + l) (r * s) := by
  have e : r * s = Rat.divInt (r.num * s.num) (r.den * s.den) := by rw [← Rat.divInt_mul_divInt, Rat.num_divInt_den, Rat.num_divInt_den]
  rw [e]
  exact ⟨bd_num (h.1.mul h'.1), bd_den (h.2.mul h'.2) hk⟩
theorem fr_div {r s : Rat} (hs : s ≠ 0) : Rat.divInt (r.num * s.den) (r.den * s.num) = r / s := by
  have h1 : (s.num : Int) ≠ 0 := fr_num hs
  have h2 : (s.den : Int) ≠ 0 := Int.natCast_ne_zero.mpr s.den_nz
  have e : r = Rat.divInt (r.num * s.den) (r.den * s.num) * s := by
    conv => rhs; rhs; rw [← Rat.num_divInt_den s]
    rw [Rat.divInt_mul_divInt]
    conv => lhs; rw [← Rat.num_divInt_den r]
    rw [Rat.divInt_eq_divInt_iff (Int.natCast_ne_zero.mpr r.den_nz) (Int.mul_ne_zero (Int.mul_ne_zero (Int.natCast_ne_zero.mpr r.den_nz) h1) h2)]
    grind
  conv => rhs; rw [e]
  rw [Rat.mul_div_cancel hs]
theorem bdR_div {k l : Nat} {r s : Rat} (hk : 1 ≤ k + l) (hs : s ≠ 0) (h : bdR k r) (h' : bdR l s) : bdR (k + l) (r / s) := by
  rw [← fr_div hs]
  exact ⟨bd_num (h.1.mul h'.2), bd_den (h.2.mul h'.1) hk⟩
theorem bdR_rtv {t b : List Int} {a L k n : Nat} (bt : BdP a t) (bb : BdP a b) (lt : t.length ≤ L) (lb : b.length ≤ L) (hn : Bd k (n : Int)) (h1 : 1 ≤ a) : bdR (a + L * (k + 1)) (rtv t b n) := by
  have key : ∀ {p : List Int}, BdP a p → p.length ≤ L → Bd (a + L * (k + 1)) (pei p n) := fun {p} bp lp => by
    refine (bd_pei hn bp).mono ?_
    have := Nat.mul_le_mul_right (k + 1) lp
    omega
  exact ⟨bd_num (key bt lt), bd_den (key bb lb) (by omega)⟩
theorem bdR_tm {f : Rat} {t b : List Int} {a c N : Nat} (ha : 1 ≤ a) (h0 : bdR a f) (h : ∀ i, i < N → bdR c (rtv t b i)) : ∀ i, i ≤ N → bdR (a + i * c) (tmN f t b i)
  | 0, _ => by rw [Nat.zero_mul]; exact h0
  | i + 1, hi => by
    have ih := bdR_tm ha h0 h i (by omega)
    have := bdR_mul (by omega) ih (h i (by omega))
    rw [tmN, Nat.add_mul, Nat.one_mul]
    exact bdR_mono this (by omega)
theorem rtv_ne {t b : List Int} (h1 : NoRt t) (h2 : NoRt b) (n : Nat) : rtv t b n ≠ 0 := fun e => by
  unfold rtv at e
  rw [show (0 : Rat) = Rat.divInt 0 1 from rfl, Rat.divInt_eq_divInt_iff (h2 n) (by decide)] at e
  exact h1 n (by omega)
theorem tmN_ne {f : Rat} {t b : List Int} (h0 : f ≠ 0) (h1 : NoRt t) (h2 : NoRt b) : ∀ n, tmN f t b n ≠ 0
  | 0 => h0
  | n + 1 => by
    rw [tmN]
    intro e
    rcases Rat.mul_eq_zero.mp e with z | z
    · exact tmN_ne h0 h1 h2 n z
    · exact rtv_ne h1 h2 n z
theorem nort_low {t b T B : List Int} (L : Low t b) (h : Crs t b T B) (nT : NoRt T) (nB : NoRt B) : NoRt t ∧ NoRt b := by
  obtain ⟨s, ns, f1, f2⟩ := low_fac L h
  exact ⟨fun n z => nT n (by rw [f1, z, Int.mul_zero]), fun n z => nB n (by rw [f2, z, Int.mul_zero])⟩
theorem rtv_mul {t b u c t' b' : List Int} (C : Crs t' b' (pmul t u) (pmul b c)) (h1 : NoRt b') (h2 : NoRt b) (h3 : NoRt c) (n : Nat) : rtv t' b' n = rtv t b n * rtv u c n := by
  unfold rtv
  rw [Rat.divInt_mul_divInt, Rat.divInt_eq_divInt_iff (h1 n) (Int.mul_ne_zero (h2 n) (h3 n))]
  have := C n
  rw [pei_pmul, pei_pmul] at this
  exact this
theorem tm_mul {f g : Rat} {t b u c t' b' : List Int} (h : ∀ n, rtv t' b' n = rtv t b n * rtv u c n) : ∀ n, tmN (f * g) t' b' n = tmN f t b n * tmN g u c n
  | 0 => rfl
  | n + 1 => by
    rw [tmN, tmN, tmN, tm_mul h n, h]
    grind
/-- the drawn terms' numbers -/
theorem nums_in {f : Rat} {t b : List Int} (F : Fst f) (I : TmIn t b) : Nums f t b 14 := by
  have b4 : ∀ i : Nat, i < 14 → Bd 4 (i : Int) := fun i h => by unfold Bd; omega
  have r : ∀ i, i < 14 → bdR 95 (rtv t b i) := fun i h => bdR_rtv (L := 5) I.bt I.bb I.lt I.lb (b4 i h) (by decide)
  have z : ∀ i, i < 14 → bdR 1400 (tmN f t b i) := fun i h => bdR_mono (bdR_tm (by decide) F.2 r i (by omega)) (by omega)
  exact ⟨I.bt.mono (by decide), I.bb.mono (by decide), by have := I.lt; omega, by have := I.lb; omega, fun i _ => I.nb i, fun i h => bdR_smf (z i h) (by decide), fun i h => bdR_smf (r i h) (by decide)⟩
theorem Nums.less {f : Rat} {t b : List Int} {n m : Nat} (h : Nums f t b n) (hm : m ≤ n) : Nums f t b m := ⟨h.bt, h.bb, h.lt, h.lb, fun i z => h.nb i (by omega), fun i z => h.s1 i (by omega), fun i z => h.s2 i (by omega)⟩
/-- top and bottom exchanged, as far as bounds go -/
structure TmB (t b : List Int) : Prop where
  nt : Nrm t
  nb : Nrm b
  t0 : t ≠ []
  b0 : b ≠ []
  lt : t.length ≤ 5
  lb : b.length ≤ 5
  bt : BdP 70 t
  bb : BdP 70 b
theorem TmIn.tb {t b : List Int} (h : TmIn t b) : TmB t b := ⟨h.lw.nt, h.lw.nb, h.t0, h.lw.ne, h.lt, h.lb, h.bt, h.bb⟩
theorem TmIn.flip {t b : List Int} (h : TmIn t b) : TmB b t := ⟨h.lw.nb, h.lw.nt, h.lw.ne, h.t0, h.lb, h.lt, h.bb, h.bt⟩
/-- a product's or a quotient's polys -/
theorem rv_of {t b u c t' b' : List Int} (I : TmIn t b) (J : TmB u c) (L : Low t' b') (C : Crs t' b' (pmul t u) (pmul b c)) : Rv 9 t' b' ∧ BdP 270 t' ∧ BdP 270 b' := by
  have l1 := I.lt
  have l2 := J.lt
  have l3 := I.lb
  have l4 := J.lb
  have m1 : BdP 144 (pmul t u) := bd_pmul (m := 4) I.bt J.bt (by have : 2 ^ 4 = 16 := rfl; omega)
  have m2 : BdP 144 (pmul b c) := bd_pmul (m := 4) I.bb J.bb (by have : 2 ^ 4 = 16 := rfl; omega)
  obtain ⟨⟨g1, g2⟩, g3, g4⟩ := low_bd (L := 9) (k := 5) (by decide) L C (nrm_pmul I.lw.nt J.nt) (nrm_pmul I.lw.nb J.nb) (pmul_ne I.lw.ne J.b0) m1 m2 (by rw [pmul_length I.t0 J.t0]; omega) (by rw [pmul_length I.lw.ne J.b0]; omega)
  rw [pmul_length I.t0 J.t0] at g3
  rw [pmul_length I.lw.ne J.b0] at g4
  exact ⟨⟨L.nt, L.nb, L.ne, g1.mono (by decide), g2.mono (by decide), by omega, by omega⟩, g1, g2⟩
theorem nums_rv {f : Rat} {t b : List Int} (h0 : bdR 4 f) (h1 : Rv 9 t b) (h2 : BdP 270 t) (h3 : BdP 270 b) (nb : NoRt b) : Nums f t b 8 := by
  have b4 : ∀ i : Nat, i < 8 → Bd 3 (i : Int) := fun i h => by unfold Bd; omega
  have r : ∀ i, i < 8 → bdR 306 (rtv t b i) := fun i h => bdR_mono (bdR_rtv (a := 270) (L := 9) (k := 3) h2 h3 h1.lt h1.lb (b4 i h) (by decide)) (by decide)
  have z : ∀ i, i < 8 → bdR 2500 (tmN f t b i) := fun i h => bdR_mono (bdR_tm (a := 4) (c := 306) (N := 8) (by decide) h0 r i (by omega)) (show 4 + i * 306 ≤ 2500 by omega)
  exact ⟨h2.mono (by decide), h3.mono (by decide), by have := h1.lt; omega, by have := h1.lb; omega, fun i _ => nb i, fun i h => bdR_smf (z i h) (by decide), fun i h => bdR_smf (r i h) (by decide)⟩
theorem itL (f : Rat) (t b : List Int) (n m : Nat) : IT 2 (.tup (tmL f t b n m)) := fun d hd => by
  obtain ⟨i, _, rfl⟩ := List.mem_map.mp hd
  exact itF _
theorem itF' (f : Rat) : IT 2 (Fr f) := fun d hd => by
  simp only [List.mem_cons, List.not_mem_nil, or_false] at hd
  rcases hd with rfl | rfl <;> trivial
theorem itFR (f : Rat) (t b : List Int) : IT 3 (.lst [Fr f, Rt t b]) := fun d hd => by
  rcases List.mem_cons.mp hd with rfl | hd
  · exact itF' f
  · rw [List.mem_singleton.mp hd]; exact itR t b
theorem tmL_at {f : Rat} {t b : List Int} {n m i : Nat} (h : i < m) : atD (tmL f t b n m) (i : Int) = some (Fr (tmN f t b (n + i))) := by
  refine at_nat ?_
  rw [List.getElem?_map, List.getElem?_range h]; rfl
theorem cut_tmL {f : Rat} {t b : List Int} {n m k : Nat} (h : n + m ≤ k) : cutD (tmL f t b 0 k) (some (n : Int)) (some ((n : Int) + (m : Int))) = tmL f t b n m := by
  unfold cutD
  rw [show (n : Int) + (m : Int) = ((n + m : Nat) : Int) by omega, HT.sIx_nat, HT.sIx_nat, tmL_len, Nat.min_eq_left (show n ≤ k by omega), Nat.min_eq_left h, Nat.add_sub_cancel_left]
  refine List.ext_getElem ?_ fun i h1 h2 => ?_
  · rw [List.length_take, List.length_drop, tmL_len, tmL_len]; omega
  · rw [List.getElem_take, List.getElem_drop, List.getElem_map, List.getElem_map, List.getElem_range, List.getElem_range, Nat.zero_add]
theorem eqD_strT {x : Str} {k : Bool → Prop} (h : PyData.strOk x = true) (q : k true) : eqD (.str x) (.str x) k := by
  refine ⟨.str x, .str x, rfl, rfl, ?_, ?_, ?_⟩
  · show (PyData.canLay0 (.str x) && decide (PyData.depth (.str x) ≤ 64)) = true
    simp only [PyData.canLay0, h, PyData.depth, Bool.true_and]; rfl
  · show (PyData.canLay0 (.str x) && decide (PyData.depth (.str x) ≤ 64)) = true
    simp only [PyData.canLay0, h, PyData.depth, Bool.true_and]; rfl
  · have : PyData.eqv (.str x) (.str x) = true := by simp [PyData.eqv]
    rw [this]; exact q
theorem str_okT : ∀ i : Fin 6, ∀ j : Fin 6, PyData.strOk (Str.empty ++ Str.ofString "term of degrees " ++ Str.ofString (toString ((i.val : Int) - 1)) ++ Str.ofString ", " ++ Str.ofString (toString ((j.val : Int) - 1))) = true := by decide +kernel
theorem term_strs {t b : List Int} (lt : t.length ≤ 5) (lb : b.length ≤ 5) : ((t.length : Int) - 1).natAbs.log2 < 1920 ∧ ((b.length : Int) - 1).natAbs.log2 < 1920 ∧ (toString ((t.length : Int) - 1) : Str).length ≤ 10 ∧ (toString ((b.length : Int) - 1) : Str).length ≤ 10 ∧ PyData.strOk (termS t b) = true ∧
    termS t b = Str.ofString "term of degrees " ++ (toString ((t.length : Int) - 1) : Str) ++ Str.ofString ", " ++ (toString ((b.length : Int) - 1) : Str) := by
  have big : ∀ i : Int, -20 ≤ i → i ≤ 200 → i.natAbs.log2 < 1920 := fun i _ _ => by
    have : i.natAbs.log2 ≤ i.natAbs := Nat.log2_le_self _
    omega
  refine ⟨big _ (by omega) (by omega), big _ (by omega) (by omega), shortT _ (by omega) (by omega), shortT _ (by omega) (by omega), str_okT ⟨t.length, by omega⟩ ⟨b.length, by omega⟩, ?_⟩
  unfold termS
  rw [Str.empty_append]
/-- == of plain terms -/
theorem eqTR {f g : Rat} {t b u c : List Int} {k : Bool → Prop} (h : k (decide (f = g) && (decide (t = u) && decide (b = c)))) : eqD (.tup [Fr f, Rt t b]) (.tup [Fr g, Rt u c]) k := by
  have it : ∀ (f : Rat) (t b : List Int), IT 3 (.tup [Fr f, Rt t b]) := fun f t b d hd => by
    rcases List.mem_cons.mp hd with rfl | hd
    · exact itF' f
    · rw [List.mem_singleton.mp hd]; exact itR t b
  have inj : ∀ {r s : Rat}, Fr r = Fr s → r = s := fun {r s} e => by
    have e := D.tup.inj e
    have e1 := D.int.inj (List.cons.inj e).1
    have e2 := D.int.inj (List.cons.inj (List.cons.inj e).2).1
    rw [← Rat.num_divInt_den r, ← Rat.num_divInt_den s, e1, e2]
  refine eqD_it (n := 3) (m := 3) (it f t b) (it g u c) (by decide) (by decide) (fun z => ?_) (fun z => ?_)
  · have e := D.tup.inj z
    have e0 := inj (List.cons.inj e).1
    have e' := D.tup.inj (List.cons.inj (List.cons.inj e).2).1
    have e1 := dI_inj (D.tup.inj (List.cons.inj e').1)
    have e2 := dI_inj (D.tup.inj (List.cons.inj (List.cons.inj e').2).1)
    rw [decide_eq_true e0, decide_eq_true e1, decide_eq_true e2] at h
    exact h
  · have : (decide (f = g) && (decide (t = u) && decide (b = c))) = false := by
      refine Bool.eq_false_iff.mpr fun q => z ?_
      simp only [Bool.and_eq_true, decide_eq_true_eq] at q
      rw [q.1, q.2.1, q.2.2]
    rw [this] at h; exact h
theorem rtv_inv {u c : List Int} (h1 : NoRt u) (h2 : NoRt c) (n : Nat) : rtv c u n * rtv u c n = 1 := by
  unfold rtv
  rw [Rat.divInt_mul_divInt, show (1 : Rat) = Rat.divInt 1 1 from rfl, Rat.divInt_eq_divInt_iff (Int.mul_ne_zero (h1 n) (h2 n)) (by decide)]
  grind
theorem tm_div {f g : Rat} {t b u c v w : List Int} (g0 : g ≠ 0) (h : ∀ n, rtv v w n * rtv u c n = rtv t b n) : ∀ n, tmN (f / g) v w n * tmN g u c n = tmN f t b n
  | 0 => Rat.div_mul_cancel g0
  | n + 1 => by
    rw [tmN, tmN, tmN, ← tm_div g0 h n, ← h]
    grind
theorem Rv.w {t b : List Int} (h : TmIn t b) : Rv 5 t b := ⟨h.lw.nt, h.lw.nb, h.lw.ne, h.bt.mono (by decide), h.bb.mono (by decide), h.lt, h.lb⟩
theorem Rw.of {t b : List Int} (h : TmIn t b) : Rw t b := ⟨h.lw.nt, h.lw.nb, h.lw.ne, h.bt.mono (by decide), h.bb.mono (by decide), by have := h.lt; omega, by have := h.lb; omega⟩
theorem Fst.d {f : Rat} (h : Fst f) : bdR 2 f := h.2

theorem rtv_mov (m : Nat) (t b : List Int) (k : Nat) : rtv (pmov m t) (pmov m b) k = rtv t b (m + k) := by
  unfold rtv
  rw [pei_movedT, pei_movedT, show (k : Int) + (m : Int) = ((m + k : Nat) : Int) by omega]
theorem tm_mov (f : Rat) (t b : List Int) (m : Nat) : ∀ k, tmN (tmN f t b m) (pmov m t) (pmov m b) k = tmN f t b (m + k)
  | 0 => rfl
  | k + 1 => by rw [tmN, tm_mov f t b m k, rtv_mov, ← Nat.add_assoc, tmN]
theorem nums_40 {f : Rat} {t b : List Int} (F : Fst f) (I : TmIn t b) (h1 : Vb t) (h2 : Vb b) : Nums f t b 40 := by
  have r : ∀ i, i < 40 → bdR 50 (rtv t b i) := fun i h => ⟨bd_num (h1 i (by omega)), bd_den (h2 i (by omega)) (by decide)⟩
  have z : ∀ i, i < 40 → bdR 2100 (tmN f t b i) := fun i h => bdR_mono (bdR_tm (a := 2) (c := 50) (N := 40) (by decide) F.2 r i (by omega)) (by omega)
  exact ⟨I.bt.mono (by decide), I.bb.mono (by decide), by have := I.lt; omega, by have := I.lb; omega, fun i _ => I.nb i, fun i h => bdR_smf (z i h) (by decide), fun i h => bdR_smf (r i h) (by decide)⟩
theorem nums_mov {f : Rat} {t b : List Int} {m n N : Nat} (h : Nums f t b N) (I : TmIn t b) (hm : m ≤ 60) (hn : m + n ≤ N) : Nums (tmN f t b m) (pmov m t) (pmov m b) n := by
  have lt := I.lt
  have lb := I.lb
  obtain ⟨g1, g2⟩ := bd_mv (r := m) (by omega) I.bt (by omega)
  obtain ⟨g3, g4⟩ := bd_mv (r := m) (by omega) I.bb (by omega)
  refine ⟨g1.mono (by omega), g3.mono (by omega), by omega, by omega, fun i hi => ?_, fun i hi => ?_, fun i hi => ?_⟩
  · rw [pei_movedT, show (i : Int) + (m : Int) = ((m + i : Nat) : Int) by omega]
    exact h.nb (m + i) (by omega)
  · rw [tm_mov]; exact h.s1 _ (by omega)
  · rw [rtv_mov]; exact h.s2 _ (by omega)
theorem tmL_mov (f : Rat) (t b : List Int) (m n : Nat) : tmL (tmN f t b m) (pmov m t) (pmov m b) 0 n = tmL f t b m n := by
  unfold tmL
  exact List.map_congr_left fun i _ => by rw [Nat.zero_add, tm_mov]
theorem secIn_of {s : Nat} {t : List Int} (hs : 1 ≤ s) (h6 : s ≤ 6) (n : Nrm t) (ne : t ≠ []) (k : Nat) (b : BdP k t) (k7 : k ≤ 750) (l : (t.length - 1) * s ≤ 24) (hk : s * (k + t.length * 18 + 6) + 1 ≤ 2000) : SecIn s t := by
  have l1 := List.length_pos_iff.mpr ne
  have lt : t.length ≤ 25 := by
    have : t.length - 1 ≤ (t.length - 1) * s := Nat.le_mul_of_pos_right _ (by omega)
    omega
  have key : ∀ r n, r ≤ 100 → n ≤ s → BdP (n * (k + t.length * 18 + 6) + 1) (secN s r t n) := by
    intro r n hr
    induction n with
    | zero => intro _ c hc; rw [List.mem_singleton.mp hc]; exact Bd.mono (k := 1) (by unfold Bd; decide) (by omega)
    | succ n ih =>
      intro hn
      have b1 := ih (by omega)
      obtain ⟨b2, l2⟩ := bd_pst (s := s) (r := r + n) h6 (by omega) b (by omega)
      have l3 := sec_len (s := s) (r := r) h6 (k := 750) (by omega) (b.mono k7) (by omega) n (by omega)
      have l4 : n * (t.length - 1) ≤ (t.length - 1) * s := by rw [Nat.mul_comm]; exact Nat.mul_le_mul_left _ (by omega)
      rw [secN]
      refine (bd_pmul (m := 6) b1 b2 (by have : 2 ^ 6 = 64 := rfl; omega)).mono ?_
      rw [Nat.add_mul, Nat.one_mul]; omega
  exact ⟨n, ne, b.mono k7, l, fun r n hr hn => (key r n hr hn).mono (Nat.le_trans (Nat.add_le_add_right (Nat.mul_le_mul_right _ hn) 1) hk)⟩
/-- a drawn poly -/
theorem sec_drawn {s : Nat} {t : List Int} (hs : 1 ≤ s) (h6 : s ≤ 6) (n : Nrm t) (ne : t ≠ []) (b : BdP 70 t) (l : t.length ≤ 5) : SecIn s t := by
  refine secIn_of hs h6 n ne 70 b (by decide) ?_ ?_
  · exact Nat.le_trans (Nat.mul_le_mul (show t.length - 1 ≤ 4 by omega) h6) (by decide)
  · have : s * (70 + t.length * 18 + 6) ≤ 6 * 166 := Nat.mul_le_mul h6 (by omega)
    omega
/-- what a section's polys are -/
structure Sct (s : Nat) (T B : List Int) : Prop where
  nT : Nrm T
  nB : Nrm B
  tT : T ≠ []
  tB : B ≠ []
  rT : NoRt T
  rB : NoRt B
  bT : BdP 1500 T
  bB : BdP 1500 B
  lT : T.length ≤ 4 * s + 1
  lB : B.length ≤ 4 * s + 1
  sm : s ≤ 3 → BdP 740 T ∧ BdP 740 B
theorem sct_of {t b T B : List Int} {s r : Nat} (I : TmIn t b) (hs : 1 ≤ s) (h6 : s ≤ 6) (hr : r ≤ 60) (L : Low T B) (C : Crs T B (secN s r t s) (secN s r b s)) : Sct s T B := by
  have lt := I.lt
  have lb := I.lb
  have key : ∀ {p : List Int}, BdP 70 p → p.length ≤ 5 → ∀ n, n ≤ s → BdP (n * 166 + 1) (secN s r p n) ∧ (secN s r p n).length ≤ 4 * n + 1 := by
    intro p bp lp n
    induction n with
    | zero => intro _; exact ⟨fun c hc => by rw [List.mem_singleton.mp hc]; exact Bd.mono (k := 1) (by unfold Bd; decide) (by decide), by rw [secN]; simp⟩
    | succ n ih =>
      intro hn
      obtain ⟨b1, l1⟩ := ih (by omega)
      obtain ⟨b2, l2⟩ := bd_pst (s := s) (r := r + n) h6 (by omega) bp (by omega)
      refine ⟨?_, ?_⟩
      · rw [secN]
        refine (bd_pmul (m := 5) b1 b2 (by have : 2 ^ 5 = 32 := rfl; omega)).mono (by omega)
      · have := sec_len (s := s) (r := r) h6 (k := 70) (by omega) bp (by omega) (n + 1) (by omega)
        have : (n + 1) * (p.length - 1) ≤ (n + 1) * 4 := Nat.mul_le_mul_left _ (by omega)
        omega
  obtain ⟨b1, l1⟩ := key I.bt I.lt s (Nat.le_refl _)
  obtain ⟨b2, l2⟩ := key I.bb I.lb s (Nat.le_refl _)
  have n1 := nort_sec (s := s) (r := r) I.nt s
  have n2 := nort_sec (s := s) (r := r) I.nb s
  obtain ⟨r1, r2⟩ := nort_low L C n1 n2
  have nb := sec_ne (r := r) hs I.lw.nb I.lw.ne s
  obtain ⟨⟨g1, g2⟩, g3, g4⟩ := low_bd (a := s * 166 + 1) (L := 25) (k := 6) (by decide) L C (nrm_sec s) (nrm_sec s) nb b1 b2 (by omega) (by omega)
  refine ⟨L.nt, L.nb, nort_ne r1, L.ne, r1, r2, g1.mono (by omega), g2.mono (by omega), by omega, by omega, fun h3 => ?_⟩
  obtain ⟨⟨q1, q2⟩, _⟩ := low_bd (a := s * 166 + 1) (L := 13) (k := 5) (by decide) L C (nrm_sec s) (nrm_sec s) nb b1 b2 (by omega) (by omega)
  exact ⟨q1.mono (by omega), q2.mono (by omega)⟩
theorem sec_sct {s : Nat} {T B : List Int} (h : Sct s T B) (h3 : s ≤ 3) (hs : 1 ≤ s) : SecIn 2 T ∧ SecIn 2 B := by
  obtain ⟨b1, b2⟩ := h.sm h3
  have l1 := h.lT
  have l2 := h.lB
  exact ⟨secIn_of (by decide) (by decide) h.nT h.tT 740 b1 (by decide) (by omega) (by omega), secIn_of (by decide) (by decide) h.nB h.tB 740 b2 (by decide) (by omega) (by omega)⟩

/-! ### hockey-stick numbers -/
def bn : Nat → Nat → Int
  | 0, _ => 1
  | _ + 1, 0 => 1
  | n + 1, k + 1 => bn (n + 1) k + bn n (k + 1)
theorem bn_zero : ∀ n, bn n 0 = 1
  | 0 => by rw [bn]
  | _ + 1 => by rw [bn]
theorem bn_id : ∀ n k : Nat, ((k : Int) + 1) * bn n (k + 1) = ((n : Int) + k + 1) * bn n k
  | 0, k => by rw [bn, bn]; omega
  | n + 1, 0 => by
    have h := bn_id n 0
    rw [bn_zero] at h
    have e5 : bn (n + 1) (0 + 1) = bn (n + 1) 0 + bn n (0 + 1) := by conv => lhs; rw [bn]
    rw [e5, bn_zero]
    have h0 : bn n (0 + 1) = (n : Int) + 1 := by
      have e : ((0 : Nat) : Int) + 1 = 1 := rfl
      rw [e, Int.one_mul] at h
      rw [h]; omega
    rw [h0, Int.natCast_add]
    grind
  | n + 1, k + 1 => by
    have a := bn_id n (k + 1)
    have b := bn_id (n + 1) k
    have e : bn (n + 1) (k + 1 + 1) = bn (n + 1) (k + 1) + bn n (k + 1 + 1) := by conv => lhs; rw [bn]
    have e2 : bn (n + 1) (k + 1) = bn (n + 1) k + bn n (k + 1) := by conv => lhs; rw [bn]
    rw [e]
    simp only [Int.natCast_add] at a b ⊢
    generalize bn n (k + 1 + 1) = A at *
    generalize bn (n + 1) (k + 1) = B at *
    generalize bn (n + 1) k = C at *
    generalize bn n (k + 1) = D at *
    have : D = B - C := by omega
    subst this
    have e3 : ((k : Int) + ((1 : Nat) : Int) + 1) * (B + A) = ((k : Int) + 2) * B + ((k : Int) + ((1 : Nat) : Int) + 1) * A := by grind
    rw [e3, a]
    have e4 : ((k : Int) + 1) * B = ((n : Int) + ((1 : Nat) : Int) + k + 1) * C := b
    grind
/-- sums of a row's first numbers are the next row -/
theorem bn_sum (n : Nat) : ∀ k, ((List.range (k + 1)).map (bn n)).sum = bn (n + 1) k
  | 0 => by
    rw [List.range_succ, List.range_zero, List.nil_append, List.map_cons, List.map_nil, List.sum_cons, List.sum_nil, bn_zero, bn_zero]; rfl
  | k + 1 => by
    rw [List.range_succ, List.map_append, List.sum_append, bn_sum n k, bn]
    simp
theorem tm_bn {t b : List Int} (m : Nat) (hb : NoRt b) (C : Crs t b [(m : Int) + 1, 1] [1, 1]) : ∀ k, tmN 1 t b k = ((bn m k : Int) : Rat)
  | 0 => by rw [tmN, bn_zero]; rfl
  | k + 1 => by
    have h2 : NoRt [1, 1] := fun n => by rw [pei_cons, pei_cons, pei_nil]; omega
    rw [tmN, tm_bn m hb C k, rtv_crs C hb h2]
    unfold rtv
    have e1 : pei [(m : Int) + 1, 1] (k : Int) = (m : Int) + k + 1 := by rw [pei_cons, pei_cons, pei_nil]; omega
    have e2 : pei [1, 1] (k : Int) = (k : Int) + 1 := by rw [pei_cons, pei_cons, pei_nil]; omega
    rw [e1, e2]
    have e3 : ((bn m k : Int) : Rat) = Rat.divInt (bn m k) 1 := divInt_int _
    have e4 : ((bn m (k + 1) : Int) : Rat) = Rat.divInt (bn m (k + 1)) 1 := divInt_int _
    rw [e3, e4, Rat.divInt_mul_divInt, Rat.divInt_eq_divInt_iff (by omega) (by decide)]
    have := bn_id m k
    rw [Int.one_mul, Int.mul_one, Int.mul_comm (bn m k), ← this]
    exact Int.mul_comm _ _

theorem nums_sct {f : Rat} {t b T B : List Int} {s r N : Nat} (h : Nums f t b 40) (I : TmIn t b) (S : Sct s T B) (h6 : s ≤ 6) (C : Crs T B (secN s r t s) (secN s r b s)) (hN : N ≤ 5) (hr : s * 4 + r < 40) : Nums (tmN f t b r) T B N := by
  have l1 := S.lT
  have l2 := S.lB
  refine ⟨S.bT.mono (by decide), S.bB.mono (by decide), by omega, by omega, fun i _ => S.rB i, fun i hi => ?_, fun i hi => ?_⟩
  · rw [tm_sec I.nt I.nb S.rB C]
    have : s * i ≤ s * 4 := Nat.mul_le_mul_left _ (by omega)
    exact h.s1 _ (by omega)
  · exact bdR_smf (bdR_rtv (a := 1500) (L := 25) (k := 3) S.bT S.bB (by omega) (by omega) (by unfold Bd; omega) (by decide)) (by decide)
theorem tmL_sct {f : Rat} {t b T B : List Int} {s r n : Nat} (I : TmIn t b) (S : Sct s T B) (C : Crs T B (secN s r t s) (secN s r b s)) : tmL (tmN f t b r) T B 0 n = (List.range n).map fun i => Fr (tmN f t b (s * i + r)) := by
  unfold tmL
  exact List.map_congr_left fun i _ => by rw [Nat.zero_add, tm_sec I.nt I.nb S.rB C]
def rowD (n : Nat) : List D := (List.range 10).map fun k => D.int (bn n k)
theorem rowD_zero : (List.replicate (Int.toNat 10) [D.int 1]).flatten = rowD 0 := by
  unfold rowD
  have e : ((List.range 10).map fun k => D.int (bn 0 k)) = (List.range 10).map fun _ => D.int 1 := List.map_congr_left fun k _ => by rw [bn]
  rw [e]; rfl
theorem rowD_len (n : Nat) : (rowD n).length = 10 := by unfold rowD; rw [List.length_map, List.length_range]
theorem rowD_cut {n k : Nat} (h : k < 10) : cutD (rowD n) none (some ((k : Int) + 1)) = ((List.range (k + 1)).map (bn n)).map D.int := by
  rw [show (k : Int) + 1 = ((k + 1 : Nat) : Int) by omega, cut_to (by rw [rowD_len]; omega)]
  unfold rowD
  rw [← List.map_take, List.map_map]
  have : (List.range 10).take (k + 1) = List.range (k + 1) := by rw [List.take_range, Nat.min_eq_left (by omega)]
  rw [this]; rfl
theorem rows_last (k : Nat) : atD ((List.range (k + 1)).map fun n => D.lst (rowD n)) (-1) = some (.lst (rowD k)) := by
  rw [List.range_succ, List.map_append]
  exact at_last (by simp)
theorem nort_bin {m : Nat} {t b : List Int} (L : Low t b) (C : Crs t b [(m : Int) + 1, 1] [1, 1]) : NoRt b :=
  (nort_low L C (fun n => by rw [pei_cons, pei_cons, pei_nil]; omega) (fun n => by rw [pei_cons, pei_cons, pei_nil]; omega)).2
theorem nums_bin {m : Nat} {t b : List Int} (hm : m ≤ 60) (L : Low t b) (C : Crs t b [(m : Int) + 1, 1] [1, 1]) : Nums 1 t b 10 := by
  have hb := nort_bin L C
  have n1 : Nrm [(m : Int) + 1, 1] := fun c hc => by cases hc; show (1 : Int) ≠ 0; decide
  have n2 : Nrm [(1 : Int), 1] := fun c hc => by cases hc; decide
  have b1 : BdP 7 [(m : Int) + 1, 1] := fun c hc => by
    simp only [List.mem_cons, List.not_mem_nil, or_false] at hc
    rcases hc with rfl | rfl
    · unfold Bd; omega
    · unfold Bd; decide
  have b2 : BdP 7 [(1 : Int), 1] := fun c hc => by
    simp only [List.mem_cons, List.not_mem_nil, or_false] at hc
    rcases hc with rfl | rfl <;> (unfold Bd; decide)
  obtain ⟨⟨g1, g2⟩, g3, g4⟩ := low_bd (L := 2) (k := 2) (by decide) L C n1 n2 (by simp) b1 b2 (by simp) (by simp)
  simp at g3 g4
  have r : ∀ i, i < 10 → bdR 33 (rtv t b i) := fun i h => bdR_mono (bdR_rtv (L := 2) (k := 4) g1 g2 (by omega) (by omega) (by unfold Bd; omega) (by decide)) (by decide)
  have z : ∀ i, i < 10 → bdR 400 (tmN 1 t b i) := fun i h => bdR_mono (bdR_tm (a := 1) (c := 33) (N := 10) (by decide) ⟨by unfold Bd; decide, by unfold Bd; decide⟩ r i (by omega)) (by omega)
  exact ⟨g1.mono (by decide), g2.mono (by decide), by omega, by omega, fun i _ => hb i, fun i h => bdR_smf (z i h) (by decide), fun i h => bdR_smf (r i h) (by decide)⟩
theorem k20_rest {R : XD} {Q : QD} {S : Sto} {p : Addr} (h : ∀ x y z : Int, Q (.bl true) (Dice p x y z S)) (e1 e2 e3 e4 e5 e6 e7 : Option D) (x y z : Int) :
    wpB Gm (dropB 9 b__law_right) { nx := fun _ S => RtQ Q .non S, rt := RtQ Q } (fun k x _ S => RtQ (R k) x S) [some (.ref p), e1, e2, e3, e4, e5, e6, e7, none, none, none, none, none, none, none, none] (Dice p x y z S) := by
  unfold b__law_right
  simp only [dropB]
  walk_at "wpc"
  refine ⟨by decide, p, _, rfl, ⟨_, _, _, sup_same⟩, by simp, by simp, fun v hv x3 y3 z3 => ⟨by decide, p, _, rfl, ⟨_, _, _, sup_same⟩, by simp, by simp, fun w hw x4 y4 z4 => ?_⟩⟩
  simp only [sup_sup]
  obtain ⟨m, rfl, m0', m4⟩ : ∃ t : Int, v = .int t ∧ t ≠ 0 ∧ t.natAbs < 8 := by
    simp only [List.mem_cons, List.not_mem_nil, or_false] at hv
    rcases hv with rfl | rfl | rfl | rfl <;> exact ⟨_, rfl, by decide, by decide⟩
  obtain ⟨n, rfl, n0', n4⟩ : ∃ t : Int, w = .int t ∧ t ≠ 0 ∧ t.natAbs < 8 := by
    simp only [List.mem_cons, List.not_mem_nil, or_false] at hw
    rcases hw with rfl | rfl | rfl <;> exact ⟨_, rfl, by decide, by decide⟩
  have bm : Bd 3 m := m4
  have bn' : Bd 3 n := n4
  refine ⟨m, n, rfl, n0', bn'.mono (by decide), ?_⟩
  have bR : bdR 3 (Rat.divInt m n) := ⟨bd_num bm, bd_den bn' (by decide)⟩
  have r0 : Rat.divInt m n ≠ 0 := fun e => by
    rw [show (0 : Rat) = Rat.divInt 0 1 from rfl, Rat.divInt_eq_divInt_iff n0' (by decide)] at e
    omega
  generalize Rat.divInt m n = r at *
  have dn : (r.den : Int) ≠ 0 := Int.natCast_ne_zero.mpr r.den_nz
  have rv : ∀ k, rtv [r.num] [(r.den : Int)] k = r := fun k => by
    unfold rtv
    rw [pei_cons, pei_nil, pei_cons, pei_nil, Int.mul_zero, Int.add_zero, Int.add_zero, Rat.num_divInt_den]
  have sR : SmF r := bdR_smf bR (by decide)
  have NP : Nums 1 [r.num] [(r.den : Int)] 7 := by
    have q : ∀ i, i ≤ 7 → bdR (1 + i * 3) (tmN 1 [r.num] [(r.den : Int)] i) := bdR_tm (by decide) ⟨by unfold Bd; decide, by unfold Bd; decide⟩ fun i _ => by rw [rv]; exact bR
    refine ⟨fun c hc => by rw [List.mem_singleton.mp hc]; exact bR.1.mono (by decide), fun c hc => by rw [List.mem_singleton.mp hc]; exact bR.2.mono (by decide), by simp, by simp, fun i _ => ?_, fun i hi => bdR_smf (q i (by omega)) (by omega), fun i _ => by rw [rv]; exact sR⟩
    rw [pei_cons, pei_nil, Int.mul_zero, Int.add_zero]; exact dn
  walk_at "wpc"
  refine ⟨r, rfl, r0, sR, by decide, ?_⟩
  walk_at "wpc"
  refine ⟨_, rfl, by decide, by decide, ?_⟩
  rw [show rangeD 0 1 (6 : Int).toNat = upD 0 6 from range_up 0 6]
  refine forL_ind (fun rest ρ S' => ∃ k j xx, rest = upD k j ∧ k + j = 6 ∧ ρ = [some (.ref p), e1, e2, e3, e4, e5, e6, e7, xx, some (Fr r), some (Tm 1 [r.num] [(r.den : Int)]), some (Fr (tmN 1 [r.num] [(r.den : Int)] k)), none, none, none, none] ∧ S' = sup S p (.lst [.int x4, .int y4, .int z4])) ?_ ?_ _ _ _ ⟨0, 6, _, rfl, rfl, rfl, rfl⟩
  · rintro ρ S' ⟨k, j, xx, f1, f2, rfl, rfl⟩
    refine ⟨trivial, ?_⟩
    walk_at "wpc"
    refine ⟨p, 7, rfl, ⟨_, _, _, sup_same⟩, by decide, by decide, fun u0 x5 y5 z5 u1 u2 => ?_⟩
    simp only [sup_sup]
    obtain ⟨u, rfl⟩ := Int.eq_ofNat_of_zero_le u1
    walk_at "wpc"
    refine ⟨by decide, by decide, by decide, by decide, by decide, fun l hl => ?_⟩
    rw [rowD_zero]
    walk_at "wpc"
    refine ⟨u, rfl, by omega, by omega, ?_⟩
    rw [show rangeD 0 1 (u : Int).toNat = upD 0 u by rw [Int.toNat_natCast]; exact range_up 0 u]
    refine forL_ind (fun rest ρ S' => ∃ k j a8 a11 xx, rest = upD k j ∧ k + j = u ∧ ρ = [some (.ref p), e1, e2, e3, e4, e5, e6, e7, a8, some (Fr r), some (Tm 1 [r.num] [(r.den : Int)]), a11, some (.int u), some (.ref l), xx, none] ∧ S' = sup (sup S p (.lst [.int x5, .int y5, .int z5])) l (.lst ((List.range (k + 1)).map fun n => D.lst (rowD n)))) ?_ ?_ _ _ _ ⟨0, u, _, _, _, rfl, by omega, rfl, rfl⟩
    · rintro ρ S' ⟨k, j, a8, a11, xx, g1, g2, rfl, rfl⟩
      have j0 : j = 0 := by cases j with | zero => rfl | succ j => cases g1
      subst j0
      have ku : k = u := by omega
      subst ku
      refine ⟨trivial, ?_⟩
      walk_at "wpc"
      refine ⟨k, rfl, by omega, fun T B L C => ⟨⟨_, rfl⟩, 1, T, B, 0, 10, rfl, by decide, by decide, nums_bin (by omega) L C, ?_⟩⟩
      walk_at "wpx"
      refine compL_mapG (α := Nat) (C := fun _ => True) (fun i => Fr (tmN 1 T B (0 + i))) (fun i => D.int (bn k i)) trivial (List.range 10) [] (fun i hi N2 hN2 => ?_) ?_
      · walk_at "wpx"
        have e : (tmN 1 T B (0 + i)).num = bn k i := by rw [Nat.zero_add, tm_bn k (nort_bin L C) C, Rat.num_intCast]
        rw [e]
        exact hN2
      · have ea : atD ((List.range (k + 1)).map fun n => D.lst (rowD n)) (k : Int) = some (.lst (rowD k)) := at_nat (by rw [List.getElem?_map, List.getElem?_range (by omega)]; rfl)
        have er : res (sup (sup S p (.lst [.int x5, .int y5, .int z5])) l (.lst ((List.range (k + 1)).map fun n => D.lst (rowD n)))) (.ref l) = .lst ((List.range (k + 1)).map fun n => D.lst (rowD n)) := res_of sup_same
        rw [er]
        refine ⟨_, ea, ?_⟩
        rw [List.nil_append]
        refine eqD_same (n := 1) (x := .lst (rowD k)) (fun d hd => by
          obtain ⟨i, _, rfl⟩ := List.mem_map.mp hd
          trivial) (by decide) ?_
        exact rtq_sup hl (h _ _ _)
    · rintro d rest ρ S' N' ⟨k, j, a8, a11, xx, g1, g2, rfl, rfl⟩ hN
      cases j with
      | zero => cases g1
      | succ j =>
        obtain ⟨rfl, rfl⟩ := List.cons.inj g1
        refine ⟨trivial, ?_⟩
        walk_at "wpc"
        refine ⟨l, rfl, ⟨_, sup_same⟩, _, rfl, by decide, by decide, ?_⟩
        rw [show rangeD 0 1 (10 : Int).toNat = (List.range 10).map fun i : Nat => D.int (i : Int) by
          unfold rangeD
          exact List.map_congr_left fun i _ => by rw [Int.mul_one, Int.zero_add]]
        refine compL_mapG (α := Nat) (fun i => D.int (i : Int)) (fun i => D.int (bn (k + 1) i)) trivial (List.range 10) [] (fun i hi N2 hN2 => ?_) ?_
        · rw [List.mem_range] at hi
          walk_at "wpx"
          refine ⟨_, rows_last k, ?_⟩
          refine ⟨(List.range (i + 1)).map (bn k), by rw [rowD_cut hi], ?_⟩
          rw [bn_sum]
          exact hN2
        · refine ⟨_, sup_same, by rw [List.length_map, List.length_range, sizeLine_eq]; omega, ?_⟩
          rw [List.nil_append, sup_sup]
          try dsimp only
          rw [wpB]
          refine hN _ _ ⟨k + 1, j, _, _, _, rfl, by omega, rfl, ?_⟩
          rw [List.range_succ (n := k + 1), List.map_append]; rfl
  · rintro d rest ρ S' N' ⟨k, j, xx, f1, f2, rfl, rfl⟩ hN
    cases j with
    | zero => cases f1
    | succ j =>
      obtain ⟨rfl, rfl⟩ := List.cons.inj f1
      refine ⟨trivial, ?_⟩
      walk_at "wpc"
      refine ⟨⟨_, rfl⟩, 1, [r.num], [(r.den : Int)], k, rfl, by omega, NP.less (by omega), ?_⟩
      refine eqD_same (itF _) (by decide) ?_
      walk_at "wpx"
      rw [wpB]
      walk_at "wpc"
      refine ⟨_, r, rfl, NP.s1 k (by omega), sR, ?_⟩
      try dsimp only
      try rw [wpB]
      exact hN _ _ ⟨k + 1, j, _, rfl, by omega, by rw [tmN, rv], rfl⟩
theorem sok__law_right : SpecOk Gm d__law_right := by
  rintro ds S R Q ⟨p, rfl, hS, h⟩
  refine ⟨rfl, ?_⟩
  show wpB Gm b__law_right _ _ [some (.ref p), none, none, none, none, none, none, none, none, none, none, none, none, none, none, none] S
  unfold b__law_right
  walk_at "wpc"
  refine ⟨p, rfl, hS, fun f t b x y z F I V1 V2 => ?_⟩
  have lT := I.lt
  have lB := I.lb
  have N := nums_40 F I V1 V2
  walk_at "wpc"
  intro pa qa hp hq ne
  refine ⟨pa, qa, _, _, rfl, sup_same, (by rw [sup_ne ne, sup_same]), .inr ⟨f, t, b, rfl, F.1, rfl, I, rfl, [Fr f, Rt t b], sup_same, (by rw [sup_ne ne, sup_ne ne, sup_same]), ?_⟩⟩
  rw [sup_sup, new_endT hp hq]
  clear hp hq ne
  refine ⟨f, t, b, 40, rfl, by decide, N, by decide, ?_⟩
  walk_at "wpc"
  refine ⟨by decide, p, _, rfl, ⟨_, _, _, sup_same⟩, by simp, by simp, fun v hv x1 y1 z1 => ?_⟩
  simp only [sup_sup]
  obtain ⟨m, rfl, hm⟩ : ∃ m : Nat, v = .int m ∧ m ≤ 20 := by
    simp only [List.mem_cons, List.not_mem_nil, or_false] at hv
    rcases hv with rfl | rfl | rfl | rfl | rfl
    · exact ⟨0, rfl, by decide⟩
    · exact ⟨1, rfl, by decide⟩
    · exact ⟨2, rfl, by decide⟩
    · exact ⟨7, rfl, by decide⟩
    · exact ⟨20, rfl, by decide⟩
  have bt1 : BdP 1000 t := I.bt.mono (by decide)
  have bb1 : BdP 1000 b := I.bb.mono (by decide)
  walk_at "wpc"
  refine ⟨f, t, b, m, rfl, by omega, N.less (by omega), bt1, bb1, by omega, by omega, ?_⟩
  refine ⟨⟨_, rfl⟩, tmN f t b m, pmov m t, pmov m b, 0, 6, rfl, by decide, by decide, nums_mov N I (by omega) (by omega), ?_⟩
  have ec : cutD (tmL f t b 0 40) (some (m : Int)) (some ((m : Int) + 6)) = tmL f t b m 6 := cut_tmL (m := 6) (show m + 6 ≤ 40 by omega)
  rw [tmL_mov, ec]
  refine eqD_same (itL f t b m 6) (by decide) ?_
  walk_at "wpx"
  rw [wpB]
  walk_at "wpc"
  refine ⟨f, t, b, m, rfl, by omega, N.less (by omega), bt1, bb1, by omega, by omega, ?_⟩
  refine ⟨⟨_, rfl⟩, tmN f t b m, pmov m t, pmov m b, rfl, t, b, m, rfl, I, by omega, fun t' b' L C => ?_⟩
  have tb := moved_ne (m := (m : Int)) I.lw.nb I.lw.ne
  obtain ⟨rfl, rfl⟩ := low_one L (low_mov m I.lw) (nrm_pmov _ _) tb (nrm_pmov _ _) tb C (fun x => rfl) (fun x => rfl)
  refine eqD_same (itR _ _) (by decide) ?_
  walk_at "wpx"
  rw [wpB]
  walk_at "wpc"
  refine ⟨p, 6, rfl, ⟨_, _, _, sup_same⟩, by decide, by decide, fun s0 x2 y2 z2 s1 s2 => ?_⟩
  refine ⟨p, 6, rfl, ⟨_, _, _, sup_same⟩, by decide, by decide, fun r0 x3 y3 z3 r1 r2 => ?_⟩
  simp only [sup_sup]
  obtain ⟨s, hs⟩ : ∃ s : Nat, (s : Int) = 1 + s0 := ⟨(1 + s0).toNat, by omega⟩
  obtain ⟨r, rfl⟩ := Int.eq_ofNat_of_zero_le r1
  rw [← hs]
  have hs1 : 1 ≤ s := by omega
  have hs6 : s ≤ 6 := by omega
  have hr5 : r ≤ 5 := by omega
  have SI := sec_drawn (s := s) hs1 hs6 I.lw.nt I.t0 I.bt I.lt
  have SJ := sec_drawn (s := s) hs1 hs6 I.lw.nb I.lw.ne I.bb I.lb
  refine ⟨by decide, ?_⟩
  walk_at "wpc"
  refine ⟨f, t, b, s, r, rfl, hs1, hs6, by omega, N.less (by omega), SI, SJ, fun T B L1 C1 => ?_⟩
  have ST := sct_of I hs1 hs6 (by omega) L1 C1
  walk_at "wpc"
  refine ⟨⟨_, rfl⟩, tmN f t b r, T, B, 0, 5, rfl, by decide, by decide, nums_sct N I ST hs6 C1 (by decide) (by omega), ?_⟩
  refine ⟨_, rfl, by decide, by decide, ?_⟩
  rw [show rangeD 0 1 (5 : Int).toNat = (List.range 5).map fun i : Nat => D.int (i : Int) by
    unfold rangeD
    exact List.map_congr_left fun i _ => by rw [Int.mul_one, Int.zero_add]]
  refine compL_mapG (α := Nat) (fun i => D.int (i : Int)) (fun i => Fr (tmN f t b (s * i + r))) trivial (List.range 5) [] (fun i hi N' hN => ?_) ?_
  · rw [List.mem_range] at hi
    have hsi : s * i ≤ 6 * 4 := Nat.mul_le_mul hs6 (by omega)
    walk_at "wpx"
    refine ⟨mulOk (show Bd 3 (s : Int) by unfold Bd; omega) (show Bd 3 (i : Int) by unfold Bd; omega) (by decide) (by decide), ?_⟩
    have e : (s : Int) * (i : Int) + (r : Int) = ((s * i + r : Nat) : Int) := by rw [Int.natCast_add, Int.natCast_mul]
    rw [e]
    refine ⟨_, tmL_at (by omega), ?_⟩
    rw [Nat.zero_add]
    exact hN
  rw [List.nil_append, tmL_sct I ST C1]
  refine eqD_same (n := 2) (fun d hd => by
    obtain ⟨i, _, rfl⟩ := List.mem_map.mp hd
    exact itF _) (by decide) ?_
  walk_at "wpx"
  rw [wpB]
  walk_at "wpc"
  have fin := k20_rest (R := R) (Q := Q) (S := S) (p := p) h (some (.tup [Fr f, Rt t b])) (some (.obj "Term" [Fr f, Rt t b])) (some (.lst (tmL f t b 0 40))) (some (.int m)) (some (.int s)) (some (.int r)) (some (Tm (tmN f t b r) T B)) x3 y3 z3
  have b3 : Bd 3 (s : Int) := by unfold Bd; omega
  by_cases c : s < 4
  · have c' : (s : Int) < 4 := by omega
    simp only [c', decide_true, if_true]
    obtain ⟨J1, J2⟩ := sec_sct ST (by omega) hs1
    have s26 : 2 * s ≤ 6 := by omega
    have SI2 := sec_drawn (s := 2 * s) (by omega) s26 I.lw.nt I.t0 I.bt I.lt
    have SJ2 := sec_drawn (s := 2 * s) (by omega) s26 I.lw.nb I.lw.ne I.bb I.lb
    refine ⟨tmN f t b r, T, B, 2, 1, rfl, by decide, by decide, by decide, nums_sct N I ST hs6 C1 (by decide) (by omega), J1, J2, fun T2 B2 L2 C2 => ?_⟩
    refine ⟨mulOk (show Bd 3 (2 : Int) by unfold Bd; decide) b3 (by decide) (by decide), ?_⟩
    refine ⟨f, t, b, 2 * s, s + r, by rw [Int.natCast_mul, Int.natCast_add]; rfl, by omega, s26, by omega, N.less (by omega), SI2, SJ2, fun T3 B3 L3 C3 => ?_⟩
    refine ⟨⟨_, rfl⟩, ⟨_, rfl⟩, tmN (tmN f t b r) T B 1, T2, B2, _, rfl, .inl ⟨tmN f t b (s + r), T3, B3, rfl, _, rfl, ?_⟩⟩
    have e1 : tmN (tmN f t b r) T B 1 = tmN f t b (s + r) := by rw [tm_sec I.nt I.nb ST.rB C1, Nat.mul_one]
    obtain ⟨e2, e3⟩ := low_one L2 L3 (nrm_sec _) (sec_ne (by decide) ST.nB ST.tB _) (nrm_sec _) (sec_ne (by omega) I.lw.nb I.lw.ne _) C2 C3 (sec_sec C1)
    rw [decide_eq_true e1, decide_eq_true e2, decide_eq_true e3]
    simp only [Bool.and_self, Bool.not_true, Bool.false_eq_true, if_false]
    rw [wpB]
    exact fin
  · have c' : ¬ (s : Int) < 4 := by omega
    simp only [c', decide_false, Bool.false_eq_true, if_false]
    rw [wpB]
    exact fin

theorem nums_fac : Nums 1 [1, 1] [1] 10 := by
  have b1 : BdP 1 [(1 : Int), 1] := fun c hc => by
    simp only [List.mem_cons, List.not_mem_nil, or_false] at hc
    rcases hc with rfl | rfl <;> (unfold Bd; decide)
  have b2 : BdP 1 [(1 : Int)] := fun c hc => by rw [List.mem_singleton.mp hc]; unfold Bd; decide
  have r : ∀ i, i < 10 → bdR 11 (rtv [1, 1] [1] i) := fun i h => bdR_mono (bdR_rtv (L := 2) (k := 4) b1 b2 (by simp) (by simp) (by unfold Bd; omega) (by decide)) (by decide)
  have z : ∀ i, i < 10 → bdR 200 (tmN 1 [1, 1] [1] i) := fun i h => bdR_mono (bdR_tm (a := 1) (c := 11) (N := 10) (by decide) ⟨by unfold Bd; decide, by unfold Bd; decide⟩ r i (by omega)) (by omega)
  exact ⟨b1.mono (by decide), b2.mono (by decide), by simp, by simp, fun i _ => by rw [pei_cons, pei_nil]; omega, fun i h => bdR_smf (z i h) (by decide), fun i h => bdR_smf (r i h) (by decide)⟩
theorem nums_fac_b : BdP 300 [(1 : Int), 1] ∧ BdP 300 [(1 : Int)] := by
  have b : Bd 300 (1 : Int) := Bd.mono (k := 1) (by unfold Bd; decide) (by decide)
  refine ⟨fun c hc => ?_, fun c hc => by rw [List.mem_singleton.mp hc]; exact b⟩
  simp only [List.mem_cons, List.not_mem_nil, or_false] at hc
  rcases hc with rfl | rfl <;> exact b
theorem half_fr : (D.tup [.int 1, .int 2] : D) = Fr (Rat.divInt 1 2) := by rfl
theorem fr_intT (i : Int) : Fr (i : Rat) = .tup [.int i, .int 1] := by
  show D.tup [.int (i : Rat).num, .int ((i : Rat).den : Int)] = _
  rw [Rat.num_intCast, Rat.den_intCast]; rfl
def fc : Nat → Int
  | 0 => 1
  | k + 1 => fc k * ((k : Int) + 1)
theorem tm_fac : ∀ k, tmN 1 [1, 1] [1] k = ((fc k : Int) : Rat)
  | 0 => rfl
  | k + 1 => by
    rw [tmN, tm_fac k, fc, Rat.intCast_mul]
    congr 1
    unfold rtv
    have e1 : pei [1, 1] (k : Int) = (k : Int) + 1 := by rw [pei_cons, pei_cons, pei_nil]; omega
    have e2 : pei [1] (k : Int) = 1 := by rw [pei_cons, pei_nil]; omega
    rw [e1, e2, divInt_int]
theorem fac_num : tmL 1 [1, 1] [1] 0 6 = [.tup [.int 1, .int 1], .tup [.int 1, .int 1], .tup [.int 2, .int 1], .tup [.int 6, .int 1], .tup [.int 24, .int 1], .tup [.int 120, .int 1]] := by
  have e : tmL 1 [1, 1] [1] 0 6 = (List.range 6).map fun i => D.tup [.int (fc i), .int 1] := by
    unfold tmL
    exact List.map_congr_left fun i _ => by rw [Nat.zero_add, tm_fac, fr_intT]
  rw [e]; rfl
theorem nums_ft {t' b' : List Int} (L : Low t' b') (C : Crs t' b' (pmul [1, 1] [1]) (pmul [1] [2])) : Nums (1 * 1) t' b' 5 ∧ tmN (1 * 1) t' b' 4 = Rat.divInt 3 2 := by
  have p1 : pmul [1, 1] [1] = [1, 1] := by decide
  have p2 : pmul [1] [2] = [2] := by decide
  have q1 : NoRt (pmul [1, 1] [1]) := fun n => by rw [p1, pei_cons, pei_cons, pei_nil]; omega
  have q2 : NoRt (pmul [1] [2]) := fun n => by rw [p2, pei_cons, pei_nil]; omega
  have q3 : NoRt [(1 : Int)] := fun n => by rw [pei_cons, pei_nil]; omega
  have q4 : NoRt [(2 : Int)] := fun n => by rw [pei_cons, pei_nil]; omega
  obtain ⟨_, hb⟩ := nort_low L C q1 q2
  have b1 : BdP 7 (pmul [1, 1] [1]) := by
    rw [p1]; intro c hc
    simp only [List.mem_cons, List.not_mem_nil, or_false] at hc
    rcases hc with rfl | rfl <;> (unfold Bd; decide)
  have b2 : BdP 7 (pmul [1] [2]) := by
    rw [p2]; intro c hc; rw [List.mem_singleton.mp hc]; unfold Bd; decide
  have n1 : Nrm (pmul [1, 1] [1]) := by rw [p1]; intro c hc; cases hc; decide
  have n2 : Nrm (pmul [1] [2]) := by rw [p2]; intro c hc; cases hc; decide
  obtain ⟨⟨g1, g2⟩, g3, g4⟩ := low_bd (L := 2) (k := 2) (by decide) L C n1 n2 (by rw [p2]; simp) b1 b2 (by rw [p1]; simp) (by rw [p2]; simp)
  rw [p1] at g3
  rw [p2] at g4
  simp at g3 g4
  have r : ∀ i, i < 5 → bdR 33 (rtv t' b' i) := fun i h => bdR_mono (bdR_rtv (L := 2) (k := 4) g1 g2 (by omega) (by omega) (by unfold Bd; omega) (by decide)) (by decide)
  have z : ∀ i, i < 5 → bdR 400 (tmN (1 * 1) t' b' i) := fun i h => bdR_mono (bdR_tm (a := 1) (c := 33) (N := 5) (by decide) (show bdR 1 (1 * 1) by rw [Rat.mul_one]; exact ⟨by unfold Bd; decide, by unfold Bd; decide⟩) r i (by omega)) (by omega)
  refine ⟨⟨g1.mono (by decide), g2.mono (by decide), by omega, by omega, fun i _ => hb i, fun i h => bdR_smf (z i h) (by decide), fun i h => bdR_smf (r i h) (by decide)⟩, ?_⟩
  rw [tm_mul (f := 1) (g := 1) (rtv_mul C hb q3 q4), tm_fac]
  have rv : ∀ k, rtv [1] [2] k = Rat.divInt 1 2 := fun k => by
    unfold rtv
    rw [pei_cons, pei_nil, pei_cons, pei_nil, Int.mul_zero, Int.add_zero, Int.add_zero]
  rw [tmN, tmN, tmN, tmN, tmN, rv, rv, rv, rv]
  decide +kernel
theorem it_pair (n : Nat) (a b : Int) : IT (n + 1) (.tup [.int a, .int b]) := fun d hd => by
  simp only [List.mem_cons, List.not_mem_nil, or_false] at hd
  rcases hd with rfl | rfl <;> cases n <;> trivial
theorem sok_law : SpecOk Gm d_law := by
  rintro ds S R Q ⟨ns, rfl, q⟩
  refine ⟨rfl, ?_⟩
  show wpB Gm b_law _ _ [some (.scr ns), none, none, none, none, none] S
  unfold b_law
  walk_at "wpc"
  refine ⟨_, _, rfl, rfl, ?_⟩
  refine ⟨_, _, rfl, rfl, ?_⟩
  generalize hm : (if (if (ns.length : Int) < 8 then (ns.length : Int) else 8) > 1 then (if (ns.length : Int) < 8 then (ns.length : Int) else 8) else 1) = m
  have m1 : 1 ≤ m ∧ m ≤ 8 := by rw [← hm]; split <;> (try split) <;> omega
  refine ⟨m, rfl, by omega, by omega, ?_⟩
  refine forL_ind (fun rest ρ S' => ∃ x y z, ρ = [some (.scr ns), x, y, z, none, none] ∧ ∀ d ∈ rest, ∃ i : Nat, d = .int i) ?_ ?_ _ _ _ ⟨none, none, none, rfl, fun d hd => ?_⟩
  · rintro ρ S' ⟨x, y, z, rfl, _⟩
    refine ⟨trivial, ?_⟩
    walk_at "wpc"
    refine ⟨rfl, ?_⟩
    walk_at "wpc"
    have w1 : Rw [1, 1] [1] := ⟨fun c hc => by cases hc; decide, fun c hc => by cases hc; decide, by simp, nums_fac_b.1, nums_fac_b.2, by simp, by simp⟩
    have w2 : Rw [1] [2] := ⟨fun c hc => by cases hc; decide, fun c hc => by cases hc; decide, by simp, fun c hc => by rw [List.mem_singleton.mp hc]; exact Bd.mono (k := 1) (by unfold Bd; decide) (by decide), fun c hc => by rw [List.mem_singleton.mp hc]; exact Bd.mono (k := 2) (by unfold Bd; decide) (by decide), by simp, by simp⟩
    have s1 : SmF 1 := ⟨by unfold Bd; decide, by unfold Bd; decide⟩
    refine ⟨⟨_, rfl⟩, 1, [1, 1], [1], 0, 6, rfl, by decide, by decide, nums_fac.less (by decide), by decide, ?_⟩
    refine ⟨Rat.divInt 1 2, rfl, by decide, ⟨bd_num (Bd.mono (k := 1) (by unfold Bd; decide) (by decide)), bd_den (Bd.mono (k := 2) (by unfold Bd; decide) (by decide)) (by decide)⟩, ?_⟩
    refine ⟨1, [1, 1], [1], 1, [1], [2], rfl, s1, s1, w1, w2, fun t' b' L C => ⟨⟨_, rfl⟩, 1 * 1, t', b', 4, rfl, by decide, (nums_ft L C).1, ?_⟩⟩
    have e3 : Fr (tmN (1 * 1) t' b' 4) = .tup [.int 3, .int 2] := by
      rw [(nums_ft L C).2]; rfl
    rw [e3]
    refine ⟨60, rfl, by decide, fun t2 b2 L2 C2 => ⟨⟨_, rfl⟩, 1, t2, b2, 1, rfl, by decide, (nums_bin (by decide) L2 C2).less (by decide), ?_⟩⟩
    have e4 : Fr (tmN 1 t2 b2 1) = .tup [.int 61, .int 1] := by
      have h := bn_id 60 0
      rw [bn_zero] at h
      have h1 : bn 60 1 = 61 := by
        have : ((0 : Nat) : Int) + 1 = 1 := rfl
        rw [this, Int.one_mul] at h
        exact h
      rw [tm_bn 60 (nort_bin L2 C2) C2, h1, fr_intT]
    rw [e4, fac_num]
    refine ⟨by decide, fun l hl => ?_⟩
    walk_at "wpc"
    refine ⟨l, rfl, ⟨_, sup_same⟩, 1, [1, 1], [1], 3, rfl, by decide, nums_fac.less (by decide), nums_fac_b.1.mono (by decide), nums_fac_b.2.mono (by decide), by simp, by simp, ?_⟩
    have e5 : Fr (tmN 1 [1, 1] [1] 3) = .tup [.int 6, .int 1] := by rw [tm_fac, fr_intT]; rfl
    refine ⟨⟨_, rfl⟩, _, _, _, rfl, _, sup_same, by decide, ?_⟩
    rw [e5, sup_sup]
    walk_at "wpc"
    repeat (refine ⟨by decide, ?_⟩)
    refine eqD_same (n := 3) (x := .lst [.tup [.tup [.int 1, .int 1], .tup [.int 1, .int 1], .tup [.int 2, .int 1], .tup [.int 6, .int 1], .tup [.int 24, .int 1], .tup [.int 120, .int 1]], .tup [.int 3, .int 2], .tup [.int 61, .int 1], .tup [.int 6, .int 1]]) (fun d hd => by
      simp only [List.mem_cons, List.not_mem_nil, or_false] at hd
      rcases hd with rfl | rfl | rfl | rfl
      · intro d hd
        simp only [List.mem_cons, List.not_mem_nil, or_false] at hd
        rcases hd with rfl | rfl | rfl | rfl | rfl | rfl <;> exact it_pair _ _ _
      · exact it_pair _ _ _
      · exact it_pair _ _ _
      · exact it_pair _ _ _) (by decide) ?_
    exact rtq_sup hl (q _)
  · rintro d rest ρ S' N ⟨x, y, z, rfl, hd⟩ hN
    obtain ⟨i, rfl⟩ := hd d List.mem_cons_self
    refine ⟨trivial, ?_⟩
    walk_at "wpc"
    refine ⟨ns, i, rfl, fun p a b c hp => ?_⟩
    walk_at "wpc"
    refine ⟨3, rfl, by decide, by decide, ?_⟩
    refine forL_ind (fun rest ρ S' => ∃ z, ρ = [some (.scr ns), some (.int i), some (.ref p), z, none, none] ∧ HasDice S' p) ?_ ?_ _ _ _ ⟨z, rfl, _, _, _, sup_same⟩
    · rintro ρ S2 ⟨z, rfl, hS⟩
      refine ⟨trivial, ?_⟩
      try dsimp only
      rw [wpB]
      exact hN _ _ ⟨_, _, _, rfl, fun d' h' => hd d' (List.mem_cons_of_mem _ h')⟩
    · rintro d rest ρ S2 N' ⟨z, rfl, hS⟩ hN'
      refine ⟨trivial, ?_⟩
      walk_at "wpc"
      refine ⟨p, rfl, hS, fun a b c => ?_⟩
      walk_at "wpx"
      rw [wpB]
      try dsimp only
      rw [wpB]
      exact hN' _ _ ⟨_, rfl, _, _, _, sup_same⟩
  · obtain ⟨j, _, rfl⟩ := List.mem_map.mp hd
    exact ⟨j, by congr 1; omega⟩
theorem law_fin (ns : List Int) : Gm.fn F.law [.scr ns] (fun _ => none) xNo fun d _ => d = .bl true := by
  rw [fn_law]
  exact ⟨ns, rfl, fun _ => rfl⟩

end LW
namespace LW
open PySem PySem.Spec PyProof.Rows L2 DL
/-! ### against the text -/
abbrev top (i : Nat) : Stmt := PySem.Challenge.pw_sumsclose_k20_whole_terms_of_other_place.main.body.getD i (.Pass ⟨0, 0, 0, 0⟩)
abbrev meth (i j : Nat) : Stmt := match top i with | .ClassDef _ _ _ bd _ _ _ _ _ _ _ => bd.getD j (.Pass ⟨0, 0, 0, 0⟩) | s => s
theorem ok_value_in : okD d_value_in (defScope (top 29)) (defBody (top 29)) = true := by kernel_rfl
theorem bd_value_in : BindOk (defArgs (top 29)) ["poly", "number"] := fun _ _ _ _ _ _ _ _ _ _ us hl => match us, hl with | [_, _], _ => rfl
theorem ok_balanced : okD d_balanced (defScope (top 44)) (defBody (top 44)) = true := by kernel_rfl
theorem bd_balanced : BindOk (defArgs (top 44)) ["number", "modulus"] := fun _ _ _ _ _ _ _ _ _ _ us hl => match us, hl with | [_, _], _ => rfl
theorem ok_inverse_in : okD d_inverse_in (defScope (top 39)) (defBody (top 39)) = true := by kernel_rfl
theorem bd_inverse_in : BindOk (defArgs (top 39)) ["number", "modulus"] := fun _ _ _ _ _ _ _ _ _ _ us hl => match us, hl with | [_, _], _ => rfl
theorem ok_derived_in : okD d_derived_in (defScope (top 28)) (defBody (top 28)) = true := by kernel_rfl
theorem bd_derived_in : BindOk (defArgs (top 28)) ["poly"] := fun _ _ _ _ _ _ _ _ _ _ us hl => match us, hl with | [_], _ => rfl
theorem ok_led_up : okD d_led_up (defScope (top 45)) (defBody (top 45)) = true := by kernel_rfl
theorem bd_led_up : BindOk (defArgs (top 45)) ["poly", "root", "prime", "bound"] := fun _ _ _ _ _ _ _ _ _ _ us hl => match us, hl with | [_, _, _, _], _ => rfl
theorem ok_next_prime : okD d_next_prime (defScope (top 43)) (defBody (top 43)) = true := by kernel_rfl
theorem bd_next_prime : BindOk (defArgs (top 43)) ["prime"] := fun _ _ _ _ _ _ _ _ _ _ us hl => match us, hl with | [_], _ => rfl
theorem ok_poly_in : okD d_poly_in (defScope (top 15)) (defBody (top 15)) = true := by kernel_rfl
theorem bd_poly_in : BindOk (defArgs (top 15)) ["numbers"] := fun _ _ _ _ _ _ _ _ _ _ us hl => match us, hl with | [_], _ => rfl
theorem ok_by_modulus : okD d_by_modulus (defScope (top 37)) (defBody (top 37)) = true := by kernel_rfl
theorem bd_by_modulus : BindOk (defArgs (top 37)) ["poly", "modulus"] := fun _ _ _ _ _ _ _ _ _ _ us hl => match us, hl with | [_, _], _ => rfl
theorem ok_parted_by : okD d_parted_by (defScope (top 38)) (defBody (top 38)) = true := by kernel_rfl
theorem bd_parted_by : BindOk (defArgs (top 38)) ["one", "other", "modulus"] := fun _ _ _ _ _ _ _ _ _ _ us hl => match us, hl with | [_, _, _], _ => rfl
theorem ok_by_in : okD d_by_in (defScope (top 19)) (defBody (top 19)) = true := by kernel_rfl
theorem bd_by_in : BindOk (defArgs (top 19)) ["number", "poly"] := fun _ _ _ _ _ _ _ _ _ _ us hl => match us, hl with | [_, _], _ => rfl
theorem ok_with_last_one : okD d_with_last_one (defScope (top 40)) (defBody (top 40)) = true := by kernel_rfl
theorem bd_with_last_one : BindOk (defArgs (top 40)) ["poly", "prime"] := fun _ _ _ _ _ _ _ _ _ _ us hl => match us, hl with | [_, _], _ => rfl
theorem ok_common_modulo : okD d_common_modulo (defScope (top 41)) (defBody (top 41)) = true := by kernel_rfl
theorem bd_common_modulo : BindOk (defArgs (top 41)) ["one", "other", "prime"] := fun _ _ _ _ _ _ _ _ _ _ us hl => match us, hl with | [_, _, _], _ => rfl
theorem ok_good_prime : okD d_good_prime (defScope (top 42)) (defBody (top 42)) = true := by kernel_rfl
theorem bd_good_prime : BindOk (defArgs (top 42)) ["poly"] := fun _ _ _ _ _ _ _ _ _ _ us hl => match us, hl with | [_], _ => rfl
theorem ok_over_in : okD d_over_in (defScope (top 24)) (defBody (top 24)) = true := by kernel_rfl
theorem bd_over_in : BindOk (defArgs (top 24)) ["poly", "number"] := fun _ _ _ _ _ _ _ _ _ _ us hl => match us, hl with | [_, _], _ => rfl
theorem ok_common_share : okD d_common_share (defScope (top 7)) (defBody (top 7)) = true := by kernel_rfl
theorem bd_common_share : BindOk (defArgs (top 7)) ["one", "other"] := fun _ _ _ _ _ _ _ _ _ _ us hl => match us, hl with | [_, _], _ => rfl
theorem ok_content_in : okD d_content_in (defScope (top 22)) (defBody (top 22)) = true := by kernel_rfl
theorem bd_content_in : BindOk (defArgs (top 22)) ["poly"] := fun _ _ _ _ _ _ _ _ _ _ us hl => match us, hl with | [_], _ => rfl
theorem ok_lowest_in : okD d_lowest_in (defScope (top 25)) (defBody (top 25)) = true := by kernel_rfl
theorem bd_lowest_in : BindOk (defArgs (top 25)) ["poly"] := fun _ _ _ _ _ _ _ _ _ _ us hl => match us, hl with | [_], _ => rfl
theorem ok_plus_in : okD d_plus_in (defScope (top 18)) (defBody (top 18)) = true := by kernel_rfl
theorem bd_plus_in : BindOk (defArgs (top 18)) ["one", "other"] := fun _ _ _ _ _ _ _ _ _ _ us hl => match us, hl with | [_, _], _ => rfl
theorem ok_minus_in : okD d_minus_in (defScope (top 20)) (defBody (top 20)) = true := by kernel_rfl
theorem bd_minus_in : BindOk (defArgs (top 20)) ["one", "other"] := fun _ _ _ _ _ _ _ _ _ _ us hl => match us, hl with | [_, _], _ => rfl
theorem ok_times_in : okD d_times_in (defScope (top 21)) (defBody (top 21)) = true := by kernel_rfl
theorem bd_times_in : BindOk (defArgs (top 21)) ["one", "other"] := fun _ _ _ _ _ _ _ _ _ _ us hl => match us, hl with | [_, _], _ => rfl
theorem ok_parted_in : okD d_parted_in (defScope (top 30)) (defBody (top 30)) = true := by kernel_rfl
theorem bd_parted_in : BindOk (defArgs (top 30)) ["one", "other"] := fun _ _ _ _ _ _ _ _ _ _ us hl => match us, hl with | [_, _], _ => rfl
theorem ok_quotient_in : okD d_quotient_in (defScope (top 31)) (defBody (top 31)) = true := by kernel_rfl
theorem bd_quotient_in : BindOk (defArgs (top 31)) ["one", "other"] := fun _ _ _ _ _ _ _ _ _ _ us hl => match us, hl with | [_, _], _ => rfl
theorem ok_lowest_over : okD d_lowest_over (defScope (top 33)) (defBody (top 33)) = true := by kernel_rfl
theorem bd_lowest_over : BindOk (defArgs (top 33)) ["one", "other"] := fun _ _ _ _ _ _ _ _ _ _ us hl => match us, hl with | [_, _], _ => rfl
theorem ok_common_in : okD d_common_in (defScope (top 34)) (defBody (top 34)) = true := by kernel_rfl
theorem bd_common_in : BindOk (defArgs (top 34)) ["one", "other"] := fun _ _ _ _ _ _ _ _ _ _ us hl => match us, hl with | [_, _], _ => rfl
theorem ok_slim_in : okD d_slim_in (defScope (top 36)) (defBody (top 36)) = true := by kernel_rfl
theorem bd_slim_in : BindOk (defArgs (top 36)) ["poly"] := fun _ _ _ _ _ _ _ _ _ _ us hl => match us, hl with | [_], _ => rfl
theorem ok_degree_in : okD d_degree_in (defScope (top 17)) (defBody (top 17)) = true := by kernel_rfl
theorem bd_degree_in : BindOk (defArgs (top 17)) ["poly"] := fun _ _ _ _ _ _ _ _ _ _ us hl => match us, hl with | [_], _ => rfl
theorem ok_integer_roots : okD d_integer_roots (defScope (top 46)) (defBody (top 46)) = true := by kernel_rfl
theorem bd_integer_roots : BindOk (defArgs (top 46)) ["poly"] := fun _ _ _ _ _ _ _ _ _ _ us hl => match us, hl with | [_], _ => rfl
theorem ok_root_places : okD d_root_places (defScope (top 47)) (defBody (top 47)) = true := by kernel_rfl
theorem bd_root_places : BindOk (defArgs (top 47)) ["poly"] := fun _ _ _ _ _ _ _ _ _ _ us hl => match us, hl with | [_], _ => rfl
theorem ok_is_rootless : okD d_is_rootless (defScope (top 62)) (defBody (top 62)) = true := by kernel_rfl
theorem bd_is_rootless : BindOk (defArgs (top 62)) ["ratio"] := fun _ _ _ _ _ _ _ _ _ _ us hl => match us, hl with | [_], _ => rfl
theorem ok_content_of : okD d_content_of (defScope (top 23)) (defBody (top 23)) = true := by kernel_rfl
theorem bd_content_of : BindOk (defArgs (top 23)) ["polys"] := fun _ _ _ _ _ _ _ _ _ _ us hl => match us, hl with | [_], _ => rfl
theorem ok_exact_in : okD d_exact_in (defScope (top 32)) (defBody (top 32)) = true := by kernel_rfl
theorem bd_exact_in : BindOk (defArgs (top 32)) ["one", "other"] := fun _ _ _ _ _ _ _ _ _ _ us hl => match us, hl with | [_, _], _ => rfl
theorem ok_divided : okD d_divided (defScope (top 51)) (defBody (top 51)) = true := by kernel_rfl
theorem bd_divided : BindOk (defArgs (top 51)) ["poly", "common"] := fun _ _ _ _ _ _ _ _ _ _ us hl => match us, hl with | [_, _], _ => rfl
theorem ok_ratio_in : okD d_ratio_in (defScope (top 50)) (defBody (top 50)) = true := by kernel_rfl
theorem bd_ratio_in : BindOk (defArgs (top 50)) ["top", "bottom"] := fun _ _ _ _ _ _ _ _ _ _ us hl => match us, hl with | [_, _], _ => rfl
theorem ok_is_integer : okD d_is_integer (defScope (top 6)) (defBody (top 6)) = true := by kernel_rfl
theorem bd_is_integer : BindOk (defArgs (top 6)) ["value"] := fun _ _ _ _ _ _ _ _ _ _ us hl => match us, hl with | [_], _ => rfl
theorem ok_is_plain_poly : okD d_is_plain_poly (defScope (top 16)) (defBody (top 16)) = true := by kernel_rfl
theorem bd_is_plain_poly : BindOk (defArgs (top 16)) ["value"] := fun _ _ _ _ _ _ _ _ _ _ us hl => match us, hl with | [_], _ => rfl
theorem ok_is_plain_ratio : okD d_is_plain_ratio (defScope (top 54)) (defBody (top 54)) = true := by kernel_rfl
theorem bd_is_plain_ratio : BindOk (defArgs (top 54)) ["value"] := fun _ _ _ _ _ _ _ _ _ _ us hl => match us, hl with | [_], _ => rfl
theorem ok_is_passed_ratio : okD d_is_passed_ratio (defScope (top 63)) (defBody (top 63)) = true := by kernel_rfl
theorem bd_is_passed_ratio : BindOk (defArgs (top 63)) ["value"] := fun _ _ _ _ _ _ _ _ _ _ us hl => match us, hl with | [_], _ => rfl
theorem ok_is_broken : okD d_is_broken (defScope (top 11)) (defBody (top 11)) = true := by kernel_rfl
theorem bd_is_broken : BindOk (defArgs (top 11)) ["value"] := fun _ _ _ _ _ _ _ _ _ _ us hl => match us, hl with | [_], _ => rfl
theorem ok_is_factor : okD d_is_factor (defScope (top 64)) (defBody (top 64)) = true := by kernel_rfl
theorem bd_is_factor : BindOk (defArgs (top 64)) ["value"] := fun _ _ _ _ _ _ _ _ _ _ us hl => match us, hl with | [_], _ => rfl
theorem ok_Term_init : okD d_Term_init (defScope (meth 65 1)) (defBody (meth 65 1)) = true := by kernel_rfl
theorem bd_Term_init : BindOk (defArgs (meth 65 1)) ["self", "first", "ratio"] := fun _ _ _ _ _ _ _ _ _ _ us hl => match us, hl with | [_, _, _], _ => rfl
theorem ok_KnownRatio_init : okD d_KnownRatio_init (defScope (meth 61 1)) (defBody (meth 61 1)) = true := by kernel_rfl
theorem bd_KnownRatio_init : BindOk (defArgs (meth 61 1)) ["self", "ratio"] := fun _ _ _ _ _ _ _ _ _ _ us hl => match us, hl with | [_, _], _ => rfl
theorem ok_made_term : okD d_made_term (defScope (top 66)) (defBody (top 66)) = true := by kernel_rfl
theorem bd_made_term : BindOk (defArgs (top 66)) ["first", "ratio"] := fun _ _ _ _ _ _ _ _ _ _ us hl => match us, hl with | [_, _], _ => rfl
theorem ok_moved_in : okD d_moved_in (defScope (top 26)) (defBody (top 26)) = true := by kernel_rfl
theorem bd_moved_in : BindOk (defArgs (top 26)) ["poly", "many"] := fun _ _ _ _ _ _ _ _ _ _ us hl => match us, hl with | [_, _], _ => rfl
theorem ok_ratio_moved_in : okD d_ratio_moved_in (defScope (top 53)) (defBody (top 53)) = true := by kernel_rfl
theorem bd_ratio_moved_in : BindOk (defArgs (top 53)) ["ratio", "many"] := fun _ _ _ _ _ _ _ _ _ _ us hl => match us, hl with | [_, _], _ => rfl
theorem ok_broken_in : okD d_broken_in (defScope (top 9)) (defBody (top 9)) = true := by kernel_rfl
theorem bd_broken_in : BindOk (defArgs (top 9)) ["top", "bottom"] := fun _ _ _ _ _ _ _ _ _ _ us hl => match us, hl with | [_, _], _ => rfl
theorem ok_broken_times : okD d_broken_times (defScope (top 10)) (defBody (top 10)) = true := by kernel_rfl
theorem bd_broken_times : BindOk (defArgs (top 10)) ["one", "other"] := fun _ _ _ _ _ _ _ _ _ _ us hl => match us, hl with | [_, _], _ => rfl
theorem ok_value_of : okD d_value_of (defScope (top 67)) (defBody (top 67)) = true := by kernel_rfl
theorem bd_value_of : BindOk (defArgs (top 67)) ["ratio", "place"] := fun _ _ _ _ _ _ _ _ _ _ us hl => match us, hl with | [_, _], _ => rfl
theorem ok_numbers_of : okD d_numbers_of (defScope (top 68)) (defBody (top 68)) = true := by kernel_rfl
theorem bd_numbers_of : BindOk (defArgs (top 68)) ["term", "first", "many"] := fun _ _ _ _ _ _ _ _ _ _ us hl => match us, hl with | [_, _, _], _ => rfl
theorem ok_require_within : okD d_require_within (defScope (top 71)) (defBody (top 71)) = true := by kernel_rfl
theorem bd_require_within : BindOk (defArgs (top 71)) ["value", "first", "last"] := fun _ _ _ _ _ _ _ _ _ _ us hl => match us, hl with | [_, _, _], _ => rfl
theorem ok_require_term : okD d_require_term (defScope (top 70)) (defBody (top 70)) = true := by kernel_rfl
theorem bd_require_term : BindOk (defArgs (top 70)) ["value"] := fun _ _ _ _ _ _ _ _ _ _ us hl => match us, hl with | [_], _ => rfl
theorem ok_term_moved : okD d_term_moved (defScope (top 74)) (defBody (top 74)) = true := by kernel_rfl
theorem bd_term_moved : BindOk (defArgs (top 74)) ["term", "many"] := fun _ _ _ _ _ _ _ _ _ _ us hl => match us, hl with | [_, _], _ => rfl
theorem ok_binomials : okD d_binomials (defScope (top 78)) (defBody (top 78)) = true := by kernel_rfl
theorem bd_binomials : BindOk (defArgs (top 78)) ["number"] := fun _ _ _ _ _ _ _ _ _ _ us hl => match us, hl with | [_], _ => rfl
theorem ok_ratio_times_in : okD d_ratio_times_in (defScope (top 52)) (defBody (top 52)) = true := by kernel_rfl
theorem bd_ratio_times_in : BindOk (defArgs (top 52)) ["one", "other"] := fun _ _ _ _ _ _ _ _ _ _ us hl => match us, hl with | [_, _], _ => rfl
theorem ok_term_times : okD d_term_times (defScope (top 73)) (defBody (top 73)) = true := by kernel_rfl
theorem bd_term_times : BindOk (defArgs (top 73)) ["one", "other"] := fun _ _ _ _ _ _ _ _ _ _ us hl => match us, hl with | [_, _], _ => rfl
theorem ok_require_factor : okD d_require_factor (defScope (top 72)) (defBody (top 72)) = true := by kernel_rfl
theorem bd_require_factor : BindOk (defArgs (top 72)) ["value"] := fun _ _ _ _ _ _ _ _ _ _ us hl => match us, hl with | [_], _ => rfl
theorem ok_powers : okD d_powers (defScope (top 76)) (defBody (top 76)) = true := by kernel_rfl
theorem bd_powers : BindOk (defArgs (top 76)) ["number"] := fun _ _ _ _ _ _ _ _ _ _ us hl => match us, hl with | [_], _ => rfl
theorem ok_factorials : okD d_factorials (defScope (top 77)) (defBody (top 77)) = true := by kernel_rfl
theorem bd_factorials : BindOk (defArgs (top 77)) [] := fun _ _ _ _ _ _ _ _ _ _ us hl => match us, hl with | [], _ => rfl
theorem ok__law_roll : okD d__law_roll (defScope (top 81)) (defBody (top 81)) = true := by kernel_rfl
theorem bd__law_roll : BindOk (defArgs (top 81)) ["dice", "total"] := fun _ _ _ _ _ _ _ _ _ _ us hl => match us, hl with | [_, _], _ => rfl
theorem ok__law_gcd : okD d__law_gcd (defScope (top 83)) (defBody (top 83)) = true := by kernel_rfl
theorem bd__law_gcd : BindOk (defArgs (top 83)) ["one", "other"] := fun _ _ _ _ _ _ _ _ _ _ us hl => match us, hl with | [_, _], _ => rfl
theorem ok__law_fr : okD d__law_fr (defScope (top 85)) (defBody (top 85)) = true := by kernel_rfl
theorem bd__law_fr : BindOk (defArgs (top 85)) ["top", "bottom"] := fun _ _ _ _ _ _ _ _ _ _ us hl => match us, hl with | [_, _], _ => rfl
theorem ok__law_fr_times : okD d__law_fr_times (defScope (top 86)) (defBody (top 86)) = true := by kernel_rfl
theorem bd__law_fr_times : BindOk (defArgs (top 86)) ["one", "other"] := fun _ _ _ _ _ _ _ _ _ _ us hl => match us, hl with | [_, _], _ => rfl
theorem ok__law_pick : okD d__law_pick (defScope (top 82)) (defBody (top 82)) = true := by kernel_rfl
theorem bd__law_pick : BindOk (defArgs (top 82)) ["dice", "items"] := fun _ _ _ _ _ _ _ _ _ _ us hl => match us, hl with | [_, _], _ => rfl
theorem ok_stretched_in : okD d_stretched_in (defScope (top 27)) (defBody (top 27)) = true := by kernel_rfl
theorem bd_stretched_in : BindOk (defArgs (top 27)) ["poly", "step", "first"] := fun _ _ _ _ _ _ _ _ _ _ us hl => match us, hl with | [_, _, _], _ => rfl
theorem ok_term_section : okD d_term_section (defScope (top 75)) (defBody (top 75)) = true := by kernel_rfl
theorem bd_term_section : BindOk (defArgs (top 75)) ["term", "step", "first"] := fun _ _ _ _ _ _ _ _ _ _ us hl => match us, hl with | [_, _, _], _ => rfl
theorem ok__law_content : okD d__law_content (defScope (top 84)) (defBody (top 84)) = true := by kernel_rfl
theorem bd__law_content : BindOk (defArgs (top 84)) ["numbers"] := fun _ _ _ _ _ _ _ _ _ _ us hl => match us, hl with | [_], _ => rfl
theorem ok__law_pl_by : okD d__law_pl_by (defScope (top 89)) (defBody (top 89)) = true := by kernel_rfl
theorem bd__law_pl_by : BindOk (defArgs (top 89)) ["number", "poly"] := fun _ _ _ _ _ _ _ _ _ _ us hl => match us, hl with | [_, _], _ => rfl
theorem ok__law_pl : okD d__law_pl (defScope (top 87)) (defBody (top 87)) = true := by kernel_rfl
theorem bd__law_pl : BindOk (defArgs (top 87)) ["numbers"] := fun _ _ _ _ _ _ _ _ _ _ us hl => match us, hl with | [_], _ => rfl
theorem ok__law_pl_parted : okD d__law_pl_parted (defScope (top 94)) (defBody (top 94)) = true := by kernel_rfl
theorem bd__law_pl_parted : BindOk (defArgs (top 94)) ["one", "other"] := fun _ _ _ _ _ _ _ _ _ _ us hl => match us, hl with | [_, _], _ => rfl
theorem ok__law_pl_over : okD d__law_pl_over (defScope (top 96)) (defBody (top 96)) = true := by kernel_rfl
theorem bd__law_pl_over : BindOk (defArgs (top 96)) ["one", "other"] := fun _ _ _ _ _ _ _ _ _ _ us hl => match us, hl with | [_, _], _ => rfl
theorem ok__law_pl_lowest : okD d__law_pl_lowest (defScope (top 91)) (defBody (top 91)) = true := by kernel_rfl
theorem bd__law_pl_lowest : BindOk (defArgs (top 91)) ["poly"] := fun _ _ _ _ _ _ _ _ _ _ us hl => match us, hl with | [_], _ => rfl
theorem ok__law_pl_common : okD d__law_pl_common (defScope (top 95)) (defBody (top 95)) = true := by kernel_rfl
theorem bd__law_pl_common : BindOk (defArgs (top 95)) ["one", "other"] := fun _ _ _ _ _ _ _ _ _ _ us hl => match us, hl with | [_, _], _ => rfl
theorem ok__law_rt : okD d__law_rt (defScope (top 97)) (defBody (top 97)) = true := by kernel_rfl
theorem bd__law_rt : BindOk (defArgs (top 97)) ["top", "bottom"] := fun _ _ _ _ _ _ _ _ _ _ us hl => match us, hl with | [_, _], _ => rfl
theorem ok__law_pl_plus : okD d__law_pl_plus (defScope (top 88)) (defBody (top 88)) = true := by kernel_rfl
theorem bd__law_pl_plus : BindOk (defArgs (top 88)) ["one", "other"] := fun _ _ _ _ _ _ _ _ _ _ us hl => match us, hl with | [_, _], _ => rfl
theorem ok__law_pl_times : okD d__law_pl_times (defScope (top 90)) (defBody (top 90)) = true := by kernel_rfl
theorem bd__law_pl_times : BindOk (defArgs (top 90)) ["one", "other"] := fun _ _ _ _ _ _ _ _ _ _ us hl => match us, hl with | [_, _], _ => rfl
theorem ok__law_pl_moved : okD d__law_pl_moved (defScope (top 92)) (defBody (top 92)) = true := by kernel_rfl
theorem bd__law_pl_moved : BindOk (defArgs (top 92)) ["poly", "many"] := fun _ _ _ _ _ _ _ _ _ _ us hl => match us, hl with | [_, _], _ => rfl
theorem ok__law_rt_moved : okD d__law_rt_moved (defScope (top 98)) (defBody (top 98)) = true := by kernel_rfl
theorem bd__law_rt_moved : BindOk (defArgs (top 98)) ["ratio", "many"] := fun _ _ _ _ _ _ _ _ _ _ us hl => match us, hl with | [_, _], _ => rfl
theorem ok__law_pl_at : okD d__law_pl_at (defScope (top 93)) (defBody (top 93)) = true := by kernel_rfl
theorem bd__law_pl_at : BindOk (defArgs (top 93)) ["poly", "place"] := fun _ _ _ _ _ _ _ _ _ _ us hl => match us, hl with | [_, _], _ => rfl
theorem ok__law_rt_at : okD d__law_rt_at (defScope (top 99)) (defBody (top 99)) = true := by kernel_rfl
theorem bd__law_rt_at : BindOk (defArgs (top 99)) ["ratio", "place"] := fun _ _ _ _ _ _ _ _ _ _ us hl => match us, hl with | [_, _], _ => rfl
theorem ok__law_tm_numbers : okD d__law_tm_numbers (defScope (top 101)) (defBody (top 101)) = true := by kernel_rfl
theorem bd__law_tm_numbers : BindOk (defArgs (top 101)) ["term", "many"] := fun _ _ _ _ _ _ _ _ _ _ us hl => match us, hl with | [_, _], _ => rfl
theorem ok__law_tm_drawn : okD d__law_tm_drawn (defScope (top 100)) (defBody (top 100)) = true := by kernel_rfl
theorem bd__law_tm_drawn : BindOk (defArgs (top 100)) ["dice", "degree"] := fun _ _ _ _ _ _ _ _ _ _ us hl => match us, hl with | [_, _], _ => rfl
theorem ok_require_place : okD d_require_place (defScope (top 69)) (defBody (top 69)) = true := by kernel_rfl
theorem bd_require_place : BindOk (defArgs (top 69)) ["place"] := fun _ _ _ _ _ _ _ _ _ _ us hl => match us, hl with | [_], _ => rfl
theorem ok_Term_numbers : okD d_Term_numbers (defScope (meth 65 5)) (defBody (meth 65 5)) = true := by kernel_rfl
theorem bd_Term_numbers : BindOk (defArgs (meth 65 5)) ["self", "place", "many"] := fun _ _ _ _ _ _ _ _ _ _ us hl => match us, hl with | [_, _, _], _ => rfl
theorem ok_Term_number : okD d_Term_number (defScope (meth 65 4)) (defBody (meth 65 4)) = true := by kernel_rfl
theorem bd_Term_number : BindOk (defArgs (meth 65 4)) ["self", "place"] := fun _ _ _ _ _ _ _ _ _ _ us hl => match us, hl with | [_, _], _ => rfl
theorem ok_Term_eq : okD d_Term_eq (defScope (meth 65 6)) (defBody (meth 65 6)) = true := by kernel_rfl
theorem bd_Term_eq : BindOk (defArgs (meth 65 6)) ["self", "other"] := fun _ _ _ _ _ _ _ _ _ _ us hl => match us, hl with | [_, _], _ => rfl
theorem ok_Term_ratio : okD d_Term_ratio (defScope (meth 65 3)) (defBody (meth 65 3)) = true := by kernel_rfl
theorem bd_Term_ratio : BindOk (defArgs (meth 65 3)) ["self"] := fun _ _ _ _ _ _ _ _ _ _ us hl => match us, hl with | [_], _ => rfl
theorem ok__law_right : okD d__law_right (defScope (top 102)) (defBody (top 102)) = true := by kernel_rfl
theorem bd__law_right : BindOk (defArgs (top 102)) ["dice"] := fun _ _ _ _ _ _ _ _ _ _ us hl => match us, hl with | [_], _ => rfl
theorem ok__law_dice : okD d__law_dice (defScope (top 80)) (defBody (top 80)) = true := by kernel_rfl
theorem bd__law_dice : BindOk (defArgs (top 80)) ["script", "spot"] := fun _ _ _ _ _ _ _ _ _ _ us hl => match us, hl with | [_, _], _ => rfl
theorem ok_Term_first : okD d_Term_first (defScope (meth 65 2)) (defBody (meth 65 2)) = true := by kernel_rfl
theorem bd_Term_first : BindOk (defArgs (meth 65 2)) ["self"] := fun _ _ _ _ _ _ _ _ _ _ us hl => match us, hl with | [_], _ => rfl
theorem ok_law : okD d_law (defScope (top 103)) (defBody (top 103)) = true := by kernel_rfl
theorem bd_law : BindOk (defArgs (top 103)) ["script"] := fun _ _ _ _ _ _ _ _ _ _ us hl => match us, hl with | [_], _ => rfl
def tb0 : List (Df × Stmt) := [(d_value_in, top 29), (d_balanced, top 44), (d_inverse_in, top 39), (d_derived_in, top 28), (d_led_up, top 45), (d_next_prime, top 43), (d_poly_in, top 15), (d_by_modulus, top 37), (d_parted_by, top 38), (d_by_in, top 19)]
def tb1 : List (Df × Stmt) := [(d_with_last_one, top 40), (d_common_modulo, top 41), (d_good_prime, top 42), (d_over_in, top 24), (d_common_share, top 7), (d_content_in, top 22), (d_lowest_in, top 25), (d_plus_in, top 18), (d_minus_in, top 20), (d_times_in, top 21)]
def tb2 : List (Df × Stmt) := [(d_parted_in, top 30), (d_quotient_in, top 31), (d_lowest_over, top 33), (d_common_in, top 34), (d_slim_in, top 36), (d_degree_in, top 17), (d_integer_roots, top 46), (d_root_places, top 47), (d_is_rootless, top 62), (d_content_of, top 23)]
def tb3 : List (Df × Stmt) := [(d_exact_in, top 32), (d_divided, top 51), (d_ratio_in, top 50), (d_is_integer, top 6), (d_is_plain_poly, top 16), (d_is_plain_ratio, top 54), (d_is_passed_ratio, top 63), (d_is_broken, top 11), (d_is_factor, top 64), (d_Term_init, meth 65 1)]
def tb4 : List (Df × Stmt) := [(d_KnownRatio_init, meth 61 1), (d_made_term, top 66), (d_moved_in, top 26), (d_ratio_moved_in, top 53), (d_broken_in, top 9), (d_broken_times, top 10), (d_value_of, top 67), (d_numbers_of, top 68), (d_require_within, top 71), (d_require_term, top 70)]
def tb5 : List (Df × Stmt) := [(d_term_moved, top 74), (d_binomials, top 78), (d_ratio_times_in, top 52), (d_term_times, top 73), (d_require_factor, top 72), (d_powers, top 76), (d_factorials, top 77), (d__law_roll, top 81), (d__law_gcd, top 83), (d__law_fr, top 85)]
def tb6 : List (Df × Stmt) := [(d__law_fr_times, top 86), (d__law_pick, top 82), (d_stretched_in, top 27), (d_term_section, top 75), (d__law_content, top 84), (d__law_pl_by, top 89), (d__law_pl, top 87), (d__law_pl_parted, top 94), (d__law_pl_over, top 96), (d__law_pl_lowest, top 91)]
def tb7 : List (Df × Stmt) := [(d__law_pl_common, top 95), (d__law_rt, top 97), (d__law_pl_plus, top 88), (d__law_pl_times, top 90), (d__law_pl_moved, top 92), (d__law_rt_moved, top 98), (d__law_pl_at, top 93), (d__law_rt_at, top 99), (d__law_tm_numbers, top 101), (d__law_tm_drawn, top 100)]
def tb8 : List (Df × Stmt) := [(d_require_place, top 69), (d_Term_numbers, meth 65 5), (d_Term_number, meth 65 4), (d_Term_eq, meth 65 6), (d_Term_ratio, meth 65 3), (d__law_right, top 102), (d__law_dice, top 80), (d_Term_first, meth 65 2), (d_law, top 103)]
def tab : List (Df × Stmt) := ((((((((tb0) ++ tb1) ++ tb2) ++ tb3) ++ tb4) ++ tb5) ++ tb6) ++ tb7) ++ tb8
theorem calls_ok : callsAll [] (tab.map (·.1)) = true := by kernel_rfl
theorem ok_all_0 : ∀ p ∈ tb0, okD p.1 (defScope p.2) (defBody p.2) = true := List.forall_mem_cons.2 ⟨ok_value_in, List.forall_mem_cons.2 ⟨ok_balanced, List.forall_mem_cons.2 ⟨ok_inverse_in, List.forall_mem_cons.2 ⟨ok_derived_in, List.forall_mem_cons.2 ⟨ok_led_up, List.forall_mem_cons.2 ⟨ok_next_prime, List.forall_mem_cons.2 ⟨ok_poly_in, List.forall_mem_cons.2 ⟨ok_by_modulus, List.forall_mem_cons.2 ⟨ok_parted_by, List.forall_mem_cons.2 ⟨ok_by_in, (fun _ h => nomatch h)⟩⟩⟩⟩⟩⟩⟩⟩⟩⟩
theorem ok_all_1 : ∀ p ∈ tb1, okD p.1 (defScope p.2) (defBody p.2) = true := List.forall_mem_cons.2 ⟨ok_with_last_one, List.forall_mem_cons.2 ⟨ok_common_modulo, List.forall_mem_cons.2 ⟨ok_good_prime, List.forall_mem_cons.2 ⟨ok_over_in, List.forall_mem_cons.2 ⟨ok_common_share, List.forall_mem_cons.2 ⟨ok_content_in, List.forall_mem_cons.2 ⟨ok_lowest_in, List.forall_mem_cons.2 ⟨ok_plus_in, List.forall_mem_cons.2 ⟨ok_minus_in, List.forall_mem_cons.2 ⟨ok_times_in, (fun _ h => nomatch h)⟩⟩⟩⟩⟩⟩⟩⟩⟩⟩
theorem ok_all_2 : ∀ p ∈ tb2, okD p.1 (defScope p.2) (defBody p.2) = true := List.forall_mem_cons.2 ⟨ok_parted_in, List.forall_mem_cons.2 ⟨ok_quotient_in, List.forall_mem_cons.2 ⟨ok_lowest_over, List.forall_mem_cons.2 ⟨ok_common_in, List.forall_mem_cons.2 ⟨ok_slim_in, List.forall_mem_cons.2 ⟨ok_degree_in, List.forall_mem_cons.2 ⟨ok_integer_roots, List.forall_mem_cons.2 ⟨ok_root_places, List.forall_mem_cons.2 ⟨ok_is_rootless, List.forall_mem_cons.2 ⟨ok_content_of, (fun _ h => nomatch h)⟩⟩⟩⟩⟩⟩⟩⟩⟩⟩
theorem ok_all_3 : ∀ p ∈ tb3, okD p.1 (defScope p.2) (defBody p.2) = true := List.forall_mem_cons.2 ⟨ok_exact_in, List.forall_mem_cons.2 ⟨ok_divided, List.forall_mem_cons.2 ⟨ok_ratio_in, List.forall_mem_cons.2 ⟨ok_is_integer, List.forall_mem_cons.2 ⟨ok_is_plain_poly, List.forall_mem_cons.2 ⟨ok_is_plain_ratio, List.forall_mem_cons.2 ⟨ok_is_passed_ratio, List.forall_mem_cons.2 ⟨ok_is_broken, List.forall_mem_cons.2 ⟨ok_is_factor, List.forall_mem_cons.2 ⟨ok_Term_init, (fun _ h => nomatch h)⟩⟩⟩⟩⟩⟩⟩⟩⟩⟩
theorem ok_all_4 : ∀ p ∈ tb4, okD p.1 (defScope p.2) (defBody p.2) = true := List.forall_mem_cons.2 ⟨ok_KnownRatio_init, List.forall_mem_cons.2 ⟨ok_made_term, List.forall_mem_cons.2 ⟨ok_moved_in, List.forall_mem_cons.2 ⟨ok_ratio_moved_in, List.forall_mem_cons.2 ⟨ok_broken_in, List.forall_mem_cons.2 ⟨ok_broken_times, List.forall_mem_cons.2 ⟨ok_value_of, List.forall_mem_cons.2 ⟨ok_numbers_of, List.forall_mem_cons.2 ⟨ok_require_within, List.forall_mem_cons.2 ⟨ok_require_term, (fun _ h => nomatch h)⟩⟩⟩⟩⟩⟩⟩⟩⟩⟩
theorem ok_all_5 : ∀ p ∈ tb5, okD p.1 (defScope p.2) (defBody p.2) = true := List.forall_mem_cons.2 ⟨ok_term_moved, List.forall_mem_cons.2 ⟨ok_binomials, List.forall_mem_cons.2 ⟨ok_ratio_times_in, List.forall_mem_cons.2 ⟨ok_term_times, List.forall_mem_cons.2 ⟨ok_require_factor, List.forall_mem_cons.2 ⟨ok_powers, List.forall_mem_cons.2 ⟨ok_factorials, List.forall_mem_cons.2 ⟨ok__law_roll, List.forall_mem_cons.2 ⟨ok__law_gcd, List.forall_mem_cons.2 ⟨ok__law_fr, (fun _ h => nomatch h)⟩⟩⟩⟩⟩⟩⟩⟩⟩⟩
theorem ok_all_6 : ∀ p ∈ tb6, okD p.1 (defScope p.2) (defBody p.2) = true := List.forall_mem_cons.2 ⟨ok__law_fr_times, List.forall_mem_cons.2 ⟨ok__law_pick, List.forall_mem_cons.2 ⟨ok_stretched_in, List.forall_mem_cons.2 ⟨ok_term_section, List.forall_mem_cons.2 ⟨ok__law_content, List.forall_mem_cons.2 ⟨ok__law_pl_by, List.forall_mem_cons.2 ⟨ok__law_pl, List.forall_mem_cons.2 ⟨ok__law_pl_parted, List.forall_mem_cons.2 ⟨ok__law_pl_over, List.forall_mem_cons.2 ⟨ok__law_pl_lowest, (fun _ h => nomatch h)⟩⟩⟩⟩⟩⟩⟩⟩⟩⟩
theorem ok_all_7 : ∀ p ∈ tb7, okD p.1 (defScope p.2) (defBody p.2) = true := List.forall_mem_cons.2 ⟨ok__law_pl_common, List.forall_mem_cons.2 ⟨ok__law_rt, List.forall_mem_cons.2 ⟨ok__law_pl_plus, List.forall_mem_cons.2 ⟨ok__law_pl_times, List.forall_mem_cons.2 ⟨ok__law_pl_moved, List.forall_mem_cons.2 ⟨ok__law_rt_moved, List.forall_mem_cons.2 ⟨ok__law_pl_at, List.forall_mem_cons.2 ⟨ok__law_rt_at, List.forall_mem_cons.2 ⟨ok__law_tm_numbers, List.forall_mem_cons.2 ⟨ok__law_tm_drawn, (fun _ h => nomatch h)⟩⟩⟩⟩⟩⟩⟩⟩⟩⟩
theorem ok_all_8 : ∀ p ∈ tb8, okD p.1 (defScope p.2) (defBody p.2) = true := List.forall_mem_cons.2 ⟨ok_require_place, List.forall_mem_cons.2 ⟨ok_Term_numbers, List.forall_mem_cons.2 ⟨ok_Term_number, List.forall_mem_cons.2 ⟨ok_Term_eq, List.forall_mem_cons.2 ⟨ok_Term_ratio, List.forall_mem_cons.2 ⟨ok__law_right, List.forall_mem_cons.2 ⟨ok__law_dice, List.forall_mem_cons.2 ⟨ok_Term_first, List.forall_mem_cons.2 ⟨ok_law, (fun _ h => nomatch h)⟩⟩⟩⟩⟩⟩⟩⟩⟩
theorem ok_all : ∀ p ∈ tab, okD p.1 (defScope p.2) (defBody p.2) = true := List.forall_mem_append.2 ⟨List.forall_mem_append.2 ⟨List.forall_mem_append.2 ⟨List.forall_mem_append.2 ⟨List.forall_mem_append.2 ⟨List.forall_mem_append.2 ⟨List.forall_mem_append.2 ⟨List.forall_mem_append.2 ⟨ok_all_0, ok_all_1⟩, ok_all_2⟩, ok_all_3⟩, ok_all_4⟩, ok_all_5⟩, ok_all_6⟩, ok_all_7⟩, ok_all_8⟩
theorem bd_all_0 : ∀ p ∈ tb0, BindOk (defArgs p.2) p.1.ps := List.forall_mem_cons.2 ⟨bd_value_in, List.forall_mem_cons.2 ⟨bd_balanced, List.forall_mem_cons.2 ⟨bd_inverse_in, List.forall_mem_cons.2 ⟨bd_derived_in, List.forall_mem_cons.2 ⟨bd_led_up, List.forall_mem_cons.2 ⟨bd_next_prime, List.forall_mem_cons.2 ⟨bd_poly_in, List.forall_mem_cons.2 ⟨bd_by_modulus, List.forall_mem_cons.2 ⟨bd_parted_by, List.forall_mem_cons.2 ⟨bd_by_in, (fun _ h => nomatch h)⟩⟩⟩⟩⟩⟩⟩⟩⟩⟩
theorem bd_all_1 : ∀ p ∈ tb1, BindOk (defArgs p.2) p.1.ps := List.forall_mem_cons.2 ⟨bd_with_last_one, List.forall_mem_cons.2 ⟨bd_common_modulo, List.forall_mem_cons.2 ⟨bd_good_prime, List.forall_mem_cons.2 ⟨bd_over_in, List.forall_mem_cons.2 ⟨bd_common_share, List.forall_mem_cons.2 ⟨bd_content_in, List.forall_mem_cons.2 ⟨bd_lowest_in, List.forall_mem_cons.2 ⟨bd_plus_in, List.forall_mem_cons.2 ⟨bd_minus_in, List.forall_mem_cons.2 ⟨bd_times_in, (fun _ h => nomatch h)⟩⟩⟩⟩⟩⟩⟩⟩⟩⟩
theorem bd_all_2 : ∀ p ∈ tb2, BindOk (defArgs p.2) p.1.ps := List.forall_mem_cons.2 ⟨bd_parted_in, List.forall_mem_cons.2 ⟨bd_quotient_in, List.forall_mem_cons.2 ⟨bd_lowest_over, List.forall_mem_cons.2 ⟨bd_common_in, List.forall_mem_cons.2 ⟨bd_slim_in, List.forall_mem_cons.2 ⟨bd_degree_in, List.forall_mem_cons.2 ⟨bd_integer_roots, List.forall_mem_cons.2 ⟨bd_root_places, List.forall_mem_cons.2 ⟨bd_is_rootless, List.forall_mem_cons.2 ⟨bd_content_of, (fun _ h => nomatch h)⟩⟩⟩⟩⟩⟩⟩⟩⟩⟩
theorem bd_all_3 : ∀ p ∈ tb3, BindOk (defArgs p.2) p.1.ps := List.forall_mem_cons.2 ⟨bd_exact_in, List.forall_mem_cons.2 ⟨bd_divided, List.forall_mem_cons.2 ⟨bd_ratio_in, List.forall_mem_cons.2 ⟨bd_is_integer, List.forall_mem_cons.2 ⟨bd_is_plain_poly, List.forall_mem_cons.2 ⟨bd_is_plain_ratio, List.forall_mem_cons.2 ⟨bd_is_passed_ratio, List.forall_mem_cons.2 ⟨bd_is_broken, List.forall_mem_cons.2 ⟨bd_is_factor, List.forall_mem_cons.2 ⟨bd_Term_init, (fun _ h => nomatch h)⟩⟩⟩⟩⟩⟩⟩⟩⟩⟩
theorem bd_all_4 : ∀ p ∈ tb4, BindOk (defArgs p.2) p.1.ps := List.forall_mem_cons.2 ⟨bd_KnownRatio_init, List.forall_mem_cons.2 ⟨bd_made_term, List.forall_mem_cons.2 ⟨bd_moved_in, List.forall_mem_cons.2 ⟨bd_ratio_moved_in, List.forall_mem_cons.2 ⟨bd_broken_in, List.forall_mem_cons.2 ⟨bd_broken_times, List.forall_mem_cons.2 ⟨bd_value_of, List.forall_mem_cons.2 ⟨bd_numbers_of, List.forall_mem_cons.2 ⟨bd_require_within, List.forall_mem_cons.2 ⟨bd_require_term, (fun _ h => nomatch h)⟩⟩⟩⟩⟩⟩⟩⟩⟩⟩
theorem bd_all_5 : ∀ p ∈ tb5, BindOk (defArgs p.2) p.1.ps := List.forall_mem_cons.2 ⟨bd_term_moved, List.forall_mem_cons.2 ⟨bd_binomials, List.forall_mem_cons.2 ⟨bd_ratio_times_in, List.forall_mem_cons.2 ⟨bd_term_times, List.forall_mem_cons.2 ⟨bd_require_factor, List.forall_mem_cons.2 ⟨bd_powers, List.forall_mem_cons.2 ⟨bd_factorials, List.forall_mem_cons.2 ⟨bd__law_roll, List.forall_mem_cons.2 ⟨bd__law_gcd, List.forall_mem_cons.2 ⟨bd__law_fr, (fun _ h => nomatch h)⟩⟩⟩⟩⟩⟩⟩⟩⟩⟩
theorem bd_all_6 : ∀ p ∈ tb6, BindOk (defArgs p.2) p.1.ps := List.forall_mem_cons.2 ⟨bd__law_fr_times, List.forall_mem_cons.2 ⟨bd__law_pick, List.forall_mem_cons.2 ⟨bd_stretched_in, List.forall_mem_cons.2 ⟨bd_term_section, List.forall_mem_cons.2 ⟨bd__law_content, List.forall_mem_cons.2 ⟨bd__law_pl_by, List.forall_mem_cons.2 ⟨bd__law_pl, List.forall_mem_cons.2 ⟨bd__law_pl_parted, List.forall_mem_cons.2 ⟨bd__law_pl_over, List.forall_mem_cons.2 ⟨bd__law_pl_lowest, (fun _ h => nomatch h)⟩⟩⟩⟩⟩⟩⟩⟩⟩⟩
theorem bd_all_7 : ∀ p ∈ tb7, BindOk (defArgs p.2) p.1.ps := List.forall_mem_cons.2 ⟨bd__law_pl_common, List.forall_mem_cons.2 ⟨bd__law_rt, List.forall_mem_cons.2 ⟨bd__law_pl_plus, List.forall_mem_cons.2 ⟨bd__law_pl_times, List.forall_mem_cons.2 ⟨bd__law_pl_moved, List.forall_mem_cons.2 ⟨bd__law_rt_moved, List.forall_mem_cons.2 ⟨bd__law_pl_at, List.forall_mem_cons.2 ⟨bd__law_rt_at, List.forall_mem_cons.2 ⟨bd__law_tm_numbers, List.forall_mem_cons.2 ⟨bd__law_tm_drawn, (fun _ h => nomatch h)⟩⟩⟩⟩⟩⟩⟩⟩⟩⟩
theorem bd_all_8 : ∀ p ∈ tb8, BindOk (defArgs p.2) p.1.ps := List.forall_mem_cons.2 ⟨bd_require_place, List.forall_mem_cons.2 ⟨bd_Term_numbers, List.forall_mem_cons.2 ⟨bd_Term_number, List.forall_mem_cons.2 ⟨bd_Term_eq, List.forall_mem_cons.2 ⟨bd_Term_ratio, List.forall_mem_cons.2 ⟨bd__law_right, List.forall_mem_cons.2 ⟨bd__law_dice, List.forall_mem_cons.2 ⟨bd_Term_first, List.forall_mem_cons.2 ⟨bd_law, (fun _ h => nomatch h)⟩⟩⟩⟩⟩⟩⟩⟩⟩
theorem bd_all : ∀ p ∈ tab, BindOk (defArgs p.2) p.1.ps := List.forall_mem_append.2 ⟨List.forall_mem_append.2 ⟨List.forall_mem_append.2 ⟨List.forall_mem_append.2 ⟨List.forall_mem_append.2 ⟨List.forall_mem_append.2 ⟨List.forall_mem_append.2 ⟨List.forall_mem_append.2 ⟨bd_all_0, bd_all_1⟩, bd_all_2⟩, bd_all_3⟩, bd_all_4⟩, bd_all_5⟩, bd_all_6⟩, bd_all_7⟩, bd_all_8⟩
def gs : List (Str × D) := [("NOUGHT_forms", (.tup [])), ("NOUGHT_ratios", (.tup [(.tup []), (.tup [(.int 1)])])), ("MOST_NUMBERS", (.int 13)), ("MOST_MOVED", (.int 60)), ("ONE", (.tup [(.int 1)])), ("MOST_STEP", (.int 6)), ("MAX_PLACE", (.int 2000)), ("MOST_AT_ONCE", (.int 200))]
def ns0 : List Str := ["SeriesError", "InvalidTerm", "InvalidOperation", "InvalidCount", "is_integer", "common_share", "broken_in", "broken_times", "is_broken", "NOUGHT_forms", "ONE", "poly_in", "is_plain_poly", "degree_in", "plus_in", "by_in", "minus_in", "times_in", "content_in", "content_of"]
def ns1 : List Str := ["over_in", "lowest_in", "moved_in", "stretched_in", "derived_in", "value_in", "parted_in", "quotient_in", "exact_in", "lowest_over", "common_in", "slim_in", "by_modulus", "parted_by", "inverse_in", "with_last_one", "common_modulo", "good_prime", "next_prime", "balanced"]
def ns2 : List Str := ["led_up", "integer_roots", "root_places", "NOUGHT_ratios", "ratio_in", "divided", "ratio_times_in", "ratio_moved_in", "is_plain_ratio", "MAX_PLACE", "MOST_NUMBERS", "MOST_AT_ONCE", "MOST_STEP", "MOST_MOVED", "KnownRatio", "is_rootless", "is_passed_ratio", "is_factor", "Term", "made_term"]
def ns3 : List Str := ["value_of", "numbers_of", "require_place", "require_term", "require_within", "require_factor", "term_times", "term_moved", "term_section", "powers", "factorials", "binomials", "_law_dice", "_law_roll", "_law_pick", "_law_gcd", "_law_content", "_law_fr", "_law_fr_times", "_law_pl"]
def ns4 : List Str := ["_law_pl_plus", "_law_pl_by", "_law_pl_times", "_law_pl_lowest", "_law_pl_moved", "_law_pl_at", "_law_pl_parted", "_law_pl_common", "_law_pl_over", "_law_rt", "_law_rt_moved", "_law_rt_at", "_law_tm_drawn", "_law_tm_numbers", "_law_right"]
def names : List Str := ns0 ++ ns1 ++ ns2 ++ ns3 ++ ns4
abbrev HRw : PySem.W.OpenRow := PySem.W.OpenLaw.row PySem.Challenge.rw_sumsclose_k20_whole_terms_of_other_place
abbrev hk : PySem.W.Hook := hookQ 5 cls xcs tab gs
def ob (s : PySem.W.SharedT) : AlQ := obsQG 5 cls xcs tab gs (HandSHeadRun.getT s)
theorem ob_eq (s : PySem.W.SharedT) : ob s = hk.obs s.abs := obsQG_eq (HandSHeadRun.getT_eq s)
section
open PySem PySem.W PySem.Calls PyProof.Rows
set_option maxHeartbeats 0 in
theorem runL (w : PySem.World) : ∀ os : PySem.OsState, ((HandSHeadRun.endF (HandSHeadRun.stepQ (HandSHeadRun.denQ HandSHeadRun.tabQ) HRw.prog w) 30000 HRw.prog w os).map fun s => HandSHeadRun.looksF HRw.prog (boot_heap w.params) s.abs) = some true := by
  intro os
  kernel_rfl
set_option maxHeartbeats 0 in
theorem runS (w : PySem.World) : ∀ os : PySem.OsState, ((HandSHeadRun.endF (HandSHeadRun.stepQ (HandSHeadRun.denQ HandSHeadRun.tabQ) HRw.prog w) 30000 HRw.prog w os).map fun s => HandSHeadRun.seenQ (PySem.W.view HRw.prog [103]) names (importedModules HRw.prog.main.body) (fun s => xlAt (PySem.W.view HRw.prog [103]) [] s && recOk HRw.toRowW.records s) s.abs) = some (openGood (PySem.W.view HRw.prog [103]) names) := by
  intro os
  kernel_rfl
set_option maxHeartbeats 0 in
theorem runO0 (w : PySem.World) : ∀ os : PySem.OsState, ((HandSHeadRun.endF (HandSHeadRun.stepQ (HandSHeadRun.denQ HandSHeadRun.tabQ) HRw.prog w) 30000 HRw.prog w os).map fun s => obsQG 5 cls xcs tb0 gs (HandSHeadRun.getT s)) = some (valQ tb0) := by
  intro os
  kernel_rfl
set_option maxHeartbeats 0 in
theorem runO1 (w : PySem.World) : ∀ os : PySem.OsState, ((HandSHeadRun.endF (HandSHeadRun.stepQ (HandSHeadRun.denQ HandSHeadRun.tabQ) HRw.prog w) 30000 HRw.prog w os).map fun s => obsQG 5 [] [] tb1 [] (HandSHeadRun.getT s)) = some (valQ tb1) := by
  intro os
  kernel_rfl
set_option maxHeartbeats 0 in
theorem runO2 (w : PySem.World) : ∀ os : PySem.OsState, ((HandSHeadRun.endF (HandSHeadRun.stepQ (HandSHeadRun.denQ HandSHeadRun.tabQ) HRw.prog w) 30000 HRw.prog w os).map fun s => obsQG 5 [] [] tb2 [] (HandSHeadRun.getT s)) = some (valQ tb2) := by
  intro os
  kernel_rfl
set_option maxHeartbeats 0 in
theorem runO3 (w : PySem.World) : ∀ os : PySem.OsState, ((HandSHeadRun.endF (HandSHeadRun.stepQ (HandSHeadRun.denQ HandSHeadRun.tabQ) HRw.prog w) 30000 HRw.prog w os).map fun s => obsQG 5 [] [] tb3 [] (HandSHeadRun.getT s)) = some (valQ tb3) := by
  intro os
  kernel_rfl
set_option maxHeartbeats 0 in
theorem runO4 (w : PySem.World) : ∀ os : PySem.OsState, ((HandSHeadRun.endF (HandSHeadRun.stepQ (HandSHeadRun.denQ HandSHeadRun.tabQ) HRw.prog w) 30000 HRw.prog w os).map fun s => obsQG 5 [] [] tb4 [] (HandSHeadRun.getT s)) = some (valQ tb4) := by
  intro os
  kernel_rfl
set_option maxHeartbeats 0 in
theorem runO5 (w : PySem.World) : ∀ os : PySem.OsState, ((HandSHeadRun.endF (HandSHeadRun.stepQ (HandSHeadRun.denQ HandSHeadRun.tabQ) HRw.prog w) 30000 HRw.prog w os).map fun s => obsQG 5 [] [] tb5 [] (HandSHeadRun.getT s)) = some (valQ tb5) := by
  intro os
  kernel_rfl
set_option maxHeartbeats 0 in
theorem runO6 (w : PySem.World) : ∀ os : PySem.OsState, ((HandSHeadRun.endF (HandSHeadRun.stepQ (HandSHeadRun.denQ HandSHeadRun.tabQ) HRw.prog w) 30000 HRw.prog w os).map fun s => obsQG 5 [] [] tb6 [] (HandSHeadRun.getT s)) = some (valQ tb6) := by
  intro os
  kernel_rfl
set_option maxHeartbeats 0 in
theorem runO7 (w : PySem.World) : ∀ os : PySem.OsState, ((HandSHeadRun.endF (HandSHeadRun.stepQ (HandSHeadRun.denQ HandSHeadRun.tabQ) HRw.prog w) 30000 HRw.prog w os).map fun s => obsQG 5 [] [] tb7 [] (HandSHeadRun.getT s)) = some (valQ tb7) := by
  intro os
  kernel_rfl
set_option maxHeartbeats 0 in
theorem runO8 (w : PySem.World) : ∀ os : PySem.OsState, ((HandSHeadRun.endF (HandSHeadRun.stepQ (HandSHeadRun.denQ HandSHeadRun.tabQ) HRw.prog w) 30000 HRw.prog w os).map fun s => obsQG 5 [] [] tb8 [] (HandSHeadRun.getT s)) = some (valQ tb8) := by
  intro os
  kernel_rfl
end
theorem run (w : World) : HandSHeadRun.RunEq HRw (PySem.W.view HRw.prog [103]) hk ob 30000 names w := by
  intro os
  exact map3 (runL w os) (runS w os) (map_obsQ (map_obsQ (map_obsQ (map_obsQ (map_obsQ (map_obsQ (map_obsQ (map_obsQ (runO0 w os) (runO1 w os)) (runO2 w os)) (runO3 w os)) (runO4 w os)) (runO5 w os)) (runO6 w os)) (runO7 w os)) (runO8 w os))
theorem sp_all_0 : ∀ p ∈ tb0, SpecOk Gm p.1 := List.forall_mem_cons.2 ⟨sok_value_in, List.forall_mem_cons.2 ⟨sok_balanced, List.forall_mem_cons.2 ⟨sok_inverse_in, List.forall_mem_cons.2 ⟨sok_derived_in, List.forall_mem_cons.2 ⟨sok_led_up, List.forall_mem_cons.2 ⟨sok_next_prime, List.forall_mem_cons.2 ⟨sok_poly_in, List.forall_mem_cons.2 ⟨sok_by_modulus, List.forall_mem_cons.2 ⟨sok_parted_by, List.forall_mem_cons.2 ⟨sok_by_in, (fun _ h => nomatch h)⟩⟩⟩⟩⟩⟩⟩⟩⟩⟩
theorem sp_all_1 : ∀ p ∈ tb1, SpecOk Gm p.1 := List.forall_mem_cons.2 ⟨sok_with_last_one, List.forall_mem_cons.2 ⟨sok_common_modulo, List.forall_mem_cons.2 ⟨sok_good_prime, List.forall_mem_cons.2 ⟨sok_over_in, List.forall_mem_cons.2 ⟨sok_common_share, List.forall_mem_cons.2 ⟨sok_content_in, List.forall_mem_cons.2 ⟨sok_lowest_in, List.forall_mem_cons.2 ⟨sok_plus_in, List.forall_mem_cons.2 ⟨sok_minus_in, List.forall_mem_cons.2 ⟨sok_times_in, (fun _ h => nomatch h)⟩⟩⟩⟩⟩⟩⟩⟩⟩⟩
theorem sp_all_2 : ∀ p ∈ tb2, SpecOk Gm p.1 := List.forall_mem_cons.2 ⟨sok_parted_in, List.forall_mem_cons.2 ⟨sok_quotient_in, List.forall_mem_cons.2 ⟨sok_lowest_over, List.forall_mem_cons.2 ⟨sok_common_in, List.forall_mem_cons.2 ⟨sok_slim_in, List.forall_mem_cons.2 ⟨sok_degree_in, List.forall_mem_cons.2 ⟨sok_integer_roots, List.forall_mem_cons.2 ⟨sok_root_places, List.forall_mem_cons.2 ⟨sok_is_rootless, List.forall_mem_cons.2 ⟨sok_content_of, (fun _ h => nomatch h)⟩⟩⟩⟩⟩⟩⟩⟩⟩⟩
theorem sp_all_3 : ∀ p ∈ tb3, SpecOk Gm p.1 := List.forall_mem_cons.2 ⟨sok_exact_in, List.forall_mem_cons.2 ⟨sok_divided, List.forall_mem_cons.2 ⟨sok_ratio_in, List.forall_mem_cons.2 ⟨sok_is_integer, List.forall_mem_cons.2 ⟨sok_is_plain_poly, List.forall_mem_cons.2 ⟨sok_is_plain_ratio, List.forall_mem_cons.2 ⟨sok_is_passed_ratio, List.forall_mem_cons.2 ⟨sok_is_broken, List.forall_mem_cons.2 ⟨sok_is_factor, List.forall_mem_cons.2 ⟨sok_Term_init, (fun _ h => nomatch h)⟩⟩⟩⟩⟩⟩⟩⟩⟩⟩
theorem sp_all_4 : ∀ p ∈ tb4, SpecOk Gm p.1 := List.forall_mem_cons.2 ⟨sok_KnownRatio_init, List.forall_mem_cons.2 ⟨sok_made_term, List.forall_mem_cons.2 ⟨sok_moved_in, List.forall_mem_cons.2 ⟨sok_ratio_moved_in, List.forall_mem_cons.2 ⟨sok_broken_in, List.forall_mem_cons.2 ⟨sok_broken_times, List.forall_mem_cons.2 ⟨sok_value_of, List.forall_mem_cons.2 ⟨sok_numbers_of, List.forall_mem_cons.2 ⟨sok_require_within, List.forall_mem_cons.2 ⟨sok_require_term, (fun _ h => nomatch h)⟩⟩⟩⟩⟩⟩⟩⟩⟩⟩
theorem sp_all_5 : ∀ p ∈ tb5, SpecOk Gm p.1 := List.forall_mem_cons.2 ⟨sok_term_moved, List.forall_mem_cons.2 ⟨sok_binomials, List.forall_mem_cons.2 ⟨sok_ratio_times_in, List.forall_mem_cons.2 ⟨sok_term_times, List.forall_mem_cons.2 ⟨sok_require_factor, List.forall_mem_cons.2 ⟨sok_powers, List.forall_mem_cons.2 ⟨sok_factorials, List.forall_mem_cons.2 ⟨sok__law_roll, List.forall_mem_cons.2 ⟨sok__law_gcd, List.forall_mem_cons.2 ⟨sok__law_fr, (fun _ h => nomatch h)⟩⟩⟩⟩⟩⟩⟩⟩⟩⟩
theorem sp_all_6 : ∀ p ∈ tb6, SpecOk Gm p.1 := List.forall_mem_cons.2 ⟨sok__law_fr_times, List.forall_mem_cons.2 ⟨sok__law_pick, List.forall_mem_cons.2 ⟨sok_stretched_in, List.forall_mem_cons.2 ⟨sok_term_section, List.forall_mem_cons.2 ⟨sok__law_content, List.forall_mem_cons.2 ⟨sok__law_pl_by, List.forall_mem_cons.2 ⟨sok__law_pl, List.forall_mem_cons.2 ⟨sok__law_pl_parted, List.forall_mem_cons.2 ⟨sok__law_pl_over, List.forall_mem_cons.2 ⟨sok__law_pl_lowest, (fun _ h => nomatch h)⟩⟩⟩⟩⟩⟩⟩⟩⟩⟩
theorem sp_all_7 : ∀ p ∈ tb7, SpecOk Gm p.1 := List.forall_mem_cons.2 ⟨sok__law_pl_common, List.forall_mem_cons.2 ⟨sok__law_rt, List.forall_mem_cons.2 ⟨sok__law_pl_plus, List.forall_mem_cons.2 ⟨sok__law_pl_times, List.forall_mem_cons.2 ⟨sok__law_pl_moved, List.forall_mem_cons.2 ⟨sok__law_rt_moved, List.forall_mem_cons.2 ⟨sok__law_pl_at, List.forall_mem_cons.2 ⟨sok__law_rt_at, List.forall_mem_cons.2 ⟨sok__law_tm_numbers, List.forall_mem_cons.2 ⟨sok__law_tm_drawn, (fun _ h => nomatch h)⟩⟩⟩⟩⟩⟩⟩⟩⟩⟩
theorem sp_all_8 : ∀ p ∈ tb8, SpecOk Gm p.1 := List.forall_mem_cons.2 ⟨sok_require_place, List.forall_mem_cons.2 ⟨sok_Term_numbers, List.forall_mem_cons.2 ⟨sok_Term_number, List.forall_mem_cons.2 ⟨sok_Term_eq, List.forall_mem_cons.2 ⟨sok_Term_ratio, List.forall_mem_cons.2 ⟨sok__law_right, List.forall_mem_cons.2 ⟨sok__law_dice, List.forall_mem_cons.2 ⟨sok_Term_first, List.forall_mem_cons.2 ⟨sok_law, (fun _ h => nomatch h)⟩⟩⟩⟩⟩⟩⟩⟩⟩
theorem sp_all : ∀ p ∈ tab, SpecOk Gm p.1 := List.forall_mem_append.2 ⟨List.forall_mem_append.2 ⟨List.forall_mem_append.2 ⟨List.forall_mem_append.2 ⟨List.forall_mem_append.2 ⟨List.forall_mem_append.2 ⟨List.forall_mem_append.2 ⟨List.forall_mem_append.2 ⟨sp_all_0, sp_all_1⟩, sp_all_2⟩, sp_all_3⟩, sp_all_4⟩, sp_all_5⟩, sp_all_6⟩, sp_all_7⟩, sp_all_8⟩
theorem cls_all : ∀ p ∈ tab, ∀ q ∈ p.1.cls, q ∈ LW.cls := by
  have e : (tab.all fun p => decide (p.1.cls = LW.cls)) = true := by kernel_rfl
  intro p hp q hq
  have := of_decide_eq_true (List.all_eq_true.mp e p hp)
  rw [this] at hq
  exact hq
def LL (K : PySem.W.Frag) : Lnk := ⟨Gm, xrOf K xcs⟩
theorem xc_all : ∀ p ∈ tab, p.1.xc = xcs := by
  have e : (tab.all fun p => decide (p.1.xc = xcs)) = true := by kernel_rfl
  intro p hp
  exact of_decide_eq_true (List.all_eq_true.mp e p hp)
theorem gl_all {K : PySem.W.Frag} {mg : Str → Option Value} (h : ∀ g ∈ gs, ∃ (u : Value) (v : V), mg g.1 = some u ∧ RelV v u ∧ ∀ O H, Rp K O H v g.2) : ∀ p ∈ tab, ∀ g ∈ p.1.gls, GlG (LL K) K mg g.1 g.2 := by
  have hg : ∀ k x, (k, x) ∈ [(G.NOUGHT_forms, ("NOUGHT_forms" : Str)), (G.NOUGHT_ratios, ("NOUGHT_ratios" : Str)), (G.MOST_NUMBERS, ("MOST_NUMBERS" : Str)), (G.MOST_MOVED, ("MOST_MOVED" : Str)), (G.ONE, ("ONE" : Str)), (G.MOST_STEP, ("MOST_STEP" : Str)), (G.MAX_PLACE, ("MAX_PLACE" : Str)), (G.MOST_AT_ONCE, ("MOST_AT_ONCE" : Str))] → GlG (LL K) K mg k x := by
    intro k x hkx
    simp only [List.mem_cons, Prod.mk.injEq, List.not_mem_nil, or_false] at hkx
    rcases hkx with ⟨rfl, rfl⟩ | ⟨rfl, rfl⟩ | ⟨rfl, rfl⟩ | ⟨rfl, rfl⟩ | ⟨rfl, rfl⟩ | ⟨rfl, rfl⟩ | ⟨rfl, rfl⟩ | ⟨rfl, rfl⟩
    · exact h _ (List.mem_of_getElem? (i := 0) rfl)
    · exact h _ (List.mem_of_getElem? (i := 1) rfl)
    · exact h _ (List.mem_of_getElem? (i := 2) rfl)
    · exact h _ (List.mem_of_getElem? (i := 3) rfl)
    · exact h _ (List.mem_of_getElem? (i := 4) rfl)
    · exact h _ (List.mem_of_getElem? (i := 5) rfl)
    · exact h _ (List.mem_of_getElem? (i := 6) rfl)
    · exact h _ (List.mem_of_getElem? (i := 7) rfl)
  have hm : ∀ p ∈ tab, ∀ g ∈ p.1.gls, g ∈ [(G.NOUGHT_forms, ("NOUGHT_forms" : Str)), (G.NOUGHT_ratios, ("NOUGHT_ratios" : Str)), (G.MOST_NUMBERS, ("MOST_NUMBERS" : Str)), (G.MOST_MOVED, ("MOST_MOVED" : Str)), (G.ONE, ("ONE" : Str)), (G.MOST_STEP, ("MOST_STEP" : Str)), (G.MAX_PLACE, ("MAX_PLACE" : Str)), (G.MOST_AT_ONCE, ("MOST_AT_ONCE" : Str))] := by
    have e : (tab.all fun p => p.1.gls.all fun g => [(G.NOUGHT_forms, ("NOUGHT_forms" : Str)), (G.NOUGHT_ratios, ("NOUGHT_ratios" : Str)), (G.MOST_NUMBERS, ("MOST_NUMBERS" : Str)), (G.MOST_MOVED, ("MOST_MOVED" : Str)), (G.ONE, ("ONE" : Str)), (G.MOST_STEP, ("MOST_STEP" : Str)), (G.MAX_PLACE, ("MAX_PLACE" : Str)), (G.MOST_AT_ONCE, ("MOST_AT_ONCE" : Str))].contains g) = true := by kernel_rfl
    intro p hp g hq
    have := List.all_eq_true.mp (List.all_eq_true.mp e p hp) g hq
    simpa using this
  exact fun p hp g hq => hg g.1 g.2 (hm p hp g hq)
theorem facts {P : Program} {w : World} {K : PySem.W.Frag} {h : Heap} {mg : Str → Option Value} {f : Addr} (X : K.In h) (G : h.Ns mainGlobals mg) (N : h.NoSeer) (ht : P.given.tree = none) (hfa : mg ("law" : Str) = some (.ref f)) (c : SaysQ cls xcs tab gs K) :
    ∃ (K1 : PySem.W.Frag) (fd : FuncData), K1.In h ∧ (∀ (s : Shared) (v : Value), BindsTo s fd ⟨[v], []⟩ [("script", v)]) ∧ ∀ base : Heap, K1.In base → FnOk P w K1 mg base CX0 d_law.lvl f fd ["script"] (fun vs H Q _ => spOf (LL K1) K1 (Gm.fn F.law) vs H Q E0) := by
  obtain ⟨hT, hbl, hgs, ⟨ca, cm⟩, ⟨xa, xm⟩, sr⟩ := says_ok (tab := tab) X G c
  have hin : (d_law, top 103) ∈ tab := List.mem_of_getElem? (i := 88) rfl
  obtain ⟨f1, fd, FF, m1⟩ := hT _ hin
  have e1 : f1 = f := by
    have := m1.1.symm.trans hfa
    exact Value.ref.inj (Option.some.inj this)
  subst e1
  refine ⟨K, fd, X, fun s v => FF.bindsA (ps := ["script"]) (fun kV doc pm an cdv ct us hl => bd_law _ _ _ _ kV doc pm an cdv ct us hl) s [v] rfl, fun base hbs => ?_⟩
  obtain ⟨f2, fd2, hF, m2, _, oc, od, osl, lk⟩ := link_all (L := LL K) (P := P) (w := w) (base := base) (seer_ok X N sr base hbs) ht hbl ⟨ca, cm, xa, xm, rfl⟩ tab [] (fun _ h => nomatch h) calls_ok hT ok_all bd_all sp_all (gl_all hgs) (fun p hp q hq => cls_all p hp q hq) xc_all _ hin
  have e2 : f2 = f1 := by
    have := m2.1.symm.trans hfa
    exact Value.ref.inj (Option.some.inj this)
  subst e2
  obtain ⟨oc2, od2, dV, kV, doc, pm, an, cdv, ct, osl2, _, lk2, _⟩ := FF.ex
  have e3 : fd2 = fd := by
    rw [lk] at lk2
    injection lk2 with z
    injection z with _ _ z2 _
    injection z2
  subst e3
  exact FnOk.to0 hF
end LW
open PySem PySem.W PySem.Calls PyProof.Rows
set_option maxHeartbeats 0 in
theorem PySem.Challenge.cw_sumsclose_k20_whole_terms_of_other_place_holds : PySem.Challenge.rw_sumsclose_k20_whole_terms_of_other_place.Holds := by
  w_on; o_law
  refine HandSHeadRun.head_any (r := OpenLaw.row PySem.Challenge.rw_sumsclose_k20_whole_terms_of_other_place) (q := view (OpenLaw.row PySem.Challenge.rw_sumsclose_k20_whole_terms_of_other_place).prog [103]) (H := LW.hk) (ob := LW.ob) (M := 30000) (loose := LW.names) (d := HandSHeadRun.topDef (OpenLaw.row PySem.Challenge.rw_sumsclose_k20_whole_terms_of_other_place).prog 103) (kwd := []) LW.ob_eq
    (by kernel_rfl) (fun s => by kernel_rfl) LW.run (by kernel_rfl) (by kernel_rfl) (by kernel_rfl) (by rfl) (by first | assumption | decide +kernel) (by decide +kernel) ⟨rfl, rfl, rfl, rfl, rfl, by decide +kernel⟩ ?hw ?hc
  case hw => w_witness2
  case hc =>
    refine DL.walk_far (law' := PySem.Challenge.rw_sumsclose_k20_whole_terms_of_other_place) (most := 63) (k := 78) (name := "script") rfl (by decide) (by kernel_rfl) ⟨rfl, by decide, by decide⟩ (by kernel_rfl) ?F (Nat.le_refl _)
    intro w mg fa h Y G N hmg0
    obtain ⟨K, KX, c⟩ := Y
    have hmg : mg ("law" : PySem.Str) = some (.ref fa) := by
      have e : (HandSHeadRun.topDef (OpenLaw.row PySem.Challenge.rw_sumsclose_k20_whole_terms_of_other_place).prog 103).name = ("law" : PySem.Str) := by kernel_rfl
      rw [← e]
      exact hmg0
    obtain ⟨K1, fd, X1, hb, hF⟩ := LW.facts (P := (PySem.Challenge.rw_sumsclose_k20_whole_terms_of_other_place).prog) (w := w) KX G N (by kernel_rfl) hmg c
    exact ⟨K1, fd, LW.Gm.fn LW.F.law, LW.LL K1, X1, hb, LW.law_fin, hF⟩
