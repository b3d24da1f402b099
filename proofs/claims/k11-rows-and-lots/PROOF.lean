import PyProof.Rows.All
import Wide.All
import OpenK.AllK
import Wide.FinOn
import HandS.ForMost
import HandS.Exc
import HandS.ExcOwn
import HandS.Star
import HandS.TupAny
import HandS.IsInst
import HandS.Flow
import HandS.Wide
import HandS.WordsExc
import HandS.Defaults
import HandS.Deep
import HandS.Style
import HandS.TupMul
import HandS.RaiseMore
import KE.GoesNew
import KE.SortData
import KE.SortKeyHeap
import HandS.SortKw
import HandS.SetFor
import KE.KRevSl
import KE.KStateDown
import HandS.Head0
import HandS.Head1
import HandS.Head2
import HandS.HeadEnd
import HandS.HeadHook1
import HandS.HeadHook2
import PySem.Challenge.RW_sumsclose_k11_whole_rows_and_lots
set_option Elab.async false
set_option linter.all false
set_option maxRecDepth 100000
set_option exponentiation.threshold 10000
/-! DL1: data values D, the store of owned lists, own position-free syntax, its weakest preconditions over data. -/
namespace DL
open PySem

/-- a value as data; `ref`: an owned (mutable) list that stands in the store -/
inductive D where
  | non | bl (b : Bool) | int (i : Int) | str (x : Str) | tup (xs : List D) | lst (xs : List D) | ref (a : Addr) | ty (n : String) | scr (xs : List Int)
  deriving Inhabited

/-- what stands in the store -/
inductive DO where
  | lst (ds : List D)
abbrev Sto := Addr → Option DO
def sup (S : Sto) (a : Addr) (o : DO) : Sto := fun b => if b = a then some o else S b
def sdel (S : Sto) (a : Addr) : Sto := fun b => if b = a then none else S b
@[simp] theorem sup_same {S : Sto} {a : Addr} {o : DO} : sup S a o a = some o := if_pos rfl
theorem sup_ne {S : Sto} {a b : Addr} {o : DO} (h : b ≠ a) : sup S a o b = S b := if_neg h
@[simp] theorem sup_sup {S : Sto} {a : Addr} {o u : DO} : sup (sup S a o) a u = sup S a u := by funext b; unfold sup; split <;> rfl
theorem sdel_same {S : Sto} {a : Addr} : sdel S a a = none := if_pos rfl
theorem sdel_ne {S : Sto} {a b : Addr} (h : b ≠ a) : sdel S a b = S b := if_neg h
theorem sdel_sup {S : Sto} {a : Addr} {o : DO} (h : S a = none) : sdel (sup S a o) a = S := by
  funext b; unfold sdel sup; split
  · rename_i e; rw [e, h]
  · rfl

abbrev Env := List (Option D)
def getV : Env → Nat → Option D
  | [], _ => none
  | x :: _, 0 => x
  | _ :: r, n + 1 => getV r n
def setV : Env → Nat → D → Env
  | [], _, _ => []
  | _ :: r, 0, d => some d :: r
  | x :: r, n + 1, d => x :: setV r n d
/-- names forgotten -/
def delV : Env → Nat → Env
  | [], _ => []
  | _ :: r, 0 => none :: r
  | x :: r, n + 1 => x :: delV r n
def delVs (ρ : Env) : List Nat → Env
  | [] => ρ
  | v :: vs => delV (delVs ρ vs) v

abbrev QD := D → Sto → Prop
/-- the wish about exceptions: the class's number, the payload -/
abbrev XD := Nat → D → Sto → Prop
abbrev FSp := List D → Sto → XD → QD → Prop

inductive BOp where | add | sub | mul | fdiv | mod | pow deriving DecidableEq
inductive COp where | eq | ne | lt | le | gt | ge | is | isn | inn | nin deriving DecidableEq
inductive BI where | len | abs | max | min | int | sum | all | any | tuple | isinst | repr | str deriving DecidableEq

/-! ### the syntax -/
mutual
inductive Ex where
  | var (i : Nat)
  | cst (d : D)
  | glb (k : Nat)
  | bin (op : BOp) (a b : Ex)
  | neg (a : Ex)
  | not (a : Ex)
  | cmp (op : COp) (a b : Ex)
  | chn (o1 o2 : COp) (a b c : Ex)
  | and (a b : Ex)
  | or (a b : Ex)
  | ite (c a b : Ex)
  | idx (a i : Ex)
  | slc (a : Ex) (lo hi : Ox)
  | stp (a : Ex) (lo hi : Ox) (st : Ex)
  | tup (es : Exs)
  | frz (l : Lx)
  | own (l : Lx)
  | call (f : Nat) (es : Exs)
  | bi (b : BI) (es : Exs)
  | app (o e : Ex)
inductive Exs where
  | nil
  | cons (e : Ex) (r : Exs)
  | star (e : Ex) (r : Exs)
inductive Ox where
  | no
  | so (e : Ex)
/-- what makes a new list -/
inductive Lx where
  | disp (es : Exs)
  | comp (own : List Nat) (tg : Tg) (it : It) (ts : Exs) (el : Ex)
  | comp2 (own own2 : List Nat) (tg : Tg) (it : It) (ts : Exs) (tg2 : Tg) (it2 : It) (ts2 : Exs) (el : Ex)
  | rep (a n : Ex)
  | cat (a b : Ex)
  | ofSeq (a : Ex)
  | slc (a : Ex) (lo hi : Ox)
  | sorted (a : Ex)
  | sortK (f : Nat) (a : Ex)
  | sortSet (a : Ex)
  | stpL (a : Ex) (lo hi : Ox) (st : Ex)
/-- what a loop walks -/
inductive It where
  | seq (e : Ex)
  | rng1 (a : Ex)
  | rng2 (a b : Ex)
  | rng3 (a b c : Ex)
  | enum (e : Ex)
  | zip (a b : Ex)
inductive Tg where
  | nm (i : Nat)
  | tp (ts : Tgs)
  | sub (o i : Ex)
inductive Tgs where
  | nil
  | cons (t : Tg) (r : Tgs)
end
mutual
inductive Sm where
  | asg (t : Tg) (e : Ex)
  | par (is : List Nat) (es : Exs)
  | aug (i : Nat) (op : BOp) (e : Ex)
  | ex (e : Ex)
  | ret (e : Ex)
  | retF (e : Ex)
  | retN
  | ife (c : Ex) (a b : Bl)
  | whl (c : Ex) (b : Bl)
  | for (tg : Tg) (it : It) (b : Bl)
  | raise (k : Nat) (e : Ex)
  | pass
  | brk
  | cont
inductive Bl where
  | nil
  | cons (s : Sm) (r : Bl)
end

/-! ### values -/
/-- an owned list seen as a value -/
def res (S : Sto) : D → D
  | .ref p => match S p with
    | some (.lst ds) => .lst ds
    | none => .ref p
  | d => d

def D.py : D → Option PyData
  | .non => some .none
  | .bl b => some (.bool b)
  | .int i => some (.int i)
  | .str x => some (.str x)
  | .tup xs => (pys xs).map .tuple
  | .lst xs => (pys xs).map .list
  | .ref _ => none
  | .ty _ => none
  | .scr _ => none
where pys : List D → Option (List PyData)
  | [] => some []
  | x :: xs => match D.py x, pys xs with
    | some p, some ps => some (p :: ps)
    | _, _ => none

/-- == of two values that are data -/
def eqD (x y : D) (k : Bool → Prop) : Prop := ∃ p q, x.py = some p ∧ y.py = some q ∧ SeqAt.shaped p = true ∧ SeqAt.shaped q = true ∧ k (PyData.eqv p q)
def inD (x y : D) (k : Bool → Prop) : Prop := match y with
  | .lst ds => ∃ p ps, x.py = some p ∧ D.py.pys ds = some ps ∧ SeqAt.shaped p = true ∧ SeqAt.shaped (.list ps) = true ∧ k (ps.any fun z => PyData.eqv z p)
  | .str z => ∃ c : Nat, x = .str ⟨#[c]⟩ ∧ k (decide (c ∈ z.cps.toList))
  | _ => False

/-- nothing is asked of the sizes: there is room for a long division -/
def PyOk (_ _ : Int) : Prop := True
def binD (op : BOp) (x y : D) (k : D → Prop) : Prop := match op, x, y with
  | .add, .int i, .int j => k (.int (i + j))
  | .sub, .int i, .int j => k (.int (i - j))
  | .mul, .int i, .int j => IntMulOk i j ∧ k (.int (i * j))
  | .mul, .tup xs, .int n => -(2 ^ 63) ≤ n ∧ n < 2 ^ 63 ∧ xs.length * n.toNat ≤ sizeLine ∧ k (.tup (List.replicate n.toNat xs).flatten)
  | .fdiv, .int i, .int j => j ≠ 0 ∧ PyOk i j ∧ k (.int (i.fdiv j))
  | .mod, .int i, .int j => j ≠ 0 ∧ k (.int (i.fmod j))
  | .pow, .int i, .int j => (0 ≤ j ∧ (Builtin.Int.intBits i : Int) * j ≤ 2 ^ 27) ∧ k (.int (i ^ j.toNat))
  | .add, .tup xs, .tup ys => xs.length + ys.length ≤ sizeLine ∧ k (.tup (xs ++ ys))
  | .add, .str a, .str b => a.length + b.length ≤ sizeLine ∧ k (.str (a ++ b))
  | _, _, _ => False

def cmpD (op : COp) (x y : D) (k : Bool → Prop) : Prop := match op, x, y with
  | .lt, .int i, .int j => k (decide (i < j))
  | .le, .int i, .int j => k (decide (i ≤ j))
  | .gt, .int i, .int j => k (decide (j < i))
  | .ge, .int i, .int j => k (decide (j ≤ i))
  | .eq, .int i, .int j => k (decide (i = j))
  | .ne, .int i, .int j => k (!decide (i = j))
  | .eq, x, y => eqD x y k
  | .ne, x, y => eqD x y fun b => k (!b)
  | .is, .bl a, .bl b => k (a == b)
  | .isn, .bl a, .bl b => k (a != b)
  | .is, x, .non => k (match x with | .non => true | _ => false)
  | .isn, x, .non => k (match x with | .non => false | _ => true)
  | .inn, x, y => inD x y k
  | .nin, x, y => inD x y fun b => k (!b)
  | _, _, _ => False

/-- the item at an index, from behind too -/
def atD (xs : List D) (i : Int) : Option D := L2.atI xs i
def cutD (xs : List D) (lo hi : Option Int) : List D := (xs.drop (HT.sIx xs.length 0 lo)).take (HT.sIx xs.length xs.length hi - HT.sIx xs.length 0 lo)

/-- in the order of the keys, equal ones as they stood -/
def byKeys {α : Type} (xs : List α) (kz : List Int) : List α := ((xs.zip kz).mergeSort fun p q => decide (p.2 ≤ q.2)).map Prod.fst
def typD : D → Option String
  | .non => some "NoneType"
  | .bl _ => some "bool"
  | .int _ => some "int"
  | .str _ => some "str"
  | .tup _ => some "tuple"
  | .lst _ => some "list"
  | _ => none
/-- xs[lo:hi:st] -/
def pick {α : Type} (xs : List α) (lo hi : Option Int) (st : Int) : List α :=
  (List.range (Builtin.Slice.slicePlaces (Builtin.Slice.sliceAdjust lo hi st (xs.length : Int)).1 (Builtin.Slice.sliceAdjust lo hi st (xs.length : Int)).2 st)).filterMap fun (k : Nat) => xs[((Builtin.Slice.sliceAdjust lo hi st (xs.length : Int)).1 + (k : Int) * st).toNat]?

/-! ### what is walked, as a list of items -/
def seqD (S : Sto) (d : D) (k : List D → (Sto → Prop) → Prop) : Prop := match d with
  | .tup xs => k xs fun _ => True
  | .lst xs => k xs fun _ => True
  | .scr xs => k (xs.map .int) fun _ => True
  | .ref p => match S p with
    | some (.lst ds) => k ds fun S' => S' p = some (.lst ds)
    | none => False
  | _ => False
def rangeD (i c : Int) (n : Nat) : List D := (List.range n).map fun k => .int (i + (k : Nat) * c)
def enumD : Nat → List D → List D
  | _, [] => []
  | n, x :: r => .tup [.int n, x] :: enumD (n + 1) r
def zipD (xs ys : List D) : List D := List.zipWith (fun x y => .tup [x, y]) xs ys

def isiTys : List String := ["int", "bool", "tuple", "str", "list"]
def isiB (t n : String) : Bool := t == n || (t == "bool" && n == "int")
def biD (b : BI) (S : Sto) (ds : List D) (k : D → Prop) : Prop := match b, ds with
  | .len, [d] => match res S d with
    | .tup xs => k (.int xs.length)
    | .lst xs => k (.int xs.length)
    | .scr xs => k (.int xs.length)
    | .str x => x.length ≤ sizeLine ∧ k (.int x.length)
    | _ => False
  | .abs, [.int i] => k (.int (if i < 0 then -i else i))
  | .max, [d] => ∃ ns : List Int, res S d = .lst (ns.map .int) ∧ 0 < ns.length ∧ ∀ m ∈ ns, (∀ y ∈ ns, y ≤ m) → k (.int m)
  | .min, [d] => ∃ ns : List Int, res S d = .lst (ns.map .int) ∧ 0 < ns.length ∧ ∀ m ∈ ns, (∀ y ∈ ns, m ≤ y) → k (.int m)
  | .max, [x, y] => ∃ i j, x = .int i ∧ y = .int j ∧ k (.int (if j > i then j else i))
  | .min, [x, y] => ∃ i j, x = .int i ∧ y = .int j ∧ k (.int (if j < i then j else i))
  | .int, [.int i] => k (.int i)
  | .int, [.bl b] => k (.int (if b then 1 else 0))
  | .sum, [d] => ∃ ns : List Int, res S d = .lst (ns.map .int) ∧ k (.int ns.sum)
  | .all, [d] => ∃ bs : List Bool, res S d = .lst (bs.map .bl) ∧ k (.bl (bs.all id))
  | .any, [d] => ∃ bs : List Bool, res S d = .lst (bs.map .bl) ∧ k (.bl (bs.any id))
  | .tuple, [d] => match res S d with
    | .tup xs => k (.tup xs)
    | .lst xs => k (.tup xs)
    | _ => False
  | .repr, [.bl b] => k (.str (if b then "True" else "False"))
  | .repr, [.int i] => i.natAbs.log2 < 1920 ∧ k (.str (toString i))
  | .str, [.int i] => i.natAbs.log2 < 1920 ∧ k (.str (toString i))
  | .str, [.str x] => k (.str x)
  | .isinst, [x, .ty n] => ∃ t, typD (res S x) = some t ∧ n ∈ isiTys ∧ k (.bl (isiB t n))
  | _, _ => False

def tstD (d : D) (k : Bool → Prop) : Prop := match d with
  | .bl b => k b
  | _ => False

/-- the turns of a comprehension; B: what is asked at an append -/
def compL (bd : D → Env → Sto → (Env → Sto → Prop) → Prop) (tw : Env → Sto → (Bool → Sto → Prop) → Prop) (ew : Env → Sto → QD → Prop) (B : List D → Prop) (C : Sto → Prop) (K : List D → Sto → Prop) (ρ : Env) : List D → Sto → List D → Prop
  | [], S, acc => C S ∧ K acc S
  | d :: ds, S, acc => C S ∧ bd d ρ S fun ρ' S1 => tw ρ' S1 fun b S2 => if b = true then ew ρ' S2 fun y S3 => B acc ∧ compL bd tw ew B C K ρ ds S3 (acc ++ [y]) else compL bd tw ew B C K ρ ds S2 acc
/-- .. of the outer clause: iw makes the inner walk, which ends in a list added -/
def compO (bd : D → Env → Sto → (Env → Sto → Prop) → Prop) (tw : Env → Sto → (Bool → Sto → Prop) → Prop) (iw : Env → Sto → List D → (List D → Sto → Prop) → Prop) (C : Sto → Prop) (K : List D → Sto → Prop) (ρ : Env) : List D → Sto → List D → Prop
  | [], S, acc => C S ∧ K acc S
  | d :: ds, S, acc => C S ∧ bd d ρ S fun ρ' S1 => tw ρ' S1 fun b S2 => if b = true then iw ρ' S2 acc fun acc' S3 => compO bd tw iw C K ρ ds S3 acc' else compO bd tw iw C K ρ ds S2 acc

/-- the context: what defs promise, what module constants are -/
structure Gam where
  fn : Nat → FSp
  gl : Nat → D

def xNo : XD := fun _ _ _ => False
def tgsLen : Tgs → Nat
  | .nil => 0
  | .cons _ r => tgsLen r + 1
mutual
def wpE (Γ : Gam) : Ex → Env → Sto → XD → QD → Prop
  | .var i, ρ, S, _, Q => match getV ρ i with
    | some d => Q d S
    | none => False
  | .cst d, _, S, _, Q => Q d S
  | .glb k, _, S, _, Q => Q (Γ.gl k) S
  | .bin op a b, ρ, S, R, Q => wpE Γ a ρ S R fun x S1 => wpE Γ b ρ S1 R fun y S2 => binD op x y fun z => Q z S2
  | .neg a, ρ, S, R, Q => wpE Γ a ρ S R fun x S1 => match x with
    | .int i => Q (.int (-i)) S1
    | _ => False
  | .not a, ρ, S, R, Q => wpE Γ a ρ S R fun x S1 => tstD x fun b => Q (.bl (!b)) S1
  | .cmp op a b, ρ, S, R, Q => wpE Γ a ρ S R fun x S1 => wpE Γ b ρ S1 R fun y S2 => cmpD op (res S2 x) (res S2 y) fun z => Q (.bl z) S2
  | .chn o1 o2 a b c, ρ, S, R, Q => wpE Γ a ρ S R fun x S1 => wpE Γ b ρ S1 R fun y S2 => cmpD o1 (res S2 x) (res S2 y) fun z => if z = true then wpE Γ c ρ S2 R fun u S3 => cmpD o2 (res S3 y) (res S3 u) fun v => Q (.bl v) S3 else Q (.bl false) S2
  | .and a b, ρ, S, R, Q => wpE Γ a ρ S R fun x S1 => tstD x fun c => if c = true then wpE Γ b ρ S1 R Q else Q (.bl false) S1
  | .or a b, ρ, S, R, Q => wpE Γ a ρ S R fun x S1 => tstD x fun c => if c = true then Q (.bl true) S1 else wpE Γ b ρ S1 R Q
  | .ite c a b, ρ, S, R, Q => wpE Γ c ρ S R fun x S1 => tstD x fun z => if z = true then wpE Γ a ρ S1 R Q else wpE Γ b ρ S1 R Q
  | .idx a i, ρ, S, R, Q => wpE Γ a ρ S R fun x S1 => wpE Γ i ρ S1 R fun y S2 => match res S2 x, y with
    | .tup xs, .int n => ∃ d, atD xs n = some d ∧ Q d S2
    | .lst xs, .int n => ∃ d, atD xs n = some d ∧ Q d S2
    | .scr xs, .int n => ∃ m, L2.atI xs n = some m ∧ Q (.int m) S2
    | _, _ => False
  | .slc a lo hi, ρ, S, R, Q => wpE Γ a ρ S R fun x S1 => wpO Γ lo ρ S1 R fun l S2 => wpO Γ hi ρ S2 R fun h S3 => match res S3 x with
    | .tup xs => Q (.tup (cutD xs l h)) S3
    | .lst xs => Q (.lst (cutD xs l h)) S3
    | _ => False
  | .stp a lo hi st, ρ, S, R, Q => wpE Γ a ρ S R fun x S1 => wpO Γ lo ρ S1 R fun l S2 => wpO Γ hi ρ S2 R fun h S3 => wpE Γ st ρ S3 R fun y S4 => match x, y with
    | .tup xs, .int k => k ≠ 0 ∧ k ≠ 1 ∧ Q (.tup (pick xs l h k)) S4
    | _, _ => False
  | .tup es, ρ, S, R, Q => wpEs Γ es ρ S R fun ds S1 => ds.length ≤ sizeLine ∧ Q (.tup ds) S1
  | .frz l, ρ, S, R, Q => wpL Γ l ρ S R fun ds S1 => Q (.lst ds) S1
  | .own l, ρ, S, R, Q => wpL Γ l ρ S R fun ds S1 => ∀ p, S1 p = none → Q (.ref p) (sup S1 p (.lst ds))
  | .call f es, ρ, S, R, Q => wpEs Γ es ρ S R fun ds S1 => Γ.fn f ds S1 R Q
  | .bi b es, ρ, S, R, Q => wpEs Γ es ρ S R fun ds S1 => biD b S1 ds fun d => Q d S1
  | .app o e, ρ, S, R, Q => wpE Γ o ρ S R fun x S1 => ∃ p, x = .ref p ∧ (∃ ds, S1 p = some (.lst ds)) ∧ wpE Γ e ρ S1 R fun y S2 => ∃ ds, S2 p = some (.lst ds) ∧ ds.length < sizeLine ∧ Q .non (sup S2 p (.lst (ds ++ [y])))
def wpEs (Γ : Gam) : Exs → Env → Sto → XD → (List D → Sto → Prop) → Prop
  | .nil, _, S, _, Q => Q [] S
  | .cons e r, ρ, S, R, Q => wpE Γ e ρ S R fun x S1 => wpEs Γ r ρ S1 R fun xs S2 => Q (x :: xs) S2
  | .star e r, ρ, S, R, Q => wpE Γ e ρ S R fun x S1 => match res S1 x with
    | .tup ys => wpEs Γ r ρ S1 R fun xs S2 => Q (ys ++ xs) S2
    | .lst ys => wpEs Γ r ρ S1 R fun xs S2 => Q (ys ++ xs) S2
    | _ => False
def wpO (Γ : Gam) : Ox → Env → Sto → XD → (Option Int → Sto → Prop) → Prop
  | .no, _, S, _, Q => Q none S
  | .so e, ρ, S, R, Q => wpE Γ e ρ S R fun x S1 => match x with
    | .int i => Q (some i) S1
    | _ => False
def wpL (Γ : Gam) : Lx → Env → Sto → XD → (List D → Sto → Prop) → Prop
  | .disp es, ρ, S, R, Q => wpEs Γ es ρ S R fun ds S1 => ds.length ≤ sizeLine ∧ Q ds S1
  | .comp own tg it ts el, ρ, S, R, Q => wpI Γ it ρ S R fun ds C S1 =>
      compL (fun d ρ S K => wpG Γ tg d ρ S xNo K) (fun ρ S K => wpTs Γ ts ρ S K) (fun ρ S K => wpE Γ el ρ S xNo K) (fun _ => True) C Q (delVs ρ own) ds S1 []
  | .comp2 own own2 tg it ts tg2 it2 ts2 el, ρ, S, R, Q => wpI Γ it ρ S R fun ds C S1 =>
      compO (fun d ρ S K => wpG Γ tg d ρ S xNo K) (fun ρ S K => wpTs Γ ts ρ S K)
        (fun ρ S acc K => wpI Γ it2 ρ S xNo fun ds2 C2 S2 => compL (fun d ρ S K => wpG Γ tg2 d ρ S xNo K) (fun ρ S K => wpTs Γ ts2 ρ S K) (fun ρ S K => wpE Γ el ρ S xNo K) (fun acc => acc.length < sizeLine) C2 K (delVs ρ own2) ds2 S2 acc) C Q (delVs ρ own) ds S1 []
  | .rep a n, ρ, S, R, Q => wpE Γ a ρ S R fun x S1 => wpE Γ n ρ S1 R fun y S2 => match res S2 x, y with
    | .lst xs, .int k => -(2 ^ 63) ≤ k ∧ k < 2 ^ 63 ∧ xs.length * k.toNat ≤ sizeLine ∧ Q (List.replicate k.toNat xs).flatten S2
    | _, _ => False
  | .cat a b, ρ, S, R, Q => wpE Γ a ρ S R fun x S1 => wpE Γ b ρ S1 R fun y S2 => match res S2 x, res S2 y with
    | .lst xs, .lst ys => xs.length + ys.length ≤ sizeLine ∧ Q (xs ++ ys) S2
    | _, _ => False
  | .ofSeq a, ρ, S, R, Q => wpE Γ a ρ S R fun x S1 => match res S1 x with
    | .tup xs => Q xs S1
    | .lst xs => Q xs S1
    | _ => False
  | .slc a lo hi, ρ, S, R, Q => wpE Γ a ρ S R fun x S1 => wpO Γ lo ρ S1 R fun l S2 => wpO Γ hi ρ S2 R fun h S3 => match res S3 x with
    | .lst xs => Q (cutD xs l h) S3
    | _ => False
  | .sorted a, ρ, S, R, Q => wpE Γ a ρ S R fun x S1 => match res S1 x with
    | .lst xs => ∃ (kz : List Int) (ps : List PyData), kz.length = xs.length ∧ kz.Nodup ∧ D.py.pys xs = some ps ∧ PySem.W.AllAlike ps ∧ (∀ p ∈ ps, p.depth ≤ 8) ∧
      (∀ (i : Nat) (d : PyData) (k : Int), ps[i]? = some d → kz[i]? = some k → ∃ r, d = .tuple (.int k :: r)) ∧ Q (byKeys xs kz) S1
    | _ => False
  | .stpL a lo hi st, ρ, S, R, Q => wpE Γ a ρ S R fun x S1 => wpO Γ lo ρ S1 R fun l S2 => wpO Γ hi ρ S2 R fun h S3 => wpE Γ st ρ S3 R fun y S4 => match res S4 x, y with
    | .lst xs, .int k => l = none ∧ h = none ∧ k = -1 ∧ Q xs.reverse S4
    | _, _ => False
  | .sortSet a, ρ, S, R, Q => wpE Γ a ρ S R fun x S1 => match res S1 x with
    | .lst xs => ∃ ns : List Int, xs = ns.map .int ∧ ns.length < 64 ∧ ∀ ms : List Int, ms.Pairwise (· < ·) → (∀ k, k ∈ ms ↔ k ∈ ns) → Q (ms.map .int) S1
    | _ => False
  | .sortK f a, ρ, S, R, Q => wpE Γ a ρ S R fun x S1 => match res S1 x with
    | .lst xs => ∃ kz : List Int, kz.length = xs.length ∧ (∀ (i : Nat) (d : D) (k : Int), xs[i]? = some d → kz[i]? = some k → Γ.fn f [d] S1 xNo fun v S2 => v = .int k ∧ ∀ a o, S1 a = some o → S2 a = some o) ∧ Q (byKeys xs kz) S1
    | _ => False
def wpI (Γ : Gam) : It → Env → Sto → XD → (List D → (Sto → Prop) → Sto → Prop) → Prop
  | .seq e, ρ, S, R, Q => wpE Γ e ρ S R fun x S1 => seqD S1 x fun ds C => Q ds C S1
  | .rng1 a, ρ, S, R, Q => wpE Γ a ρ S R fun x S1 => ∃ j : Int, x = .int j ∧ -(2 ^ 62) ≤ j ∧ j ≤ 16777216 ∧ Q (rangeD 0 1 j.toNat) (fun _ => True) S1
  | .rng2 a b, ρ, S, R, Q => wpE Γ a ρ S R fun x S1 => wpE Γ b ρ S1 R fun y S2 => ∃ i j : Int, x = .int i ∧ y = .int j ∧ (-(2 ^ 62) ≤ i ∧ i < 2 ^ 62 ∧ -(2 ^ 62) ≤ j ∧ j < 2 ^ 62) ∧ j - i ≤ 16777216 ∧ Q (rangeD i 1 (j - i).toNat) (fun _ => True) S2
  | .rng3 a b c, ρ, S, R, Q => wpE Γ a ρ S R fun x S1 => wpE Γ b ρ S1 R fun y S2 => wpE Γ c ρ S2 R fun z S3 => ∃ (i j c : Int) (n : Nat), x = .int i ∧ y = .int j ∧ z = .int c ∧ L2.RgC i j c n ∧ n ≤ sizeLine ∧ Q (rangeD i c n) (fun _ => True) S3
  | .enum e, ρ, S, R, Q => wpE Γ e ρ S R fun x S1 => seqD S1 x fun ds C => Q (enumD 0 ds) C S1
  | .zip a b, ρ, S, R, Q => wpE Γ a ρ S R fun x S1 => wpE Γ b ρ S1 R fun y S2 => seqD S2 x fun ds C => seqD S2 y fun ds2 C2 => Q (zipD ds ds2) (fun S => C S ∧ C2 S) S2
def wpG (Γ : Gam) : Tg → D → Env → Sto → XD → (Env → Sto → Prop) → Prop
  | .nm i, d, ρ, S, _, K => K (setV ρ i d) S
  | .tp ts, d, ρ, S, R, K => match d with
    | .tup ds => ds.length = tgsLen ts ∧ wpGs Γ ts ds ρ S R K
    | _ => False
  | .sub o i, d, ρ, S, R, K => wpE Γ o ρ S R fun x S1 => wpE Γ i ρ S1 R fun y S2 => ∃ p ds n j, x = .ref p ∧ y = .int n ∧ S2 p = some (.lst ds) ∧ L2.ixN ds.length n = some j ∧ K ρ (sup S2 p (.lst (ds.set j d)))
def wpGs (Γ : Gam) : Tgs → List D → Env → Sto → XD → (Env → Sto → Prop) → Prop
  | .nil, ds, ρ, S, _, K => match ds with
    | [] => K ρ S
    | _ => False
  | .cons t r, ds, ρ, S, R, K => match ds with
    | d :: ds => wpG Γ t d ρ S R fun ρ' S' => wpGs Γ r ds ρ' S' R K
    | [] => False
/-- the tests of a comprehension: at most one -/
def wpTs (Γ : Gam) : Exs → Env → Sto → (Bool → Sto → Prop) → Prop
  | .nil, _, S, K => K true S
  | .cons e r, ρ, S, K => wpE Γ e ρ S xNo fun x S1 => tstD x fun b => if b = true then wpTs Γ r ρ S1 K else K false S1
  | .star _ _, _, _, _ => False
end

structure DEnd where
  nx : Env → Sto → Prop
  rt : QD
  bk : Env → Sto → Prop := fun _ _ => False
  ct : Env → Sto → Prop := fun _ _ => False
/-- the turns of a for -/
def forL (bd : D → Env → Sto → (Env → Sto → Prop) → Prop) (body : DEnd → Env → Sto → Prop) (C : Sto → Prop) (E : DEnd) : List D → Env → Sto → Prop
  | [], ρ, S => C S ∧ E.nx ρ S
  | d :: ds, ρ, S => C S ∧ bd d ρ S fun ρ' S' => body { nx := forL bd body C E ds, ct := forL bd body C E ds, bk := E.nx, rt := E.rt } ρ' S'
/-- what is wanted of an exception out of a statement -/
abbrev XS := Nat → D → Env → Sto → Prop
def parV : List Nat → List D → Env → Env
  | i :: is, d :: ds, ρ => parV is ds (setV ρ i d)
  | _, _, ρ => ρ
mutual
def wpS (Γ : Gam) : Sm → DEnd → XS → Env → Sto → Prop
  | .asg t e, E, X, ρ, S => wpE Γ e ρ S (fun k d S => X k d ρ S) fun d S1 => wpG Γ t d ρ S1 xNo E.nx
  | .par is es, E, X, ρ, S => wpEs Γ es ρ S (fun k d S => X k d ρ S) fun ds S1 => ds.length = is.length ∧ E.nx (parV is ds ρ) S1
  | .aug i op e, E, X, ρ, S => match getV ρ i with
    | some x => wpE Γ e ρ S (fun k d S => X k d ρ S) fun y S1 => ∃ a b, x = .int a ∧ y = .int b ∧ binD op x y fun z => E.nx (setV ρ i z) S1
    | none => False
  | .ex e, E, X, ρ, S => wpE Γ e ρ S (fun k d S => X k d ρ S) fun _ S1 => E.nx ρ S1
  | .ret e, E, X, ρ, S => wpE Γ e ρ S (fun k d S => X k d ρ S) fun d S1 => E.rt d S1
  | .retF e, E, X, ρ, S => wpE Γ e ρ S (fun k d S => X k d ρ S) fun d S1 => ∃ p ds, d = .ref p ∧ S1 p = some (.lst ds) ∧ E.rt (.lst ds) (sdel S1 p)
  | .retN, E, _, _, S => E.rt .non S
  | .ife c a b, E, X, ρ, S => wpE Γ c ρ S (fun k d S => X k d ρ S) fun d S1 => tstD d fun z => if z = true then wpB Γ a E X ρ S1 else wpB Γ b E X ρ S1
  | .whl c b, E, X, ρ, S => ∃ W : Nat → Env → Sto → Prop, (∃ m, W m ρ S) ∧ ∀ m ρ S, W m ρ S → wpE Γ c ρ S (fun k d S => X k d ρ S) fun d S1 => tstD d fun z =>
      if z = true then wpB Γ b { nx := fun ρ' S' => ∃ m', m' < m ∧ W m' ρ' S', ct := fun ρ' S' => ∃ m', m' < m ∧ W m' ρ' S', bk := E.nx, rt := E.rt } X ρ S1 else E.nx ρ S1
  | .for tg it b, E, X, ρ, S => wpI Γ it ρ S (fun k d S => X k d ρ S) fun ds C S1 => forL (fun d ρ S K => wpG Γ tg d ρ S xNo K) (fun E' ρ S => wpB Γ b E' X ρ S) C E ds ρ S1
  | .raise _ _, _, _, _, _ => False
  | .pass, E, _, ρ, S => E.nx ρ S
  | .brk, E, _, ρ, S => E.bk ρ S
  | .cont, E, _, ρ, S => E.ct ρ S
def wpB (Γ : Gam) : Bl → DEnd → XS → Env → Sto → Prop
  | .nil, E, _, ρ, S => E.nx ρ S
  | .cons s r, E, X, ρ, S => wpS Γ s { E with nx := wpB Γ r E X } X ρ S
end
end DL

/-! DL2: data against the heap; readings of HandS against weakest preconditions over data. -/
namespace DL
open PySem PySem.Spec PyProof.Rows L2
abbrev Ow := Addr → Prop
mutual
/-- the value v stands for the datum d -/
inductive Rp (K : PySem.W.Frag) (O : Ow) (H : Hp) : V → D → Prop
  | non : Rp K O H .non .non
  | bl (b : Bool) : Rp K O H (.bl b) (.bl b)
  | int (i : Int) : Rp K O H (.int i) (.int i)
  | str (x : Str) : Rp K O H (.str x) (.str x)
  | ty (n : String) : Rp K O H (.ty n) (.ty n)
  | ref {a : Addr} : Rp K O H (.ref a) (.ref a)
  | scr {a : Addr} {ns : List Int} {o : Obj} : ns.length ≤ sizeLine → H a = some (.frz o (.lst (ns.map V.int))) → Rp K O H (.ref a) (.scr ns)
  | scrK {a : Addr} {ns : List Int} : ns.length ≤ sizeLine → (∀ H', SqL K H' a (ns.map V.int)) → Rp K O H (.ref a) (.scr ns)
  | tup {a : Addr} {xs : List V} {ds : List D} : SqT K H a xs → xs.length ≤ sizeLine → Rps K O H xs ds → Rp K O H (.ref a) (.tup ds)
  | lst {a : Addr} {xs : List V} {ds : List D} : H a = some (.lst xs) → ¬ O a → xs.length ≤ sizeLine → Rps K O H xs ds → Rp K O H (.ref a) (.lst ds)
inductive Rps (K : PySem.W.Frag) (O : Ow) (H : Hp) : List V → List D → Prop
  | nil : Rps K O H [] []
  | cons {v : V} {vs : List V} {d : D} {ds : List D} : Rp K O H v d → Rps K O H vs ds → Rps K O H (v :: vs) (d :: ds)
end
/-- the heap goes on: what is not owned stays, tuples stay, nothing old is newly owned -/
structure Mo (O : Ow) (H : Hp) (O' : Ow) (H' : Hp) : Prop where
  k : ∀ a u, H a = some u → ¬ O a → H' a = some u
  t : ∀ a u, H a = some u → (∀ xs, u ≠ .lst xs) → H' a = some u
  o : ∀ a u, H a = some u → O' a → O a
section
variable {K : PySem.W.Frag} {O O' O2 : Ow} {H H' H2 : Hp}
theorem Mo.refl : Mo O H O H := ⟨fun _ _ h _ => h, fun _ _ h _ => h, fun _ _ _ h => h⟩
theorem Mo.rd (m : Mo O H O' H') {a : Addr} {u : HO} (h : Rd H a u) (hn : ∀ xs, u ≠ .lst xs) : Rd H' a u := by
  rcases h with h | ⟨o, h⟩
  · exact .inl (m.t _ _ h hn)
  · exact .inr ⟨o, m.t _ _ h fun xs e => nomatch e⟩
theorem Mo.sqT (m : Mo O H O' H') {a : Addr} {xs : List V} (h : SqT K H a xs) : SqT K H' a xs := by
  rcases h with h | h
  · exact .inl (m.rd h fun xs e => nomatch e)
  · exact .inr h
mutual
theorem Rp.mono (m : Mo O H O' H') : ∀ {v : V} {d : D}, Rp K O H v d → Rp K O' H' v d
  | _, _, .non => .non
  | _, _, .bl b => .bl b
  | _, _, .int i => .int i
  | _, _, .str x => .str x
  | _, _, .ty n => .ty n
  | _, _, .ref => .ref
  | _, _, .scr z h => .scr z (m.t _ _ h fun xs e => nomatch e)
  | _, _, .scrK z h => .scrK z h
  | _, _, .tup h z r => .tup (m.sqT h) z (Rps.mono m r)
  | _, _, .lst h n z r => .lst (m.k _ _ h n) (fun q => n (m.o _ _ h q)) z (Rps.mono m r)
theorem Rps.mono (m : Mo O H O' H') : ∀ {vs : List V} {ds : List D}, Rps K O H vs ds → Rps K O' H' vs ds
  | _, _, .nil => .nil
  | _, _, .cons r t => .cons (Rp.mono m r) (Rps.mono m t)
end
theorem Rps.len : ∀ {vs : List V} {ds : List D}, Rps K O H vs ds → vs.length = ds.length
  | _, _, .nil => rfl
  | _, _, .cons _ t => by rw [List.length_cons, List.length_cons, t.len]
theorem Rps.append : ∀ {vs us : List V} {ds es : List D}, Rps K O H vs ds → Rps K O H us es → Rps K O H (vs ++ us) (ds ++ es)
  | _, _, _, _, .nil, h => h
  | _, _, _, _, .cons r t, h => .cons r (t.append h)
theorem Rps.get : ∀ {vs : List V} {ds : List D} {i : Nat} {d : D}, Rps K O H vs ds → ds[i]? = some d → ∃ v, vs[i]? = some v ∧ Rp K O H v d
  | _, _, 0, _, .cons r _, e => ⟨_, rfl, by cases e; exact r⟩
  | _, _, i + 1, _, .cons _ t, e => t.get (i := i) e
theorem Rps.getV : ∀ {vs : List V} {ds : List D} {i : Nat} {v : V}, Rps K O H vs ds → vs[i]? = some v → ∃ d, ds[i]? = some d ∧ Rp K O H v d
  | _, _, 0, _, .cons r _, e => ⟨_, rfl, by cases e; exact r⟩
  | _, _, i + 1, _, .cons _ t, e => t.getV (i := i) e
theorem Rps.set : ∀ {vs : List V} {ds : List D} (i : Nat) {v : V} {d : D}, Rps K O H vs ds → Rp K O H v d → Rps K O H (vs.set i v) (ds.set i d)
  | _, _, _, _, _, .nil, _ => .nil
  | _, _, 0, _, _, .cons _ t, h => .cons h t
  | _, _, i + 1, _, _, .cons r t, h => .cons r (t.set i h)
theorem Rps.take : ∀ {vs : List V} {ds : List D} (n : Nat), Rps K O H vs ds → Rps K O H (vs.take n) (ds.take n)
  | _, _, 0, _ => .nil
  | _, _, _ + 1, .nil => .nil
  | _, _, n + 1, .cons r t => .cons r (t.take n)
theorem Rps.drop : ∀ {vs : List V} {ds : List D} (n : Nat), Rps K O H vs ds → Rps K O H (vs.drop n) (ds.drop n)
  | _, _, 0, h => h
  | _, _, _ + 1, .nil => .nil
  | _, _, n + 1, .cons _ t => t.drop n
theorem Rps.reverse : ∀ {vs : List V} {ds : List D}, Rps K O H vs ds → Rps K O H vs.reverse ds.reverse
  | _, _, .nil => .nil
  | _, _, .cons r t => by rw [List.reverse_cons, List.reverse_cons]; exact t.reverse.append (.cons r .nil)
theorem Rps.ints : ∀ {vs : List V} {ns : List Int}, Rps K O H vs (ns.map D.int) → vs = ns.map V.int
  | _, [], .nil => rfl
  | _, _ :: _, .cons r t => by cases r; rw [List.map_cons, t.ints]
theorem Rps.ofInts : ∀ (ns : List Int), Rps K O H (ns.map V.int) (ns.map D.int)
  | [] => .nil
  | n :: ns => .cons (.int n) (Rps.ofInts ns)
theorem Rps.bls : ∀ {vs : List V} {ns : List Bool}, Rps K O H vs (ns.map D.bl) → vs = ns.map V.bl
  | _, [], .nil => rfl
  | _, _ :: _, .cons r t => by cases r; rw [List.map_cons, t.bls]
theorem Rps.rep {vs : List V} {ds : List D} (h : Rps K O H vs ds) : ∀ n : Nat, Rps K O H (List.replicate n vs).flatten (List.replicate n ds).flatten
  | 0 => .nil
  | n + 1 => by rw [List.replicate_succ, List.replicate_succ, List.flatten_cons, List.flatten_cons]; exact h.append (h.rep n)
theorem Rps.dropLast {vs : List V} {ds : List D} (h : Rps K O H vs ds) : Rps K O H vs.dropLast ds.dropLast := by
  rw [List.dropLast_eq_take, List.dropLast_eq_take, h.len]; exact h.take _

/-- the store stands -/
structure Sok (K : PySem.W.Frag) (S : Sto) (O : Ow) (H : Hp) : Prop where
  dom : ∀ a ds, S a = some (.lst ds) → O a ∧ ∃ xs, H a = some (.lst xs) ∧ xs.length ≤ sizeLine ∧ Rps K O H xs ds
  ex : ∀ a, O a → ∃ xs, H a = some (.lst xs)
/-- from a state to a later one -/
structure Ev (S : Sto) (O : Ow) (H : Hp) (S' : Sto) (O' : Ow) (H' : Hp) : Prop where
  keep : ∀ a u, H a = some u → S a = none → H' a = some u
  own : ∀ a, O' a → O a ∨ H a = none
  res : ∀ a, O a → S a = none → O' a ∧ S' a = none
  there : ∀ a, H' a = none → H a = none
variable {S S' S2 : Sto}
theorem Sok.none (s : Sok K S O H) {a : Addr} (h : ¬ O a) : S a = Option.none := by
  cases q : S a with
  | none => rfl
  | some o => cases o; exact absurd (s.dom _ _ q).1 h
theorem Sok.noneH (s : Sok K S O H) {a : Addr} (h : H a = Option.none) : S a = Option.none := s.none fun q => by obtain ⟨_, e⟩ := s.ex _ q; rw [h] at e; cases e
theorem Sok.notO (s : Sok K S O H) {a : Addr} (h : H a = Option.none) : ¬ O a := fun q => by obtain ⟨_, e⟩ := s.ex _ q; rw [h] at e; cases e
theorem Sok.noL (s : Sok K S O H) {a : Addr} {u : HO} (h : H a = some u) (hn : ∀ xs, u ≠ .lst xs) : ¬ O a := fun q => by
  obtain ⟨xs, e⟩ := s.ex _ q; rw [h] at e; cases e; exact hn _ rfl
theorem Ev.mo (e : Ev S O H S' O' H') (s : Sok K S O H) : Mo O H O' H' where
  k := fun a u h n => e.keep a u h (s.none n)
  t := fun a u h n => e.keep a u h (s.none (s.noL h n))
  o := fun a u h q => (e.own a q).elim id fun z => by rw [h] at z; cases z
theorem Ev.refl : Ev S O H S O H := ⟨fun _ _ h _ => h, fun _ h => .inl h, fun _ h n => ⟨h, n⟩, fun _ h => h⟩
theorem Ev.trans (a : Ev S O H S' O' H') (s' : Sok K S' O' H') (b : Ev S' O' H' S2 O2 H2) : Ev S O H S2 O2 H2 := by
  have nn : ∀ c u, H c = some u → S c = none → S' c = none := fun c u h n => by
    cases q : S' c with
    | none => rfl
    | some o =>
      cases o
      rcases a.own c (s'.dom _ _ q).1 with z | z
      · rw [(a.res c z n).2] at q; cases q
      · rw [h] at z; cases z
  refine ⟨fun c u h n => b.keep c u (a.keep c u h n) (nn c u h n), fun c h => ?_, fun c h n => b.res c (a.res c h n).1 (a.res c h n).2, fun c h => a.there c (b.there c h)⟩
  rcases b.own c h with z | z
  · exact a.own c z
  · exact .inr (a.there c z)

/-- the names' values -/
def REnv (K : PySem.W.Frag) (O : Ow) (H : Hp) : Env → L2.St → Prop
  | [], [] => True
  | none :: ρ, _ :: σ => REnv K O H ρ σ
  | some d :: ρ, v :: σ => (∃ x, v = some x ∧ Rp K O H x d) ∧ REnv K O H ρ σ
  | _, _ => False
theorem REnv.mono (m : Mo O H O' H') : ∀ {ρ : Env} {σ : L2.St}, REnv K O H ρ σ → REnv K O' H' ρ σ
  | [], [], _ => trivial
  | none :: ρ, _ :: σ, h => REnv.mono (ρ := ρ) (σ := σ) m h
  | some d :: ρ, _ :: σ, ⟨⟨x, e, r⟩, h⟩ => ⟨⟨x, e, r.mono m⟩, REnv.mono (ρ := ρ) (σ := σ) m h⟩
  | [], _ :: _, h => h.elim
  | none :: _, [], h => h.elim
  | some _ :: _, [], h => h.elim
theorem REnv.get : ∀ {ρ : Env} {σ : L2.St} {i : Nat} {d : D}, REnv K O H ρ σ → DL.getV ρ i = some d → ∃ x, σ[i]? = some (some x) ∧ Rp K O H x d
  | none :: ρ, _ :: σ, 0, d, _, e => nomatch e
  | some d :: ρ, _ :: σ, 0, _, ⟨⟨x, e, r⟩, _⟩, q => by cases q; exact ⟨x, by rw [e]; rfl, r⟩
  | none :: ρ, _ :: σ, i + 1, d, h, e => REnv.get (ρ := ρ) (σ := σ) (i := i) h e
  | some _ :: ρ, _ :: σ, i + 1, d, ⟨_, h⟩, e => REnv.get (ρ := ρ) (σ := σ) (i := i) h e
theorem REnv.set : ∀ {ρ : Env} {σ : L2.St} (i : Nat) {d : D} {x : V}, REnv K O H ρ σ → Rp K O H x d → REnv K O H (setV ρ i d) (σ.set i (some x))
  | [], [], _, _, _, _, _ => trivial
  | none :: ρ, _ :: σ, 0, _, _, h, r => ⟨⟨_, rfl, r⟩, h⟩
  | some _ :: ρ, _ :: σ, 0, _, _, ⟨_, h⟩, r => ⟨⟨_, rfl, r⟩, h⟩
  | none :: ρ, _ :: σ, i + 1, _, _, h, r => REnv.set (ρ := ρ) (σ := σ) i h r
  | some _ :: ρ, _ :: σ, i + 1, _, _, ⟨q, h⟩, r => ⟨q, REnv.set (ρ := ρ) (σ := σ) i h r⟩
  | [], _ :: _, _, _, _, h, _ => h.elim
  | none :: _, [], _, _, _, h, _ => h.elim
  | some _ :: _, [], _, _, _, h, _ => h.elim
theorem REnv.del : ∀ {ρ : Env} {σ : L2.St} (i : Nat), REnv K O H ρ σ → REnv K O H (delV ρ i) (σ.set i none)
  | [], [], _, _ => trivial
  | none :: ρ, _ :: σ, 0, h => h
  | some _ :: ρ, _ :: σ, 0, ⟨_, h⟩ => h
  | none :: ρ, _ :: σ, i + 1, h => REnv.del (ρ := ρ) (σ := σ) i h
  | some _ :: ρ, _ :: σ, i + 1, ⟨q, h⟩ => ⟨q, REnv.del (ρ := ρ) (σ := σ) i h⟩
  | [], _ :: _, _, h => h.elim
  | none :: _, [], _, h => h.elim
  | some _ :: _, [], _, h => h.elim
theorem REnv.dels {ρ : Env} {σ : L2.St} (h : REnv K O H ρ σ) : ∀ vs : List Nat, REnv K O H (delVs ρ vs) (wipe σ vs)
  | [] => h
  | v :: vs => (h.dels vs).del v
/-- what is known less: a slot forgotten -/
theorem REnv.start : ∀ {vs : List V} {ds : List D} (n : Nat), Rps K O H vs ds → REnv K O H (ds.map some ++ List.replicate n none) (vs.map some ++ List.replicate n none)
  | [], [], 0, _ => trivial
  | [], [], n + 1, h => REnv.start n h
  | _ :: _, _ :: _, n, .cons r t => ⟨⟨_, rfl, r⟩, REnv.start n t⟩

/-! ### allocation, writing, freezing -/
theorem ev_new {p : Addr} {u : HO} (hp : H p = none) (s : Sok K S O H) : Ev S O H S O (upd H p u) :=
  ⟨fun a v h _ => by rw [upd_ne (ne_of_none h hp)]; exact h, fun _ h => .inl h, fun _ h n => ⟨h, n⟩, fun a h => by
    by_cases e : a = p
    · rw [e, upd_same] at h; cases h
    · rwa [upd_ne e] at h⟩
theorem Sok.new {p : Addr} {u : HO} (hp : H p = Option.none) (s : Sok K S O H) : Sok K S O (upd H p u) where
  dom := fun a ds h => by
    obtain ⟨o, xs, e, z, r⟩ := s.dom a ds h
    exact ⟨o, xs, by rw [upd_ne (ne_of_none e hp)]; exact e, z, r.mono ((ev_new hp s).mo s)⟩
  ex := fun a h => by obtain ⟨xs, e⟩ := s.ex a h; exact ⟨xs, by rw [upd_ne (ne_of_none e hp)]; exact e⟩
/-- a new list, reserved -/
def oadd (O : Ow) (p : Addr) : Ow := fun a => O a ∨ a = p
theorem ev_res {p : Addr} {xs : List V} (hp : H p = none) (s : Sok K S O H) : Ev S O H S (oadd O p) (upd H p (.lst xs)) :=
  ⟨(ev_new hp s).keep, fun a h => h.elim .inl fun e => .inr (e ▸ hp), fun _ h n => ⟨.inl h, n⟩, (ev_new (u := .lst xs) hp s).there⟩
theorem Sok.resv {p : Addr} {xs : List V} (hp : H p = Option.none) (s : Sok K S O H) : Sok K S (oadd O p) (upd H p (.lst xs)) where
  dom := fun a ds h => by
    obtain ⟨o, xs, e, z, r⟩ := s.dom a ds h
    exact ⟨.inl o, xs, by rw [upd_ne (ne_of_none e hp)]; exact e, z, r.mono ((ev_res hp s).mo s)⟩
  ex := fun a h => by
    rcases h with h | h
    · obtain ⟨xs, e⟩ := s.ex a h; exact ⟨xs, by rw [upd_ne (ne_of_none e hp)]; exact e⟩
    · exact ⟨xs, by rw [h]; exact upd_same⟩
/-- what is owned changes -/
theorem mo_write {p : Addr} {xs ys : List V} (hp : H p = some (.lst xs)) (ho : O p) : Mo O H O (upd H p (.lst ys)) where
  k := fun a u h n => by rw [upd_ne (fun e => n (by rw [e]; exact ho))]; exact h
  t := fun a u h n => by rw [upd_ne (fun e => by rw [e, hp] at h; cases h; exact n _ rfl)]; exact h
  o := fun _ _ _ q => q
/-- a reserved list changes -/
theorem Sok.wres {p : Addr} {xs ys : List V} (hp : H p = some (.lst xs)) (ho : O p) (hs : S p = Option.none) (s : Sok K S O H) : Sok K S O (upd H p (.lst ys)) where
  dom := fun a ds h => by
    obtain ⟨o, zs, e, z, r⟩ := s.dom a ds h
    have ne : a ≠ p := fun q => by rw [q, hs] at h; cases h
    exact ⟨o, zs, by rw [upd_ne ne]; exact e, z, r.mono (mo_write hp ho)⟩
  ex := fun a h => by
    by_cases e : a = p
    · exact ⟨ys, by rw [e]; exact upd_same⟩
    · obtain ⟨zs, q⟩ := s.ex a h; exact ⟨zs, by rw [upd_ne e]; exact q⟩
/-- an owned list changes -/
theorem Sok.write {p : Addr} {xs ys : List V} {ds es : List D} (hs : S p = some (.lst ds)) (hp : H p = some (.lst xs)) (hz : ys.length ≤ sizeLine) (r : Rps K O H ys es) (s : Sok K S O H) : Sok K (sup S p (.lst es)) O (upd H p (.lst ys)) where
  dom := fun a fs h => by
    have ho := (s.dom _ _ hs).1
    by_cases e : a = p
    · subst e
      rw [sup_same] at h; cases h
      exact ⟨ho, ys, upd_same, hz, r.mono (mo_write hp ho)⟩
    · rw [sup_ne e] at h
      obtain ⟨o, zs, q, z, r⟩ := s.dom a fs h
      exact ⟨o, zs, by rw [upd_ne e]; exact q, z, r.mono (mo_write hp ho)⟩
  ex := fun a h => by
    by_cases e : a = p
    · exact ⟨ys, by rw [e]; exact upd_same⟩
    · obtain ⟨zs, q⟩ := s.ex a h; exact ⟨zs, by rw [upd_ne e]; exact q⟩
theorem ev_write {p : Addr} {ys : List V} {ds es : List D} (hs : S p = some (.lst ds)) (s : Sok K S O H) : Ev S O H (sup S p (.lst es)) O (upd H p (.lst ys)) :=
  ⟨fun a u h n => by rw [upd_ne (fun e => by rw [e, hs] at n; cases n)]; exact h, fun _ h => .inl h, fun a h n => ⟨h, by rw [sup_ne (fun e => by rw [e, hs] at n; cases n)]; exact n⟩, fun a h => by
    by_cases e : a = p
    · rw [e, upd_same] at h; cases h
    · rwa [upd_ne e] at h⟩
/-- a reserved list becomes an owned one -/
theorem Sok.take {p : Addr} {xs : List V} {ds : List D} (ho : O p) (hp : H p = some (.lst xs)) (hz : xs.length ≤ sizeLine) (r : Rps K O H xs ds) (s : Sok K S O H) : Sok K (sup S p (.lst ds)) O H where
  dom := fun a fs h => by
    by_cases e : a = p
    · subst e; rw [sup_same] at h; cases h; exact ⟨ho, xs, hp, hz, r⟩
    · rw [sup_ne e] at h; exact s.dom a fs h
  ex := s.ex
/-- a reserved list is let go: nobody changes it any more -/
def orem (O : Ow) (p : Addr) : Ow := fun a => O a ∧ a ≠ p
theorem mo_free {p : Addr} : Mo O H (orem O p) H := ⟨fun _ _ h _ => h, fun _ _ h _ => h, fun _ _ _ q => q.1⟩
theorem Sok.free {p : Addr} (hs : S p = Option.none) (s : Sok K S O H) : Sok K S (orem O p) H where
  dom := fun a ds h => by
    obtain ⟨o, xs, e, z, r⟩ := s.dom a ds h
    exact ⟨⟨o, fun q => by rw [q, hs] at h; cases h⟩, xs, e, z, r.mono mo_free⟩
  ex := fun a h => s.ex a h.1
theorem Sok.sdel {p : Addr} (s : Sok K S O H) : Sok K (sdel S p) O H where
  dom := fun a ds h => s.dom a ds (by
    by_cases e : a = p
    · rw [e, sdel_same] at h; cases h
    · rwa [sdel_ne e] at h)
  ex := s.ex
end
end DL

/-! DL3: the judgements over data; expressions' readings. -/
namespace DL
open PySem PySem.Spec PyProof.Rows L2

/-- what links numbers to a text: promises, constants; how an exception (number, payload) lies -/
structure Lnk where
  Γ : Gam
  xr : Ow → Hp → Nat → D → Value → Option Addr → Prop
/-- a state at which code runs -/
structure At (L : Lnk) (K : PySem.W.Frag) (W : WX) (σ : L2.St) (H : Hp) (ρ : Env) (S : Sto) (O : Ow) (R : XD) : Prop where
  sok : Sok K S O H
  env : REnv K O H ρ σ
  x : ∀ k d S' O' H' c dd, Sok K S' O' H' → Ev S O H S' O' H' → L.xr O' H' k d c dd → R k d S' → W c dd σ H'
section
variable {L : Lnk} {K : PySem.W.Frag} {W : WX} {σ : L2.St} {H H1 : Hp} {ρ : Env} {S S1 : Sto} {O O1 : Ow} {R : XD}
theorem At.next (A : At L K W σ H ρ S O R) (s : Sok K S1 O1 H1) (e : Ev S O H S1 O1 H1) : At L K W σ H1 ρ S1 O1 R :=
  ⟨s, A.env.mono (e.mo A.sok), fun k d S' O' H' c dd s' e' x r => A.x k d S' O' H' c dd s' (e.trans s e') x r⟩
theorem At.mo (A : At L K W σ H ρ S O R) (e : Ev S O H S1 O1 H1) : Mo O H O1 H1 := e.mo A.sok
end
abbrev WE' := Env → Sto → XD → QD → Prop
/-- a reading carries a weakest precondition -/
def RE (L : Lnk) (K : PySem.W.Frag) (W : WX) (t : TE) (w : WE') : Prop :=
  ∀ (σ : L2.St) (H : Hp) (ρ : Env) (S : Sto) (O : Ow) (R : XD) (Q : QD) (Q' : VK), At L K W σ H ρ S O R → w ρ S R Q →
    (∀ v H' d S' O', Rp K O' H' v d → Sok K S' O' H' → Ev S O H S' O' H' → Q d S' → Q' v H') → t σ H Q'
def RT (L : Lnk) (K : PySem.W.Frag) (W : WX) (t : TT) (w : WE') : Prop :=
  ∀ (σ : L2.St) (H : Hp) (ρ : Env) (S : Sto) (O : Ow) (R : XD) (Q : Bool → Sto → Prop) (Q' : Bool → Hp → Prop), At L K W σ H ρ S O R → w ρ S R (fun d S' => tstD d fun b => Q b S') →
    (∀ b H' S' O', Sok K S' O' H' → Ev S O H S' O' H' → Q b S' → Q' b H') → t σ H Q'
def RA (L : Lnk) (K : PySem.W.Frag) (W : WX) (t : TA) (w : Env → Sto → XD → (List D → Sto → Prop) → Prop) : Prop :=
  ∀ (σ : L2.St) (H : Hp) (ρ : Env) (S : Sto) (O : Ow) (R : XD) (Q : List D → Sto → Prop) (Q' : List V → Hp → Prop), At L K W σ H ρ S O R → w ρ S R Q →
    (∀ vs H' ds S' O', Rps K O' H' vs ds → Sok K S' O' H' → Ev S O H S' O' H' → Q ds S' → Q' vs H') → t σ H Q'
/-- a new list: it is reserved, its items stand -/
def RL (L : Lnk) (K : PySem.W.Frag) (W : WX) (t : TE) (w : Env → Sto → XD → (List D → Sto → Prop) → Prop) : Prop :=
  ∀ (σ : L2.St) (H : Hp) (ρ : Env) (S : Sto) (O : Ow) (R : XD) (Q : List D → Sto → Prop) (Q' : VK), At L K W σ H ρ S O R → w ρ S R Q →
    (∀ p xs H' ds S' O', H p = none → O' p → S' p = none → H' p = some (.lst xs) → xs.length ≤ sizeLine → Rps K O' H' xs ds → Sok K S' O' H' → Ev S O H S' O' H' → Q ds S' → Q' (.ref p) H') → t σ H Q'
def RO (L : Lnk) (K : PySem.W.Frag) (W : WX) (t : TO) (w : Env → Sto → XD → (Option Int → Sto → Prop) → Prop) : Prop :=
  ∀ (σ : L2.St) (H : Hp) (ρ : Env) (S : Sto) (O : Ow) (R : XD) (Q : Option Int → Sto → Prop) (Q' : Option Int → Hp → Prop), At L K W σ H ρ S O R → w ρ S R Q →
    (∀ o H' S' O', Sok K S' O' H' → Ev S O H S' O' H' → Q o S' → Q' o H') → t σ H Q'
section
variable {L : Lnk} {K : PySem.W.Frag} {W : WX} {t ta tb tc : TE} {w wa wb wc : WE'}
theorem RE.go (h : RE L K W t w) {σ : L2.St} {H : Hp} {ρ : Env} {S : Sto} {O : Ow} {R : XD} {Q : QD} {Q' : VK} (A : At L K W σ H ρ S O R) (hw : w ρ S R Q)
    (k : ∀ v H1 d S1 O1, Rp K O1 H1 v d → At L K W σ H1 ρ S1 O1 R → Ev S O H S1 O1 H1 → Q d S1 → Q' v H1) : t σ H Q' :=
  h σ H ρ S O R Q Q' A hw fun v H' d S' O' r s e q => k v H' d S' O' r (A.next s e) e q
theorem RT.go {t : TT} (h : RT L K W t w) {σ : L2.St} {H : Hp} {ρ : Env} {S : Sto} {O : Ow} {R : XD} {Q : Bool → Sto → Prop} {Q' : Bool → Hp → Prop} (A : At L K W σ H ρ S O R) (hw : w ρ S R (fun d S' => tstD d fun b => Q b S'))
    (k : ∀ b H1 S1 O1, At L K W σ H1 ρ S1 O1 R → Ev S O H S1 O1 H1 → Q b S1 → Q' b H1) : t σ H Q' :=
  h σ H ρ S O R Q Q' A hw fun v H' S' O' s e q => k v H' S' O' (A.next s e) e q
theorem RA.go {t : TA} {w : Env → Sto → XD → (List D → Sto → Prop) → Prop} (h : RA L K W t w) {σ : L2.St} {H : Hp} {ρ : Env} {S : Sto} {O : Ow} {R : XD} {Q : List D → Sto → Prop} {Q' : List V → Hp → Prop} (A : At L K W σ H ρ S O R) (hw : w ρ S R Q)
    (k : ∀ vs H1 ds S1 O1, Rps K O1 H1 vs ds → At L K W σ H1 ρ S1 O1 R → Ev S O H S1 O1 H1 → Q ds S1 → Q' vs H1) : t σ H Q' :=
  h σ H ρ S O R Q Q' A hw fun v H' d S' O' r s e q => k v H' d S' O' r (A.next s e) e q
theorem RO.go {t : TO} {w : Env → Sto → XD → (Option Int → Sto → Prop) → Prop} (h : RO L K W t w) {σ : L2.St} {H : Hp} {ρ : Env} {S : Sto} {O : Ow} {R : XD} {Q : Option Int → Sto → Prop} {Q' : Option Int → Hp → Prop} (A : At L K W σ H ρ S O R) (hw : w ρ S R Q)
    (k : ∀ o H1 S1 O1, At L K W σ H1 ρ S1 O1 R → Ev S O H S1 O1 H1 → Q o S1 → Q' o H1) : t σ H Q' :=
  h σ H ρ S O R Q Q' A hw fun v H' S' O' s e q => k v H' S' O' (A.next s e) e q
/-- a value that is a bool -/
theorem tst_bl {v : V} {d : D} {O : Ow} {H : Hp} {k : Bool → Prop} (r : Rp K O H v d) (h : tstD d k) : ∃ b, v = .bl b ∧ d = .bl b ∧ k b := by
  cases d with
  | bl b => cases r; exact ⟨b, rfl, rfl, h⟩
  | _ => exact h.elim
/-- from a value's reading to a test's -/
theorem RE.tB (h : RE L K W t w) : RT L K W (tB t) w := fun σ H ρ S O R Q Q' A hw k =>
  h σ H ρ S O R _ _ A hw fun v H' d S' O' r s e q => by
    obtain ⟨b, rfl, rfl, q⟩ := tst_bl r q
    exact ⟨b, rfl, k b H' S' O' s e q⟩

/-! ### the value forms -/
theorem re_var {i : Nat} : RE L K W (tVar i) fun ρ S _ Q => match getV ρ i with
    | some d => Q d S
    | none => False := fun σ H ρ S O R Q Q' A hw k => by
  cases e : getV ρ i with
  | none => simp only [e] at hw
  | some d =>
    simp only [e] at hw
    obtain ⟨x, ex, r⟩ := A.env.get e
    exact ⟨x, ex, k x H d S O r A.sok .refl hw⟩
theorem re_c {v : V} {d : D} (h : ∀ O H, Rp K O H v d) : RE L K W (tC v) fun _ S _ Q => Q d S := fun σ H ρ S O R Q Q' A hw k => k v H d S O (h O H) A.sok .refl hw
theorem re_op {r : R2} {f : Sto → D → D → (D → Prop) → Prop} (ha : RE L K W ta wa) (hb : RE L K W tb wb)
    (hr : ∀ x y dx dy H S O (P : D → Prop) (Q' : VK), Sok K S O H → Rp K O H x dx → Rp K O H y dy → f S dx dy P → (∀ v H' d, Rp K O H' v d → Sok K S O H' → Ev S O H S O H' → P d → Q' v H') → r x y H Q') :
    RE L K W (tOp r ta tb) fun ρ S R Q => wa ρ S R fun x S1 => wb ρ S1 R fun y S2 => f S2 x y fun z => Q z S2 := fun σ H ρ S O R Q Q' A hw k => by
  refine ha.go A hw fun x H1 dx S1 O1 r1 A1 e1 q1 => ?_
  refine hb.go A1 q1 fun y H2 dy S2 O2 r2 A2 e2 q2 => ?_
  refine hr x y dx dy H2 S2 O2 _ Q' A2.sok (r1.mono (A1.mo e2)) r2 q2 fun v H' d rv s e q => ?_
  exact k v H' d S2 O2 rv s ((e1.trans A1.sok e2).trans A2.sok e) q
theorem re_not (ha : RE L K W ta wa) : RE L K W (tNotV ta) fun ρ S R Q => wa ρ S R fun x S1 => tstD x fun b => Q (.bl (!b)) S1 := fun σ H ρ S O R Q Q' A hw k => by
  refine ha.go A hw fun x H1 dx S1 O1 r1 A1 e1 q1 => ?_
  obtain ⟨b, rfl, rfl, q⟩ := tst_bl r1 q1
  exact ⟨b, rfl, k _ H1 _ S1 O1 (.bl _) A1.sok e1 q⟩
theorem rt_not {t : TT} (ha : RT L K W t wa) : RT L K W (tNot t) fun ρ S R Q => wa ρ S R fun x S1 => tstD x fun b => Q (.bl (!b)) S1 := fun σ H ρ S O R Q Q' A hw k =>
  ha.go (Q := fun b S1 => Q (!b) S1) A hw fun b H1 S1 O1 A1 e1 q1 => k _ H1 S1 O1 A1.sok e1 q1
theorem re_and (ha : RE L K W ta wa) (hb : RE L K W tb wb) : RE L K W (tAndV ta tb) fun ρ S R Q => wa ρ S R fun x S1 => tstD x fun c => if c = true then wb ρ S1 R Q else Q (.bl false) S1 := fun σ H ρ S O R Q Q' A hw k => by
  refine ha.go A hw fun x H1 dx S1 O1 r1 A1 e1 q1 => ?_
  obtain ⟨b, rfl, rfl, q⟩ := tst_bl r1 q1
  refine ⟨b, rfl, ?_⟩
  cases b with
  | true => exact hb.go A1 q fun v H2 d S2 O2 r2 A2 e2 q2 => k v H2 d S2 O2 r2 A2.sok (e1.trans A1.sok e2) q2
  | false => exact k _ H1 _ S1 O1 (.bl _) A1.sok e1 q
theorem re_or (ha : RE L K W ta wa) (hb : RE L K W tb wb) : RE L K W (tOrV ta tb) fun ρ S R Q => wa ρ S R fun x S1 => tstD x fun c => if c = true then Q (.bl true) S1 else wb ρ S1 R Q := fun σ H ρ S O R Q Q' A hw k => by
  refine ha.go A hw fun x H1 dx S1 O1 r1 A1 e1 q1 => ?_
  obtain ⟨b, rfl, rfl, q⟩ := tst_bl r1 q1
  refine ⟨b, rfl, ?_⟩
  cases b with
  | false => exact hb.go A1 q fun v H2 d S2 O2 r2 A2 e2 q2 => k v H2 d S2 O2 r2 A2.sok (e1.trans A1.sok e2) q2
  | true => exact k _ H1 _ S1 O1 (.bl _) A1.sok e1 q
theorem rt_and {t u : TT} (ha : RT L K W t wa) (hb : RT L K W u wb) : RT L K W (tAnd t u) fun ρ S R Q => wa ρ S R fun x S1 => tstD x fun c => if c = true then wb ρ S1 R Q else Q (.bl false) S1 := fun σ H ρ S O R Q Q' A hw k => by
  refine ha.go (Q := fun c S1 => if c = true then wb ρ S1 R (fun d S' => tstD d fun b => Q b S') else Q false S1) A hw fun b H1 S1 O1 A1 e1 q => ?_
  cases b with
  | true => exact hb.go A1 q fun b H2 S2 O2 A2 e2 q2 => k b H2 S2 O2 A2.sok (e1.trans A1.sok e2) q2
  | false => exact k _ H1 S1 O1 A1.sok e1 q
theorem rt_or {t u : TT} (ha : RT L K W t wa) (hb : RT L K W u wb) : RT L K W (tOr t u) fun ρ S R Q => wa ρ S R fun x S1 => tstD x fun c => if c = true then Q (.bl true) S1 else wb ρ S1 R Q := fun σ H ρ S O R Q Q' A hw k => by
  refine ha.go (Q := fun c S1 => if c = true then Q true S1 else wb ρ S1 R (fun d S' => tstD d fun b => Q b S')) A hw fun b H1 S1 O1 A1 e1 q => ?_
  cases b with
  | false => exact hb.go A1 q fun b H2 S2 O2 A2 e2 q2 => k b H2 S2 O2 A2.sok (e1.trans A1.sok e2) q2
  | true => exact k _ H1 S1 O1 A1.sok e1 q
theorem re_ite {t : TT} (hc : RT L K W t wc) (ha : RE L K W ta wa) (hb : RE L K W tb wb) : RE L K W (tIf t ta tb) fun ρ S R Q => wc ρ S R fun x S1 => tstD x fun z => if z = true then wa ρ S1 R Q else wb ρ S1 R Q := fun σ H ρ S O R Q Q' A hw k => by
  refine hc.go (Q := fun z S1 => if z = true then wa ρ S1 R Q else wb ρ S1 R Q) A hw fun b H1 S1 O1 A1 e1 q => ?_
  cases b with
  | true => exact ha.go A1 q fun v H2 d S2 O2 r2 A2 e2 q2 => k v H2 d S2 O2 r2 A2.sok (e1.trans A1.sok e2) q2
  | false => exact hb.go A1 q fun v H2 d S2 O2 r2 A2 e2 q2 => k v H2 d S2 O2 r2 A2.sok (e1.trans A1.sok e2) q2
theorem re_neg (ha : RE L K W ta wa) : RE L K W (tUn (rU fun i => .int (-i)) ta) fun ρ S R Q => wa ρ S R fun x S1 => match x with
    | .int i => Q (.int (-i)) S1
    | _ => False := fun σ H ρ S O R Q Q' A hw k => by
  refine ha.go A hw fun x H1 dx S1 O1 r1 A1 e1 q1 => ?_
  cases dx with
  | int i => cases r1; exact ⟨i, rfl, k _ H1 _ S1 O1 (.int _) A1.sok e1 q1⟩
  | _ => exact q1.elim

/-! ### argument lists -/
theorem ra_nil : RA L K W tNil fun _ S _ Q => Q [] S := fun σ H ρ S O R Q Q' A hw k => k [] H [] S O .nil A.sok .refl hw
theorem ra_cons {t : TE} {u : TA} {wr : Env → Sto → XD → (List D → Sto → Prop) → Prop} (h : RE L K W t w) (hr : RA L K W u wr) : RA L K W (tCons t u) fun ρ S R Q => w ρ S R fun x S1 => wr ρ S1 R fun xs S2 => Q (x :: xs) S2 := fun σ H ρ S O R Q Q' A hw k => by
  refine h.go A hw fun x H1 dx S1 O1 r1 A1 e1 q1 => ?_
  refine hr.go A1 q1 fun xs H2 ds S2 O2 r2 A2 e2 q2 => ?_
  exact k _ H2 _ S2 O2 (.cons (r1.mono (A1.mo e2)) r2) A2.sok (e1.trans A1.sok e2) q2
/-- an owned list, or a value, read as a sequence -/
theorem seq_of {v : V} {d : D} {S : Sto} {O : Ow} {H : Hp} (r : Rp K O H v d) (s : Sok K S O H) : 
    (∀ ds, res S d = .lst ds → ∃ a xs, v = .ref a ∧ H a = some (.lst xs) ∧ xs.length ≤ sizeLine ∧ Rps K O H xs ds) ∧ (∀ ds, res S d = .tup ds → ∃ a xs, v = .ref a ∧ SqT K H a xs ∧ xs.length ≤ sizeLine ∧ Rps K O H xs ds) ∧
    (∀ ns, res S d = .scr ns → ∃ a, v = .ref a ∧ SqL K H a (ns.map V.int)) := by
  cases r with
  | ref =>
    rename_i a
    cases q : S a with
    | none => simp only [res, q]; exact ⟨(fun _ e => nomatch e), (fun _ e => nomatch e), (fun _ e => nomatch e)⟩
    | some o =>
      cases o with
      | lst es =>
        simp only [res, q]
        obtain ⟨_, xs, h1, h2, h3⟩ := s.dom _ _ q
        exact ⟨(fun ds e => by cases e; exact ⟨a, xs, rfl, h1, h2, h3⟩), (fun _ e => nomatch e), (fun _ e => nomatch e)⟩
  | tup h1 h2 h3 => exact ⟨(fun _ e => nomatch e), (fun ds e => by cases e; exact ⟨_, _, rfl, h1, h2, h3⟩), (fun _ e => nomatch e)⟩
  | lst h1 _ h2 h3 => exact ⟨(fun ds e => by cases e; exact ⟨_, _, rfl, h1, h2, h3⟩), (fun _ e => nomatch e), (fun _ e => nomatch e)⟩
  | scr _ h => exact ⟨(fun _ e => nomatch e), (fun _ e => nomatch e), (fun ns e => by cases e; exact ⟨_, rfl, .inl (.inr ⟨_, h⟩)⟩)⟩
  | scrK _ h => exact ⟨(fun _ e => nomatch e), (fun _ e => nomatch e), (fun ns e => by cases e; exact ⟨_, rfl, h _⟩)⟩
  | _ => exact ⟨(fun _ e => nomatch e), (fun _ e => nomatch e), (fun _ e => nomatch e)⟩
theorem ra_star {t : TE} {u : TA} {wr : Env → Sto → XD → (List D → Sto → Prop) → Prop} (h : RE L K W t w) (hr : RA L K W u wr) : RA L K W (StX.tStar K t u) fun ρ S R Q => w ρ S R fun x S1 => match res S1 x with
    | .tup ys => wr ρ S1 R fun xs S2 => Q (ys ++ xs) S2
    | .lst ys => wr ρ S1 R fun xs S2 => Q (ys ++ xs) S2
    | _ => False := fun σ H ρ S O R Q Q' A hw k => by
  refine h.go A hw fun x H1 dx S1 O1 r1 A1 e1 q1 => ?_
  obtain ⟨hl, ht, _⟩ := seq_of r1 A1.sok
  cases e : res S1 dx with
  | tup ys =>
    simp only [e] at q1
    obtain ⟨a, xs, rfl, h1, h2, h3⟩ := ht _ e
    refine ⟨a, xs, rfl, .inl h1, ?_⟩
    refine hr.go A1 q1 fun vs H2 ds S2 O2 r2 A2 e2 q2 => ?_
    exact k _ H2 _ S2 O2 ((h3.mono (A1.mo e2)).append r2) A2.sok (e1.trans A1.sok e2) q2
  | lst ys =>
    simp only [e] at q1
    obtain ⟨a, xs, rfl, h1, h2, h3⟩ := hl _ e
    refine ⟨a, xs, rfl, .inr (SqL.of h1), ?_⟩
    refine hr.go A1 q1 fun vs H2 ds S2 O2 r2 A2 e2 q2 => ?_
    exact k _ H2 _ S2 O2 ((h3.mono (A1.mo e2)).append r2) A2.sok (e1.trans A1.sok e2) q2
  | _ => simp only [e] at q1
/-- new tuples -/
theorem rp_new {S : Sto} {O : Ow} {H : Hp} {p : Addr} {xs : List V} {ds : List D} (s : Sok K S O H) (hp : H p = none) (z : xs.length ≤ sizeLine) (r : Rps K O H xs ds) : Rp K O (upd H p (.tup xs)) (.ref p) (.tup ds) :=
  .tup (SqT.of upd_same) z (r.mono ((ev_new hp s).mo s))
theorem re_tup {t : TA} {ws : Env → Sto → XD → (List D → Sto → Prop) → Prop} (h : RA L K W t ws) : RE L K W (tTup t) fun ρ S R Q => ws ρ S R fun ds S1 => ds.length ≤ sizeLine ∧ Q (.tup ds) S1 := fun σ H ρ S O R Q Q' A hw k => by
  refine h.go A hw fun xs H1 ds S1 O1 r1 A1 e1 ⟨z, q1⟩ => ?_
  have z' : xs.length ≤ sizeLine := by rw [r1.len]; exact z
  refine ⟨z', fun p hp => k _ _ _ S1 O1 (rp_new A1.sok hp z' r1) (A1.sok.new hp) (e1.trans A1.sok (ev_new hp A1.sok)) q1⟩
end
end DL

set_option maxHeartbeats 4000000
/-! DL17: tuple * int, any int. -/
namespace L2
open PySem PySem.Spec PyProof.Rows
theorem tuple_mul_same (l : Addr) (items : Array Value) (n : Nat) (dd : Option Addr) (sl : Array (Option Value)) (x : Int) (u : Tok) (c0 : (decide (x < -(2 ^ 63)) || decide (x ≥ 2 ^ 63)) = false) (c1 : (items.isEmpty || x == 1) = true) :
    Meets (Builtin.«tuple.__mul__» ⟨[.ref l, .int x u], []⟩) (fun _ R s => s.heap.get? l = some { cls := .type "tuple", dict := dd, data := .seq items n, slots := sl } ∧ R (.ok (.ret (Value.ref l))) s) :=
  .of_wp fun prog w A R s h => by
    obtain ⟨hp, g, d, tk, os⟩ := s
    obtain ⟨hl, h⟩ := h
    have f1 := AutoSeq1.idx_int
    have ht : ({ heap := hp, gens := g, drawn := d, toks := tk, os := os } : Shared).TypeIs (.ref l) "tuple" := ⟨_, hl, rfl⟩
    wp_walk using wpAny_loadPart' hl
    repeat (first
      | (refine wpAny_ite_false (decide_eq_false (by rw [c0]; exact Bool.false_ne_true)) ?_; wp_walk using wpAny_loadPart' hl)
      | (refine wpAny_ite_true (decide_eq_true (by rw [c1])) ?_; wp_walk using wpAny_loadPart' hl))
    all_goals first
      | exact ⟨_, rfl, h⟩
      | skip
theorem tuple_mul_none (l : Addr) (items : Array Value) (n : Nat) (dd : Option Addr) (sl : Array (Option Value)) (x : Int) (u : Tok) (c0 : (decide (x < -(2 ^ 63)) || decide (x ≥ 2 ^ 63)) = false) (c1 : (items.isEmpty || x == 1) = false) (c2 : (decide (x ≤ 0) || items.isEmpty) = true) :
    Meets (Builtin.«tuple.__mul__» ⟨[.ref l, .int x u], []⟩) (fun _ R s => s.heap.get? l = some { cls := .type "tuple", dict := dd, data := .seq items n, slots := sl } ∧
      R (.ok (.ret (Value.ref s.heap.objs.size))) { s with heap := s.heap.push { cls := Value.type "tuple", data := Data.seq #[] }, toks := s.toks }) :=
  .of_wp fun prog w A R s h => by
    obtain ⟨hp, g, d, tk, os⟩ := s
    obtain ⟨hl, h⟩ := h
    have f1 := AutoSeq1.idx_int
    wp_walk using wpAny_loadPart' hl
    repeat (first
      | (refine wpAny_ite_false (decide_eq_false (by rw [c0]; exact Bool.false_ne_true)) ?_; wp_walk using wpAny_loadPart' hl)
      | (refine wpAny_ite_false (decide_eq_false (by rw [c1]; exact Bool.false_ne_true)) ?_; wp_walk using wpAny_loadPart' hl)
      | (refine wpAny_ite_true (decide_eq_true (by rw [c2])) ?_; wp_walk using wpAny_loadPart' hl))
    exact ⟨_, rfl, h⟩
/-- tuple * int, any -/
def rRepG (K : PySem.W.Frag) : R2 := fun x y H Q => ∃ l k xs, x = .ref l ∧ y = .int k ∧ SqT K H l xs ∧ -(2 ^ 63) ≤ k ∧ k < 2 ^ 63 ∧ xs.length * k.toNat ≤ sizeLine ∧
  ((xs = [] ∨ k = 1) → Q (.ref l) H) ∧ (¬ (xs = [] ∨ k = 1) → ∀ p, H p = none → Q (.ref p) (upd H p (.tup (List.replicate k.toNat xs).flatten)))
section
variable {X : Cx}
theorem op_repG : OpR X (binaryOp .Mult) (rRepG X.K) := by
  intro pins s σ H x y v u Q I rx ry h
  obtain ⟨l, k, xs, rfl, rfl, hT, h1, h2, hz, q1, q2⟩ := h
  cases rx
  obtain ⟨t, rfl⟩ := ry
  obtain ⟨its, r, ⟨⟨cls, dd, data, sl⟩, ho, hc, n, hd⟩, hs⟩ := I.tuple hT
  simp only at hc hd
  subst hc hd
  have hle : its.length = xs.length := r.length.symm
  have c0 : (decide (k < -(2 ^ 63)) || decide (k ≥ 2 ^ 63)) = false := by
    rw [decide_eq_false (by omega), decide_eq_false (by omega)] <;> rfl
  have hemp : its.toArray.isEmpty = decide (xs = []) := by
    cases xs with
    | nil => have : its = [] := List.eq_nil_of_length_eq_zero hle
             subst this; rfl
    | cons a b =>
      cases its with
      | nil => cases hle
      | cons c d => rfl
  have road : ∀ {Q' : Value → Shared → Prop}, wpAny (model X.prog X.w) X.A (call (.builtin "tuple.__mul__") [.ref l, .int k t]) Q' X.xe s → wpAny (model X.prog X.w) X.A (binaryOp .Mult (.ref l) (.int k t)) Q' X.xe s := fun {Q'} hq =>
    wpAny_binaryOp_repeat_ref (T := "tuple") (U := "int") (by decide) ⟨_, ho, rfl⟩ (fun s' => typeIs_int s' k t) noFill_tuple_mul F.fills_int_mul F.slot_int_rmul repeat_tuple F.slot_int_index.lookup
      (call_meets F.slot_int_rmul (typeIs_int s k t) F.entry_int_rmul (F.args_int_rmul_2 _ _) (int_rmul_tuple k t l its.toArray n dd sl) ⟨ho, rfl, ⟨_, ho, rfl⟩, hq⟩)
  by_cases c1 : xs = [] ∨ k = 1
  · refine road (call_meets F.slot_tuple_mul ⟨_, ho, rfl⟩ F.entry_tuple_mul (F.args_tuple_mul_2 _ _) (tuple_mul_same l its.toArray n dd sl k t c0 ?_) ⟨ho, ?_⟩)
    · rw [hemp]
      rcases c1 with c1 | c1
      · rw [decide_eq_true c1, Bool.true_or]
      · rw [c1]; simp
    · exact ⟨.ref l, H, I, rfl, q1 c1⟩
  · have hx : xs ≠ [] := fun e => c1 (.inl e)
    have hk : k ≠ 1 := fun e => c1 (.inr e)
    have e1 : (its.toArray.isEmpty || k == 1) = false := by
      rw [hemp, decide_eq_false hx, Bool.false_or]
      exact beq_eq_false_iff_ne.mpr hk
    have fin := q2 c1
    by_cases c2 : k ≤ 0
    · refine road (call_meets F.slot_tuple_mul ⟨_, ho, rfl⟩ F.entry_tuple_mul (F.args_tuple_mul_2 _ _) (tuple_mul_none l its.toArray n dd sl k t c0 e1 (by rw [decide_eq_true c2, Bool.true_or])) ⟨ho, ?_⟩)
      have hz0 : k.toNat = 0 := by omega
      rw [hz0] at fin
      refine ⟨.ref s.heap.objs.size, _, I.laid (t' := s.toks) (o := .tup (List.replicate 0 xs).flatten) (fun b ob q => Heap.get?_push_of_some _ q) (Nat.le_refl _) ?_, rfl, fin _ (I.hok.fresh (Nat.le_refl _))⟩
      exact ⟨Nat.zero_le _, [], .nil, IsTup.new _ _⟩
    · have hm : ((its.toArray.size : Nat) : Int) * k = ((xs.length * k.toNat : Nat) : Int) := by
        rw [List.size_toArray, hle, Int.natCast_mul, Int.toNat_of_nonneg (by omega)]
      have flen : (List.replicate k.toNat its).flatten.length ≤ sizeLine := by
        rw [PyProof.Rows.lm_len_rep_flat, hle, Nat.mul_comm]; exact hz
      have hz' : xs.length * k.toNat ≤ 16777216 := by rw [← sizeLine_eq]; exact hz
      have c4 : Builtin.Tuple.tupleTooMany (((its.toArray.size : Nat) : Int) * k) = false := by
        unfold Builtin.Tuple.tupleTooMany
        rw [hm]
        exact decide_eq_false (by omega)
      refine road (call_meets F.slot_tuple_mul ⟨_, ho, rfl⟩ F.entry_tuple_mul (F.args_tuple_mul_2 _ _) (tuple_mulW l its.toArray n dd sl k t c0 e1 (by rw [hemp, decide_eq_false hx, Bool.or_false]; exact decide_eq_false c2) (by rw [hm]; omega) c4 (by rw [size_rep, List.size_toArray]; exact flen)) ⟨ho, ?_⟩)
      rw [size_rep]
      refine ⟨.ref s.heap.objs.size, _, I.laid (t' := s.toks) (o := .tup (List.replicate k.toNat xs).flatten) (fun b ob q => Heap.get?_push_of_some _ q) (Nat.le_refl _) ?_, rfl, fin _ (I.hok.fresh (Nat.le_refl _))⟩
      exact ⟨by rw [PyProof.Rows.lm_len_rep_flat, Nat.mul_comm]; exact hz, _, r.rep k.toNat, IsTup.new _ _⟩
theorem op_isB : OpR X (compareOp .Is) (fun x y H Q => ∃ a b, x = .bl a ∧ y = .bl b ∧ Q (.bl (a == b)) H) := by
  intro pins s σ H x y v u Q I rx ry h
  obtain ⟨a, b, rfl, rfl, q⟩ := h
  cases (show v = Value.bool a from rx)
  cases (show u = Value.bool b from ry)
  exact is_bool ⟨.bl _, H, I, rfl, q⟩
theorem op_notB : OpR X (compareOp .IsNot) (fun x y H Q => ∃ a b, x = .bl a ∧ y = .bl b ∧ Q (.bl (a != b)) H) := by
  intro pins s σ H x y v u Q I rx ry h
  obtain ⟨a, b, rfl, rfl, q⟩ := h
  cases (show v = Value.bool a from rx)
  cases (show u = Value.bool b from ry)
  exact isnot_bool ⟨.bl _, H, I, rfl, q⟩
end
end L2

/-! DL4: operators, comparisons, items, slices, built-ins over data. -/
namespace DL
open PySem PySem.Spec PyProof.Rows L2
section
variable {X : Cx} {K : PySem.W.Frag} {S : Sto} {O : Ow} {H : Hp}
/-- a rule by values keeps what data say: the store and the owned stay -/
def Hr (K : PySem.W.Frag) (r : R2) (f : Sto → D → D → (D → Prop) → Prop) : Prop :=
  ∀ x y dx dy H S O (P : D → Prop) (Q' : VK), Sok K S O H → Rp K O H x dx → Rp K O H y dy → f S dx dy P → (∀ v H' d, Rp K O H' v d → Sok K S O H' → Ev S O H S O H' → P d → Q' v H') → r x y H Q'
theorem op_mulI : OpR X (binaryOp .Mult) (rI IntMulOk fun i j => .int (i * j)) := opI fun _ _ _ _ _ _ _ hc q => mul_int q hc
theorem iop_mulI : OpR X (inplaceOp .Mult) (rI IntMulOk fun i j => .int (i * j)) := opI fun _ _ _ _ _ _ _ hc q => imul_int q hc
/-- a context in which a division of great integers finds room -/
structure PyX (X : Cx) : Prop where
  env : ∃ e l, X.stack = e :: l ∧ e.scope.isGenerator = false ∧ e.scope.isCoroutine = false ∧ e.builtins = builtinsNs ∧ e.globals = mainGlobals
  seer : X.base.NoSeer
  tree : X.prog.given.tree = none
  deep : X.A.depth + Builtin.pylongFrames < recursionLimit
theorem PyX.room (x : PyX X) {pins : List (Addr × Obj)} {s : Shared} {σ : L2.St} {H : Hp} (I : Inv X pins σ H s) : PylongRoom (model X.prog X.w) X.A s := by
  obtain ⟨e, l, hs, h1, h2, h3, h4⟩ := x.env
  exact PylongRoom.of I.nolimit x.deep (SeerAt.of (x.seer.keeps I.bk) x.tree (by rw [I.ok.frames, hs]) h1 h2 h3 h4)
theorem op_fdivI (hp : PyX X) : OpR X (binaryOp .FloorDiv) (rI (fun _ j => j ≠ 0) fun i j => .int (i.fdiv j)) := by
  intro pins s σ H x y v u Q I rx ry h
  obtain ⟨i, j, rfl, rfl, hc, q⟩ := h
  obtain ⟨t, rfl⟩ := rx
  obtain ⟨t', rfl⟩ := ry
  exact floordiv_int hc ⟨.int (i.fdiv j), H, I.tok _, ⟨_, rfl⟩, q⟩ (.inr (hp.room I))
theorem op_powW : OpR X (binaryOp .Pow) (rI (fun i j => 0 ≤ j ∧ (Builtin.Int.intBits i : Int) * j ≤ 2 ^ 27) fun i j => .int (i ^ j.toNat)) := opI fun _ _ _ _ _ _ _ hc q => pow_int hc.1 hc.2 q
def bop : BOp → Operator
  | .add => .Add | .sub => .Sub | .mul => .Mult | .fdiv => .FloorDiv | .mod => .Mod | .pow => .Pow
theorem hr_int {C : Int → Int → Prop} {g : Int → Int → Int} {x y : V} {dx dy : D} {H : Hp} {P : D → Prop} {Q' : VK} (s : Sok K S O H) (rx : Rp K O H x dx) (ry : Rp K O H y dy) {i j : Int} (ex : dx = .int i) (ey : dy = .int j) (hc : C i j) (hp : P (.int (g i j)))
    (k : ∀ v H' d, Rp K O H' v d → Sok K S O H' → Ev S O H S O H' → P d → Q' v H') : rI C (fun i j => .int (g i j)) x y H Q' := by
  subst ex ey
  cases rx; cases ry
  exact ⟨i, j, rfl, rfl, hc, k _ H _ (.int _) s .refl hp⟩
theorem flat_rep_nil {α : Type} : ∀ n : Nat, (List.replicate n ([] : List α)).flatten = []
  | 0 => rfl
  | n + 1 => by rw [List.replicate_succ, List.flatten_cons, flat_rep_nil n]; rfl
theorem rep_rp {xs : List V} {ds : List D} (r : Rps K O H xs ds) : ∀ n : Nat, Rps K O H (List.replicate n xs).flatten (List.replicate n ds).flatten
  | 0 => .nil
  | n + 1 => by rw [List.replicate_succ, List.flatten_cons, List.replicate_succ, List.flatten_cons]; exact r.append (rep_rp r n)
theorem bin_ok (hp : PyX X) (op : BOp) : ∃ r, OpR X (binaryOp (bop op)) r ∧ Hr X.K r fun _ dx dy P => binD op dx dy P := by
  cases op with
  | add =>
    refine ⟨_, (op_add.or (op_catA.or op_add_str)), fun x y dx dy H S O P Q' s rx ry h k => ?_⟩
    cases dx <;> cases dy <;> try exact h.elim
    · cases rx; cases ry
      exact .inl ⟨_, _, rfl, rfl, k _ H _ (.int _) s .refl h⟩
    · cases rx; cases ry
      exact .inr (.inr ⟨_, _, rfl, rfl, h.1, k _ H _ (.str _) s .refl h.2⟩)
    · rename_i xs ys
      cases rx with
      | tup h1 z1 r1 =>
      cases ry with
      | tup h2 z2 r2 =>
      rename_i a xs' b ys'
      refine .inr (.inl ⟨a, b, xs', ys', rfl, rfl, h1, h2, by rw [r1.len, r2.len]; exact h.1, fun e => ?_, fun _ e => ?_, fun _ _ p hp => ?_⟩)
      · subst e; cases r1; exact k _ H _ (.tup h2 z2 r2) s .refl h.2
      · subst e; cases r2; refine k _ H _ (.tup h1 z1 ?_) s .refl h.2; rw [List.append_nil]; exact r1
      · exact k _ _ _ (rp_new s hp (by rw [List.length_append, r1.len, r2.len]; exact h.1) (r1.append r2)) (s.new hp) (ev_new hp s) h.2
  | sub =>
    refine ⟨_, op_sub, fun x y dx dy H S O P Q' s rx ry h k => ?_⟩
    cases dx <;> cases dy <;> try exact h.elim
    cases rx; cases ry
    exact ⟨_, _, rfl, rfl, k _ H _ (.int _) s .refl h⟩
  | mul =>
    refine ⟨_, op_mulI.or op_repG, fun x y dx dy H S O P Q' s rx ry h k => ?_⟩
    cases dx <;> cases dy <;> try exact h.elim
    · cases rx; cases ry
      exact .inl ⟨_, _, rfl, rfl, h.1, k _ H _ (.int _) s .refl h.2⟩
    · rename_i xs n
      cases ry
      cases rx with
      | tup h1 z1 r1 =>
      rename_i a xs'
      obtain ⟨l1, l2, l3, hk⟩ := h
      have e3 : xs'.length * n.toNat ≤ sizeLine := by rw [r1.len]; exact l3
      refine .inr ⟨a, n, xs', rfl, rfl, h1, l1, l2, e3, fun hc => ?_, fun hc p hp => ?_⟩
      · rcases hc with rfl | rfl
        · cases r1
          refine k _ H _ (.tup h1 z1 ?_) s .refl hk
          rw [flat_rep_nil]; exact .nil
        · refine k _ H _ (.tup h1 z1 ?_) s .refl hk
          have e1 : Int.toNat 1 = 0 + 1 := rfl
          rw [e1, List.replicate_succ, List.flatten_cons, List.replicate_zero, List.flatten_nil, List.append_nil]; exact r1
      · exact k _ _ _ (rp_new s hp (by rw [PyProof.Rows.lm_len_rep_flat, Nat.mul_comm]; exact e3) (rep_rp r1 _)) (s.new hp) (ev_new hp s) hk
  | fdiv =>
    refine ⟨_, op_fdivI hp, fun x y dx dy H S O P Q' s rx ry h k => ?_⟩
    cases dx <;> cases dy <;> try exact h.elim
    cases rx; cases ry
    exact ⟨_, _, rfl, rfl, h.1, k _ H _ (.int _) s .refl h.2.2⟩
  | mod =>
    refine ⟨_, op_modN, fun x y dx dy H S O P Q' s rx ry h k => ?_⟩
    cases dx <;> cases dy <;> try exact h.elim
    cases rx; cases ry
    exact ⟨_, _, rfl, rfl, h.1, k _ H _ (.int _) s .refl h.2⟩
  | pow =>
    refine ⟨_, op_powW, fun x y dx dy H S O P Q' s rx ry h k => ?_⟩
    cases dx <;> cases dy <;> try exact h.elim
    cases rx; cases ry
    exact ⟨_, _, rfl, rfl, h.1, k _ H _ (.int _) s .refl h.2⟩
/-- in place, on ints -/
theorem iop_ok (op : BOp) (ho : op = .add ∨ op = .sub ∨ op = .mul) : ∃ r, OpR X (inplaceOp (bop op)) r ∧ Hr X.K r fun _ dx dy P => ∃ a b, dx = .int a ∧ dy = .int b ∧ binD op dx dy P := by
  rcases ho with rfl | rfl | rfl
  · refine ⟨_, iop_add, fun x y dx dy H S O P Q' s rx ry h k => ?_⟩
    obtain ⟨a, b, rfl, rfl, h⟩ := h
    cases rx; cases ry
    exact ⟨_, _, rfl, rfl, k _ H _ (.int _) s .refl h⟩
  · refine ⟨_, iop_sub, fun x y dx dy H S O P Q' s rx ry h k => ?_⟩
    obtain ⟨a, b, rfl, rfl, h⟩ := h
    cases rx; cases ry
    exact ⟨_, _, rfl, rfl, k _ H _ (.int _) s .refl h⟩
  · refine ⟨_, iop_mulI, fun x y dx dy H S O P Q' s rx ry h k => ?_⟩
    obtain ⟨a, b, rfl, rfl, h⟩ := h
    cases rx; cases ry
    exact ⟨_, _, rfl, rfl, h.1, k _ H _ (.int _) s .refl h.2⟩

/-! ### data as PyData -/
mutual
theorem dp_of : ∀ {v : V} {d : D} {p : PyData}, Rp K O H v d → d.py = some p → Dp K H v p
  | _, _, _, .non, e => by cases e; exact .non
  | _, _, _, .bl b, e => by cases e; exact .bl b
  | _, _, _, .int i, e => by cases e; exact .int i
  | _, _, _, .str x, e => by cases e; exact .str x
  | _, _, _, .ty n, e => nomatch e
  | _, _, _, .ref, e => nomatch e
  | _, _, _, .scr _ _, e => nomatch e
  | _, _, _, .scrK _ _, e => nomatch e
  | _, .tup ds, _, .tup h z r, e => by
    simp only [D.py] at e
    cases q : D.py.pys ds with
    | none => rw [q] at e; cases e
    | some ps => rw [q] at e; cases e; exact .tup h (dps_of r q)
  | _, .lst ds, _, .lst h n z r, e => by
    simp only [D.py] at e
    cases q : D.py.pys ds with
    | none => rw [q] at e; cases e
    | some ps => rw [q] at e; cases e; exact .lst (SqL.of h) (dps_of r q)
theorem dps_of : ∀ {vs : List V} {ds : List D} {ps : List PyData}, Rps K O H vs ds → D.py.pys ds = some ps → DpAll K H vs ps
  | _, _, _, .nil, e => by cases e; exact .nil
  | _, d :: ds, _, .cons r t, e => by
    simp only [D.py.pys] at e
    cases q : d.py with
    | none => rw [q] at e; cases e
    | some p =>
      cases q2 : D.py.pys ds with
      | none => rw [q, q2] at e; cases e
      | some ps => rw [q, q2] at e; cases e; exact .cons (dp_of r q) (dps_of t q2)
end
theorem rp_res {v : V} {d : D} {p : PyData} (s : Sok K S O H) (r : Rp K O H v d) (e : (res S d).py = some p) : Dp K H v p := by
  cases r with
  | ref =>
    rename_i a
    cases q : S a with
    | none => simp only [res, q] at e; cases e
    | some o =>
      cases o with
      | lst ds =>
        simp only [res, q] at e
        obtain ⟨_, xs, h1, h2, h3⟩ := s.dom _ _ q
        simp only [D.py] at e
        cases q2 : D.py.pys ds with
        | none => rw [q2] at e; cases e
        | some ps => rw [q2] at e; cases e; exact .lst (SqL.of h1) (dps_of h3 q2)
  | non => exact dp_of (O := O) .non e
  | bl b => exact dp_of (O := O) (.bl b) e
  | int i => exact dp_of (O := O) (.int i) e
  | str x => exact dp_of (O := O) (.str x) e
  | ty n => exact dp_of (O := O) (.ty n) e
  | scr _ h => exact nomatch e
  | scrK _ h => exact nomatch e
  | tup h z r => exact dp_of (O := O) (.tup h z r) e
  | lst h n z r => exact dp_of (O := O) (.lst h n z r) e
def cop : COp → CmpOp
  | .eq => .Eq | .ne => .NotEq | .lt => .Lt | .le => .LtE | .gt => .Gt | .ge => .GtE | .is => .Is | .isn => .IsNot | .inn => .In | .nin => .NotIn
theorem res_int {d : D} {i : Int} (h : res S d = .int i) : d = .int i := by
  cases d with
  | ref p => simp only [res] at h; split at h <;> cases h
  | int j => exact h
  | _ => cases h
theorem res_non {d : D} (h : res S d = .non) : d = .non := by
  cases d with
  | ref p => simp only [res] at h; split at h <;> cases h
  | non => rfl
  | _ => cases h
theorem res_bl {d : D} {b : Bool} (h : res S d = .bl b) : d = .bl b := by
  cases d with
  | ref p => simp only [res] at h; split at h <;> cases h
  | bl j => exact h
  | _ => cases h
theorem res_str {d : D} {x : Str} (h : res S d = .str x) : d = .str x := by
  cases d with
  | ref p => simp only [res] at h; split at h <;> cases h
  | str y => exact h
  | _ => cases h
/-- what a comparison asks -/
theorem cmp_ok (op : COp) (hu : X.A.units + 65 < cLine) : ∃ r, OpR X (compareOp (cop op)) r ∧ Hr X.K r fun S dx dy P => cmpD op (res S dx) (res S dy) fun z => P (.bl z) := by
  have eqs : ∀ (x y : V) (dx dy : D) (H : Hp) (S : Sto) (O : Ow) (P : Bool → Prop), Sok X.K S O H → Rp X.K O H x dx → Rp X.K O H y dy → eqD (res S dx) (res S dy) P →
      ∃ d e, Dp X.K H x d ∧ Dp X.K H y e ∧ SeqAt.shaped d = true ∧ SeqAt.shaped e = true ∧ P (PyData.eqv d e) := fun x y dx dy H S O P s rx ry h => by
    obtain ⟨p, q, ep, eq, h1, h2, h⟩ := h
    exact ⟨p, q, rp_res s rx ep, rp_res s ry eq, h1, h2, h⟩
  have itOf : ∀ {x : V} {dx : D} {H : Hp} {S : Sto} {O : Ow} {i : Int}, Rp X.K O H x dx → res S dx = .int i → x = .int i := fun {x dx H S O i} rx e => by
    have := res_int e; subst this; cases rx; rfl
  cases op with
  | lt =>
    refine ⟨_, op_lt, fun x y dx dy H S O P Q' s rx ry h k => ?_⟩
    replace h : cmpD _ (res S dx) (res S dy) (fun z => P (.bl z)) := h
    cases e1 : res S dx <;> cases e2 : res S dy <;> rw [e1, e2] at h <;> try exact h.elim
    exact ⟨_, _, itOf rx e1, itOf ry e2, k _ H _ (.bl _) s .refl h⟩
  | le =>
    refine ⟨_, op_le, fun x y dx dy H S O P Q' s rx ry h k => ?_⟩
    replace h : cmpD _ (res S dx) (res S dy) (fun z => P (.bl z)) := h
    cases e1 : res S dx <;> cases e2 : res S dy <;> rw [e1, e2] at h <;> try exact h.elim
    exact ⟨_, _, itOf rx e1, itOf ry e2, k _ H _ (.bl _) s .refl h⟩
  | gt =>
    refine ⟨_, op_gt, fun x y dx dy H S O P Q' s rx ry h k => ?_⟩
    replace h : cmpD _ (res S dx) (res S dy) (fun z => P (.bl z)) := h
    cases e1 : res S dx <;> cases e2 : res S dy <;> rw [e1, e2] at h <;> try exact h.elim
    exact ⟨_, _, itOf rx e1, itOf ry e2, k _ H _ (.bl _) s .refl h⟩
  | ge =>
    refine ⟨_, op_ge, fun x y dx dy H S O P Q' s rx ry h k => ?_⟩
    replace h : cmpD _ (res S dx) (res S dy) (fun z => P (.bl z)) := h
    cases e1 : res S dx <;> cases e2 : res S dy <;> rw [e1, e2] at h <;> try exact h.elim
    exact ⟨_, _, itOf rx e1, itOf ry e2, k _ H _ (.bl _) s .refl h⟩
  | eq =>
    refine ⟨_, op_eqD (by omega), fun x y dx dy H S O P Q' s rx ry h k => ?_⟩
    replace h : cmpD _ (res S dx) (res S dy) (fun z => P (.bl z)) := h
    have h' : eqD (res S dx) (res S dy) fun z => P (.bl z) := by
      cases e1 : res S dx <;> cases e2 : res S dy <;> rw [e1, e2] at h <;> try exact h
      exact ⟨_, _, rfl, rfl, rfl, rfl, by
        rename_i i j
        have e : PyData.eqv (.int i) (.int j) = decide (i = j) := by simp only [PyData.eqv]; exact Bool.beq_eq_decide_eq _ _
        rw [e]; exact h⟩
    obtain ⟨d, e, h1, h2, h3, h4, h5⟩ := eqs x y dx dy H S O _ s rx ry h'
    exact ⟨d, e, h1, h2, h3, h4, k _ H _ (.bl _) s .refl h5⟩
  | ne =>
    refine ⟨_, op_neD (by omega), fun x y dx dy H S O P Q' s rx ry h k => ?_⟩
    replace h : cmpD _ (res S dx) (res S dy) (fun z => P (.bl z)) := h
    have h' : eqD (res S dx) (res S dy) fun z => P (.bl (!z)) := by
      cases e1 : res S dx <;> cases e2 : res S dy <;> rw [e1, e2] at h <;> try exact h
      exact ⟨_, _, rfl, rfl, rfl, rfl, by
        rename_i i j
        have e : PyData.eqv (.int i) (.int j) = decide (i = j) := by simp only [PyData.eqv]; exact Bool.beq_eq_decide_eq _ _
        rw [e]; exact h⟩
    obtain ⟨d, e, h1, h2, h3, h4, h5⟩ := eqs x y dx dy H S O _ s rx ry h'
    exact ⟨d, e, h1, h2, h3, h4, k _ H _ (.bl _) s .refl h5⟩
  | is =>
    refine ⟨_, op_isN.or op_isB, fun x y dx dy H S O P Q' s rx ry h k => ?_⟩
    replace h : cmpD _ (res S dx) (res S dy) (fun z => P (.bl z)) := h
    cases e2 : res S dy <;> rw [e2] at h <;> try (cases e1 : res S dx <;> rw [e1] at h <;> exact h.elim)
    case' bl b =>
      cases e1 : res S dx <;> rw [e1] at h <;> try exact h.elim
      have e3 := res_bl e1
      have e4 := res_bl e2
      subst e3 e4
      cases rx; cases ry
      exact .inr ⟨_, _, rfl, rfl, k _ H _ (.bl _) s .refl h⟩
    refine .inl ?_
    have e3 := res_non e2
    subst e3
    cases ry
    refine ⟨rfl, ?_⟩
    have e : decide (x = V.non) = (match res S dx with | .non => true | _ => false) := by
      cases rx with
      | ref =>
        rename_i a
        cases q : S a with
        | none => simp only [res, q]; rfl
        | some o => cases o; simp only [res, q]; rfl
      | _ => rfl
    rw [e]
    exact k _ H _ (.bl _) s .refl (by cases e4 : res S dx <;> rw [e4] at h <;> exact h)
  | isn =>
    refine ⟨_, op_notN.or op_notB, fun x y dx dy H S O P Q' s rx ry h k => ?_⟩
    replace h : cmpD _ (res S dx) (res S dy) (fun z => P (.bl z)) := h
    cases e2 : res S dy <;> rw [e2] at h <;> try (cases e1 : res S dx <;> rw [e1] at h <;> exact h.elim)
    case' bl b =>
      cases e1 : res S dx <;> rw [e1] at h <;> try exact h.elim
      have e3 := res_bl e1
      have e4 := res_bl e2
      subst e3 e4
      cases rx; cases ry
      exact .inr ⟨_, _, rfl, rfl, k _ H _ (.bl _) s .refl h⟩
    refine .inl ?_
    have e3 := res_non e2
    subst e3
    cases ry
    refine ⟨rfl, ?_⟩
    have e : (!decide (x = V.non)) = (match res S dx with | .non => false | _ => true) := by
      cases rx with
      | ref =>
        rename_i a
        cases q : S a with
        | none => simp only [res, q]; rfl
        | some o => cases o; simp only [res, q]; rfl
      | _ => rfl
    rw [e]
    exact k _ H _ (.bl _) s .refl (by cases e4 : res S dx <;> rw [e4] at h <;> exact h)
  | inn =>
    refine ⟨_, (op_inD hu).or op_in_sign, fun x y dx dy H S O P Q' s rx ry h k => ?_⟩
    replace h : cmpD _ (res S dx) (res S dy) (fun z => P (.bl z)) := h
    have hh : inD (res S dx) (res S dy) fun z => P (.bl z) := by cases e1 : res S dx <;> cases e2 : res S dy <;> rw [e1, e2] at h <;> exact h
    cases e2 : res S dy <;> rw [e2] at hh <;> try exact hh.elim
    · obtain ⟨c, e1, hh⟩ := hh
      have e3 := res_str e2
      have e4 := res_str e1
      subst e3 e4
      cases rx; cases ry
      exact .inr ⟨c, _, rfl, rfl, k _ H _ (.bl _) s .refl hh⟩
    · obtain ⟨p, ps, e1, e3, h1, h2, hh⟩ := hh
      refine .inl ⟨p, ps, rp_res s rx e1, rp_res s ry ?_, h1, h2, k _ H _ (.bl _) s .refl hh⟩
      rw [e2]; simp only [D.py, e3]; rfl
  | nin =>
    refine ⟨_, (op_notInD hu).or op_notIn_sign, fun x y dx dy H S O P Q' s rx ry h k => ?_⟩
    replace h : cmpD _ (res S dx) (res S dy) (fun z => P (.bl z)) := h
    have hh : inD (res S dx) (res S dy) fun z => P (.bl (!z)) := by cases e1 : res S dx <;> cases e2 : res S dy <;> rw [e1, e2] at h <;> exact h
    cases e2 : res S dy <;> rw [e2] at hh <;> try exact hh.elim
    · obtain ⟨c, e1, hh⟩ := hh
      have e3 := res_str e2
      have e4 := res_str e1
      subst e3 e4
      cases rx; cases ry
      exact .inr ⟨c, _, rfl, rfl, k _ H _ (.bl _) s .refl hh⟩
    · obtain ⟨p, ps, e1, e3, h1, h2, hh⟩ := hh
      refine .inl ⟨p, ps, rp_res s rx e1, rp_res s ry ?_, h1, h2, k _ H _ (.bl _) s .refl hh⟩
      rw [e2]; simp only [D.py, e3]; rfl
end
end DL

/-! DL5: canonical readings; items, slices, new lists, what is walked. -/
namespace DL
open PySem PySem.Spec PyProof.Rows L2
/-- the canonical readings of weakest preconditions -/
def tO (L : Lnk) (K : PySem.W.Frag) (W : WX) (w : WE') : TE := fun σ H Q' => ∃ ρ S O R Q, At L K W σ H ρ S O R ∧ w ρ S R Q ∧ ∀ v H' d S' O', Rp K O' H' v d → Sok K S' O' H' → Ev S O H S' O' H' → Q d S' → Q' v H'
def tOT (L : Lnk) (K : PySem.W.Frag) (W : WX) (w : WE') : TT := fun σ H Q' => ∃ ρ S O R, ∃ Q : Bool → Sto → Prop, At L K W σ H ρ S O R ∧ w ρ S R (fun d S' => tstD d fun b => Q b S') ∧ ∀ b H' S' O', Sok K S' O' H' → Ev S O H S' O' H' → Q b S' → Q' b H'
def tOA (L : Lnk) (K : PySem.W.Frag) (W : WX) (w : Env → Sto → XD → (List D → Sto → Prop) → Prop) : TA := fun σ H Q' => ∃ ρ S O R Q, At L K W σ H ρ S O R ∧ w ρ S R Q ∧ ∀ vs H' ds S' O', Rps K O' H' vs ds → Sok K S' O' H' → Ev S O H S' O' H' → Q ds S' → Q' vs H'
def tOL (L : Lnk) (K : PySem.W.Frag) (W : WX) (w : Env → Sto → XD → (List D → Sto → Prop) → Prop) : TE := fun σ H Q' => ∃ ρ S O R Q, At L K W σ H ρ S O R ∧ w ρ S R Q ∧ ∀ p xs H' ds S' O', H p = none → O' p → S' p = none → H' p = some (.lst xs) → xs.length ≤ sizeLine → Rps K O' H' xs ds → Sok K S' O' H' → Ev S O H S' O' H' → Q ds S' → Q' (.ref p) H'
def tOO (L : Lnk) (K : PySem.W.Frag) (W : WX) (w : Env → Sto → XD → (Option Int → Sto → Prop) → Prop) : TO := fun σ H Q' => ∃ ρ S O R Q, At L K W σ H ρ S O R ∧ w ρ S R Q ∧ ∀ o H' S' O', Sok K S' O' H' → Ev S O H S' O' H' → Q o S' → Q' o H'
section
variable {L : Lnk} {K : PySem.W.Frag} {W : WX} {X : Cx} {e : Expr} {es : List Expr} {w wa wb : WE'}
theorem re_tO : RE L K W (tO L K W w) w := fun σ H ρ S O R Q Q' A hw k => ⟨ρ, S, O, R, Q, A, hw, k⟩
theorem rt_tO : RT L K W (tOT L K W w) w := fun σ H ρ S O R Q Q' A hw k => ⟨ρ, S, O, R, Q, A, hw, k⟩
theorem ra_tO {w : Env → Sto → XD → (List D → Sto → Prop) → Prop} : RA L K W (tOA L K W w) w := fun σ H ρ S O R Q Q' A hw k => ⟨ρ, S, O, R, Q, A, hw, k⟩
theorem rl_tO {w : Env → Sto → XD → (List D → Sto → Prop) → Prop} : RL L K W (tOL L K W w) w := fun σ H ρ S O R Q Q' A hw k => ⟨ρ, S, O, R, Q, A, hw, k⟩
theorem ro_tO {w : Env → Sto → XD → (Option Int → Sto → Prop) → Prop} : RO L K W (tOO L K W w) w := fun σ H ρ S O R Q Q' A hw k => ⟨ρ, S, O, R, Q, A, hw, k⟩
theorem _root_.L2.PE.can {t : TE} (h : PE X e t) (r : RE L K W t w) : PE X e (tO L K W w) := ⟨fun pins s σ H Q' I ⟨ρ, S, O, R, Q, A, hw, k⟩ => h.run pins s σ H Q' I (r σ H ρ S O R Q Q' A hw k)⟩
theorem _root_.L2.PT.can {t : TT} (h : PT X e t) (r : RT L K W t w) : PT X e (tOT L K W w) := ⟨fun pins s σ H Q' I ⟨ρ, S, O, R, Q, A, hw, k⟩ => h.run pins s σ H Q' I (r σ H ρ S O R Q Q' A hw k)⟩
theorem _root_.L2.PW.can {t : TT} (h : PW X e t) (r : RT L K W t w) : PW X e (tOT L K W w) := ⟨fun wh pins s σ H Q' I ⟨ρ, S, O, R, Q, A, hw, k⟩ => h.run wh pins s σ H Q' I (r σ H ρ S O R Q Q' A hw k)⟩
theorem _root_.L2.PA.can {t : TA} {w : Env → Sto → XD → (List D → Sto → Prop) → Prop} (h : PA X es t) (r : RA L K W t w) : PA X es (tOA L K W w) := ⟨fun pos pins s σ H Q' I ⟨ρ, S, O, R, Q, A, hw, k⟩ => h.run pos pins s σ H Q' I (r σ H ρ S O R Q Q' A hw k)⟩
theorem _root_.L2.PE.canL {t : TE} {w : Env → Sto → XD → (List D → Sto → Prop) → Prop} (h : PE X e t) (r : RL L K W t w) : PE X e (tOL L K W w) := ⟨fun pins s σ H Q' I ⟨ρ, S, O, R, Q, A, hw, k⟩ => h.run pins s σ H Q' I (r σ H ρ S O R Q Q' A hw k)⟩
theorem _root_.L2.PO.can {o : Option Expr} {t : TO} {w : Env → Sto → XD → (Option Int → Sto → Prop) → Prop} (h : PO X o t) (r : RO L K W t w) : PO X o (tOO L K W w) := by
  refine ⟨?_⟩
  intro pins s σ H Q' I ⟨ρ, S, O, R, Q, A, hw, k⟩
  exact h.run pins s σ H Q' I (r σ H ρ S O R Q Q' A hw k)

/-! ### lists: kept as values, owned -/
theorem re_frz {t : TE} {w : Env → Sto → XD → (List D → Sto → Prop) → Prop} (h : RL L K W t w) : RE L K W t fun ρ S R Q => w ρ S R fun ds S1 => Q (.lst ds) S1 := fun σ H ρ S O R Q Q' A hw k =>
  h σ H ρ S O R _ Q' A hw fun p xs H' ds S' O' hp ho hs hl z r s e q => by
    have ne : ∀ a, O a → a ≠ p := fun a ha q => by rw [q] at ha; exact A.sok.notO hp ha
    refine k _ H' _ S' (orem O' p) (.lst hl (fun q => q.2 rfl) z (r.mono mo_free)) (s.free hs) ⟨e.keep, fun a h => e.own a h.1, fun a h n => ⟨⟨(e.res a h n).1, ne a h⟩, (e.res a h n).2⟩, e.there⟩ q
theorem re_own {t : TE} {w : Env → Sto → XD → (List D → Sto → Prop) → Prop} (h : RL L K W t w) : RE L K W t fun ρ S R Q => w ρ S R fun ds S1 => ∀ p, S1 p = none → Q (.ref p) (sup S1 p (.lst ds)) := fun σ H ρ S O R Q Q' A hw k =>
  h σ H ρ S O R _ Q' A hw fun p xs H' ds S' O' hp ho hs hl z r s e q => by
    have ne : ∀ a, O a → a ≠ p := fun a ha q => by rw [q] at ha; exact A.sok.notO hp ha
    exact k _ H' _ _ O' .ref (s.take ho hl z r) ⟨e.keep, e.own, fun a h n => ⟨(e.res a h n).1, by rw [sup_ne (ne a h)]; exact (e.res a h n).2⟩, e.there⟩ (q p hs)
/-- a new list laid at once -/
theorem rl_new {σ : L2.St} {H H1 : Hp} {ρ : Env} {S S1 : Sto} {O O1 : Ow} {R : XD} {xs : List V} {ds : List D} {Q' : VK} {P : Prop} (A : At L K W σ H1 ρ S1 O1 R) (e : Ev S O H S1 O1 H1) (z : xs.length ≤ sizeLine) (r : Rps K O1 H1 xs ds) (q : P)
    (k : ∀ p xs H' ds' S' O', H p = none → O' p → S' p = none → H' p = some (.lst xs) → xs.length ≤ sizeLine → Rps K O' H' xs ds' → Sok K S' O' H' → Ev S O H S' O' H' → ds' = ds ∧ S' = S1 → Q' (.ref p) H') : ∀ p, H1 p = none → Q' (.ref p) (upd H1 p (.lst xs)) := fun p hp =>
  k p xs _ ds S1 (oadd O1 p) (e.there p hp) (.inr rfl) (A.sok.noneH hp) upd_same z (r.mono ((ev_res hp A.sok).mo A.sok)) (A.sok.resv hp) (e.trans A.sok (ev_res hp A.sok)) ⟨rfl, rfl⟩
theorem rl_disp {t : TA} {ws : Env → Sto → XD → (List D → Sto → Prop) → Prop} (h : RA L K W t ws) : RL L K W (tLst t) fun ρ S R Q => ws ρ S R fun ds S1 => ds.length ≤ sizeLine ∧ Q ds S1 := fun σ H ρ S O R Q Q' A hw k => by
  refine h.go A hw fun xs H1 ds S1 O1 r1 A1 e1 ⟨z, q1⟩ => ?_
  have z' : xs.length ≤ sizeLine := by rw [r1.len]; exact z
  exact ⟨z', rl_new A1 e1 z' r1 trivial fun p xs H' ds' S' O' a b c d e f g i j => k p xs H' ds' S' O' a b c d e f g i (by rw [j.1, j.2]; exact q1)⟩
theorem rl_rep {ta tb : TE} (ha : RE L K W ta wa) (hb : RE L K W tb wb) : RL L K W (tOp rRep ta tb) fun ρ S R Q => wa ρ S R fun x S1 => wb ρ S1 R fun y S2 => match res S2 x, y with
    | .lst xs, .int k => -(2 ^ 63) ≤ k ∧ k < 2 ^ 63 ∧ xs.length * k.toNat ≤ sizeLine ∧ Q (List.replicate k.toNat xs).flatten S2
    | _, _ => False := fun σ H ρ S O R Q Q' A hw k => by
  refine ha.go A hw fun x H1 dx S1 O1 r1 A1 e1 q1 => ?_
  refine hb.go A1 q1 fun y H2 dy S2 O2 r2 A2 e2 q2 => ?_
  have r1 := r1.mono (A1.mo e2)
  cases e : res S2 dx <;> rw [e] at q2 <;> try exact q2.elim
  cases dy <;> try exact q2.elim
  cases r2
  obtain ⟨h1, h2, h3, q2⟩ := q2
  obtain ⟨a, xs, rfl, g1, g2, g3⟩ := (seq_of r1 A2.sok).1 _ e
  rw [← g3.len] at h3
  refine ⟨a, _, xs, rfl, rfl, g1, h1, h2, h3, rl_new A2 (e1.trans A1.sok e2) ?_ (g3.rep _) trivial fun p xs H' ds' S' O' a b c d e f g i j => k p xs H' ds' S' O' a b c d e f g i (by rw [j.1, j.2]; exact q2)⟩
  rw [PyProof.Rows.lm_len_rep_flat, Nat.mul_comm]; exact h3
theorem rl_cat {ta tb : TE} (ha : RE L K W ta wa) (hb : RE L K W tb wb) : RL L K W (tOp rCat ta tb) fun ρ S R Q => wa ρ S R fun x S1 => wb ρ S1 R fun y S2 => match res S2 x, res S2 y with
    | .lst xs, .lst ys => xs.length + ys.length ≤ sizeLine ∧ Q (xs ++ ys) S2
    | _, _ => False := fun σ H ρ S O R Q Q' A hw k => by
  refine ha.go A hw fun x H1 dx S1 O1 r1 A1 e1 q1 => ?_
  refine hb.go A1 q1 fun y H2 dy S2 O2 r2 A2 e2 q2 => ?_
  have r1 := r1.mono (A1.mo e2)
  cases e : res S2 dx <;> rw [e] at q2 <;> try exact q2.elim
  cases e' : res S2 dy <;> rw [e'] at q2 <;> try exact q2.elim
  obtain ⟨h3, q2⟩ := q2
  obtain ⟨a, xs, rfl, g1, g2, g3⟩ := (seq_of r1 A2.sok).1 _ e
  obtain ⟨b, ys, rfl, f1, f2, f3⟩ := (seq_of r2 A2.sok).1 _ e'
  rw [← g3.len, ← f3.len] at h3
  refine ⟨a, b, xs, ys, rfl, rfl, g1, f1, h3, rl_new A2 (e1.trans A1.sok e2) ?_ (g3.append f3) trivial fun p xs H' ds' S' O' a b c d e f g i j => k p xs H' ds' S' O' a b c d e f g i (by rw [j.1, j.2]; exact q2)⟩
  rw [List.length_append]; exact h3
theorem rl_ofSeq {ta : TE} (ha : RE L K W ta wa) : RL L K W (tCB (fun xs H Q => ∃ p ys, xs = [.ref p] ∧ (SqL K H p ys ∨ SqT K H p ys) ∧ ∀ l, H l = none → Q (.ref l) (upd H l (.lst ys))) (tCons ta tNil)) fun ρ S R Q => wa ρ S R fun x S1 => match res S1 x with
    | .tup xs => Q xs S1
    | .lst xs => Q xs S1
    | _ => False := fun σ H ρ S O R Q Q' A hw k => by
  refine ha.go A hw fun x H1 dx S1 O1 r1 A1 e1 q1 => ?_
  obtain ⟨hl, ht, _⟩ := seq_of r1 A1.sok
  cases e : res S1 dx <;> rw [e] at q1 <;> try exact q1.elim
  · obtain ⟨a, xs, rfl, g1, g2, g3⟩ := ht _ e
    exact ⟨a, xs, rfl, .inr g1, rl_new A1 e1 g2 g3 trivial fun p xs H' ds' S' O' a b c d e f g i j => k p xs H' ds' S' O' a b c d e f g i (by rw [j.1, j.2]; exact q1)⟩
  · obtain ⟨a, xs, rfl, g1, g2, g3⟩ := hl _ e
    exact ⟨a, xs, rfl, .inl (SqL.of g1), rl_new A1 e1 g2 g3 trivial fun p xs H' ds' S' O' a b c d e f g i j => k p xs H' ds' S' O' a b c d e f g i (by rw [j.1, j.2]; exact q1)⟩
theorem Rps.cut {O : Ow} {H : Hp} {vs : List V} {ds : List D} (h : Rps K O H vs ds) (lo hi : Option Int) : Rps K O H (cutV vs lo hi) (cutD ds lo hi) := by
  unfold cutV cutD
  rw [h.len]
  exact (h.drop _).take _
theorem rl_slc {te : TE} {tl th : TO} {wl wh : Env → Sto → XD → (Option Int → Sto → Prop) → Prop} (ha : RE L K W te wa) (hl : RO L K W tl wl) (hh : RO L K W th wh) : RL L K W (tSl (rSlL K) te tl th) fun ρ S R Q => wa ρ S R fun x S1 => wl ρ S1 R fun l S2 => wh ρ S2 R fun h S3 => match res S3 x with
    | .lst xs => Q (cutD xs l h) S3
    | _ => False := fun σ H ρ S O R Q Q' A hw k => by
  refine ha.go A hw fun x H1 dx S1 O1 r1 A1 e1 q1 => ?_
  refine hl.go A1 q1 fun l H2 S2 O2 A2 e2 q2 => ?_
  refine hh.go A2 q2 fun h H3 S3 O3 A3 e3 q3 => ?_
  have r1 := (r1.mono (A1.mo e2)).mono (A2.mo e3)
  cases e : res S3 dx <;> rw [e] at q3 <;> try exact q3.elim
  obtain ⟨a, xs, rfl, g1, g2, g3⟩ := (seq_of r1 A3.sok).1 _ e
  refine ⟨a, xs, rfl, SqL.of g1, rl_new A3 ((e1.trans A1.sok e2).trans A2.sok e3) ?_ (g3.cut l h) trivial fun p xs H' ds' S' O' a b c d e f g i j => k p xs H' ds' S' O' a b c d e f g i (by rw [j.1, j.2]; exact q3)⟩
  exact Nat.le_trans (cutV_length _ _ _) g2
/-! ### items, slices -/
theorem ro_no : RO L K W tNoPart fun _ S _ Q => Q none S := fun σ H ρ S O R Q Q' A hw k => k none H S O A.sok .refl hw
theorem ro_so {t : TE} (h : RE L K W t w) : RO L K W (tPart t) fun ρ S R Q => w ρ S R fun x S1 => match x with
    | .int i => Q (some i) S1
    | _ => False := fun σ H ρ S O R Q Q' A hw k => by
  refine h.go A hw fun x H1 dx S1 O1 r1 A1 e1 q1 => ?_
  cases dx <;> try exact q1.elim
  cases r1
  exact ⟨_, rfl, k _ H1 S1 O1 A1.sok e1 q1⟩
theorem re_slcT {te : TE} {tl th : TO} {wl wh : Env → Sto → XD → (Option Int → Sto → Prop) → Prop} (ha : RE L K W te wa) (hl : RO L K W tl wl) (hh : RO L K W th wh) : RE L K W (tSl (rSlA K) te tl th) fun ρ S R Q => wa ρ S R fun x S1 => wl ρ S1 R fun l S2 => wh ρ S2 R fun h S3 => match x with
    | .tup xs => Q (.tup (cutD xs l h)) S3
    | _ => False := fun σ H ρ S O R Q Q' A hw k => by
  refine ha.go A hw fun x H1 dx S1 O1 r1 A1 e1 q1 => ?_
  refine hl.go A1 q1 fun l H2 S2 O2 A2 e2 q2 => ?_
  refine hh.go A2 q2 fun h H3 S3 O3 A3 e3 q3 => ?_
  have r1 := (r1.mono (A1.mo e2)).mono (A2.mo e3)
  obtain ⟨ds, rfl⟩ : ∃ ds, dx = .tup ds := by
    cases dx with
    | tup ds => exact ⟨ds, rfl⟩
    | _ => exact q3.elim
  cases r1 with
  | tup g1 g2 g3 =>
  rename_i a xs
  have ev := (e1.trans A1.sok e2).trans A2.sok e3
  refine ⟨a, xs, rfl, g1, fun hw => ?_, fun _ p hp => ?_⟩
  · refine k _ H3 _ S3 O3 (.tup g1 g2 ?_) A3.sok ev q3
    have e : cutD ds l h = ds := by
      unfold cutD
      rw [← g3.len, hw.1, hw.2, g3.len]
      simp
    rw [e]; exact g3
  · exact k _ _ _ S3 O3 (rp_new A3.sok hp (Nat.le_trans (cutV_length _ _ _) g2) (g3.cut l h)) (A3.sok.new hp) (ev.trans A3.sok (ev_new hp A3.sok)) q3
theorem re_slcG {te : TE} {tl th : TO} {wl wh : Env → Sto → XD → (Option Int → Sto → Prop) → Prop} (ha : RE L K W te wa) (hl : RO L K W tl wl) (hh : RO L K W th wh) : RE L K W (tSl (fun x lo hi H Q => rSlA K x lo hi H Q ∨ rSlL K x lo hi H Q) te tl th) fun ρ S R Q => wa ρ S R fun x S1 => wl ρ S1 R fun l S2 => wh ρ S2 R fun h S3 => match res S3 x with
    | .tup xs => Q (.tup (cutD xs l h)) S3
    | .lst xs => Q (.lst (cutD xs l h)) S3
    | _ => False := fun σ H ρ S O R Q Q' A hw k => by
  refine ha.go A hw fun x H1 dx S1 O1 r1 A1 e1 q1 => ?_
  refine hl.go A1 q1 fun l H2 S2 O2 A2 e2 q2 => ?_
  refine hh.go A2 q2 fun h H3 S3 O3 A3 e3 q3 => ?_
  have r1 := (r1.mono (A1.mo e2)).mono (A2.mo e3)
  have ev := (e1.trans A1.sok e2).trans A2.sok e3
  obtain ⟨hl, ht, _⟩ := seq_of r1 A3.sok
  cases e : res S3 dx <;> rw [e] at q3 <;> try exact q3.elim
  · rename_i ds
    obtain ⟨a, xs, rfl, g1, g2, g3⟩ := ht _ e
    refine .inl ⟨a, xs, rfl, g1, fun hw => ?_, fun _ p hp => ?_⟩
    · refine k _ H3 _ S3 O3 (.tup g1 g2 ?_) A3.sok ev q3
      have e : cutD ds l h = ds := by
        unfold cutD
        rw [← g3.len, hw.1, hw.2, g3.len]
        simp
      rw [e]; exact g3
    · exact k _ _ _ S3 O3 (rp_new A3.sok hp (Nat.le_trans (cutV_length _ _ _) g2) (g3.cut l h)) (A3.sok.new hp) (ev.trans A3.sok (ev_new hp A3.sok)) q3
  · obtain ⟨a, xs, rfl, g1, g2, g3⟩ := hl _ e
    refine .inr ⟨a, xs, rfl, SqL.of g1, fun p hp => ?_⟩
    exact k _ _ _ S3 O3 (.lst upd_same (A3.sok.notO hp) (Nat.le_trans (cutV_length _ _ _) g2) ((g3.cut l h).mono ((ev_new hp A3.sok).mo A3.sok))) (A3.sok.new hp) (ev.trans A3.sok (ev_new hp A3.sok)) q3
def ixD (S : Sto) (x y : D) (P : D → Prop) : Prop := match res S x, y with
    | .tup xs, .int n => ∃ d, atD xs n = some d ∧ P d
    | .lst xs, .int n => ∃ d, atD xs n = some d ∧ P d
    | .scr xs, .int n => ∃ m, L2.atI xs n = some m ∧ P (.int m)
    | _, _ => False
theorem at_of {O : Ow} {H : Hp} {xs : List V} {ds : List D} {n : Int} {d : D} (r : Rps K O H xs ds) (h : atD ds n = some d) : ∃ v, atI xs n = some v ∧ Rp K O H v d := by
  unfold atD atI at h
  unfold atI
  rw [r.len]
  cases e : ixN ds.length n with
  | none => rw [e] at h; cases h
  | some j =>
    rw [e] at h
    exact r.get (i := j) h
theorem hr_ix : ∀ x y dx dy H S O (P : D → Prop) (Q' : VK), Sok K S O H → Rp K O H x dx → Rp K O H y dy → ixD S dx dy P → (∀ v H' d, Rp K O H' v d → Sok K S O H' → Ev S O H S O H' → P d → Q' v H') → rIx K x y H Q' := fun x y dx dy H S O P Q' s rx ry h k => by
  unfold ixD at h
  obtain ⟨hl, ht, hs⟩ := seq_of rx s
  cases e : res S dx <;> rw [e] at h <;> try exact h.elim
  · cases dy <;> try exact h.elim
    cases ry
    obtain ⟨d, hd, q⟩ := h
    obtain ⟨a, xs, rfl, g1, g2, g3⟩ := ht _ e
    obtain ⟨v, hv, rv⟩ := at_of g3 hd
    exact .inr (.inl ⟨a, xs, _, v, rfl, rfl, g1, hv, k v H d rv s .refl q⟩)
  · cases dy <;> try exact h.elim
    cases ry
    obtain ⟨d, hd, q⟩ := h
    obtain ⟨a, xs, rfl, g1, g2, g3⟩ := hl _ e
    obtain ⟨v, hv, rv⟩ := at_of g3 hd
    exact .inl ⟨a, xs, _, v, rfl, rfl, SqL.of g1, hv, k v H d rv s .refl q⟩
  · cases dy <;> try exact h.elim
    cases ry
    obtain ⟨m, hm, q⟩ := h
    obtain ⟨a, rfl, g1⟩ := hs _ e
    refine .inl ⟨a, _, _, .int m, rfl, rfl, g1, ?_, k _ H _ (.int m) s .refl q⟩
    unfold atI at hm ⊢
    rw [List.length_map]
    revert hm
    generalize ixN _ _ = o
    intro hm
    cases o with
    | none => cases hm
    | some j =>
      show (List.map V.int _)[j]? = _
      rw [List.getElem?_map]
      exact congrArg (Option.map V.int) hm
end
end DL

/-! DL6: walks over a list or a tuple, in any mix. -/
namespace PySem
open Sem (wp)
set_option maxHeartbeats 1000000 in
theorem dl_meets_enum1 {v : Value} {o : Obj} {H : Heap → Prop} (B : Begins v o H) :
    Meets (Builtin.«enumerate.__new__» ⟨[.type "enumerate", v], []⟩) (fun _ R s => H s.heap ∧
      R (.ok (.ret (.ref (s.heap.push o).objs.size))) { s with heap := (s.heap.push o).push { cls := .type "enumerate", data := .fields #[.none, .bool false, .ref s.heap.objs.size, rawInt 0, .none, .none] } }) :=
  .of_wp fun prog w A R s h => by
    obtain ⟨hp, g, d, tk, os⟩ := s; obtain ⟨h1, h⟩ := h
    have hsub := sub_enumerate
    have q1 : ∀ {A' : Around} {E : Value → Shared → Prop} {Q : Value → Shared → Prop}, Q (.ref hp.objs.size) ⟨hp.push o, g, d, tk, os⟩ → wpAny (model prog w) A' (pyIter v) Q E ⟨hp, g, d, tk, os⟩ :=
      fun q => B.iter prog w _ _ ⟨hp, g, d, tk, os⟩ _ h1 q
    wp_walk using q1
    refine wpAny_stack_any fun st => wpAny_pure ?_
    split
    · rename_i c _ _ _ _ _
      cases (c == Value.type "enumerate")
      · wp_walk using q1
        exact ⟨_, rfl, h⟩
      · wp_walk using q1
        exact ⟨_, rfl, h⟩
    · wp_walk using q1
      exact ⟨_, rfl, h⟩
section
variable {prog : Program} {w : World} {A : Around} {E : Value → Shared → Prop} {s : Shared}
theorem dl_enum_begins1 {v : Value} {o : Obj} {H : Heap → Prop} {Q : Value → Shared → Prop} (B : Begins v o H) (h1 : H s.heap)
    (h : ∀ h', IsEnum h' (s.heap.objs.size + 1) s.heap.objs.size 0 .none → h'.get? s.heap.objs.size = some o → h'.objs.size = s.heap.objs.size + 2 →
      (∀ b o, s.heap.get? b = some o → h'.get? b = some o) → Q (.ref (s.heap.objs.size + 1)) { s with heap := h' }) :
    wpAny (model prog w) A (call (.type "enumerate") [v]) Q E s := by
  refine callType_new F.called_enumerate (by decide) (F.typeCall_enumerate_1 _) (F.newCall_enumerate_1 _) (fun obj => F.args_object_init_2 obj _) F.entry_enumerate_new
    (dl_meets_enum1 B) ⟨h1, ?_⟩
  have hz : (s.heap.push o).objs.size = s.heap.objs.size + 1 := Heap.size_push ..
  show _ ∧ _
  rw [hz]
  have he : IsEnum ((s.heap.push o).push { cls := .type "enumerate", data := .fields #[.none, .bool false, .ref s.heap.objs.size, rawInt 0, .none, .none] }) (s.heap.objs.size + 1) s.heap.objs.size 0 .none := by
    have := Heap.get?_push_size (s.heap.push o) (o := { cls := .type "enumerate", data := .fields #[.none, .bool false, .ref s.heap.objs.size, rawInt 0, .none, .none] }) rfl
    rw [hz] at this; exact this
  refine ⟨⟨_, he, rfl⟩, h _ he (Heap.get?_push_of_some _ (Heap.get?_push_size _ B.free)) (by rw [Heap.size_push, hz]) fun b o x => Heap.get?_push_of_some _ (Heap.get?_push_of_some _ x)⟩
end
end PySem

namespace DL
open PySem PySem.Spec PyProof.Rows L2
/-- a list (k) or a tuple -/
def Sq (K : PySem.W.Frag) (k : Bool) (H : Hp) (a : Addr) (xs : List V) : Prop := match k with
  | true => SqL K H a xs
  | false => SqT K H a xs
def IsIt (k : Bool) (h : Heap) (it a : Addr) (i : Nat) : Prop := match k with
  | true => h.IsListIter it a i
  | false => h.IsTupleIter it a i
def IsSq (k : Bool) (h : Heap) (a : Addr) (items : Array Value) : Prop := match k with
  | true => h.IsList a items
  | false => h.IsTuple a items
def itObj (k : Bool) (a : Addr) : Obj := match k with
  | true => { cls := .type "list_iterator", data := .fields #[.ref a, .int 0 0] }
  | false => { cls := .type "tuple_iterator", data := .fields #[.ref a, .int 0 0] }
section
variable {X : Cx} {pins : List (Addr × Obj)} {σ : L2.St} {H : Hp} {s : Shared} {k : Bool} {a : Addr} {xs : List V}
theorem inv_sq (I : Inv X pins σ H s) (h : Sq X.K k H a xs) : ∃ its : List Value, Vals xs its ∧ IsSq k s.heap a its.toArray ∧ xs.length ≤ sizeLine := by
  cases k with
  | true => obtain ⟨its, r, p, z⟩ := I.list h; exact ⟨its, r, p.isList, z⟩
  | false => obtain ⟨its, r, p, z⟩ := I.tuple h; exact ⟨its, r, p, z⟩
theorem inv_sq_inj {ys : List V} (I : Inv X pins σ H s) (h : Sq X.K k H a xs) (h' : Sq X.K k H a ys) : xs = ys := by
  cases k with
  | true => exact I.list_inj h h'
  | false => exact I.tuple_inj h h'
theorem sq_lt {items : Array Value} {h : Heap} (x : IsSq k h a items) : a < h.objs.size := by
  cases k with
  | true => obtain ⟨o, e, _⟩ := x; exact Heap.lt_size e
  | false => obtain ⟨o, e, _⟩ := x; exact Heap.lt_size e
theorem begins_sq (items : Array Value) : Begins (.ref a) (itObj k a) fun h => IsSq k h a items := by
  cases k with
  | true => exact begins_list a items
  | false => exact begins_tuple a items
theorem draws_sq {prog : Program} {w : World} {A : Around} (hh : A.handled = none) (it : Addr) (hne : a ≠ it) (items : Array Value) :
    Draws prog w A it [it, a] items.size (fun i v => items[i]? = some v) (fun i h => IsIt k h it a i ∧ IsSq k h a items) := by
  cases k with
  | true => exact Draws.list hh it a hne items
  | false => exact Draws.tuple hh it a hne items
theorem isIt_obj {h : Heap} {it : Addr} {i : Nat} (x : IsIt k h it a i) : ∃ o, h.get? it = some o ∧ ∀ v, o.data ≠ .cell v := by
  cases k with
  | true => obtain ⟨o, e, _, d⟩ := x; exact ⟨o, e, fun v q => by rw [d] at q; cases q⟩
  | false => obtain ⟨o, e, _, d⟩ := x; exact ⟨o, e, fun v q => by rw [d] at q; cases q⟩
theorem isIt_at {h h' : Heap} {it : Addr} {i : Nat} (x : IsIt k h it a i) (hk : ∀ o, h.get? it = some o → h'.get? it = some o) : IsIt k h' it a i := by
  cases k with
  | true => obtain ⟨o, e, r⟩ := x; exact ⟨o, hk o e, r⟩
  | false => obtain ⟨o, e, r⟩ := x; exact ⟨o, hk o e, r⟩
theorem isIt_new {h : Heap} {it : Addr} (e : h.get? it = some (itObj k a)) : IsIt k h it a 0 := by
  cases k with
  | true => exact ⟨_, e, rfl, rfl⟩
  | false => exact ⟨_, e, rfl, rfl⟩
end
/-- enumerate(a) -/
def IteG (K : PySem.W.Frag) (k : Bool) (a : Addr) : L2.It :=
  ⟨fun i H => ∃ xs x, Sq K k H a xs ∧ xs[i]? = some x, fun i H v H' => ∃ T x, v = .ref T ∧ H T = none ∧ H' = upd H T (.tup [.int (i : Nat), x]) ∧ ∀ xs, Sq K k H a xs → xs[i]? = some x, fun i H => ∃ xs, Sq K k H a xs ∧ xs.length = i⟩
theorem turn_enumG {P : Program} {w : World} {K : PySem.W.Frag} {elts : List Expr} {kk : Nat} {tpos : Pos} (k : Bool) (a e it : Addr) (n1 : e ≠ it) (n2 : a ≠ it) (n3 : a ≠ e) :
    Turn P w K (.Tuple elts kk tpos) (IteG K k a) [e, it] e (fun i h => (∃ old, IsEnum h e it ((i : Nat) : Int) old) ∧ IsIt k h it a i) where
  mem := by simp
  obj := fun i h st b hb => by
    obtain ⟨⟨old, he⟩, hi⟩ := st
    have e' : b = e ∨ b = it := by simpa using hb
    rcases e' with z | z
    · rw [z]; exact ⟨_, he, fun v q => nomatch q⟩
    · rw [z]; exact isIt_obj hi
  keep := fun i h h' st hk => let ⟨⟨old, he⟩, hi⟩ := st; ⟨⟨old, hk e (by simp) _ he⟩, isIt_at hi fun o q => hk it (by simp) o q⟩
  item := by
    intro X hP hw hK hc i pins s σ H E I hf st hg
    subst hP hw hK
    obtain ⟨⟨old, he⟩, hit⟩ := st
    obtain ⟨xs, x, hq, hx⟩ := hg
    obtain ⟨its, rv, p, hz⟩ := inv_sq I hq
    obtain ⟨u, hu, ru⟩ := rv.get hx
    have hh : X.A.in1.handled = none := I.ok.hd hc
    have G := GoesN.enumFrom (elts := elts) (x1 := kk) (pos := tpos) 0 (draws_sq (prog := X.prog) (w := X.w) (k := k) hh it n2 its.toArray) e n1 (by simp; exact ⟨n1, fun z => n3 z.symm⟩) (by simp)
    have hi : i < its.toArray.size := by
      have := (List.getElem?_eq_some_iff.mp hu).1
      simpa using this
    refine G.goes i s _ E hi ⟨⟨old, by rw [Int.zero_add]; exact he⟩, hit, p⟩ fun v h' tk hY st' hk htk => ?_
    obtain ⟨T, t, y, rfl, hT, hy, hTup⟩ := hY
    have ey : y = u := by
      have : its.toArray[i]? = some u := by simpa using hu
      rw [this] at hy; cases hy; rfl
    subst ey
    rw [Int.zero_add] at hTup
    have hTn : H T = none := I.hok.fresh hT
    have new : ObjOk X.prog X.w (upd H T (.tup [.int (i : Nat), x])) h' T (.tup [.int (i : Nat), x]) :=
      ⟨by show 2 ≤ sizeLine; decide, [.int i t, y], .cons ⟨_, rfl⟩ (.cons ru .nil), hTup⟩
    have I1 : Inv X pins σ (upd H T (.tup [.int (i : Nat), x])) { s with heap := h', toks := tk } := I.turnedNew (ch := [e, it]) hk hf hT new
    refine ⟨.ref T, _, I1, rfl, ⟨T, x, rfl, hTn, rfl, fun ys hy => by rw [inv_sq_inj I hy hq]; exact hx⟩, ⟨?_, st'.2.1⟩, fun b hb => ?_⟩
    · obtain ⟨old', he'⟩ := st'.1
      rw [Int.zero_add] at he'
      exact ⟨old', he'⟩
    · have hb' : b < s.heap.objs.size := by
        have e' : b = e ∨ b = it := by simpa using hb
        rcases e' with z | z
        · rw [z]; exact Heap.lt_size he
        · rw [z]; obtain ⟨o, q, _⟩ := isIt_obj hit; exact Heap.lt_size q
      rw [upd_ne (Nat.ne_of_lt (Nat.lt_of_lt_of_le hb' hT))]
      exact (hf b hb).1
  done := by
    intro X hP hw hK hc i pins s σ H E I hf st hg
    subst hP hw hK
    obtain ⟨⟨old, he⟩, hit⟩ := st
    obtain ⟨xs, hq, hx⟩ := hg
    obtain ⟨its, rv, p, hz⟩ := inv_sq I hq
    have hh : X.A.handled = none := I.ok.hd hc
    have hl := rv.length
    obtain ⟨f0, f1, f2, f3, f4, f5⟩ := hf it (by simp)
    have D := draws_sq (prog := X.prog) (w := X.w) (A := X.A.in1) (k := k) hh it n2 its.toArray
    have e : its.toArray.size = i := by rw [List.size_toArray]; omega
    exact wpAny_pyNext_enum_endD D he (by rw [e]; exact ⟨hit, p⟩) fun h' eb => ⟨rfl, I.turned (t' := s.toks) (fun b o hb q => eb b o hb q) f0 f1 f3 f4 f5⟩
  self := fun A i s Q E st h => let ⟨⟨_, he⟩, _⟩ := st; wpAny_pyIter_enum he h

def iEnumG (K : PySem.W.Frag) (ta : TA) : TI := fun σ H R => ta σ H fun vs H1 => ∃ k a xs, vs = [.ref a] ∧ Sq K k H1 a xs ∧ R (IteG K k a) H1
theorem pi_enumG {X : Cx} {e : Expr} {ta : TA} {p pos tpos : Pos} {elts : List Expr} {kk : Nat} (hg : Gl X "enumerate") (hm : X.mg "enumerate" = none) (ha : PA X [e] ta) (hs : starEach [e] X.env = [(false, eval e X.env)] := by rfl) :
    PI X (.Tuple elts kk tpos) (.Call (.Name "enumerate" p) [e] [] pos) (iEnumG X.K ta) := by
  refine ⟨fun pins s σ H R I h => ?_⟩
  refine Call_ (ld_blt I hg hm boot_enumerate (PyProof.Rows.callWith_type1 (thn (ha.run pos pins s σ H _ I h) fun us s1 ⟨vs, H1, I1, r1, q1⟩ => ?_) hs rfl))
  obtain ⟨k, a, xs, ex, hq, q⟩ := q1
  subst ex
  cases r1 with
  | cons r rr =>
    cases rr
    cases r
    obtain ⟨its, rv, p', hz⟩ := inv_sq I1 hq
    have la := sq_lt p'
    refine dl_enum_begins1 (begins_sq (k := k) its.toArray) p' fun h' he ho hsz hk => wpAny_pyIter_enum he ?_
    have I2 : Inv X pins σ H1 { s1 with heap := h' } := I1.kept (t' := s1.toks) hk
    refine ⟨s1.heap.objs.size + 1, [s1.heap.objs.size + 1, s1.heap.objs.size], _, _, H1, rfl, I2, turn_enumG k a (s1.heap.objs.size + 1) s1.heap.objs.size (Nat.succ_ne_self _) (Nat.ne_of_lt la) (Nat.ne_of_lt (Nat.lt_succ_of_lt la)), ⟨⟨.none, he⟩, isIt_new ho⟩, fun b hb => ?_, q⟩
    have e' : b = s1.heap.objs.size + 1 ∨ b = s1.heap.objs.size := by simpa using hb
    have hle : s1.heap.objs.size ≤ b := by
      rcases e' with z | z
      · rw [z]; exact Nat.le_add_right _ _
      · rw [z]; exact Nat.le_refl _
    exact I1.fpOk hle (I1.hok.fresh hle)
/-- zip(a, b) -/
def ItzG (K : PySem.W.Frag) (k1 k2 : Bool) (a b : Addr) : L2.It :=
  ⟨fun i H => (∃ xs x, Sq K k1 H a xs ∧ xs[i]? = some x) ∧ ∃ ys y, Sq K k2 H b ys ∧ ys[i]? = some y,
   fun i H v H' => ∃ T x y, v = .ref T ∧ H T = none ∧ H' = upd H T (.tup [x, y]) ∧ (∀ xs, Sq K k1 H a xs → xs[i]? = some x) ∧ ∀ ys, Sq K k2 H b ys → ys[i]? = some y,
   fun i H => ∃ xs ys, Sq K k1 H a xs ∧ Sq K k2 H b ys ∧ min xs.length ys.length = i⟩
theorem turn_zipG {P : Program} {w : World} {K : PySem.W.Frag} {elts : List Expr} {kk : Nat} {tpos : Pos} {k1 k2 : Bool} {a b z TI TO i1 i2 : Addr} (D : ZipSep2 z TI TO i1 i2 [i1, a] [i2, b]) (na : a ≠ i1) (nb : b ≠ i2) :
    Turn P w K (.Tuple elts kk tpos) (ItzG K k1 k2 a b) [z, TI, TO, i1, i2] z (fun i h => IsZip h z TI TO .none ∧ IsTupOf2 h TI (.ref i1) (.ref i2) ∧ (∃ x y, IsTupOf2 h TO x y) ∧ IsIt k1 h i1 a i ∧ IsIt k2 h i2 b i) where
  mem := by simp
  obj := fun i h st c hc => by
    obtain ⟨hz, hT, ⟨_, _, hO⟩, h1, h2⟩ := st
    have e' : c = z ∨ c = TI ∨ c = TO ∨ c = i1 ∨ c = i2 := by simpa using hc
    rcases e' with q | q | q | q | q
    · rw [q]; exact ⟨_, hz, fun v q => nomatch q⟩
    · rw [q]; exact ⟨_, hT, fun v q => nomatch q⟩
    · rw [q]; exact ⟨_, hO, fun v q => nomatch q⟩
    · rw [q]; exact isIt_obj h1
    · rw [q]; exact isIt_obj h2
  keep := fun i h h' st hk => let ⟨hz, hT, ⟨x, y, hO⟩, h1, h2⟩ := st
    ⟨hk z (by simp) _ hz, hk TI (by simp) _ hT, ⟨x, y, hk TO (by simp) _ hO⟩, isIt_at h1 fun o q => hk i1 (by simp) o q, isIt_at h2 fun o q => hk i2 (by simp) o q⟩
  item := by
    intro X hP hw hK hc i pins s σ H E I hf st hg
    subst hP hw hK
    obtain ⟨hz, hT, hO, h1, h2⟩ := st
    obtain ⟨⟨xs, x, hq, hx⟩, ys, y, hq2, hy⟩ := hg
    obtain ⟨its, rv, p, _⟩ := inv_sq I hq
    obtain ⟨its2, rv2, p2, _⟩ := inv_sq I hq2
    obtain ⟨u, hu, ru⟩ := rv.get hx
    obtain ⟨u2, hu2, ru2⟩ := rv2.get hy
    have hh : X.A.in1.handled = none := I.ok.hd hc
    have G := GoesN.zip2 (elts := elts) (x1 := kk) (pos := tpos) D (draws_sq (prog := X.prog) (w := X.w) (k := k1) hh i1 na its.toArray) (draws_sq (prog := X.prog) (w := X.w) (k := k2) hh i2 nb its2.toArray)
    have hi : i < min its.toArray.size its2.toArray.size := by
      have a1 := (List.getElem?_eq_some_iff.mp hu).1
      have a2 := (List.getElem?_eq_some_iff.mp hu2).1
      rw [List.size_toArray, List.size_toArray]; omega
    refine G.goes i s _ E hi ⟨hz, hT, hO, ⟨h1, p⟩, ⟨h2, p2⟩⟩ fun v h' tk hY st' hk htk => ?_
    obtain ⟨T, v1, v2, rfl, hTs, hv1, hv2, hTup⟩ := hY
    have e1 : v1 = u := by
      have : its.toArray[i]? = some u := by simpa using hu
      rw [this] at hv1; cases hv1; rfl
    have e2 : v2 = u2 := by
      have : its2.toArray[i]? = some u2 := by simpa using hu2
      rw [this] at hv2; cases hv2; rfl
    subst e1 e2
    have hTn : H T = none := I.hok.fresh hTs
    have new : ObjOk X.prog X.w (upd H T (.tup [x, y])) h' T (.tup [x, y]) := ⟨by show 2 ≤ sizeLine; decide, [v1, v2], .cons ru (.cons ru2 .nil), hTup⟩
    have I1 : Inv X pins σ (upd H T (.tup [x, y])) { s with heap := h', toks := tk } := I.turnedNew (ch := [z, TO, i1, i2]) hk (fun c hc => hf c (by
      have e' : c = z ∨ c = TO ∨ c = i1 ∨ c = i2 := by simpa using hc
      rcases e' with q | q | q | q <;> rw [q] <;> simp)) hTs new
    refine ⟨.ref T, _, I1, rfl, ⟨T, x, y, rfl, hTn, rfl, fun zs hs => by rw [inv_sq_inj I hs hq]; exact hx, fun zs hs => by rw [inv_sq_inj I hs hq2]; exact hy⟩, ⟨st'.1, st'.2.1, st'.2.2.1, st'.2.2.2.1.1, st'.2.2.2.2.1⟩, fun c hc => ?_⟩
    have hb' : c < s.heap.objs.size := by
      have e' : c = z ∨ c = TI ∨ c = TO ∨ c = i1 ∨ c = i2 := by simpa using hc
      rcases e' with q | q | q | q | q
      · rw [q]; exact Heap.lt_size hz
      · rw [q]; exact Heap.lt_size hT
      · rw [q]; obtain ⟨_, _, hO⟩ := hO; exact Heap.lt_size hO
      · rw [q]; obtain ⟨o, q, _⟩ := isIt_obj h1; exact Heap.lt_size q
      · rw [q]; obtain ⟨o, q, _⟩ := isIt_obj h2; exact Heap.lt_size q
    rw [upd_ne (Nat.ne_of_lt (Nat.lt_of_lt_of_le hb' hTs))]
    exact (hf c hc).1
  done := by
    intro X hP hw hK hc i pins s σ H E I hf st hg
    subst hP hw hK
    obtain ⟨hz, hT, hO, h1, h2⟩ := st
    obtain ⟨xs, ys, hq, hq2, hl⟩ := hg
    obtain ⟨its, rv, p, _⟩ := inv_sq I hq
    obtain ⟨its2, rv2, p2, _⟩ := inv_sq I hq2
    have l1 := rv.length
    have l2 := rv2.length
    have hh : X.A.in1.handled = none := I.ok.hd hc
    have G := GoesN.zip2 (elts := elts) (x1 := kk) (pos := tpos) D (draws_sq (prog := X.prog) (w := X.w) (k := k1) hh i1 na its.toArray) (draws_sq (prog := X.prog) (w := X.w) (k := k2) hh i2 nb its2.toArray)
    have e : min its.toArray.size its2.toArray.size = i := by rw [List.size_toArray, List.size_toArray]; omega
    refine G.stops s _ E (by rw [e]; exact ⟨hz, hT, hO, ⟨h1, p⟩, ⟨h2, p2⟩⟩) fun h' tk hk htk => ?_
    exact I.turnedL (ch := [z, TO, i1, i2]) hk (fun c hc => hf c (by
      have e' : c = z ∨ c = TO ∨ c = i1 ∨ c = i2 := by simpa using hc
      rcases e' with q | q | q | q <;> rw [q] <;> simp))
  self := fun A i s Q E st h => wpAny_pyIter_zip st.1 h
def iZipG (K : PySem.W.Frag) (ta : TA) : TI := fun σ H R => ta σ H fun vs H1 => ∃ k1 k2 a b xs ys, vs = [.ref a, .ref b] ∧ Sq K k1 H1 a xs ∧ Sq K k2 H1 b ys ∧ R (ItzG K k1 k2 a b) H1
theorem pi_zipG {X : Cx} {e e2 : Expr} {ta : TA} {p pos tpos : Pos} {elts : List Expr} {kk : Nat} (hg : Gl X "zip") (hm : X.mg "zip" = none) (ha : PA X [e, e2] ta)
    (hs : starEach [e, e2] X.env = (false, eval e X.env) :: starEach [e2] X.env) (hpl : (backTo pos (starEach [e2] X.env)).any (·.1) = false) :
    PI X (.Tuple elts kk tpos) (.Call (.Name "zip" p) [e, e2] [] pos) (iZipG X.K ta) := by
  refine ⟨fun pins s σ H R I h => ?_⟩
  refine Call_ (ld_blt I hg hm PyProof.Rows.boot_zip (PyProof.Rows.callWith_type1 (thn (ha.run pos pins s σ H _ I h) fun us s1 ⟨vs, H1, I1, r1, q1⟩ => ?_) hs hpl))
  obtain ⟨k1, k2, a, b, xs, ys, ex, hqx, hqy, q⟩ := q1
  subst ex
  cases r1 with
  | cons r rr =>
    cases rr with
    | cons r' rr =>
      cases rr
      cases r
      cases r'
      obtain ⟨its, rv, p1, _⟩ := inv_sq I1 hqx
      obtain ⟨its2, rv2, p2, _⟩ := inv_sq I1 hqy
      have la := sq_lt p1
      have lb := sq_lt p2
      refine zip_begins2 (begins_sq (k := k1) its.toArray) (begins_sq (k := k2) its2.toArray) p1 p2 fun h' hz hTI hTO h1 h2 hsz hk => wpAny_pyIter_zip hz ?_
      have I2 : Inv X pins σ H1 { s1 with heap := h' } := I1.kept (t' := s1.toks) hk
      have D : ZipSep2 (s1.heap.objs.size + 4) (s1.heap.objs.size + 2) (s1.heap.objs.size + 3) s1.heap.objs.size (s1.heap.objs.size + 1) [s1.heap.objs.size, a] [s1.heap.objs.size + 1, b] := zip_sep2 (fun c hc => by rw [List.mem_singleton.mp hc]; exact la) (fun c hc => by rw [List.mem_singleton.mp hc]; exact lb)
      refine ⟨s1.heap.objs.size + 4, [s1.heap.objs.size + 4, s1.heap.objs.size + 2, s1.heap.objs.size + 3, s1.heap.objs.size, s1.heap.objs.size + 1], _, _, H1, rfl, I2, turn_zipG D (Nat.ne_of_lt la) (Nat.ne_of_lt (Nat.lt_succ_of_lt lb)), ⟨hz, hTI, ⟨_, _, hTO⟩, isIt_new h1, isIt_new h2⟩, fun c hcm => ?_, q⟩
      have e' : c = s1.heap.objs.size + 4 ∨ c = s1.heap.objs.size + 2 ∨ c = s1.heap.objs.size + 3 ∨ c = s1.heap.objs.size ∨ c = s1.heap.objs.size + 1 := by simpa using hcm
      have hle : s1.heap.objs.size ≤ c := by
        rcases e' with z | z | z | z | z
        · rw [z]; exact Nat.le_add_right _ _
        · rw [z]; exact Nat.le_add_right _ _
        · rw [z]; exact Nat.le_add_right _ _
        · rw [z]; exact Nat.le_refl _
        · rw [z]; exact Nat.le_add_right _ _
      exact I1.fpOk hle (I1.hok.fresh hle)
/-- a list or a tuple -/
def iSeqG (K : PySem.W.Frag) (tl : TE) : TI := fun σ H R => tl σ H fun x H1 => ∃ a, x = .ref a ∧ (((∃ xs, SqL K H1 a xs) ∧ R (Itl K a) H1) ∨ ((∃ xs, SqT K H1 a xs) ∧ R (Itt K a) H1))
theorem pi_seqG {X : Cx} {tg l : Expr} {tl : TE} (hl : PE X l tl) : PI X tg l (iSeqG X.K tl) := by
  refine ⟨fun pins s σ H R I h => ?_⟩
  refine thn (hl.run pins s σ H _ I h) fun v s1 ⟨x, H1, I1, r1, q1⟩ => ?_
  obtain ⟨a, e, q⟩ := q1
  subst e
  cases r1
  rcases q with ⟨⟨xs, hq⟩, q⟩ | ⟨⟨xs, hq⟩, q⟩
  · obtain ⟨its, rv, p, hz⟩ := I1.list hq
    refine wpAny_pyIter_list p.isList ?_
    refine ⟨s1.heap.objs.size, [s1.heap.objs.size], _, _, H1, rfl, I1.kept (t' := s1.toks) fun b o e => Heap.get?_push_of_some _ e, turn_list a _, ⟨_, Heap.get?_push_size _ rfl, rfl, rfl⟩, fun b hb => ?_, q⟩
    have e : b = s1.heap.objs.size := by simpa using hb
    subst e
    exact I1.fpOk (Nat.le_refl _) (I1.hok.fresh (Nat.le_refl _))
  · obtain ⟨its, rv, p, hz⟩ := I1.tuple hq
    refine wpAny_pyIter_tuple (show s1.heap.IsTuple a its.toArray from p) ?_
    refine ⟨s1.heap.objs.size, [s1.heap.objs.size], _, _, H1, rfl, I1.kept (t' := s1.toks) fun b o e => Heap.get?_push_of_some _ e, turn_tuple a _, ⟨_, Heap.get?_push_size _ rfl, rfl, rfl⟩, fun b hb => ?_, q⟩
    have e : b = s1.heap.objs.size := by simpa using hb
    subst e
    exact I1.fpOk (Nat.le_refl _) (I1.hok.fresh (Nat.le_refl _))
end DL

/-! DL7: what is walked as data; comprehensions; targets. -/
namespace DL
open PySem PySem.Spec PyProof.Rows L2
/-- the turns of a walk are the items ds, while C holds of the store -/
structure ItOk (K : PySem.W.Frag) (J : L2.It) (ds : List D) (C : Sto → Prop) (O0 : Ow) (H0 : Hp) : Prop where
  go : ∀ i S O H, Sok K S O H → Mo O0 H0 O H → C S → i < ds.length → J.go i H ∧ ∀ x H', J.yld i H x H' → ∃ d, ds[i]? = some d ∧ Rp K O H' x d ∧ Sok K S O H' ∧ Ev S O H S O H'
  stop : ∀ i S O H, Sok K S O H → Mo O0 H0 O H → C S → ds.length = i → J.stop i H
abbrev WI := Env → Sto → XD → (List D → (Sto → Prop) → Sto → Prop) → Prop
def RI (L : Lnk) (K : PySem.W.Frag) (W : WX) (t : TI) (w : WI) : Prop :=
  ∀ (σ : L2.St) (H : Hp) (ρ : Env) (S : Sto) (O : Ow) (R : XD) (Q : List D → (Sto → Prop) → Sto → Prop) (R' : L2.It → Hp → Prop), At L K W σ H ρ S O R → w ρ S R Q →
    (∀ J H' ds C S' O', ItOk K J ds C O' H' → ds.length ≤ sizeLine → Sok K S' O' H' → Ev S O H S' O' H' → Q ds C S' → R' J H') → t σ H R'
def tOI (L : Lnk) (K : PySem.W.Frag) (W : WX) (w : WI) : TI := fun σ H R' => ∃ ρ S O R, ∃ Q : List D → (Sto → Prop) → Sto → Prop, At L K W σ H ρ S O R ∧ w ρ S R Q ∧ ∀ J H' ds C S' O', ItOk K J ds C O' H' → ds.length ≤ sizeLine → Sok K S' O' H' → Ev S O H S' O' H' → Q ds C S' → R' J H'
section
variable {L : Lnk} {K : PySem.W.Frag} {W : WX} {X : Cx} {w wa wb wc : WE'} {ta tb tc : TE}
theorem ri_tO {w : WI} : RI L K W (tOI L K W w) w := fun σ H ρ S O R Q Q' A hw k => ⟨ρ, S, O, R, Q, A, hw, k⟩
theorem _root_.L2.PI.can {tg e : Expr} {t : TI} {w : WI} (h : PI X tg e t) (r : RI L K W t w) : PI X tg e (tOI L K W w) := ⟨fun pins s σ H R' I ⟨ρ, S, O, R, Q, A, hw, k⟩ => h.run pins s σ H R' I (r σ H ρ S O R Q R' A hw k)⟩
theorem rangeD_get {i c : Int} {n k : Nat} (h : k < n) : (rangeD i c n)[k]? = some (.int (i + (k : Nat) * c)) := by
  unfold rangeD
  rw [List.getElem?_map, List.getElem?_range h]; rfl
theorem rangeD_len {i c : Int} {n : Nat} : (rangeD i c n).length = n := by unfold rangeD; simp
theorem itOk_r {lo : Int} {n : Nat} {O : Ow} {H : Hp} : ItOk K (Itr lo n) (rangeD lo 1 n) (fun _ => True) O H where
  go := fun i S O H s m _ hi => by
    rw [rangeD_len] at hi
    refine ⟨hi, fun x H' y => ?_⟩
    obtain ⟨rfl, rfl⟩ := y
    exact ⟨_, rangeD_get hi, by rw [Int.mul_one]; exact .int _, s, .refl⟩
  stop := fun i S O H s m _ hi => by rw [rangeD_len] at hi; exact Nat.le_of_eq hi
theorem itOk_c {lo c : Int} {n : Nat} {O : Ow} {H : Hp} : ItOk K (Itc lo c n) (rangeD lo c n) (fun _ => True) O H where
  go := fun i S O H s m _ hi => by
    rw [rangeD_len] at hi
    refine ⟨hi, fun x H' y => ?_⟩
    obtain ⟨rfl, rfl⟩ := y
    exact ⟨_, rangeD_get hi, .int _, s, .refl⟩
  stop := fun i S O H s m _ hi => by rw [rangeD_len] at hi; exact Nat.le_of_eq hi
theorem ri_rng1 (ha : RE L K W ta wa) : RI L K W (iRng1 (tCons ta tNil)) fun ρ S R Q => wa ρ S R fun x S1 => ∃ j : Int, x = .int j ∧ -(2 ^ 62) ≤ j ∧ j ≤ 16777216 ∧ Q (rangeD 0 1 j.toNat) (fun _ => True) S1 := fun σ H ρ S O R Q Q' A hw k => by
  refine ha.go A hw fun x H1 dx S1 O1 r1 A1 e1 q1 => ?_
  obtain ⟨j, rfl, h1, h2, q⟩ := q1
  cases r1
  exact ⟨j, rfl, h1, by omega, k _ H1 _ _ S1 O1 itOk_r (by rw [rangeD_len, sizeLine_eq]; omega) A1.sok e1 q⟩
theorem ri_rng2 (ha : RE L K W ta wa) (hb : RE L K W tb wb) : RI L K W (iRng2 (tCons ta (tCons tb tNil))) fun ρ S R Q => wa ρ S R fun x S1 => wb ρ S1 R fun y S2 => ∃ i j : Int, x = .int i ∧ y = .int j ∧ (-(2 ^ 62) ≤ i ∧ i < 2 ^ 62 ∧ -(2 ^ 62) ≤ j ∧ j < 2 ^ 62) ∧ j - i ≤ 16777216 ∧ Q (rangeD i 1 (j - i).toNat) (fun _ => True) S2 := fun σ H ρ S O R Q Q' A hw k => by
  refine ha.go A hw fun x H1 dx S1 O1 r1 A1 e1 q1 => ?_
  refine hb.go A1 q1 fun y H2 dy S2 O2 r2 A2 e2 q2 => ?_
  obtain ⟨i, j, rfl, rfl, h1, h2, q⟩ := q2
  cases r1; cases r2
  exact ⟨i, j, rfl, h1, k _ H2 _ _ S2 O2 itOk_r (by rw [rangeD_len, sizeLine_eq]; omega) A2.sok (e1.trans A1.sok e2) q⟩
theorem ri_rng3 (ha : RE L K W ta wa) (hb : RE L K W tb wb) (hc : RE L K W tc wc) : RI L K W (iRng3 (tCons ta (tCons tb (tCons tc tNil)))) fun ρ S R Q => wa ρ S R fun x S1 => wb ρ S1 R fun y S2 => wc ρ S2 R fun z S3 => ∃ (i j c : Int) (n : Nat), x = .int i ∧ y = .int j ∧ z = .int c ∧ RgC i j c n ∧ n ≤ sizeLine ∧ Q (rangeD i c n) (fun _ => True) S3 := fun σ H ρ S O R Q Q' A hw k => by
  refine ha.go A hw fun x H1 dx S1 O1 r1 A1 e1 q1 => ?_
  refine hb.go A1 q1 fun y H2 dy S2 O2 r2 A2 e2 q2 => ?_
  refine hc.go A2 q2 fun z H3 dz S3 O3 r3 A3 e3 q3 => ?_
  obtain ⟨i, j, c, n, rfl, rfl, rfl, h1, h2, q⟩ := q3
  cases r1; cases r2; cases r3
  exact ⟨i, j, c, n, rfl, h1, k _ H3 _ _ S3 O3 itOk_c (by rw [rangeD_len]; exact h2) A3.sok ((e1.trans A1.sok e2).trans A2.sok e3) q⟩

/-! ### lists and tuples walked -/
/-- a sequence by data: a list or a tuple at a, its items at every later state -/
theorem sq_of {v : V} {d : D} {S : Sto} {O : Ow} {H : Hp} {k : List D → (Sto → Prop) → Prop} (r : Rp K O H v d) (s : Sok K S O H) (h : seqD S d k) : ∃ a b ds C, v = .ref a ∧ C S ∧ ds.length ≤ sizeLine ∧
    (∀ S' O' H', Sok K S' O' H' → Mo O H O' H' → C S' → ∃ xs, Sq K b H' a xs ∧ Rps K O' H' xs ds) ∧ k ds C := by
  cases d with
  | tup ds =>
    cases r with
    | tup h1 z h2 => exact ⟨_, false, ds, fun _ => True, rfl, trivial, by rw [← h2.len]; exact z, fun S' O' H' _ m _ => ⟨_, m.sqT h1, h2.mono m⟩, h⟩
  | lst ds =>
    cases r with
    | lst h1 n z h2 => exact ⟨_, true, ds, fun _ => True, rfl, trivial, by rw [← h2.len]; exact z, fun S' O' H' _ m _ => ⟨_, SqL.of (m.k _ _ h1 n), h2.mono m⟩, h⟩
  | scr ns =>
    cases r with
    | scr z h1 => exact ⟨_, true, ns.map .int, fun _ => True, rfl, trivial, by rw [List.length_map]; exact z, fun S' O' H' _ m _ => ⟨_, .inl (.inr ⟨_, m.t _ _ h1 fun xs e => nomatch e⟩), Rps.ofInts ns⟩, h⟩
    | scrK z h1 => exact ⟨_, true, ns.map .int, fun _ => True, rfl, trivial, by rw [List.length_map]; exact z, fun S' O' H' _ m _ => ⟨_, h1 _, Rps.ofInts ns⟩, h⟩
  | ref p =>
    cases r
    unfold seqD at h
    cases q : S p with
    | none => simp only [q] at h
    | some o =>
      cases o with
      | lst ds =>
        simp only [q] at h
        obtain ⟨_, xs, h1, z, h2⟩ := s.dom _ _ q
        refine ⟨p, true, ds, fun S' => S' p = some (.lst ds), rfl, q, by rw [← h2.len]; exact z, fun S' O' H' s' m c => ?_, h⟩
        obtain ⟨_, ys, g1, _, g2⟩ := s'.dom _ _ c
        exact ⟨ys, SqL.of g1, g2⟩
  | _ => exact h.elim
theorem itOk_seq {b : Bool} {a : Addr} {ds : List D} {C : Sto → Prop} {O : Ow} {H : Hp} (h : ∀ S' O' H', Sok K S' O' H' → Mo O H O' H' → C S' → ∃ xs, Sq K b H' a xs ∧ Rps K O' H' xs ds) : ItOk K (if b = true then Itl K a else Itt K a) ds C O H := by
  cases b with
  | true =>
    refine ⟨fun i S O' H' s m c hi => ?_, fun i S O' H' s m c hi => ?_⟩
    · obtain ⟨xs, hq, hr⟩ := h S O' H' s m c
      obtain ⟨v, hv, rv⟩ := hr.get (i := i) (List.getElem?_eq_getElem hi)
      refine ⟨⟨xs, v, hq, hv⟩, fun x H2 y => ?_⟩
      obtain ⟨rfl, y⟩ := y
      have := y xs hq
      rw [hv] at this; cases this
      exact ⟨_, List.getElem?_eq_getElem hi, rv, s, .refl⟩
    · obtain ⟨xs, hq, hr⟩ := h S O' H' s m c
      exact ⟨xs, hq, by rw [hr.len]; exact Nat.le_of_eq hi⟩
  | false =>
    refine ⟨fun i S O' H' s m c hi => ?_, fun i S O' H' s m c hi => ?_⟩
    · obtain ⟨xs, hq, hr⟩ := h S O' H' s m c
      obtain ⟨v, hv, rv⟩ := hr.get (i := i) (List.getElem?_eq_getElem hi)
      refine ⟨⟨xs, v, hq, hv⟩, fun x H2 y => ?_⟩
      obtain ⟨rfl, y⟩ := y
      have := y xs hq
      rw [hv] at this; cases this
      exact ⟨_, List.getElem?_eq_getElem hi, rv, s, .refl⟩
    · obtain ⟨xs, hq, hr⟩ := h S O' H' s m c
      exact ⟨xs, hq, by rw [hr.len]; exact Nat.le_of_eq hi⟩
theorem ri_seq (ha : RE L K W ta wa) : RI L K W (iSeqG K ta) fun ρ S R Q => wa ρ S R fun x S1 => seqD S1 x fun ds C => Q ds C S1 := fun σ H ρ S O R Q Q' A hw k => by
  refine ha.go A hw fun x H1 dx S1 O1 r1 A1 e1 q1 => ?_
  obtain ⟨a, b, ds, C, rfl, c, z, h, q⟩ := sq_of r1 A1.sok q1
  have I := itOk_seq h
  obtain ⟨xs, hq, hr⟩ := h S1 O1 H1 A1.sok Mo.refl c
  cases b with
  | true => exact ⟨a, rfl, .inl ⟨⟨xs, hq⟩, k _ H1 ds C S1 O1 I z A1.sok e1 q⟩⟩
  | false => exact ⟨a, rfl, .inr ⟨⟨xs, hq⟩, k _ H1 ds C S1 O1 I z A1.sok e1 q⟩⟩
theorem enumD_len : ∀ (n : Nat) (ds : List D), (enumD n ds).length = ds.length
  | _, [] => rfl
  | n, _ :: r => by rw [enumD, List.length_cons, List.length_cons, enumD_len (n + 1) r]
theorem enumD_get : ∀ (n : Nat) (ds : List D) (i : Nat) (d : D), ds[i]? = some d → (enumD n ds)[i]? = some (.tup [.int ((n + i : Nat) : Int), d])
  | n, d :: r, 0, _, e => by cases e; rfl
  | n, _ :: r, i + 1, d, e => by
    have := enumD_get (n + 1) r i d e
    rw [show n + 1 + i = n + (i + 1) by omega] at this
    exact this
theorem ev_new' {S : Sto} {O : Ow} {H : Hp} {T : Addr} {u : HO} (s : Sok K S O H) (h : H T = none) : Sok K S O (upd H T u) ∧ Ev S O H S O (upd H T u) := ⟨s.new h, ev_new h s⟩
theorem ri_enum (ha : RE L K W ta wa) : RI L K W (iEnumG K (tCons ta tNil)) fun ρ S R Q => wa ρ S R fun x S1 => seqD S1 x fun ds C => Q (enumD 0 ds) C S1 := fun σ H ρ S O R Q Q' A hw k => by
  refine ha.go A hw fun x H1 dx S1 O1 r1 A1 e1 q1 => ?_
  obtain ⟨a, b, ds, C, rfl, c, z, h, q⟩ := sq_of r1 A1.sok q1
  obtain ⟨xs, hq, hr⟩ := h S1 O1 H1 A1.sok Mo.refl c
  refine ⟨b, a, xs, rfl, hq, k _ H1 _ C S1 O1 ⟨fun i S O H' s m c hi => ?_, fun i S O H' s m c hi => ?_⟩ (by rw [enumD_len]; exact z) A1.sok e1 q⟩
  · rw [enumD_len] at hi
    obtain ⟨ys, hq, hr⟩ := h S O H' s m c
    obtain ⟨v, hv, rv⟩ := hr.get (i := i) (List.getElem?_eq_getElem hi)
    refine ⟨⟨ys, v, hq, hv⟩, fun x H2 y => ?_⟩
    obtain ⟨T, x', rfl, hT, rfl, y⟩ := y
    have := y ys hq
    rw [hv] at this; cases this
    refine ⟨_, enumD_get 0 ds i _ (List.getElem?_eq_getElem hi), ?_, s.new hT, ev_new hT s⟩
    rw [Nat.zero_add]
    exact rp_new s hT (by show 2 ≤ sizeLine; decide) (.cons (.int _) (.cons rv .nil))
  · rw [enumD_len] at hi
    obtain ⟨ys, hq, hr⟩ := h S O H' s m c
    exact ⟨ys, hq, by rw [hr.len]; exact hi⟩
theorem zipD_len (xs ys : List D) : (zipD xs ys).length = min xs.length ys.length := by unfold zipD; simp
theorem zipD_get {xs ys : List D} {i : Nat} {x y : D} (h1 : xs[i]? = some x) (h2 : ys[i]? = some y) : (zipD xs ys)[i]? = some (.tup [x, y]) := by
  unfold zipD
  rw [List.getElem?_zipWith, h1, h2]
theorem ri_zip (ha : RE L K W ta wa) (hb : RE L K W tb wb) : RI L K W (iZipG K (tCons ta (tCons tb tNil))) fun ρ S R Q => wa ρ S R fun x S1 => wb ρ S1 R fun y S2 => seqD S2 x fun ds C => seqD S2 y fun ds2 C2 => Q (zipD ds ds2) (fun S => C S ∧ C2 S) S2 := fun σ H ρ S O R Q Q' A hw k => by
  refine ha.go A hw fun x H1 dx S1 O1 r1 A1 e1 q1 => ?_
  refine hb.go A1 q1 fun y H2 dy S2 O2 r2 A2 e2 q2 => ?_
  have r1 := r1.mono (A1.mo e2)
  obtain ⟨a, b, ds, C, rfl, c, z, h, q⟩ := sq_of r1 A2.sok q2
  obtain ⟨a', b', ds', C', rfl, c', z', h', q⟩ := sq_of r2 A2.sok q
  obtain ⟨xs, hq, hr⟩ := h S2 O2 H2 A2.sok Mo.refl c
  obtain ⟨ys, hq', hr'⟩ := h' S2 O2 H2 A2.sok Mo.refl c'
  refine ⟨b, b', a, a', xs, ys, rfl, hq, hq', k _ H2 _ _ S2 O2 ⟨fun i S O H' s m c hi => ?_, fun i S O H' s m c hi => ?_⟩ (by rw [zipD_len]; omega) A2.sok (e1.trans A1.sok e2) q⟩
  · rw [zipD_len] at hi
    obtain ⟨us, hq, hr⟩ := h S O H' s m c.1
    obtain ⟨ws, hq', hr'⟩ := h' S O H' s m c.2
    have l1 : i < ds.length := by omega
    have l2 : i < ds'.length := by omega
    obtain ⟨v, hv, rv⟩ := hr.get (i := i) (List.getElem?_eq_getElem l1)
    obtain ⟨v', hv', rv'⟩ := hr'.get (i := i) (List.getElem?_eq_getElem l2)
    refine ⟨⟨⟨us, v, hq, hv⟩, ws, v', hq', hv'⟩, fun x H2 y => ?_⟩
    obtain ⟨T, x', y', rfl, hT, rfl, y1, y2⟩ := y
    have := y1 us hq
    rw [hv] at this; cases this
    have := y2 ws hq'
    rw [hv'] at this; cases this
    exact ⟨_, zipD_get (List.getElem?_eq_getElem l1) (List.getElem?_eq_getElem l2), rp_new s hT (by show 2 ≤ sizeLine; decide) (.cons rv (.cons rv' .nil)), s.new hT, ev_new hT s⟩
  · rw [zipD_len] at hi
    obtain ⟨us, hq, hr⟩ := h S O H' s m c.1
    obtain ⟨ws, hq', hr'⟩ := h' S O H' s m c.2
    exact ⟨us, ws, hq, hq', by rw [hr.len, hr'.len]; exact hi⟩

/-! ### targets -/
abbrev WG := D → Env → Sto → XD → (Env → Sto → Prop) → Prop
abbrev WGs := List D → Env → Sto → XD → (Env → Sto → Prop) → Prop
/-- the names keep apart from vs: their slots set, the rest as it was -/
def SetIn (vs : List Nat) (σ σ' : L2.St) : Prop := ∀ us : List Nat, (∀ v ∈ vs, v ∈ us) → wipe σ' us = wipe σ us
theorem wipe_set {σ : L2.St} {i : Nat} {v : Option V} : ∀ {us : List Nat}, i ∈ us → wipe (σ.set i v) us = wipe σ us := by
  intro us
  induction us with
  | nil => intro h; cases h
  | cons u us ih =>
    intro h
    unfold wipe
    by_cases e : i ∈ us
    · rw [ih e]
    · have e1 : i = u := by
        rcases List.mem_cons.mp h with z | z
        · exact z
        · exact absurd z e
      subst e1
      clear ih h
      have comm : ∀ us : List Nat, (wipe (σ.set i v) us).set i none = (wipe σ us).set i none := by
        intro us
        induction us with
        | nil => unfold wipe; rw [List.set_set]
        | cons w us ih =>
          unfold wipe
          by_cases q : w = i
          · subst q; rw [List.set_set, List.set_set, ih]
          · rw [List.set_comm _ _ (fun z => q z), ih, List.set_comm _ _ (fun z => q z.symm)]
      exact comm us
theorem wipe_idem (σ : L2.St) (us : List Nat) : wipe (wipe σ us) us = wipe σ us := by
  have key : ∀ (vs : List Nat) (τ : L2.St), (∀ v ∈ vs, ∀ x, τ[v]? = some x → x = none) → wipe τ vs = τ := by
    intro vs
    induction vs with
    | nil => intro τ _; rfl
    | cons w vs ih =>
      intro τ h
      unfold wipe
      rw [ih τ fun v hv => h v (List.mem_cons_of_mem _ hv)]
      apply List.ext_getElem?
      intro j
      by_cases e : w = j
      · subst e
        by_cases l : w < τ.length
        · rw [List.getElem?_set_self l, List.getElem?_eq_getElem l, h w List.mem_cons_self _ (List.getElem?_eq_getElem l)]
        · rw [List.getElem?_eq_none (by simpa using l), List.getElem?_eq_none (by omega)]
      · rw [List.getElem?_set_ne e]
  refine key us _ fun v hv x hx => ?_
  cases x with
  | none => rfl
  | some y => exact absurd hv (wipe_some hx).2
def RG (L : Lnk) (K : PySem.W.Frag) (W : WX) (vs : List Nat) (t : TG) (w : WG) : Prop :=
  ∀ (v : V) (d : D) (σ : L2.St) (H : Hp) (ρ : Env) (S : Sto) (O : Ow) (Q : Env → Sto → Prop) (Q' : L2.St → Hp → Prop), At L K W σ H ρ S O xNo → Rp K O H v d → w d ρ S xNo Q →
    (∀ σ' H' ρ' S' O', Sok K S' O' H' → Ev S O H S' O' H' → REnv K O' H' ρ' σ' → SetIn vs σ σ' → Q ρ' S' → Q' σ' H') → t v σ H Q'
def RGs (L : Lnk) (K : PySem.W.Frag) (W : WX) (vs : List Nat) (t : TGs) (w : WGs) : Prop :=
  ∀ (us : List V) (ds : List D) (σ : L2.St) (H : Hp) (ρ : Env) (S : Sto) (O : Ow) (Q : Env → Sto → Prop) (Q' : L2.St → Hp → Prop), At L K W σ H ρ S O xNo → Rps K O H us ds → w ds ρ S xNo Q →
    (∀ σ' H' ρ' S' O', Sok K S' O' H' → Ev S O H S' O' H' → REnv K O' H' ρ' σ' → SetIn vs σ σ' → Q ρ' S' → Q' σ' H') → t us σ H Q'
theorem At.no {σ : L2.St} {H : Hp} {ρ : Env} {S : Sto} {O : Ow} (s : Sok K S O H) (e : REnv K O H ρ σ) : At L K W σ H ρ S O xNo := ⟨s, e, fun _ _ _ _ _ _ _ _ _ _ z => z.elim⟩
theorem SetIn.refl {vs : List Nat} {σ : L2.St} : SetIn vs σ σ := fun _ _ => rfl
theorem SetIn.trans {vs us : List Nat} {σ σ1 σ2 : L2.St} (a : SetIn vs σ σ1) (b : SetIn us σ1 σ2) : SetIn (vs ++ us) σ σ2 := fun ws h =>
  (b ws fun v hv => h v (List.mem_append_right _ hv)).trans (a ws fun v hv => h v (List.mem_append_left _ hv))
theorem rg_nm {i : Nat} : RG L K W [i] (gName i) fun d ρ S _ Q => Q (setV ρ i d) S := fun v d σ H ρ S O Q Q' A r hw k =>
  k _ H _ S O A.sok .refl (A.env.set i r) (fun us h => wipe_set (h i (by simp))) hw
theorem rgs_nil : RGs L K W [] gNil fun ds ρ S _ Q => match ds with
    | [] => Q ρ S
    | _ => False := fun vs ds σ H ρ S O Q Q' A r hw k => by
  cases r with
  | nil => exact ⟨rfl, k σ H ρ S O A.sok .refl A.env .refl hw⟩
  | cons _ _ => exact hw.elim
theorem rgs_cons {t : TG} {u : TGs} {w : WG} {wr : WGs} {vs us : List Nat} (h : RG L K W vs t w) (hr : RGs L K W us u wr) : RGs L K W (vs ++ us) (gCons t u) fun ds ρ S R Q => match ds with
    | d :: ds => w d ρ S R fun ρ' S' => wr ds ρ' S' R Q
    | [] => False := fun xs ds σ H ρ S O Q Q' A r hw k => by
  cases r with
  | nil => exact hw.elim
  | cons r1 rr =>
    refine ⟨_, _, rfl, h _ _ σ H ρ S O _ _ A r1 hw fun σ1 H1 ρ1 S1 O1 s1 e1 n1 i1 q1 => ?_⟩
    exact hr _ _ σ1 H1 ρ1 S1 O1 _ _ (At.no s1 n1) (rr.mono (e1.mo A.sok)) q1 fun σ2 H2 ρ2 S2 O2 s2 e2 n2 i2 q2 => k σ2 H2 ρ2 S2 O2 s2 (e1.trans s1 e2) n2 (i1.trans i2) q2
theorem rg_tup {n : Nat} {vs : List Nat} {t : TGs} {w : WGs} (h : RGs L K W vs t w) : RG L K W vs (gTup K n t) fun d ρ S R Q => match d with
    | .tup ds => ds.length = n ∧ w ds ρ S R Q
    | _ => False := fun v d σ H ρ S O Q Q' A r hw k => by
  cases d <;> try exact hw.elim
  cases r with
  | tup h1 z h2 => exact ⟨_, _, rfl, h1, by rw [h2.len]; exact hw.1, h _ _ σ H ρ S O Q Q' A h2 hw.2 k⟩
theorem rg_sub {to ti : TE} {wo wi : WE'} (ho : RE L K W to wo) (hi : RE L K W ti wi) : RG L K W [] (gSub to ti rSetL) fun d ρ S R Q => wo ρ S R fun x S1 => wi ρ S1 R fun y S2 => ∃ p ds n j, x = .ref p ∧ y = .int n ∧ S2 p = some (.lst ds) ∧ ixN ds.length n = some j ∧ Q ρ (sup S2 p (.lst (ds.set j d))) := fun v d σ H ρ S O Q Q' A r hw k => by
  refine ho.go A hw fun x H1 dx S1 O1 r1 A1 e1 q1 => ?_
  refine hi.go A1 q1 fun y H2 dy S2 O2 r2 A2 e2 q2 => ?_
  obtain ⟨p, ds, n, j, rfl, rfl, hs, hj, q⟩ := q2
  cases r1; cases r2
  obtain ⟨ho, xs, h1, z, h2⟩ := A2.sok.dom _ _ hs
  have r2 := (r.mono (A.mo e1)).mono (A1.mo e2)
  have ev := ev_write (ys := xs.set j v) (es := ds.set j d) hs A2.sok
  have sk := A2.sok.write hs h1 (ys := xs.set j v) (es := ds.set j d) (by rw [List.length_set]; exact z) (h2.set j r2)
  exact ⟨p, xs, n, j, rfl, rfl, h1, by rw [h2.len]; exact hj, k σ _ ρ _ O2 sk ((e1.trans A1.sok e2).trans A2.sok ev) (A2.env.mono (ev.mo A2.sok)) .refl q⟩
abbrev WTs := Env → Sto → (Bool → Sto → Prop) → Prop
def RTs (L : Lnk) (K : PySem.W.Frag) (W : WX) (t : TT) (w : WTs) : Prop :=
  ∀ (σ : L2.St) (H : Hp) (ρ : Env) (S : Sto) (O : Ow) (Q : Bool → Sto → Prop) (Q' : Bool → Hp → Prop), At L K W σ H ρ S O xNo → w ρ S Q →
    (∀ b H' S' O', Sok K S' O' H' → Ev S O H S' O' H' → Q b S' → Q' b H') → t σ H Q'
theorem rts_nil : RTs L K W tYes fun _ S K => K true S := fun σ H ρ S O Q Q' A hw k => k true H S O A.sok .refl hw
theorem rts_one {t : TT} (h : RT L K W t w) : RTs L K W t fun ρ S K => w ρ S xNo fun x S1 => tstD x fun b => if b = true then K true S1 else K false S1 := fun σ H ρ S O Q Q' A hw k => by
  refine h.go (Q := fun b S1 => if b = true then Q true S1 else Q false S1) A hw fun b H1 S1 O1 A1 e1 q => ?_
  cases b with
  | true => exact k true H1 S1 O1 A1.sok e1 q
  | false => exact k false H1 S1 O1 A1.sok e1 q

/-! ### list comprehensions -/
theorem ev_wres {S S' : Sto} {O O' : Ow} {H H' : Hp} {p : Addr} {u : HO} (e : Ev S O H S' O' H') (hp : H p = none) : Ev S O H S' O' (upd H' p u) :=
  ⟨fun a v h n => by rw [upd_ne (ne_of_none h hp)]; exact e.keep a v h n, e.own, e.res, fun a h => by
    by_cases q : a = p
    · rw [q]; exact hp
    · rw [upd_ne q] at h; exact e.there a h⟩
theorem drop_cons {α : Type} {ds : List α} {i : Nat} (h : i < ds.length) : ds.drop i = ds[i] :: ds.drop (i + 1) := List.drop_eq_getElem_cons h
theorem rl_comp {W' : WX} {wi : TI} {g : TG} {tt : TT} {te : TE} {vs ts : List Nat} {wI : WI} {wG : WG} {wT : WTs} {wE : WE'} (hI : RI L K W wi wI) (hG : RG L K W' ts g wG) (hT : RTs L K W' tt wT) (hE : RE L K W' te wE) (hv : ∀ v ∈ ts, v ∈ vs) :
    RL L K W (tLc wi g tt te vs) fun ρ S R Q => wI ρ S R fun ds C S1 =>
      compL (fun d ρ S K => wG d ρ S xNo K) wT (fun ρ S K => wE ρ S xNo K) (fun _ => True) C Q (delVs ρ vs) ds S1 [] := fun σ H ρ S O R Q Q' A hw k => by
  refine hI σ H ρ S O R _ _ A hw fun J H1 ds C S1 O1 it z s1 e1 q1 => ?_
  intro Dl hD
  have env1 : REnv K O1 H1 (delVs ρ vs) (wipe σ vs) := (A.env.mono (A.mo e1)).dels vs
  refine ⟨fun i m H' => m = ds.length - i ∧ i ≤ ds.length ∧ ∃ S' O' acc accv, Sok K S' O' H' ∧ Ev S1 O1 H1 S' O' H' ∧ O' Dl ∧ S' Dl = none ∧ H' Dl = some (.lst accv) ∧ accv.length ≤ i ∧ Rps K O' H' accv acc ∧
      compL (fun d ρ S K => wG d ρ S xNo K) wT (fun ρ S K => wE ρ S xNo K) (fun _ => True) C Q (delVs ρ vs) (ds.drop i) S' acc,
    ⟨ds.length, rfl, Nat.zero_le _, S1, oadd O1 Dl, [], [], s1.resv hD, ev_res hD s1, .inr rfl, s1.noneH hD, upd_same, Nat.le_refl _, .nil, q1⟩, ?_⟩
  rintro i m H' ⟨rfl, hi, S', O', acc, accv, s', e', hO, hS, hH, hl, hr, q⟩
  by_cases hlt : i < ds.length
  · right
    rw [drop_cons hlt] at q
    obtain ⟨c, q⟩ := q
    obtain ⟨go, yl⟩ := it.go i S' O' H' s' (e'.mo s1) c hlt
    refine ⟨go, fun H2 => ∃ m', m' < ds.length - i ∧ _, fun H2 h => h, fun x H2 y => ?_⟩
    obtain ⟨d, hd, rx, s2, e2⟩ := yl x H2 y
    rw [List.getElem?_eq_getElem hlt] at hd
    cases hd
    have ee2 := e'.trans s' e2
    refine hG x _ (wipe σ vs) H2 (delVs ρ vs) S' O' _ _ (At.no s2 (env1.mono (ee2.mo s1))) rx q fun σ3 H3 ρ3 S3 O3 s3 e3 n3 i3 q3 => ?_
    have ee3 := e2.trans s2 e3
    refine ⟨by rw [i3 vs hv, wipe_idem], ?_⟩
    refine hT σ3 H3 ρ3 S3 O3 _ _ (At.no s3 n3) q3 fun b H4 S4 O4 s4 e4 q4 => ?_
    have ee4 := ee3.trans s3 e4
    cases b with
    | false =>
      rw [if_neg Bool.false_ne_true] at q4 ⊢
      exact ⟨ds.length - (i + 1), by omega, rfl, hlt, S4, O4, acc, accv, s4, e'.trans s' ee4, (ee4.res _ hO hS).1, (ee4.res _ hO hS).2, ee4.keep _ _ hH hS, by omega, hr.mono (ee4.mo s'), q4⟩
    | true =>
      rw [if_pos rfl] at q4 ⊢
      refine hE.go (At.no s4 (n3.mono (e4.mo s3))) q4 fun y H5 dy S5 O5 r5 A5 e5 q5 => ?_
      have ee5 := ee4.trans s4 e5
      have hO5 := (ee5.res _ hO hS).1
      have hS5 := (ee5.res _ hO hS).2
      have hH5 := ee5.keep _ _ hH hS
      have hr5 := hr.mono (ee5.mo s')
      refine ⟨accv, hH5, by omega, ds.length - (i + 1), by omega, rfl, hlt, S5, O5, acc ++ [dy], accv ++ [y], A5.sok.wres hH5 hO5 hS5, ev_wres (e'.trans s' ee5) hD, hO5, hS5, upd_same, by rw [List.length_append]; exact Nat.add_le_add hl (Nat.le_refl 1), (hr5.append (.cons r5 .nil)).mono (mo_write hH5 hO5), q5.2⟩
  · left
    have ei : i = ds.length := by omega
    subst ei
    rw [List.drop_length] at q
    exact ⟨it.stop _ S' O' H' s' (e'.mo s1) q.1 rfl, k Dl accv H' acc S' O' (e1.there _ hD) hO hS hH (by omega) hr s' (e1.trans s1 e') q.2⟩
end
end DL

/-! DL8: comprehensions of two clauses; statements. -/
namespace DL
open PySem PySem.Spec PyProof.Rows L2
section
variable {L : Lnk} {K : PySem.W.Frag} {W : WX} {X : Cx} {w wa wb wc : WE'} {ta tb tc : TE}
theorem rl_comp2 {W' : WX} {wi wi1 : TI} {g g1 : TG} {tt tt1 : TT} {te : TE} {vs vs1 ts ts1 : List Nat} {wI wI1 : WI} {wG wG1 : WG} {wT wT1 : WTs} {wE : WE'} (hI : RI L K W wi wI) (hG : RG L K W' ts g wG) (hT : RTs L K W' tt wT)
    (hI1 : RI L K W' wi1 wI1) (hG1 : RG L K W' ts1 g1 wG1) (hT1 : RTs L K W' tt1 wT1) (hE : RE L K W' te wE) (hv : ∀ v ∈ ts, v ∈ vs) (hv1 : ∀ v ∈ ts1, v ∈ vs1) :
    RL L K W (tLc2 wi g tt wi1 g1 tt1 te vs vs1) fun ρ S R Q => wI ρ S R fun ds C S1 =>
      compO (fun d ρ S K => wG d ρ S xNo K) wT (fun ρ S acc K => wI1 ρ S xNo fun ds2 C2 S2 => compL (fun d ρ S K => wG1 d ρ S xNo K) wT1 (fun ρ S K => wE ρ S xNo K) (fun acc => acc.length < sizeLine) C2 K (delVs ρ vs1) ds2 S2 acc) C Q (delVs ρ vs) ds S1 [] := fun σ H ρ S O R Q Q' A hw k => by
  refine hI σ H ρ S O R _ _ A hw fun J H1 ds C S1 O1 it z s1 e1 q1 => ?_
  intro Dl hD
  have env1 : REnv K O1 H1 (delVs ρ vs) (wipe σ vs) := (A.env.mono (A.mo e1)).dels vs
  refine ⟨fun i m H' => m = ds.length - i ∧ i ≤ ds.length ∧ ∃ S' O' acc accv, Sok K S' O' H' ∧ Ev S1 O1 H1 S' O' H' ∧ O' Dl ∧ S' Dl = none ∧ H' Dl = some (.lst accv) ∧ accv.length ≤ sizeLine ∧ Rps K O' H' accv acc ∧
      compO (fun d ρ S K => wG d ρ S xNo K) wT (fun ρ S acc K => wI1 ρ S xNo fun ds2 C2 S2 => compL (fun d ρ S K => wG1 d ρ S xNo K) wT1 (fun ρ S K => wE ρ S xNo K) (fun acc => acc.length < sizeLine) C2 K (delVs ρ vs1) ds2 S2 acc) C Q (delVs ρ vs) (ds.drop i) S' acc,
    ⟨ds.length, rfl, Nat.zero_le _, S1, oadd O1 Dl, [], [], s1.resv hD, ev_res hD s1, .inr rfl, s1.noneH hD, upd_same, Nat.zero_le _, .nil, q1⟩, ?_⟩
  rintro i m H' ⟨rfl, hi, S', O', acc, accv, s', e', hO, hS, hH, hl, hr, q⟩
  by_cases hlt : i < ds.length
  · right
    rw [drop_cons hlt] at q
    obtain ⟨c, q⟩ := q
    obtain ⟨go, yl⟩ := it.go i S' O' H' s' (e'.mo s1) c hlt
    refine ⟨go, fun H2 => ∃ m', m' < ds.length - i ∧ _, fun H2 h => h, fun x H2 y => ?_⟩
    obtain ⟨d, hd, rx, s2, e2⟩ := yl x H2 y
    rw [List.getElem?_eq_getElem hlt] at hd
    cases hd
    have ee2 := e'.trans s' e2
    refine hG x _ (wipe σ vs) H2 (delVs ρ vs) S' O' _ _ (At.no s2 (env1.mono (ee2.mo s1))) rx q fun σ3 H3 ρ3 S3 O3 s3 e3 n3 i3 q3 => ?_
    have ee3 := e2.trans s2 e3
    refine ⟨by rw [i3 vs hv, wipe_idem], ?_⟩
    refine hT σ3 H3 ρ3 S3 O3 _ _ (At.no s3 n3) q3 fun b H4 S4 O4 s4 e4 q4 => ?_
    have ee4 := ee3.trans s3 e4
    have hO4 := (ee4.res _ hO hS).1
    have hS4 := (ee4.res _ hO hS).2
    have hH4 := ee4.keep _ _ hH hS
    have hr4 := hr.mono (ee4.mo s')
    have eS4 := e'.trans s' ee4
    cases b with
    | false =>
      rw [if_neg Bool.false_ne_true] at q4 ⊢
      exact ⟨ds.length - (i + 1), by omega, rfl, hlt, S4, O4, acc, accv, s4, eS4, hO4, hS4, hH4, hl, hr4, q4⟩
    | true =>
      rw [if_pos rfl] at q4 ⊢
      have n4 := n3.mono (e4.mo s3)
      refine hI1 σ3 H4 ρ3 S4 O4 xNo _ _ (At.no s4 n4) q4 fun J1 H5 ds2 C2 S5 O5 it1 z1 s5 e5 q5 => ?_
      have ee5 := ee4.trans s4 e5
      have eS5 := e'.trans s' ee5
      have n5 : REnv K O5 H5 (delVs ρ3 vs1) (wipe σ3 vs1) := (n4.mono (e5.mo s4)).dels vs1
      refine ⟨fun j k' H6 => k' = ds2.length - j ∧ j ≤ ds2.length ∧ ∃ S6 O6 acc6 accv6, Sok K S6 O6 H6 ∧ Ev S1 O1 H1 S6 O6 H6 ∧ Mo O5 H5 O6 H6 ∧ O6 Dl ∧ S6 Dl = none ∧ H6 Dl = some (.lst accv6) ∧ accv6.length ≤ sizeLine ∧ Rps K O6 H6 accv6 acc6 ∧
          compL (fun d ρ S K => wG1 d ρ S xNo K) wT1 (fun ρ S K => wE ρ S xNo K) (fun acc => acc.length < sizeLine) C2 (fun acc' S3 => compO (fun d ρ S K => wG d ρ S xNo K) wT (fun ρ S acc K => wI1 ρ S xNo fun ds2 C2 S2 => compL (fun d ρ S K => wG1 d ρ S xNo K) wT1 (fun ρ S K => wE ρ S xNo K) (fun acc => acc.length < sizeLine) C2 K (delVs ρ vs1) ds2 S2 acc) C Q (delVs ρ vs) (ds.drop (i + 1)) S3 acc') (delVs ρ3 vs1) (ds2.drop j) S6 acc6,
        ⟨ds2.length, rfl, Nat.zero_le _, S5, O5, acc, accv, s5, eS5, .refl, (ee5.res _ hO hS).1, (ee5.res _ hO hS).2, ee5.keep _ _ hH hS, hl, hr.mono (ee5.mo s'), q5⟩, ?_⟩
      rintro j k' H6 ⟨rfl, hj, S6, O6, acc6, accv6, s6, eS6, m6, hO6, hS6, hH6, hl6, hr6, q6⟩
      by_cases hlt1 : j < ds2.length
      · right
        rw [drop_cons hlt1] at q6
        obtain ⟨c6, q6⟩ := q6
        obtain ⟨go1, yl1⟩ := it1.go j S6 O6 H6 s6 m6 c6 hlt1
        refine ⟨go1, fun H7 => ∃ k'', k'' < ds2.length - j ∧ _, fun H7 h => h, fun x7 H7 y7 => ?_⟩
        obtain ⟨d7, hd7, rx7, s7, e7⟩ := yl1 x7 H7 y7
        rw [List.getElem?_eq_getElem hlt1] at hd7
        cases hd7
        have m7 : Mo O5 H5 O6 H7 := ⟨fun a u h n => (e7.mo s6).k a u (m6.k a u h n) (fun z => n (m6.o a u h z)), fun a u h n => (e7.mo s6).t a u (m6.t a u h n) n, fun a u h z => m6.o a u h z⟩
        refine hG1 x7 _ (wipe σ3 vs1) H7 (delVs ρ3 vs1) S6 O6 _ _ (At.no s7 (n5.mono m7)) rx7 q6 fun σ8 H8 ρ8 S8 O8 s8 e8 n8 i8 q8 => ?_
        have ee8 := e7.trans s7 e8
        refine ⟨by rw [i8 vs1 hv1, wipe_idem], ?_⟩
        refine hT1 σ8 H8 ρ8 S8 O8 _ _ (At.no s8 n8) q8 fun b H9 S9 O9 s9 e9 q9 => ?_
        have ee9 := ee8.trans s8 e9
        have mtr : ∀ {O2 : Ow} {H2 : Hp}, Mo O6 H6 O2 H2 → Mo O5 H5 O2 H2 := fun {O2 H2} m => ⟨fun a u h n => m.k a u (m6.k a u h n) (fun z => n (m6.o a u h z)), fun a u h n => m.t a u (m6.t a u h n) n, fun a u h z => by
          cases q : H6 a with
          | none => by_cases hn : ∃ xs, u = .lst xs
                    · obtain ⟨xs, rfl⟩ := hn
                      by_cases ho : O5 a
                      · exact ho
                      · rw [m6.k a _ h ho] at q; cases q
                    · rw [m6.t a u h fun xs e => hn ⟨xs, e⟩] at q; cases q
          | some u' =>
            have := m.o a u' q z
            exact m6.o a u h this⟩
        cases b with
        | false =>
          rw [if_neg Bool.false_ne_true] at q9 ⊢
          exact ⟨ds2.length - (j + 1), by omega, rfl, hlt1, S9, O9, acc6, accv6, s9, eS6.trans s6 ee9, mtr (ee9.mo s6), (ee9.res _ hO6 hS6).1, (ee9.res _ hO6 hS6).2, ee9.keep _ _ hH6 hS6, hl6, hr6.mono (ee9.mo s6), q9⟩
        | true =>
          rw [if_pos rfl] at q9 ⊢
          refine hE.go (At.no s9 (n8.mono (e9.mo s8))) q9 fun y H10 dy S10 O10 r10 A10 e10 q10 => ?_
          have ee10 := ee9.trans s9 e10
          have hO10 := (ee10.res _ hO6 hS6).1
          have hS10 := (ee10.res _ hO6 hS6).2
          have hH10 := ee10.keep _ _ hH6 hS6
          have hr10 := hr6.mono (ee10.mo s6)
          have hlen : accv6.length < sizeLine := by rw [hr6.len]; exact q10.1
          refine ⟨accv6, hH10, hlen, ds2.length - (j + 1), by omega, rfl, hlt1, S10, O10, acc6 ++ [dy], accv6 ++ [y], A10.sok.wres hH10 hO10 hS10, ev_wres (eS6.trans s6 ee10) hD, ?_, hO10, hS10, upd_same, by rw [List.length_append]; exact hlen, (hr10.append (.cons r10 .nil)).mono (mo_write hH10 hO10), q10.2⟩
          have mm := mtr (ee10.mo s6)
          have dl5 : ∀ a u, H5 a = some u → ¬ O5 a → a ≠ Dl := fun a u h n e => by
            subst e
            exact n (m6.o _ u h hO6)
          exact ⟨fun a u h n => by rw [upd_ne (dl5 a u h n)]; exact mm.k a u h n, fun a u h n => by
            rw [upd_ne fun e => ?_]
            · exact mm.t a u h n
            · subst e
              have := mm.t _ u h n
              rw [hH10] at this; cases this; exact n _ rfl, mm.o⟩
      · left
        have ej : j = ds2.length := by omega
        subst ej
        rw [List.drop_length] at q6
        refine ⟨it1.stop _ S6 O6 H6 s6 m6 q6.1 rfl, ds.length - (i + 1), by omega, rfl, hlt, S6, O6, acc6, accv6, s6, eS6, hO6, hS6, hH6, hl6, hr6, q6.2⟩
  · left
    have ei : i = ds.length := by omega
    subst ei
    rw [List.drop_length] at q
    exact ⟨it.stop _ S' O' H' s' (e'.mo s1) q.1 rfl, k Dl accv H' acc S' O' (e1.there _ hD) hO hS hH hl hr s' (e1.trans s1 e') q.2⟩

/-! ### statements -/
structure AtS (L : Lnk) (K : PySem.W.Frag) (W : WX) (σ : L2.St) (H : Hp) (ρ : Env) (S : Sto) (O : Ow) (X : XS) : Prop where
  sok : Sok K S O H
  env : REnv K O H ρ σ
  x : ∀ k d σ' ρ' S' O' H' c dd, Sok K S' O' H' → Ev S O H S' O' H' → REnv K O' H' ρ' σ' → L.xr O' H' k d c dd → X k d ρ' S' → W c dd σ' H'
/-- the wanted ends, over data, of a state (S, O, H) on -/
structure EndsOk (K : PySem.W.Frag) (S : Sto) (O : Ow) (H : Hp) (E : DEnd) (D : Ends) : Prop where
  nx : ∀ σ' H' ρ' S' O', Sok K S' O' H' → Ev S O H S' O' H' → REnv K O' H' ρ' σ' → E.nx ρ' S' → D.nx σ' H'
  rt : ∀ v H' d S' O', Rp K O' H' v d → Sok K S' O' H' → Ev S O H S' O' H' → E.rt d S' → D.rt v H'
  bk : ∀ σ' H' ρ' S' O', Sok K S' O' H' → Ev S O H S' O' H' → REnv K O' H' ρ' σ' → E.bk ρ' S' → D.bk σ' H'
  ct : ∀ σ' H' ρ' S' O', Sok K S' O' H' → Ev S O H S' O' H' → REnv K O' H' ρ' σ' → E.ct ρ' S' → D.ct σ' H'
abbrev WS' := DEnd → XS → Env → Sto → Prop
def RS (L : Lnk) (K : PySem.W.Frag) (W : WX) (t : TS) (w : WS') : Prop :=
  ∀ (σ : L2.St) (H : Hp) (ρ : Env) (S : Sto) (O : Ow) (X : XS) (E : DEnd) (D : Ends), AtS L K W σ H ρ S O X → w E X ρ S → EndsOk K S O H E D → t D σ H
def tOS (L : Lnk) (K : PySem.W.Frag) (W : WX) (w : WS') : TS := fun D σ H => ∃ ρ S O X E, AtS L K W σ H ρ S O X ∧ w E X ρ S ∧ EndsOk K S O H E D
theorem rs_tO {w : WS'} : RS L K W (tOS L K W w) w := fun σ H ρ S O X E D A hw k => ⟨ρ, S, O, X, E, A, hw, k⟩
theorem _root_.L2.PS.can {st : Stmt} {t : TS} {w : WS'} (h : PS X st t) (r : RS L K W t w) : PS X st (tOS L K W w) := ⟨fun pins s σ H D I ⟨ρ, S, O, XX, E, A, hw, k⟩ => h.run pins s σ H D I (r σ H ρ S O XX E D A hw k)⟩
theorem _root_.L2.PSs.can {st : List Stmt} {t : TS} {w : WS'} (h : PSs X st t) (r : RS L K W t w) : PSs X st (tOS L K W w) := ⟨fun pins s σ H D I ⟨ρ, S, O, XX, E, A, hw, k⟩ => h.run pins s σ H D I (r σ H ρ S O XX E D A hw k)⟩
section
variable {σ : L2.St} {H H1 : Hp} {ρ ρ1 : Env} {S S1 : Sto} {O O1 : Ow} {XX : XS} {E : DEnd} {D : Ends}
theorem AtS.ex (A : AtS L K W σ H ρ S O XX) : At L K W σ H ρ S O (fun k d S => XX k d ρ S) :=
  ⟨A.sok, A.env, fun k d S' O' H' c dd s e x r => A.x k d σ ρ S' O' H' c dd s e (A.env.mono (e.mo A.sok)) x r⟩
theorem AtS.next {σ1 : L2.St} (A : AtS L K W σ H ρ S O XX) (s : Sok K S1 O1 H1) (e : Ev S O H S1 O1 H1) (n : REnv K O1 H1 ρ1 σ1) : AtS L K W σ1 H1 ρ1 S1 O1 XX :=
  ⟨s, n, fun k d σ' ρ' S' O' H' c dd s' e' n' x r => A.x k d σ' ρ' S' O' H' c dd s' (e.trans s e') n' x r⟩
theorem EndsOk.next (k : EndsOk K S O H E D) (s : Sok K S1 O1 H1) (e : Ev S O H S1 O1 H1) : EndsOk K S1 O1 H1 E D :=
  ⟨fun σ' H' ρ' S' O' s' e' n q => k.nx σ' H' ρ' S' O' s' (e.trans s e') n q, fun v H' d S' O' r s' e' q => k.rt v H' d S' O' r s' (e.trans s e') q, fun σ' H' ρ' S' O' s' e' n q => k.bk σ' H' ρ' S' O' s' (e.trans s e') n q, fun σ' H' ρ' S' O' s' e' n q => k.ct σ' H' ρ' S' O' s' (e.trans s e') n q⟩
end
theorem rs_asg {te : TE} {g : TG} {vs : List Nat} {wG : WG} (h : RE L K W te w) (hg : RG L K W vs g wG) : RS L K W (tAsg te g) fun E X ρ S => w ρ S (fun k d S => X k d ρ S) fun d S1 => wG d ρ S1 xNo E.nx := fun σ H ρ S O X E D A hw k => by
  refine h.go A.ex hw fun v H1 d S1 O1 r1 A1 e1 q1 => ?_
  exact hg v d σ H1 ρ S1 O1 _ _ (At.no A1.sok A1.env) r1 q1 fun σ2 H2 ρ2 S2 O2 s2 e2 n2 _ q2 => k.nx σ2 H2 ρ2 S2 O2 s2 (e1.trans A1.sok e2) n2 q2
theorem rs_ret {te : TE} (h : RE L K W te w) : RS L K W (tRet te) fun E X ρ S => w ρ S (fun k d S => X k d ρ S) fun d S1 => E.rt d S1 := fun σ H ρ S O X E D A hw k =>
  h.go A.ex hw fun v H1 d S1 O1 r1 A1 e1 q1 => k.rt v H1 d S1 O1 r1 A1.sok e1 q1
theorem rs_retF {te : TE} (h : RE L K W te w) : RS L K W (tRet te) fun E X ρ S => w ρ S (fun k d S => X k d ρ S) fun d S1 => ∃ p ds, d = .ref p ∧ S1 p = some (.lst ds) ∧ E.rt (.lst ds) (sdel S1 p) := fun σ H ρ S O X E D A hw k => by
  refine h.go A.ex hw fun v H1 d S1 O1 r1 A1 e1 q1 => ?_
  obtain ⟨p, ds, rfl, hs, q⟩ := q1
  cases r1
  obtain ⟨ho, xs, h1, z, h2⟩ := A1.sok.dom _ _ hs
  have s' : Sok K (sdel S1 p) (orem O1 p) H1 := A1.sok.sdel.free sdel_same
  refine k.rt _ H1 _ _ (orem O1 p) (.lst h1 (fun q => q.2 rfl) z (h2.mono mo_free)) s' ⟨e1.keep, fun a h => e1.own a h.1, fun a h n => ?_, e1.there⟩ q
  have := e1.res a h n
  have ne : a ≠ p := fun q => by rw [q] at this; rw [hs] at this; cases this.2
  exact ⟨⟨this.1, ne⟩, by rw [sdel_ne ne]; exact this.2⟩
theorem rs_retN : RS L K W tRetN fun E _ _ S => E.rt .non S := fun σ H ρ S O X E D A hw k => k.rt _ H _ S O .non A.sok .refl hw
theorem rs_ex {te : TE} (h : RE L K W te w) : RS L K W (tDrop te) fun E X ρ S => w ρ S (fun k d S => X k d ρ S) fun _ S1 => E.nx ρ S1 := fun σ H ρ S O X E D A hw k =>
  h.go A.ex hw fun v H1 d S1 O1 r1 A1 e1 q1 => k.nx σ H1 ρ S1 O1 A1.sok e1 A1.env q1
theorem rs_nx : RS L K W tNext fun E _ ρ S => E.nx ρ S := fun σ H ρ S O X E D A hw k => k.nx σ H ρ S O A.sok .refl A.env hw
theorem rs_bk : RS L K W tBreak fun E _ ρ S => E.bk ρ S := fun σ H ρ S O X E D A hw k => k.bk σ H ρ S O A.sok .refl A.env hw
theorem rs_ct : RS L K W tCont fun E _ ρ S => E.ct ρ S := fun σ H ρ S O X E D A hw k => k.ct σ H ρ S O A.sok .refl A.env hw
theorem rs_seq {t u : TS} {w1 w2 : WS'} (h1 : RS L K W t w1) (h2 : RS L K W u w2) : RS L K W (tSeq t u) fun E X ρ S => w1 { E with nx := w2 E X } X ρ S := fun σ H ρ S O X E D A hw k =>
  h1 σ H ρ S O X _ _ A hw ⟨fun σ' H' ρ' S' O' s e n q => h2 σ' H' ρ' S' O' X E D (A.next s e n) q (k.next s e), k.rt, k.bk, k.ct⟩
theorem rs_if {c : TT} {t u : TS} {w1 w2 : WS'} (hc : RT L K W c w) (h1 : RS L K W t w1) (h2 : RS L K W u w2) : RS L K W (tIfS c t u) fun E X ρ S => w ρ S (fun k d S => X k d ρ S) fun d S1 => tstD d fun z => if z = true then w1 E X ρ S1 else w2 E X ρ S1 := fun σ H ρ S O X E D A hw k => by
  refine hc.go (Q := fun z S1 => if z = true then w1 E X ρ S1 else w2 E X ρ S1) A.ex hw fun b H1 S1 O1 A1 e1 q => ?_
  cases b with
  | true => exact h1 σ H1 ρ S1 O1 X E D (A.next A1.sok e1 A1.env) q (k.next A1.sok e1)
  | false => exact h2 σ H1 ρ S1 O1 X E D (A.next A1.sok e1 A1.env) q (k.next A1.sok e1)
theorem rs_whl {c : TT} {t : TS} {w1 : WS'} (hc : RT L K W c w) (h1 : RS L K W t w1) : RS L K W (tWhile c t) fun E X ρ S => ∃ W : Nat → Env → Sto → Prop, (∃ m, W m ρ S) ∧ ∀ m ρ S, W m ρ S → w ρ S (fun k d S => X k d ρ S) fun d S1 => tstD d fun z =>
      if z = true then w1 { nx := fun ρ' S' => ∃ m', m' < m ∧ W m' ρ' S', ct := fun ρ' S' => ∃ m', m' < m ∧ W m' ρ' S', bk := E.nx, rt := E.rt } X ρ S1 else E.nx ρ S1 := fun σ H ρ S O X E D A hw k => by
  obtain ⟨Wd, ⟨m0, w0⟩, turn⟩ := hw
  refine ⟨fun m σ' H' => ∃ ρ' S' O', Sok K S' O' H' ∧ Ev S O H S' O' H' ∧ REnv K O' H' ρ' σ' ∧ Wd m ρ' S', ⟨m0, ρ, S, O, A.sok, .refl, A.env, w0⟩, ?_⟩
  rintro m σ' H' ⟨ρ', S', O', s', e', n', w'⟩
  have A' := A.next s' e' n'
  refine hc.go (Q := fun z S1 => if z = true then w1 { nx := fun ρ' S' => ∃ m', m' < m ∧ Wd m' ρ' S', ct := fun ρ' S' => ∃ m', m' < m ∧ Wd m' ρ' S', bk := E.nx, rt := E.rt } X ρ' S1 else E.nx ρ' S1) A'.ex (turn m ρ' S' w') fun b H1 S1 O1 A1 e1 q => ?_
  have ee := e'.trans s' e1
  cases b with
  | false => exact k.nx σ' H1 ρ' S1 O1 A1.sok ee A1.env q
  | true =>
    rw [if_pos rfl] at q ⊢
    refine ⟨fun σ2 H2 => ∃ m', m' < m ∧ ∃ ρ' S' O', Sok K S' O' H2 ∧ Ev S O H S' O' H2 ∧ REnv K O' H2 ρ' σ2 ∧ Wd m' ρ' S', fun σ2 H2 h => h, ?_⟩
    refine h1 σ' H1 ρ' S1 O1 X _ _ (A.next A1.sok ee A1.env) q ⟨fun σ2 H2 ρ2 S2 O2 s2 e2 n2 q2 => ?_, (k.next A1.sok ee).rt, (k.next A1.sok ee).nx, fun σ2 H2 ρ2 S2 O2 s2 e2 n2 q2 => ?_⟩
    · obtain ⟨m', hm, q2⟩ := q2
      exact ⟨m', hm, ρ2, S2, O2, s2, ee.trans A1.sok e2, n2, q2⟩
    · obtain ⟨m', hm, q2⟩ := q2
      exact ⟨m', hm, ρ2, S2, O2, s2, ee.trans A1.sok e2, n2, q2⟩
theorem rs_for {wi : TI} {g : TG} {tb : TS} {ts : List Nat} {wI : WI} {wG : WG} {wB : WS'} (hI : RI L K W wi wI) (hG : RG L K W ts g wG) (hB : RS L K W tb wB) :
    RS L K W (tFor wi g tb) fun E X ρ S => wI ρ S (fun k d S => X k d ρ S) fun ds C S1 => forL (fun d ρ S K => wG d ρ S xNo K) (fun E' ρ S => wB E' X ρ S) C E ds ρ S1 := fun σ H ρ S O X E D A hw k => by
  refine hI σ H ρ S O _ _ _ A.ex hw fun J H1 ds C S1 O1 it z s1 e1 q1 => ?_
  refine ⟨fun i m σ' H' => m = ds.length - i ∧ i ≤ ds.length ∧ ∃ ρ' S' O', Sok K S' O' H' ∧ Ev S1 O1 H1 S' O' H' ∧ REnv K O' H' ρ' σ' ∧ forL (fun d ρ S K => wG d ρ S xNo K) (fun E' ρ S => wB E' X ρ S) C E (ds.drop i) ρ' S',
    ⟨ds.length, rfl, Nat.zero_le _, ρ, S1, O1, s1, .refl, A.env.mono (e1.mo A.sok), q1⟩, ?_⟩
  rintro i m σ' H' ⟨rfl, hi, ρ', S', O', s', e', n', q⟩
  have et := e1.trans s1 e'
  by_cases hlt : i < ds.length
  · right
    rw [drop_cons hlt] at q
    obtain ⟨c, q⟩ := q
    obtain ⟨go, yl⟩ := it.go i S' O' H' s' (e'.mo s1) c hlt
    refine ⟨go, fun σ2 H2 => ∃ m', m' < ds.length - i ∧ _, fun σ2 H2 h => h, fun x H2 y => ?_⟩
    obtain ⟨d, hd, rx, s2, e2⟩ := yl x H2 y
    rw [List.getElem?_eq_getElem hlt] at hd
    cases hd
    refine hG x _ σ' H2 ρ' S' O' _ _ (At.no s2 (n'.mono (e2.mo s'))) rx q fun σ3 H3 ρ3 S3 O3 s3 e3 n3 i3 q3 => ?_
    have ee3 := (et.trans s' e2).trans s2 e3
    have ei3 := (e'.trans s' e2).trans s2 e3
    have k3 := k.next s3 ee3
    refine hB σ3 H3 ρ3 S3 O3 X _ _ (A.next s3 ee3 n3) q3 ⟨fun σ4 H4 ρ4 S4 O4 s4 e4 n4 q4 => ?_, k3.rt, k3.nx, fun σ4 H4 ρ4 S4 O4 s4 e4 n4 q4 => ?_⟩
    · exact ⟨ds.length - (i + 1), by omega, rfl, hlt, ρ4, S4, O4, s4, ei3.trans s3 e4, n4, q4⟩
    · exact ⟨ds.length - (i + 1), by omega, rfl, hlt, ρ4, S4, O4, s4, ei3.trans s3 e4, n4, q4⟩
  · left
    have ei : i = ds.length := by omega
    subst ei
    rw [List.drop_length] at q
    exact ⟨it.stop _ S' O' H' s' (e'.mo s1) q.1 rfl, k.nx σ' H' ρ' S' O' s' et n' q.2⟩
theorem rs_aug {i : Nat} {te : TE} {op : BOp} {r : R2} (h : RE L K W te w) (hr : Hr K r fun _ dx dy P => ∃ a b, dx = .int a ∧ dy = .int b ∧ binD op dx dy P) : RS L K W (tAug i te r) fun E X ρ S => match getV ρ i with
    | some x => w ρ S (fun k d S => X k d ρ S) fun y S1 => ∃ a b, x = .int a ∧ y = .int b ∧ binD op x y fun z => E.nx (setV ρ i z) S1
    | none => False := fun σ H ρ S O X E D A hw k => by
  cases e : getV ρ i with
  | none => simp only [e] at hw
  | some x =>
    simp only [e] at hw
    obtain ⟨v, hv, rv⟩ := A.env.get e
    refine ⟨v, hv, h.go A.ex hw fun y H1 dy S1 O1 r1 A1 e1 q1 => ?_⟩
    refine hr v y x dy H1 S1 O1 (fun z => E.nx (setV ρ i z) S1) _ A1.sok (rv.mono (e1.mo A.sok)) r1 q1 fun z H2 dz r2 s2 e2 q2 => ?_
    exact k.nx _ H2 _ S1 O1 s2 (e1.trans A1.sok e2) ((A1.env.mono (e2.mo A1.sok)).set i r2) q2
end
end DL

/-! DL9: own rules: tuple[lo:hi:step]; if-expressions as tests; calls without arguments; built-ins over data. -/
namespace DL
open PySem PySem.Spec PyProof.Rows L2
section
variable {prog : Program} {w : World} {A : Around} {E : Value → Shared → Prop} {s : Shared}
theorem sliceApplied_step {sl : Addr} {vl vu vs : Value} {lo hi : Option Int} {st : Int} {n : Nat} {Q : Int × Int × Nat → Shared → Prop} (hs : s.heap.IsSliceOf sl vl vu vs) (pl : IsPart vl lo) (pu : IsPart vu hi) (ps : IsPart vs (some st)) (h0 : st ≠ 0)
    (h : Q ((Builtin.Slice.sliceAdjust lo hi st (n : Int)).1, st, Builtin.Slice.slicePlaces (Builtin.Slice.sliceAdjust lo hi st (n : Int)).1 (Builtin.Slice.sliceAdjust lo hi st (n : Int)).2 st) s) : wpAny (model prog w) A (Builtin.Slice.sliceApplied (.ref sl) (pure (n : Int))) Q E s := by
  obtain ⟨os, hos, hcs, hds⟩ := id hs
  unfold Builtin.Slice.sliceApplied Builtin.Slice.sliceFields
  refine wpAny_bind (wpAny_bind (wpAny_field hos hds (x := vl) rfl (wpAny_bind (wpAny_field hos hds (x := vu) rfl (wpAny_bind (wpAny_field hos hds (x := vs) rfl (wpAny_pure ?_)))))))
  refine wpAny_bind (HT.slicePart_ ps ?_)
  show wpAny _ _ (if (st == 0) = true then _ else _) _ _ s
  rw [if_neg (by simpa using h0)]
  refine wpAny_bind (HT.slicePart_ pl (wpAny_bind (HT.slicePart_ pu (wpAny_bind (wpAny_pure ?_)))))
  show wpAny _ _ (match Builtin.Slice.sliceAdjust lo hi st (n : Int) with | (lo, hi) => pure (lo, st, Builtin.Slice.slicePlaces lo hi st)) _ _ s
  exact wpAny_pure h
theorem adj_pos (lo hi : Option Int) (st : Int) (n : Nat) (h : 0 < st) : 0 ≤ (Builtin.Slice.sliceAdjust lo hi st (n : Int)).1 ∧ (Builtin.Slice.sliceAdjust lo hi st (n : Int)).2 ≤ n := by
  have hn : ¬ st < 0 := by omega
  unfold Builtin.Slice.sliceAdjust
  simp only [hn, if_false]
  cases lo <;> cases hi <;> simp only [] <;> constructor <;> (try split) <;> omega
theorem adj_neg (lo hi : Option Int) (st : Int) (n : Nat) (h : st < 0) : (Builtin.Slice.sliceAdjust lo hi st (n : Int)).1 ≤ (n : Int) - 1 ∧ -1 ≤ (Builtin.Slice.sliceAdjust lo hi st (n : Int)).2 := by
  unfold Builtin.Slice.sliceAdjust
  simp only [h, if_true]
  cases lo <;> cases hi <;> simp only [] <;> constructor <;> (try split) <;> omega
theorem places_le (lo hi : Option Int) (st : Int) (n : Nat) (h0 : st ≠ 0) : Builtin.Slice.slicePlaces (Builtin.Slice.sliceAdjust lo hi st (n : Int)).1 (Builtin.Slice.sliceAdjust lo hi st (n : Int)).2 st ≤ n := by
  have key : ∀ (d k : Int), 1 ≤ k → 0 < d → d ≤ n → (d - 1) / k + 1 ≤ n := fun d k hk h1 h2 => by
    have := Int.ediv_le_self (a := d - 1) k (by omega)
    omega
  unfold Builtin.Slice.slicePlaces
  by_cases hp : st > 0
  · obtain ⟨ha, hb⟩ := adj_pos lo hi st n hp
    revert ha hb
    generalize (Builtin.Slice.sliceAdjust lo hi st (n : Int)).1 = a
    generalize (Builtin.Slice.sliceAdjust lo hi st (n : Int)).2 = b
    intro ha hb
    simp only [hp, if_true]
    split
    · have := key (b - a) st (by omega) (by omega) (by omega)
      omega
    · simp
  · have hn : st < 0 := by omega
    obtain ⟨ha, hb⟩ := adj_neg lo hi st n hn
    revert ha hb
    generalize (Builtin.Slice.sliceAdjust lo hi st (n : Int)).1 = a
    generalize (Builtin.Slice.sliceAdjust lo hi st (n : Int)).2 = b
    intro ha hb
    simp only [hp, if_false]
    split
    · have := key (a - b) (-st) (by omega) (by omega) (by omega)
      omega
    · simp
theorem pick_len {α : Type} (xs : List α) (lo hi : Option Int) (st : Int) (h0 : st ≠ 0) : (pick xs lo hi st).length ≤ xs.length := by
  unfold pick
  refine Nat.le_trans (List.length_filterMap_le _ _) ?_
  rw [List.length_range]
  exact places_le lo hi st xs.length h0
theorem getItem_tuple_step {t sl : Addr} {its : List Value} {vl vu vs : Value} {lo hi : Option Int} {st : Int} {Q : Value → Shared → Prop} (ht : IsTup s.heap t its.toArray) (hs : s.heap.IsSliceOf sl vl vu vs) (pl : IsPart vl lo) (pu : IsPart vu hi) (ps : IsPart vs (some st)) (h0 : st ≠ 0) (h1 : st ≠ 1)
    (h : Q (.ref s.heap.objs.size) { s with heap := s.heap.push { cls := .type "tuple", data := .seq (pick its lo hi st).toArray } })
    (hsz : its.length ≤ sizeLine) : wpAny (model prog w) A (getItem (.ref t) (.ref sl)) Q E s := by
  have htake : sizeOk (.seq (pick its lo hi st).toArray) := by
    show (pick its lo hi st).toArray.size ≤ sizeLine
    rw [List.size_toArray]
    exact Nat.le_trans (pick_len its lo hi st h0) hsz
  obtain ⟨os, hos, hcs, hds⟩ := id hs
  have hTs : s.TypeIs (.ref sl) "slice" := ⟨os, hos, hcs⟩
  unfold getItem
  try with_reducible refine wpAny_holding ?_
  first | refine wpAny_bind (wpAny_pure ?_) | skip
  refine wpAny_bind (wpAny_sequenceKey ht.typeIs (by decide) ?_)
  refine wpAny_bind (wpAny_callSpecial?_slot (name := Str.ofString "__getitem__") ht.typeIs PyProof.Rows.slot_tuple_getitem
    (wpAny_call_entry PyProof.Rows.slot_tuple_getitem ht.typeIs entry_tuple_getitem ?_ (args_tuple_getitem _ _)))
  show wpAny _ _ (Builtin.Tuple.tupleItemsOf (.ref t) >>= _) _ _ s
  refine wpAny_bind (tupleItemsOf_ ht ?_)
  refine wpAny_bind (wpAny_typeOf hTs ?_)
  rw [if_pos (by decide)]
  refine wpAny_bind (sliceApplied_step hs pl pu ps h0 ?_)
  have hno : ¬ (((Builtin.Slice.sliceAdjust lo hi st (its.toArray.size : Int)).1 == 0 && st == 1 && Builtin.Slice.slicePlaces (Builtin.Slice.sliceAdjust lo hi st (its.toArray.size : Int)).1 (Builtin.Slice.sliceAdjust lo hi st (its.toArray.size : Int)).2 st == its.toArray.size) = true) := by
    intro q
    rw [Bool.and_eq_true, Bool.and_eq_true] at q
    exact h1 (eq_of_beq q.1.2)
  show wpAny _ _ (if ((Builtin.Slice.sliceAdjust lo hi st (its.toArray.size : Int)).1 == 0 && st == 1 && Builtin.Slice.slicePlaces (Builtin.Slice.sliceAdjust lo hi st (its.toArray.size : Int)).1 (Builtin.Slice.sliceAdjust lo hi st (its.toArray.size : Int)).2 st == its.toArray.size) = true then _ else _) _ _ s
  rw [if_neg hno]
  have e : ((List.range (Builtin.Slice.slicePlaces (Builtin.Slice.sliceAdjust lo hi st (its.toArray.size : Int)).1 (Builtin.Slice.sliceAdjust lo hi st (its.toArray.size : Int)).2 st)).filterMap fun (k : Nat) => its.toArray[((Builtin.Slice.sliceAdjust lo hi st (its.toArray.size : Int)).1 + (k : Int) * st).toNat]?).toArray = (pick its lo hi st).toArray := by
    simp [pick]
  rw [e]
  first
    | exact wpAny_bind (m := Builtin.Tuple.tupleExact _) (wpAny_newObj_type (wpAny_pure ⟨_, rfl, wpAny_pure h⟩) htake)
    | exact wpAny_bind (m := Builtin.Tuple.tupleExact _) (wpAny_newObj_type (wpAny_bind (wpAny_pure (wpAny_pure ⟨_, rfl, wpAny_pure h⟩))) htake)
    | exact wpAny_bind (wpAny_bind (m := Builtin.Tuple.tupleExact _) (wpAny_newObj_type (wpAny_pure (wpAny_pure ⟨_, rfl, wpAny_pure h⟩)) htake))
    | exact wpAny_bind (wpAny_bind (m := Builtin.Tuple.tupleExact _) (wpAny_newObj_type (wpAny_pure ⟨_, rfl, wpAny_pure h⟩) htake))
end
theorem filterMap_two {α β : Type} {R : α → β → Prop} {f : Nat → Option α} {g : Nat → Option β} (h : ∀ k, (f k = none ∧ g k = none) ∨ ∃ a b, f k = some a ∧ g k = some b ∧ R a b) : ∀ l : List Nat, Paired R (l.filterMap f) (l.filterMap g)
  | [] => .nil
  | k :: l => by
    rcases h k with ⟨e1, e2⟩ | ⟨a, b, e1, e2, r⟩
    · rw [List.filterMap_cons_none e1, List.filterMap_cons_none e2]; exact filterMap_two h l
    · rw [List.filterMap_cons_some e1, List.filterMap_cons_some e2]; exact .cons r (filterMap_two h l)
theorem vals_pick {xs : List V} {us : List Value} (r : Vals xs us) (lo hi : Option Int) (st : Int) : Vals (pick xs lo hi st) (pick us lo hi st) := by
  unfold pick
  rw [r.length]
  refine filterMap_two (fun k => ?_) _
  generalize (_ : Int).toNat = i
  cases e : xs[i]? with
  | none => exact .inl ⟨rfl, r.none_of e⟩
  | some a => obtain ⟨u, h1, h2⟩ := r.get e; exact .inr ⟨a, u, rfl, h1, h2⟩
theorem rps_of_paired {K : PySem.W.Frag} {O : Ow} {H : Hp} : ∀ {xs : List V} {ds : List D}, Paired (Rp K O H) xs ds → Rps K O H xs ds
  | _, _, .nil => .nil
  | _, _, .cons r t => .cons r (rps_of_paired t)
theorem Rps.pick {K : PySem.W.Frag} {O : Ow} {H : Hp} {xs : List V} {ds : List D} (r : Rps K O H xs ds) (lo hi : Option Int) (st : Int) : Rps K O H (DL.pick xs lo hi st) (DL.pick ds lo hi st) := by
  unfold DL.pick
  rw [r.len]
  refine rps_of_paired (filterMap_two (fun k => ?_) _)
  generalize (_ : Int).toNat = i
  cases e : xs[i]? with
  | none =>
    refine .inl ⟨rfl, ?_⟩
    have h1 := r.len
    have h2 := List.getElem?_eq_none_iff.mp e
    exact List.getElem?_eq_none_iff.mpr (by omega)
  | some a => obtain ⟨u, h1, h2⟩ := r.getV e; exact .inr ⟨a, u, rfl, h1, h2⟩
def tStp (K : PySem.W.Frag) (te : TE) (tl th ts : TO) : TE := fun σ H Q => te σ H fun x H1 => tl σ H1 fun l H2 => th σ H2 fun u H3 => ts σ H3 fun o H4 => ∃ a xs k, x = .ref a ∧ o = some k ∧ SqT K H4 a xs ∧ k ≠ 0 ∧ k ≠ 1 ∧ ∀ p, H4 p = none → Q (.ref p) (upd H4 p (.tup (pick xs l u k)))
section
variable {L : Lnk} {K : PySem.W.Frag} {W : WX} {X : Cx}
theorem pe_stp {e st : Expr} {lo hi : Option Expr} {te : TE} {tl th ts : TO} {p3 pos : Pos} (he : PE X e te) (hl : PO X lo tl) (hh : PO X hi th) (hst : PO X (some st) ts) : PE X (.Subscript e (.Slice lo hi (some st) p3) pos) (tStp X.K te tl th ts) := by
  refine ⟨fun pins s σ H Q I h => ?_⟩
  refine Subscript_ (thn (he.run pins s σ H _ I h) fun v s1 ⟨x, H1, I1, r1, q1⟩ => ?_)
  refine wpAny_Slice (thn (hl.run pins s1 σ H1 _ I1 q1) fun vl s2 ⟨l, H2, I2, pl, q2⟩ => ?_)
  refine thn (hh.run pins s2 σ H2 _ I2 q2) fun vu s3 ⟨u, H3, I3, pu, q3⟩ => ?_
  refine thn (hst.run pins s3 σ H3 _ I3 q3) fun vs s4 ⟨o, H4, I4, ps, a, xs, k, ex, eo, hx, h0, h1, q⟩ => ?_
  subst ex eo
  cases r1
  have I5 : Inv X pins σ H4 { s4 with heap := s4.heap.push { cls := .type "slice", data := .fields #[vl, vu, vs] } } := I4.kept (t' := s4.toks) fun b ob q => Heap.get?_push_of_some _ q
  obtain ⟨its, r, ht, hz⟩ := I5.tuple hx
  show wpAny (model X.prog X.w) X.A (subscriptTail e (.Slice lo hi (some st) p3) (.ref a) (.ref s4.heap.objs.size)) (EP X pins σ Q) X.xe { s4 with heap := s4.heap.push { cls := .type "slice", data := .fields #[vl, vu, vs] } }
  refine tail_any (ops := [.ref a, .ref s4.heap.objs.size]) ht.typeIs (PyProof.Rows.slot_tuple_getitem.lookup) ?_ (by with_unfolding_all rfl)
  refine getItem_tuple_step ht (Heap.IsSliceOf.new _ vl vu vs) pl pu ps h0 h1 ?_ (by rw [← r.length]; exact hz)
  refine ⟨.ref _, _, I5.laid (t' := s4.toks) (o := .tup (pick xs l u k)) (fun b ob q => Heap.get?_push_of_some _ q) (Nat.le_refl _) ?_, rfl, q _ (I5.hok.fresh (Nat.le_refl _))⟩
  exact ⟨Nat.le_trans (pick_len _ _ _ _ h0) hz, _, vals_pick r l u k, IsTup.new _ _⟩
theorem re_stp {te : TE} {tl th : TO} {ts : TE} {wa ws : WE'} {wl wh : Env → Sto → XD → (Option Int → Sto → Prop) → Prop} (ha : RE L K W te wa) (hl : RO L K W tl wl) (hh : RO L K W th wh) (hs : RE L K W ts ws) : RE L K W (tStp K te tl th (tPart ts)) fun ρ S R Q => wa ρ S R fun x S1 => wl ρ S1 R fun l S2 => wh ρ S2 R fun h S3 => ws ρ S3 R fun y S4 => match x, y with
    | .tup xs, .int k => k ≠ 0 ∧ k ≠ 1 ∧ Q (.tup (pick xs l h k)) S4
    | _, _ => False := fun σ H ρ S O R Q Q' A hw k => by
  refine ha.go A hw fun x H1 dx S1 O1 r1 A1 e1 q1 => ?_
  refine hl.go A1 q1 fun l H2 S2 O2 A2 e2 q2 => ?_
  refine hh.go A2 q2 fun h H3 S3 O3 A3 e3 q3 => ?_
  refine hs.go A3 q3 fun y H4 dy S4 O4 r4 A4 e4 q4 => ?_
  have r1 := ((r1.mono (A1.mo e2)).mono (A2.mo e3)).mono (A3.mo e4)
  cases dx <;> cases dy <;> try exact q4.elim
  cases r4
  obtain ⟨h0, h1, q⟩ := q4
  cases r1 with
  | tup g1 g2 g3 =>
  rename_i st _ a xs
  have ev := ((e1.trans A1.sok e2).trans A2.sok e3).trans A3.sok e4
  refine ⟨_, rfl, a, xs, _, rfl, rfl, g1, h0, h1, fun p hp => ?_⟩
  exact k _ _ _ S4 O4 (rp_new A4.sok hp (Nat.le_trans (pick_len _ _ _ _ h0) g2) (g3.pick l h _)) (A4.sok.new hp) (ev.trans A4.sok (ev_new hp A4.sok)) q

/-! ### c ? a : b as a test -/
theorem isTrue_ifExp (c a b : Expr) (pos : Pos) (env : PySem.Env) (wh : Sem Value) : isTrue (.IfExp c a b pos) env wh = (do if ← isTrue c env (eval c env) then isTrue a env (eval a env) else isTrue b env (eval b env)) := by first | rfl | simp [isTrue]
theorem pt_ite {c a b : Expr} {tc ta tb : TT} {pos : Pos} (hc : PT X c tc) (ha : PT X a ta) (hb : PT X b tb) : PT X (.IfExp c a b pos) fun σ H Q => tc σ H fun z H1 => if z = true then ta σ H1 Q else tb σ H1 Q := by
  refine ⟨fun pins s σ H Q I h => ?_⟩
  rw [isTrue_ifExp]
  refine wpAny_bind (thn (hc.run pins s σ H _ I h) fun d s1 ⟨H1, I1, q1⟩ => ?_)
  cases d with
  | true => exact ha.run pins s1 σ H1 Q I1 q1
  | false => exact hb.run pins s1 σ H1 Q I1 q1
theorem rt_ite {tc ta tb : TT} {wc wa wb : WE'} (hc : RT L K W tc wc) (ha : RT L K W ta wa) (hb : RT L K W tb wb) : RT L K W (fun σ H Q => tc σ H fun z H1 => if z = true then ta σ H1 Q else tb σ H1 Q) fun ρ S R Q => wc ρ S R fun x S1 => tstD x fun z => if z = true then wa ρ S1 R Q else wb ρ S1 R Q := fun σ H ρ S O R Q Q' A hw k => by
  refine hc.go (Q := fun z S1 => if z = true then wa ρ S1 R (fun d S' => tstD d fun b => Q b S') else wb ρ S1 R (fun d S' => tstD d fun b => Q b S')) A hw fun b H1 S1 O1 A1 e1 q => ?_
  cases b with
  | true => exact ha.go A1 q fun v H2 S2 O2 A2 e2 q2 => k v H2 S2 O2 A2.sok (e1.trans A1.sok e2) q2
  | false => exact hb.go A1 q fun v H2 S2 O2 A2 e2 q2 => k v H2 S2 O2 A2.sok (e1.trans A1.sok e2) q2

/-! ### chains -/
theorem re_chn {ta tb tc : TE} {wa wb wc : WE'} {r r' : R2} {o1 o2 : COp} (ha : RE L K W ta wa) (hb : RE L K W tb wb) (hc : RE L K W tc wc) (h1 : Hr K r fun S dx dy P => cmpD o1 (res S dx) (res S dy) fun z => P (.bl z)) (h2 : Hr K r' fun S dx dy P => cmpD o2 (res S dx) (res S dy) fun z => P (.bl z)) :
    RE L K W (tChain r r' ta tb tc) fun ρ S R Q => wa ρ S R fun x S1 => wb ρ S1 R fun y S2 => cmpD o1 (res S2 x) (res S2 y) fun z => if z = true then wc ρ S2 R fun u S3 => cmpD o2 (res S3 y) (res S3 u) fun v => Q (.bl v) S3 else Q (.bl false) S2 := fun σ H ρ S O R Q Q' A hw k => by
  refine ha.go A hw fun x H1 dx S1 O1 r1 A1 e1 q1 => ?_
  refine hb.go A1 q1 fun y H2 dy S2 O2 r2 A2 e2 q2 => ?_
  have ev := e1.trans A1.sok e2
  refine h1 x y dx dy H2 S2 O2 (fun d => ∃ z, d = .bl z ∧ if z = true then wc ρ S2 R fun u S3 => cmpD o2 (res S3 dy) (res S3 u) fun v => Q (.bl v) S3 else Q (.bl false) S2) _ A2.sok (r1.mono (A1.mo e2)) r2 ?_ fun v H3 d rv s e q => ?_
  · revert q2
    generalize hF : (fun z => if z = true then wc ρ S2 R fun u S3 => cmpD o2 (res S3 dy) (res S3 u) fun v => Q (.bl v) S3 else Q (.bl false) S2) = F
    have : (fun z => ∃ z', D.bl z = .bl z' ∧ if z' = true then wc ρ S2 R fun u S3 => cmpD o2 (res S3 dy) (res S3 u) fun v => Q (.bl v) S3 else Q (.bl false) S2) = F := by
      rw [← hF]
      funext z
      exact propext ⟨fun ⟨z', e, h⟩ => by cases e; exact h, fun h => ⟨z, rfl, h⟩⟩
    show cmpD o1 (res S2 dx) (res S2 dy) F → cmpD o1 (res S2 dx) (res S2 dy) fun z => ∃ z', D.bl z = .bl z' ∧ if z' = true then wc ρ S2 R fun u S3 => cmpD o2 (res S3 dy) (res S3 u) fun v => Q (.bl v) S3 else Q (.bl false) S2
    rw [this]
    exact id
  · obtain ⟨z, rfl, q⟩ := q
    cases rv
    refine ⟨z, rfl, ?_⟩
    have A3 := A2.next s e
    cases z with
    | false => exact k _ H3 _ S2 O2 (.bl _) s (ev.trans A2.sok e) q
    | true =>
      rw [if_pos rfl] at q ⊢
      refine hc.go A3 q fun u H4 du S4 O4 r4 A4 e4 q4 => ?_
      refine h2 y u dy du H4 S4 O4 (fun d => Q d S4) _ A4.sok ((r2.mono (e.mo A2.sok)).mono (A3.mo e4)) r4 q4 fun v H5 d rv s5 e5 q5 => ?_
      exact k v H5 d S4 O4 rv s5 (((ev.trans A2.sok e).trans s e4).trans A4.sok e5) q5

/-! ### xs.append(y) -/
theorem re_app {to te : TE} {wo we : WE'} (ho : RE L K W to wo) (he : RE L K W te we) : RE L K W (tBM K "list" rAppend to (tCons te tNil)) fun ρ S R Q => wo ρ S R fun x S1 => ∃ p, x = .ref p ∧ (∃ ds, S1 p = some (.lst ds)) ∧ we ρ S1 R fun y S2 => ∃ ds, S2 p = some (.lst ds) ∧ ds.length < sizeLine ∧ Q .non (sup S2 p (.lst (ds ++ [y]))) := fun σ H ρ S O R Q Q' A hw k => by
  refine ho.go A hw fun x H1 dx S1 O1 r1 A1 e1 q1 => ?_
  obtain ⟨p, rfl, ⟨ds, hs⟩, q1⟩ := q1
  cases r1
  obtain ⟨_, xs, h1, _, _⟩ := A1.sok.dom _ _ hs
  refine ⟨.inl ⟨rfl, xs, SqL.of h1⟩, ?_⟩
  refine he.go A1 q1 fun y H2 dy S2 O2 r2 A2 e2 q2 => ?_
  obtain ⟨ds, hs, hz, q⟩ := q2
  obtain ⟨ho, xs, h1, z, h2⟩ := A2.sok.dom _ _ hs
  have hl : xs.length < sizeLine := by rw [h2.len]; exact hz
  refine ⟨p, xs, y, rfl, rfl, h1, hl, ?_⟩
  have ev := ev_write (ys := xs ++ [y]) (es := ds ++ [dy]) hs A2.sok
  have sk := A2.sok.write hs h1 (ys := xs ++ [y]) (es := ds ++ [dy]) (by rw [List.length_append]; exact hl) (h2.append (.cons r2 .nil))
  exact k _ _ _ _ O2 .non sk ((e1.trans A1.sok e2).trans A2.sok ev) q
end
end DL

/-! DL10: built-ins over data. -/
namespace DL
open PySem PySem.Spec PyProof.Rows L2
section
variable {X : Cx} {K : PySem.W.Frag} {S : Sto} {O : Ow} {H : Hp}
def HB (K : PySem.W.Frag) (r : List V → Hp → VK → Prop) (b : BI) : Prop := ∀ (vs : List V) (ds : List D) (H : Hp) (S : Sto) (O : Ow) (P : D → Prop) (Q' : VK), Sok K S O H → Rps K O H vs ds → biD b S ds P → (∀ v H' d, Rp K O H' v d → Sok K S O H' → Ev S O H S O H' → P d → Q' v H') → r vs H Q'
def biName : BI → Str
  | .len => "len" | .abs => "abs" | .max => "max" | .min => "min" | .int => "int" | .sum => "sum" | .all => "all" | .any => "any" | .tuple => "tuple" | .isinst => "isinstance" | .repr => "repr" | .str => "str"
def biVal : BI → Value
  | .len => .builtin "len" | .abs => .builtin "abs" | .max => .builtin "max" | .min => .builtin "min" | .int => .type "int" | .sum => .builtin "sum" | .all => .builtin "all" | .any => .builtin "any" | .tuple => .type "tuple" | .isinst => .builtin "isinstance" | .repr => .builtin "repr" | .str => .type "str"
theorem bi_boot (b : BI) : bootBuiltins (biName b) = some (biVal b) := by
  cases b
  · exact boot_len
  · exact boot_abs
  · exact boot_max
  · exact boot_min
  · decide +kernel
  · exact boot_sum
  · exact boot_all
  · exact boot_any
  · decide +kernel
  · exact boot_isinstance
  · exact boot_repr
  · decide +kernel
theorem kitB_all : (["NoneType", "bool", "int", "str", "tuple", "list"].all fun t => isiTys.all fun n => kitB t n == some (isiB t n)) = true := by decide +kernel
theorem typD_mem {d : D} {t : String} (h : typD d = some t) : t ∈ ["NoneType", "bool", "int", "str", "tuple", "list"] := by
  cases d <;> simp only [typD] at h <;> first | (cases h; decide) | cases h
theorem kitB_of {d : D} {t n : String} (h : typD d = some t) (hn : n ∈ isiTys) : kitB t n = some (isiB t n) := by
  have := List.all_eq_true.mp (List.all_eq_true.mp kitB_all t (typD_mem h)) n hn
  exact eq_of_beq this
theorem tyx_of {v : V} {d : D} {t : String} (s : Sok K S O H) (r : Rp K O H v d) (e : typD (res S d) = some t) : TyX K H v (.type t) := by
  cases r with
  | non => cases e; exact .base .non
  | bl b => cases e; exact .base (.bl b)
  | int b => cases e; exact .base (.int b)
  | str b => cases e; exact .base (.str b)
  | ty n => cases e
  | ref =>
    rename_i a
    cases q : S a with
    | none => simp only [res, q] at e; cases e
    | some o =>
      cases o with
      | lst ds =>
        simp only [res, q] at e
        cases e
        obtain ⟨_, xs, h1, _, _⟩ := s.dom _ _ q
        exact .base (.lst h1)
  | scr _ h => cases e
  | scrK _ h => cases e
  | tup h z r =>
    cases e
    rcases h with (h | ⟨o, h⟩) | ⟨o, its, n, h, c, _⟩
    · exact .base (.tup h)
    · exact .fTuple h
    · exact .kTuple h c
  | lst h n z r => cases e; exact .base (.lst h)
theorem rps1 {vs : List V} {d : D} (r : Rps K O H vs [d]) : ∃ v, vs = [v] ∧ Rp K O H v d := by
  cases r with
  | cons r t => cases t; exact ⟨_, rfl, r⟩
theorem rps2 {vs : List V} {d e : D} (r : Rps K O H vs [d, e]) : ∃ v u, vs = [v, u] ∧ Rp K O H v d ∧ Rp K O H u e := by
  cases r with
  | cons r t =>
    cases t with
    | cons r2 t => cases t; exact ⟨_, _, rfl, r, r2⟩
theorem vals1' {x : V} {us : List Value} (r : Vals [x] us) : ∃ u, us = [u] ∧ RelV x u := Vals.one r
theorem call_repr_bl : CallR X (.builtin "repr") (fun xs H Q => ∃ b : Bool, xs = [.bl b] ∧ Q (.str (if b then "True" else "False")) H) := by
  intro pins s σ H xs us Q I r h
  obtain ⟨b, rfl, q⟩ := h
  obtain ⟨u, rfl, hu⟩ := Vals.one r
  cases hu
  exact PySem.P.repr_of_bool ⟨.str _, H, I.tok _, ⟨_, rfl⟩, q⟩
theorem bi_ok (b : BI) (hc : X.calm = true) : ∃ r, CallR X (biVal b) r ∧ HB X.K r b := by
  cases b with
  | len =>
    refine ⟨_, call_len_seq.or call_len_str, fun vs ds H S O P Q' s rs h k => ?_⟩
    match ds, h with
    | [d], h =>
      obtain ⟨v, rfl, r⟩ := rps1 rs
      replace h : (match res S d with
        | .tup xs => P (.int xs.length)
        | .lst xs => P (.int xs.length)
        | .scr xs => P (.int xs.length)
        | .str x => x.length ≤ sizeLine ∧ P (.int x.length)
        | _ => False) := h
      obtain ⟨hl, ht, hs⟩ := seq_of r s
      cases e : res S d <;> rw [e] at h <;> try exact h.elim
      · have e3 := res_str e
        subst e3
        cases r
        exact .inr ⟨_, rfl, h.1, k _ H _ (.int _) s .refl h.2⟩
      · obtain ⟨a, xs, rfl, g1, g2, g3⟩ := ht _ e
        exact .inl ⟨a, xs, rfl, .inr g1, by rw [g3.len]; exact k _ H _ (.int _) s .refl h⟩
      · obtain ⟨a, xs, rfl, g1, g2, g3⟩ := hl _ e
        exact .inl ⟨a, xs, rfl, .inl (SqL.of g1), by rw [g3.len]; exact k _ H _ (.int _) s .refl h⟩
      · obtain ⟨a, rfl, g1⟩ := hs _ e
        exact .inl ⟨a, _, rfl, .inl g1, by rw [List.length_map]; exact k _ H _ (.int _) s .refl h⟩
  | abs =>
    refine ⟨_, call_abs, fun vs ds H S O P Q' s rs h k => ?_⟩
    match ds, h with
    | [.int i], h =>
      obtain ⟨v, rfl, r⟩ := rps1 rs
      cases r
      exact ⟨i, rfl, k _ H _ (.int _) s .refl h⟩
  | max =>
    refine ⟨_, (call_max2 hc).or (cr_max hc), fun vs ds H S O P Q' s rs h k => ?_⟩
    match ds, h with
    | [x, y], h =>
      obtain ⟨i, j, rfl, rfl, h⟩ := h
      obtain ⟨v, u, rfl, r, r2⟩ := rps2 rs
      cases r; cases r2
      exact .inl ⟨i, j, rfl, k _ H _ (.int _) s .refl h⟩
    | [d], h =>
      obtain ⟨v, rfl, r⟩ := rps1 rs
      replace h : ∃ ns : List Int, res S d = .lst (ns.map .int) ∧ 0 < ns.length ∧ ∀ m ∈ ns, (∀ y ∈ ns, y ≤ m) → P (.int m) := h
      obtain ⟨ns, e, hp, h⟩ := h
      obtain ⟨a, xs, rfl, g1, g2, g3⟩ := (seq_of r s).1 _ e
      rw [g3.ints] at g1
      exact .inr ⟨a, ns, rfl, SqL.of g1, hp, fun m h1 h2 => k _ H _ (.int _) s .refl (h m h1 h2)⟩
  | min =>
    refine ⟨_, (call_min2 hc).or (cr_min hc), fun vs ds H S O P Q' s rs h k => ?_⟩
    match ds, h with
    | [x, y], h =>
      obtain ⟨i, j, rfl, rfl, h⟩ := h
      obtain ⟨v, u, rfl, r, r2⟩ := rps2 rs
      cases r; cases r2
      exact .inl ⟨i, j, rfl, k _ H _ (.int _) s .refl h⟩
    | [d], h =>
      obtain ⟨v, rfl, r⟩ := rps1 rs
      replace h : ∃ ns : List Int, res S d = .lst (ns.map .int) ∧ 0 < ns.length ∧ ∀ m ∈ ns, (∀ y ∈ ns, m ≤ y) → P (.int m) := h
      obtain ⟨ns, e, hp, h⟩ := h
      obtain ⟨a, xs, rfl, g1, g2, g3⟩ := (seq_of r s).1 _ e
      rw [g3.ints] at g1
      exact .inr ⟨a, ns, rfl, SqL.of g1, hp, fun m h1 h2 => k _ H _ (.int _) s .refl (h m h1 h2)⟩
  | int =>
    refine ⟨_, call_int1, fun vs ds H S O P Q' s rs h k => ?_⟩
    match ds, h with
    | [.int i], h =>
      obtain ⟨v, rfl, r⟩ := rps1 rs
      cases r
      exact .inl ⟨i, rfl, k _ H _ (.int _) s .refl h⟩
    | [.bl i], h =>
      obtain ⟨v, rfl, r⟩ := rps1 rs
      cases r
      exact .inr ⟨i, rfl, k _ H _ (.int _) s .refl h⟩
  | sum =>
    refine ⟨_, cr_sum hc, fun vs ds H S O P Q' s rs h k => ?_⟩
    match ds, h with
    | [d], h =>
      obtain ⟨v, rfl, r⟩ := rps1 rs
      obtain ⟨ns, e, h⟩ := h
      obtain ⟨a, xs, rfl, g1, g2, g3⟩ := (seq_of r s).1 _ e
      rw [g3.ints] at g1
      exact ⟨a, ns, rfl, SqL.of g1, k _ H _ (.int _) s .refl h⟩
  | all =>
    refine ⟨_, cr_all hc, fun vs ds H S O P Q' s rs h k => ?_⟩
    match ds, h with
    | [d], h =>
      obtain ⟨v, rfl, r⟩ := rps1 rs
      obtain ⟨ns, e, h⟩ := h
      obtain ⟨a, xs, rfl, g1, g2, g3⟩ := (seq_of r s).1 _ e
      rw [g3.bls] at g1
      exact ⟨a, ns, rfl, SqL.of g1, k _ H _ (.bl _) s .refl h⟩
  | any =>
    refine ⟨_, cr_any hc, fun vs ds H S O P Q' s rs h k => ?_⟩
    match ds, h with
    | [d], h =>
      obtain ⟨v, rfl, r⟩ := rps1 rs
      obtain ⟨ns, e, h⟩ := h
      obtain ⟨a, xs, rfl, g1, g2, g3⟩ := (seq_of r s).1 _ e
      rw [g3.bls] at g1
      exact ⟨a, ns, rfl, SqL.of g1, k _ H _ (.bl _) s .refl h⟩
  | tuple =>
    refine ⟨_, call_tuple_of, fun vs ds H S O P Q' s rs h k => ?_⟩
    match ds, h with
    | [d], h =>
      obtain ⟨v, rfl, r⟩ := rps1 rs
      replace h : (match res S d with
        | .tup xs => P (.tup xs)
        | .lst xs => P (.tup xs)
        | _ => False) := h
      obtain ⟨hl, ht, hs⟩ := seq_of r s
      cases e : res S d <;> rw [e] at h <;> try exact h.elim
      · obtain ⟨a, xs, rfl, g1, g2, g3⟩ := ht _ e
        exact ⟨a, xs, rfl, .inr ⟨g1, k _ H _ (.tup g1 g2 g3) s .refl h⟩⟩
      · obtain ⟨a, xs, rfl, g1, g2, g3⟩ := hl _ e
        exact ⟨a, xs, rfl, .inl ⟨SqL.of g1, fun p hp => k _ _ _ (rp_new s hp g2 g3) (s.new hp) (ev_new hp s) h⟩⟩
  | isinst =>
    refine ⟨_, call_isi, fun vs ds H S O P Q' s rs h k => ?_⟩
    match ds, h with
    | [x, .ty n], h =>
      obtain ⟨v, u, rfl, r, r2⟩ := rps2 rs
      cases r2
      obtain ⟨t, e, hn, h⟩ := h
      exact ⟨v, .ty n, .type t, .type n, isiB t n, rfl, .ty n, tyx_of s r e, kit_ty (kitB_of e hn), k _ H _ (.bl _) s .refl h⟩
  | repr =>
    refine ⟨_, call_repr_bl.or SkE.call_repr_int, fun vs ds H S O P Q' s rs h k => ?_⟩
    match ds, h with
    | [.bl b], h =>
      obtain ⟨v, rfl, r⟩ := rps1 rs
      cases r
      exact .inl ⟨b, rfl, k _ H _ (.str _) s .refl h⟩
    | [.int i], h =>
      obtain ⟨v, rfl, r⟩ := rps1 rs
      cases r
      exact .inr ⟨i, rfl, h.1, k _ H _ (.str _) s .refl h.2⟩
  | str =>
    refine ⟨_, call_str_int.or SkE.call_str_str, fun vs ds H S O P Q' s rs h k => ?_⟩
    match ds, h with
    | [.int i], h =>
      obtain ⟨v, rfl, r⟩ := rps1 rs
      cases r
      exact .inl ⟨i, rfl, h.1, k _ H _ (.str _) s .refl h.2⟩
    | [.str x], h =>
      obtain ⟨v, rfl, r⟩ := rps1 rs
      cases r
      exact .inr ⟨x, rfl, k _ H _ (.str _) s .refl h⟩
theorem re_bi {L : Lnk} {W : WX} {b : BI} {r : List V → Hp → VK → Prop} {t : TA} {ws : Env → Sto → XD → (List D → Sto → Prop) → Prop} (h : RA L K W t ws) (hb : HB K r b) : RE L K W (tCB r t) fun ρ S R Q => ws ρ S R fun ds S1 => biD b S1 ds fun d => Q d S1 := fun σ H ρ S O R Q Q' A hw k => by
  refine h.go A hw fun vs H1 ds S1 O1 r1 A1 e1 q1 => ?_
  exact hb vs ds H1 S1 O1 _ _ A1.sok r1 q1 fun v H2 d rv s2 e2 q2 => k v H2 d S1 O1 rv s2 (e1.trans A1.sok e2) q2
end
end DL

/-! DL11: own syntax against the text: the check, and why it is enough (expressions). -/
namespace DL
open PySem PySem.Spec PyProof.Rows L2
structure Ck where
  N : List Str
  sc : Scope
  own : Option Scope
  fns : List (Nat × Str)
  gls : List (Nat × Str)
def Ck.inn (c : Ck) (scope : Scope) : Ck := { c with sc := relS scope c.sc, own := some scope }
def visC (c : Ck) (x : Str) : Bool := match c.sc.names.lookup x with
  | some .local => true
  | some .cell => true
  | some .free => true
  | _ => false
def locC (c : Ck) (x : Str) : Bool := match c.sc.names.lookup x with
  | some .local => true
  | some .cell => (match c.own with
    | none => true
    | some s => decide (s.names.lookup x = some .cell))
  | _ => false
def dbg (x : Str) : Bool := x == ("__debug__" : Str)
def varC (c : Ck) (i : Nat) (x : Str) : Bool := decide (c.N[i]? = some x) && visC c x && !dbg x && !(x == ("__classdict__" : Str))
def gloC (c : Ck) (x : Str) : Bool := decide (c.sc.names.lookup x = some .globalImplicit) && !dbg x
def noStar : Expr → Bool
  | .Starred _ _ => false
  | _ => true
def noStars : List Expr → Bool
  | [] => true
  | x :: xs => noStar x && noStars xs
def noSet : Expr → Bool
  | .Set _ _ _ => false
  | _ => true
def noSlice : Expr → Bool
  | .Slice _ _ _ _ => false
  | _ => true
def noCall : Expr → Bool
  | .Call _ _ _ _ => false
  | _ => true
def isBO : Expr → Bool
  | .BoolOp _ _ _ => true
  | _ => false
def pairC (l : List (Nat × Str)) (k : Nat) (x : Str) : Bool := match l with
  | [] => false
  | p :: r => (Nat.beq p.1 k && decide (p.2 = x)) || pairC r k x
def cstC (c : Ck) : D → Expr → Bool
  | .int i, .Constant (.int j) _ _ => decide (i = j)
  | .bl i, .Constant (.bool j) _ _ => decide (i = j)
  | .str i, .Constant (.str j) _ _ => decide (i = j)
  | .non, .Constant .none _ _ => true
  | .ty n, .Name x _ => gloC c x && ((decide (n = "int") && decide (x = "int")) || (decide (n = "bool") && decide (x = "bool")) || (decide (n = "tuple") && decide (x = "tuple")) || (decide (n = "str") && decide (x = "str")) || (decide (n = "list") && decide (x = "list")))
  | _, _ => false
def ownP (c : Ck) : List Nat → List (Str × Nat)
  | [] => []
  | v :: vs => (c.N.getD v "", v) :: ownP c vs
theorem ownP_snd (c : Ck) : ∀ vs, (ownP c vs).map (·.2) = vs
  | [] => rfl
  | v :: vs => by rw [ownP, List.map_cons, ownP_snd c vs]
mutual
def tgV : Tg → List Nat
  | .nm i => [i]
  | .tp ts => tgsV ts
  | .sub _ _ => []
def tgsV : Tgs → List Nat
  | .nil => []
  | .cons t r => tgV t ++ tgsV r
end
def subV (us vs : List Nat) : Bool := us.all fun v => vs.contains v
mutual
def okE : Ex → Ck → Expr → Bool
  | .var i, c, x => match x with
    | .Name n _ => varC c i n
    | _ => false
  | .cst d, c, x => cstC c d x
  | .glb k, c, x => match x with
    | .Name n _ => gloC c n && pairC c.gls k n
    | _ => false
  | .bin op a b, c, x => match x with
    | .BinOp x o y _ => decide (o = bop op) && okE a c x && okE b c y
    | _ => false
  | .neg a, c, x => match x with
    | .UnaryOp .USub x _ => okE a c x
    | _ => false
  | .not a, c, x => match x with
    | .UnaryOp .Not x _ => okE a c x
    | _ => false
  | .cmp op a b, c, x => match x with
    | .Compare x [o] [y] _ => decide (o = cop op) && noSet y && okE a c x && okE b c y
    | _ => false
  | .chn o1 o2 a b d, c, x => match x with
    | .Compare x [p1, p2] [y, z] _ => decide (p1 = cop o1) && decide (p2 = cop o2) && noSet z && okE a c x && okE b c y && okE d c z
    | _ => false
  | .and a b, c, x => match x with
    | .BoolOp .And (x :: y :: r) p => okE a c x && (match r with
      | [] => okE b c y
      | z :: r => okE b c (.BoolOp .And (y :: z :: r) p))
    | _ => false
  | .or a b, c, x => match x with
    | .BoolOp .Or (x :: y :: r) p => okE a c x && (match r with
      | [] => okE b c y
      | z :: r => okE b c (.BoolOp .Or (y :: z :: r) p))
    | _ => false
  | .ite a b d, c, x => match x with
    | .IfExp x y z _ => okE a c x && okE b c y && okE d c z
    | _ => false
  | .idx a i, c, x => match x with
    | .Subscript x y _ => noSlice y && okE a c x && okE i c y
    | _ => false
  | .slc a lo hi, c, x => match x with
    | .Subscript x (.Slice l h none _) _ => okE a c x && okO lo c l && okO hi c h
    | _ => false
  | .stp a lo hi st, c, x => match x with
    | .Subscript x (.Slice l h (some s) _) _ => okE a c x && okO lo c l && okO hi c h && okE st c s
    | _ => false
  | .tup es, c, x => match x with
    | .Tuple xs _ _ => okEs es c xs
    | _ => false
  | .frz l, c, x => okL l c x
  | .own l, c, x => okL l c x
  | .call f es, c, x => match x with
    | .Call (.Name n _) (y :: xs) [] _ => gloC c n && pairC c.fns f n && noStars (y :: xs) && okEs es c (y :: xs)
    | _ => false
  | .bi b es, c, x => match x with
    | .Call (.Name n _) (y :: xs) [] _ => decide (n = biName b) && gloC c n && noStars (y :: xs) && okEs es c (y :: xs)
    | _ => false
  | .app o e, c, x => match x with
    | .Call (.Attribute x m ap) [y] [] p => decide (m = ("append" : Str)) && (ap.endLine == p.line) && noCall x && noStar y && okE o c x && okE e c y
    | _ => false
def okEs : Exs → Ck → List Expr → Bool
  | .nil, _, xs => match xs with
    | [] => true
    | _ => false
  | .cons e r, c, xs => match xs with
    | x :: xs => noStar x && okE e c x && okEs r c xs
    | _ => false
  | .star e r, c, xs => match xs with
    | .Starred x _ :: xs => okE e c x && okEs r c xs
    | _ => false
def okO : Ox → Ck → Option Expr → Bool
  | .no, _, x => match x with
    | none => true
    | _ => false
  | .so e, c, x => match x with
    | some x => okE e c x
    | none => false
def okL : Lx → Ck → Expr → Bool
  | .disp es, c, x => match x with
    | .List xs _ => okEs es c xs
    | _ => false
  | .comp own tg it ts el, c, x => match x with
    | .ListComp elt [⟨tx, iter, ifs, a⟩] scope _ => decide (a = 0) && blkC c.N c.sc scope (ownP c own) && subV (tgV tg) own && noSet iter && okI it c tx iter && okG tg (c.inn scope) tx && okTs ts (c.inn scope) ifs && okE el (c.inn scope) elt
    | _ => false
  | .comp2 own own2 tg it ts tg2 it2 ts2 el, c, x => match x with
    | .ListComp elt [⟨tx, iter, ifs, a⟩, ⟨tx2, iter2, ifs2, a2⟩] scope _ => decide (a = 0) && decide (a2 = 0) && blkC c.N c.sc scope (ownP c own) && subV (tgV tg) own && subV own2 own && subV (tgV tg2) own2 && noSet iter && noSet iter2 &&
      okI it c tx iter && okG tg (c.inn scope) tx && okTs ts (c.inn scope) ifs && okI it2 (c.inn scope) tx2 iter2 && okG tg2 (c.inn scope) tx2 && okTs ts2 (c.inn scope) ifs2 && okE el (c.inn scope) elt
    | _ => false
  | .rep a n, c, x => match x with
    | .BinOp x .Mult y _ => okE a c x && okE n c y
    | _ => false
  | .cat a b, c, x => match x with
    | .BinOp x .Add y _ => okE a c x && okE b c y
    | _ => false
  | .ofSeq a, c, x => match x with
    | .Call (.Name n _) [y] [] _ => decide (n = ("list" : Str)) && gloC c n && noStar y && okE a c y
    | _ => false
  | .slc a lo hi, c, x => match x with
    | .Subscript x (.Slice l h none _) _ => okE a c x && okO lo c l && okO hi c h
    | _ => false
  | .sorted a, c, x => match x with
    | .Call (.Name n _) [y] [] _ => decide (n = ("sorted" : Str)) && gloC c n && noStar y && okE a c y
    | _ => false
  | .stpL a lo hi st, c, x => match x with
    | .Subscript x (.Slice l h (some s) _) _ => okE a c x && okO lo c l && okO hi c h && okE st c s
    | _ => false
  | .sortSet a, c, x => match x with
    | .Call (.Name n _) [.Call (.Name m _) [y] [] _] [] _ => decide (n = ("sorted" : Str)) && gloC c n && decide (m = ("set" : Str)) && gloC c m && noStar y && okE a c y
    | _ => false
  | .sortK f a, c, x => match x with
    | .Call (.Name n _) [y] [⟨kn, .Name m _, _⟩] _ => decide (n = ("sorted" : Str)) && gloC c n && noStar y && okE a c y && decide (kn = some ("key" : Str)) && gloC c m && pairC c.fns f m
    | _ => false
def okI : It → Ck → Expr → Expr → Bool
  | .seq e, c, _, x => okE e c x
  | .rng1 a, c, _, x => match x with
    | .Call (.Name n _) [x] [] _ => decide (n = ("range" : Str)) && gloC c n && noStar x && okE a c x
    | _ => false
  | .rng2 a b, c, _, x => match x with
    | .Call (.Name n _) [x, y] [] _ => decide (n = ("range" : Str)) && gloC c n && noStar x && noStar y && okE a c x && okE b c y
    | _ => false
  | .rng3 a b d, c, _, x => match x with
    | .Call (.Name n _) [x, y, z] [] _ => decide (n = ("range" : Str)) && gloC c n && noStar x && noStar y && noStar z && okE a c x && okE b c y && okE d c z
    | _ => false
  | .enum e, c, t, x => match t with
    | .Tuple _ _ _ => (match x with
      | .Call (.Name n _) [x] [] _ => decide (n = ("enumerate" : Str)) && gloC c n && noStar x && okE e c x
      | _ => false)
    | _ => false
  | .zip a b, c, t, x => match t with
    | .Tuple _ _ _ => (match x with
      | .Call (.Name n _) [x, y] [] _ => decide (n = ("zip" : Str)) && gloC c n && noStar x && noStar y && okE a c x && okE b c y
      | _ => false)
    | _ => false
def okG : Tg → Ck → Expr → Bool
  | .nm i, c, x => match x with
    | .Name n _ => decide (c.N[i]? = some n) && locC c n
    | _ => false
  | .tp ts, c, x => match x with
    | .Tuple xs _ _ => okGs ts c xs
    | _ => false
  | .sub o i, c, x => match x with
    | .Subscript x y _ => noSlice y && okE o c x && okE i c y
    | _ => false
def okGs : Tgs → Ck → List Expr → Bool
  | .nil, _, xs => match xs with
    | [] => true
    | _ => false
  | .cons t r, c, xs => match xs with
    | x :: xs => noStar x && okG t c x && okGs r c xs
    | _ => false
def okTs : Exs → Ck → List Expr → Bool
  | .nil, _, xs => match xs with
    | [] => true
    | _ => false
  | .cons e r, c, xs => match r with
    | .nil => (match xs with
      | [x] => okE e c x
      | _ => false)
    | _ => false
  | .star _ _, _, _ => false
end

/-! ### what is asked of a context -/
/-- a def's promise, from data -/
def spOf (L : Lnk) (K : PySem.W.Frag) (F : FSp) : Sp := fun vs H Q' E => ∃ ds S O R, ∃ Q : QD, Sok K S O H ∧ Rps K O H vs ds ∧ F ds S R Q ∧
  (∀ k d S' O' H' c dd, Sok K S' O' H' → Ev S O H S' O' H' → L.xr O' H' k d c dd → R k d S' → E c dd H') ∧
  (∀ v H' d S' O', Rp K O' H' v d → Sok K S' O' H' → Ev S O H S' O' H' → Q d S' → Q' v H')
def FnSt (L : Lnk) (X : Cx) (k : Nat) (x : Str) : Prop :=
  ∃ (kk : Nat) (f : Addr) (fd : FuncData) (ps : List Str), FnOk X.prog X.w X.K X.mg X.base (L2.CX X.prog X.w) kk f fd ps (spOf L X.K (L.Γ.fn k)) ∧ Room (kk + 2) X.A ∧ X.mg x = some (.ref f) ∧ PySem.W.keepIn X.K (.ref f) = true ∧ Binds X.K fd ps []
def GlSt (L : Lnk) (X : Cx) (k : Nat) (x : Str) : Prop := ∃ (u : Value) (v : V), X.mg x = some u ∧ RelV v u ∧ ∀ O H, Rp X.K O H v (L.Γ.gl k)
def blts : List Str := ["len", "abs", "max", "min", "int", "sum", "all", "any", "tuple", "isinstance", "repr", "str", "range", "enumerate", "zip", "list", "bool", "sorted", "set"]
structure XC (c : Ck) (L : Lnk) (W : WX) (X : Cx) : Prop where
  N : X.N = c.N
  nd : c.N.Nodup
  sc : X.env.scope = c.sc
  calm : X.calm = true
  un : X.A.units + 70 < cLine
  py : PyX X
  tk : Takes X W
  st : ∀ x, locC c x = true → X.fn x = true ∨ X.env.scope.names.lookup x = some .local
  bl : ∀ x ∈ blts, X.mg x = none
  fn : ∀ p ∈ c.fns, FnSt L X p.1 p.2
  gl : ∀ p ∈ c.gls, GlSt L X p.1 p.2
section
variable {c : Ck} {L : Lnk} {W : WX} {X : Cx}
theorem XC.blk (x : XC c L W X) (s : Shared) (H : Hp) (scope : Scope) (cl : List (Str × Addr)) (C : Addr) (fp : List Addr) : XC (c.inn scope) L (fun _ _ _ _ => False) (X.blk s H scope (compEnvC scope cl C X.env) fp) where
  N := x.N
  nd := x.nd
  sc := by show relS scope X.env.scope = relS scope c.sc; rw [x.sc]
  calm := x.calm
  un := x.un
  py := ⟨x.py.env, x.py.seer, x.py.tree, x.py.deep⟩
  tk := takes0
  st := fun y h => by
    show (scope.names.lookup y == some NameKind.cell) = true ∨ (relS scope X.env.scope).names.lookup y = some .local
    rw [x.sc]
    unfold locC Ck.inn at h
    simp only at h
    split at h
    · rename_i e; exact .inr e
    · left; simpa using h
    · cases h
  bl := x.bl
  fn := x.fn
  gl := x.gl
theorem visC_ok {y : Str} (x : XC c L W X) (h : visC c y = true) : Vis X.env.scope y := by
  unfold visC at h
  unfold Vis
  rw [x.sc]
  split at h
  · rename_i e; exact .inl e
  · rename_i e; exact .inr (.inl e)
  · rename_i e; exact .inr (.inr e)
  · cases h
theorem locC_ok {y : Str} (x : XC c L W X) (h : locC c y = true) : L2.Loc X.env.scope y := by
  unfold locC at h
  unfold L2.Loc
  rw [x.sc]
  split at h
  · rename_i e; exact .inl e
  · rename_i e; exact .inr e
  · cases h
theorem gloC_ok {y : Str} (x : XC c L W X) (h : gloC c y = true) : Gl X y ∧ (y == ("__debug__" : Str)) = false := by
  unfold gloC dbg at h
  simp only [Bool.and_eq_true, decide_eq_true_eq, Bool.not_eq_true'] at h
  refine ⟨?_, h.2⟩
  show X.env.scope.names.lookup y = _
  rw [x.sc]
  exact h.1
theorem pairC_ok : ∀ {l : List (Nat × Str)} {k : Nat} {x : Str}, pairC l k x = true → (k, x) ∈ l
  | p :: r, k, x, h => by
    unfold pairC at h
    rw [Bool.or_eq_true, Bool.and_eq_true] at h
    rcases h with ⟨h1, h2⟩ | h
    · have e1 := Nat.eq_of_beq_eq_true h1
      have e2 := of_decide_eq_true h2
      rw [← e1, ← e2]
      exact List.mem_cons_self
    · exact List.mem_cons_of_mem _ (pairC_ok h)
theorem noStar_each {e : Expr} {es : List Expr} {env : PySem.Env} (h : noStar e = true) : starEach (e :: es) env = (false, eval e env) :: starEach es env := by
  cases e <;> first | rfl | cases h
theorem noStar_assign {e : Expr} {es : List Expr} {env : PySem.Env} (h : noStar e = true) : assignEach (e :: es) env = (false, assign e env) :: assignEach es env := by
  cases e <;> first | rfl | cases h
theorem noStars_each {env : PySem.Env} : ∀ {es : List Expr}, noStars es = true → ∀ pos, (backTo pos (starEach es env)).any (·.1) = false
  | [], _, _ => rfl
  | e :: es, h, pos => by
    unfold noStars at h
    rw [Bool.and_eq_true] at h
    rw [noStar_each h.1]
    show (false || (backTo pos (starEach es env)).any (·.1)) = false
    rw [noStars_each h.2, Bool.false_or]
theorem noSet_marks {e : Expr} (h : noSet e = true) (op : CmpOp) : behindInMarks op e = false := by
  cases e <;> first | rfl | cases h
theorem noSet_last {e f : Expr} (h : noSet f = true) (o1 o2 : CmpOp) : lastMarks [o1, o2] [e, f] = false := by
  show behindInMarks o2 f = false
  exact noSet_marks h o2
theorem noSet_fold {e : Expr} (h : noSet e = true) (env : PySem.Env) (x : Value) : foldedSetIterable e env x = pure x := by
  cases e <;> first | rfl | cases h
theorem noSlice_ix {e : Expr} (h : noSlice e = true) : PlainIx e := fun o i => by
  cases e <;> first | rfl | cases h
theorem noCall_base {e : Expr} (h : noCall e = true) (m : Str) (env : PySem.Env) (t : Sem Value) : attributeBase e m env t = t := by
  cases e <;> first | rfl | cases h
theorem subV_ok {us vs : List Nat} (h : subV us vs = true) : ∀ v ∈ us, v ∈ vs := fun v hv => by
  have := List.all_eq_true.mp h v hv
  simpa using this
theorem bl_of (x : XC c L W X) {n : Str} (h : n ∈ blts) : X.mg n = none := x.bl n h
end
end DL

set_option maxHeartbeats 4000000
/-! DL19: sorted(xs, key=f) where f's calls may leave new objects: whatever J says of the state stays true. -/
namespace DL
open PySem PySem.W PySem.Calls PyProof.Rows
section
variable {prog : Program} {w : World} {A : Around} {E : Value → Shared → Prop} {J : Shared → Prop} {lst kst : Addr}
/-- J does not look at the two lists that the sort works at -/
def Still (J : Shared → Prop) (lst kst : Addr) : Prop := ∀ (t : Shared) (c : Addr) (g : Heap) (tk : Nat), c = kst ∨ c = lst → J t → Heap.SameBut c t.heap g → (∃ o, g.get? c = some o) → J { t with heap := g, toks := tk }
theorem sortG_tail {s : Shared} {st : SortSt} {out : List Value} {ks : Array Value} {e1 e2 : Nat} {rev : Bool} {Z : PySem.Fin → Shared → Prop} (hJ : Still J lst kst) (j : J s) (gk : s.heap.get? kst = some (seqObj "list" ks e2)) (gl : s.heap.get? lst = some (seqObj "list" #[] e1))
    (ne : kst ≠ lst) (zk : ks.size ≤ sizeLine) (zo : out.length ≤ sizeLine) (nf : failedOf st = none) (ho : (if rev = true then ((arrOf st).map (·.2)).reverse else (arrOf st).map (·.2)) = out.toArray)
    (done : ∀ s' c, J s' → s'.heap.get? lst = some (seqObj "list" out.toArray c) → Z (.done (.ret .none)) s') :
    wpAny (model prog w) A (ksk_tail lst rev e1 (.ref kst) st) Z E s := by
  have b1 := Heap.SameBut.update s.heap kst (Obj.mapSeq fun _ => (#[] : Array Value))
  have gl1 := (b1.2 lst ne.symm).trans gl
  have b2 := Heap.SameBut.update (s.heap.update kst (Obj.mapSeq fun _ => (#[] : Array Value))) lst (Obj.mapSeq fun _ => out.toArray)
  have g2 := get?_update_seq gl1 fun _ => out.toArray
  unfold ksk_tail; dsimp only; rw [ho]
  refine wpAny_bind (listUpdate_at gk rfl ?_ zk (Nat.zero_le _))
  refine wpAny_bind (wpAny_letGo ?_)
  refine wpAny_bind (seqEpoch_at gl1 rfl ?_)
  refine wpAny_bind (listUpdate_at gl1 rfl ?_ (Nat.zero_le _) (by
    rw [List.size_toArray]
    omega))
  rw [nf]; simp only [bne_self_eq_false, Bool.false_eq_true, if_false]
  have j1 := hJ s kst _ s.toks (.inl rfl) j b1 ⟨_, get?_update_seq gk fun _ => (#[] : Array Value)⟩
  have j2 := hJ { s with heap := s.heap.update kst (Obj.mapSeq fun _ => (#[] : Array Value)), toks := s.toks } lst _ s.toks (.inr rfl) j1 b2 ⟨_, g2⟩
  exact wpAny_pure (done _ _ j2 g2)
theorem sortG_end {s : Shared} {vs : List Value} {ks : Array Value} {e1 e2 : Nat} {rev : Bool} {Z : PySem.Fin → Shared → Prop} {κ : PyProof.Rows.KeyKind} (hJ : Still J lst kst) (j : J s) (gk : s.heap.get? kst = some (seqObj "list" ks e2)) (gl : s.heap.get? lst = some (seqObj "list" #[] e1)) (ne : kst ≠ lst)
    (so : SortsAt prog w A s κ ks.toList) (hs : ks.size = vs.length) (hv : vs.length ≤ sizeLine) (done : ∀ s' c, J s' → s'.heap.get? lst = some (seqObj "list" (sortVals κ rev ks.toList vs).toArray c) → Z (.done (.ret .none)) s') :
    wpAny (model prog w) A (ksk_end lst rev vs.toArray e1 (.ref kst) ks) Z E s := by
  obtain ⟨kd, q1, q2⟩ := so.kind
  have lk : ks.toList.length = vs.length := by rw [Array.length_toList, hs]
  have kz : PyProof.Rows.KeysOf κ (ks.zip vs.toArray) := keysOf_zip so.keys
  have lo : (sortVals κ rev ks.toList vs).length = vs.length := sortVals_length rev lk
  generalize hA : (if rev = true then (ks.zip vs.toArray).reverse else ks.zip vs.toArray) = arr0
  have pm : arr0.Perm (ks.zip vs.toArray) := by
    rw [← hA]
    cases rev with
    | false => exact Array.Perm.refl _
    | true =>
      refine Array.perm_iff_toList_perm.mpr ?_
      rw [if_pos rfl, Array.toList_reverse]
      exact List.reverse_perm _
  have sz : arr0.size = vs.length := by rw [pm.size_eq, Array.size_zip, hs, List.size_toArray, Nat.min_self]
  have res : ∀ t : SortSt, (arrOf t).Perm arr0 → SortedToK κ (arrOf t) arr0.size → Stable κ (arrOf t) arr0 → (if rev = true then ((arrOf t).map (·.2)).reverse else (arrOf t).map (·.2)) = (sortVals κ rev ks.toList vs).toArray := fun t p1 p2 p3 => by
    subst hA
    have := congrArg List.toArray (sort_out (rev := rev) (keys := ks) (items := vs.toArray) (xs := arrOf t) (κ := κ) kz p1 p2 p3)
    rwa [Array.toArray_toList] at this
  have ahead : ∀ m : Sem PySem.Fin, wpAny (model prog w) A m Z E s → wpAny (model prog w) A (if rev = true then (do let _ ← rule "list.sort.reverse"; m) else m) Z E s := fun m hm => by
    split
    · exact wpAny_bind (wpAny_rule hm)
    · exact hm
  unfold ksk_end; dsimp only
  refine ahead _ ?_
  rw [hA]
  by_cases two : vs.toArray.size < 2
  · rw [if_pos two, if_pos two]
    refine wpAny_bind (wpAny_pure ?_)
    rw [StateT.run_pure]
    refine wpAny_bind (wpAny_pure ?_)
    dsimp only
    refine sortG_tail (st := SortSt.mk' general' arr0 #[] 7 none) hJ j gk gl ne (by rw [hs]; exact hv) (by rw [lo]; exact hv) rfl (res _ (Array.Perm.refl _) (fun i k ik hk => ?_) (Stable.refl _)) done
    rw [sz] at hk
    rw [List.size_toArray] at two
    have : i = k := by omega
    subst this
    exact KeyOrd.kle_refl _
  · rw [if_neg two, if_neg two]
    rw [List.size_toArray] at two
    refine wpAny_bind (q2 (by omega) _ ?_)
    refine wpAny_bind (wpAny_mono (H.wpS_sortRunsSt (κ := κ) (kd := kd) (a₀ := arr0) (st := SortSt.mk' kd arr0 #[] 7 none) (Q := fun _ t => failedOf t = none ∧ (if rev = true then ((arrOf t).map (·.2)).reverse else (arrOf t).map (·.2)) = (sortVals κ rev ks.toList vs).toArray)
      q1 (kz.perm pm) ⟨Array.Perm.refl _, rfl, rfl⟩ rfl (Stable.refl _) (by rw [sz]; omega) fun t p1 p2 p3 p4 => ⟨p2, res t p1 p3 p4⟩) ?_ fun _ _ z => z)
    rintro ⟨⟨⟩, t⟩ s' ⟨rfl, nf, eo⟩
    dsimp only at eo ⊢
    exact sortG_tail hJ j gk gl ne (by rw [hs]; exact hv) (by rw [lo]; exact hv) nf eo done
/-- the items by their keys -/
def KeyInt (v : Value) (k : Int) : Prop := ∃ t, v = Value.int k t
theorem keyInt_reads {h : Heap} {v : Value} {k : Int} (x : KeyInt v k) : Reads h v (.int k) [] := by
  obtain ⟨t, rfl⟩ := x
  first | exact Reads.int | exact .int | constructor
theorem sortG_rest {s : Shared} {f : Value} {vs : List Value} {kz : List Int} {e1 : Nat} {rev : Bool} {Z : PySem.Fin → Shared → Prop} (hJ : Still J lst kst) (j : J s) (gk : s.heap.get? kst = some (seqObj "list" #[] 0)) (gl : s.heap.get? lst = some (seqObj "list" #[] e1)) (ne : kst ≠ lst)
    (hl : kz.length = vs.length) (hv : vs.length ≤ sizeLine) (hu : A.units + 3 < cLine)
    (turn : ∀ (i : Nat) (v : Value) (k : Int), vs[i]? = some v → kz[i]? = some k → ∀ t : Shared, J t → wpAny (model prog w) A (call f [v]) (fun u t' => J t' ∧ (∀ c o, c = kst ∨ c = lst → t.heap.get? c = some o → t'.heap.get? c = some o) ∧ KeyInt u k) (fun _ _ => False) t)
    (done : ∀ s' out c, J s' → s'.heap.get? lst = some (seqObj "list" (List.toArray out) c) → KeyedOut rev (kz.map PyData.int) vs out → Z (.done (.ret .none)) s') :
    wpAny (model prog w) A (ksk_rest lst f rev vs.toArray e1 (.ref kst)) Z E s := by
  unfold ksk_rest
  refine wpAny_bind (wpAny_rule ?_)
  first
    | rw [List.forIn_toArray]
    | (rw [← Array.forIn_toList]; simp only [List.toList_toArray])
    | rw [← Array.forIn_toList]
  refine wpAny_bind (ksk_fold (fun i t => J t ∧ ∃ kA e, t.heap.get? kst = some (seqObj "list" kA e) ∧ t.heap.get? lst = some (seqObj "list" #[] e1) ∧ EachIs KeyInt kA.toList (kz.take i)) vs 0 s ⟨j, #[], 0, gk, gl, by rw [List.take_zero]; exact EachIs.nil⟩ ?step ?fin)
  case step =>
    rintro i x t hx ⟨jt, kA, e, nk, na, hk⟩
    simp only [Nat.zero_add] at hk ⊢
    have hi : i < vs.length := (List.getElem?_eq_some_iff.mp hx).1
    obtain ⟨k, hki⟩ : ∃ k, kz[i]? = some k := ⟨_, List.getElem?_eq_getElem (by omega)⟩
    have hz : kA.size ≤ vs.length := by
      have := hk.length
      rw [Array.length_toList, List.length_take] at this
      omega
    refine wpAny_bind (wpAny_attempt (wpAny_mono (turn i x k hx hki t jt) (fun u t' he => ?_) fun _ _ z => z.elim))
    obtain ⟨jt', kp, ku⟩ := he
    dsimp only
    have nk2 := kp _ _ (.inl rfl) nk
    have na2 := kp _ _ (.inr rfl) na
    have b1 := Heap.SameBut.update t'.heap kst (Obj.mapSeq (·.push u))
    have nk3 := get?_update_seq nk2 (·.push u)
    refine wpAny_bind (listUpdate_at nk2 rfl ?_ (Nat.le_trans hz hv) (Nat.le_trans (Nat.le_of_eq (Array.size_push ..)) (Nat.succ_le_succ (Nat.le_trans hz hv))))
    refine wpAny_pure ⟨rfl, hJ _ _ _ _ (.inl rfl) jt' b1 ⟨_, nk3⟩, kA.push u, _, nk3, (b1.2 lst ne.symm).trans na2, ?_⟩
    have ek : kz.take (i + 1) = kz.take i ++ [k] := by rw [List.take_add_one, hki]; simp
    have ea : (kA.push u).toList = kA.toList ++ [u] := by simp
    rw [ea, ek]
    exact each_snoc ku hk
  case fin =>
    rintro t ⟨jt, kA, e, nk, na, hk⟩
    have e3 : kz.take (0 + vs.length) = kz := List.take_of_length_le (by omega)
    rw [e3] at hk
    have hk' : EachIs (fun v d => ∃ as, Reads t.heap v d as) kA.toList (kz.map PyData.int) := by
      have : ∀ {l : List Value} {m : List Int}, EachIs KeyInt l m → EachIs (fun v d => ∃ as, Reads t.heap v d as) l (m.map PyData.int) := fun {l m} x => by
        induction x with
        | nil => exact EachIs.nil
        | cons a _ ih => exact EachIs.cons ⟨[], keyInt_reads a⟩ ih
      exact this hk
    have hs : kA.size = vs.length := by
      have := hk.length
      rw [Array.length_toList] at this
      omega
    have al : AllAlike (kz.map PyData.int) := fun d hd d' hd' => by
      obtain ⟨a, _, rfl⟩ := List.mem_map.mp hd
      obtain ⟨b, _, rfl⟩ := List.mem_map.mp hd'
      rfl
    have sk : Sortable (kz.map PyData.int) := .inr fun d hd => by
      obtain ⟨a, _, rfl⟩ := List.mem_map.mp hd
      exact ⟨fun z => (nomatch z), fun _ z => (nomatch z)⟩
    have du : ∀ d, d ∈ kz.map PyData.int → A.units + d.depth < cLine := fun d hd => by
      obtain ⟨a, _, rfl⟩ := List.mem_map.mp hd
      show A.units + PyData.depth (.int a) < cLine
      have : PyData.depth (.int a) = 0 := by first | rfl | simp [PyData.depth]
      omega
    refine wpAny_bind (listItems_at nk rfl ?_)
    exact sortG_end (κ := dataKind t.heap (kz.map PyData.int)) hJ jt nk na ne (SortsAt.data (s := t) hk' al sk du) hs hv fun s' c j' g' => done s' _ c j' g' ⟨t.heap, kA.toList, al, rfl, hk'⟩
end
end DL

set_option maxHeartbeats 4000000
/-! DL20: sorted(xs, key=f), f a def: the rule. -/
namespace DL
open PySem PySem.Spec PyProof.Rows L2
/-- sorted(xs, key=f): I stays true of the abstract heap through the calls of f -/
def rSortK (K : PySem.W.Frag) (f : Addr) (sp : Sp) : List V → List V → Hp → VK → Prop := fun vs zs H Q => ∃ (a : Addr) (xs : List V) (kz : List Int) (I : Hp → Prop), vs = [.ref a] ∧ zs = [.ref f] ∧ SqL K H a xs ∧ kz.length = xs.length ∧ I H ∧
  (∀ (H' : Hp) (i : Nat) (x : V) (k : Int), I H' → xs[i]? = some x → kz[i]? = some k → sp [x] H' (fun v H2 => v = .int k ∧ I H2) E0) ∧ ∀ H' p, I H' → H' p = none → Q (.ref p) (upd H' p (.lst (byKeys xs kz)))
section
variable {X : Cx}
theorem room_two {k : Nat} {A : Around} (r : Room (k + 2) A) : Room k A.in1.in1 := ((r.mono (show k + 1 + 1 ≤ k + 2 by omega)).in1).in1
theorem vals_each : ∀ {xs : List V} {vs : List Value} {kz : List Int}, Vals xs vs → kz.length = xs.length → PySem.W.EachIs (fun (v : Value) (p : V × Int) => RelV p.1 v) vs (xs.zip kz)
  | _, _, kz, .nil, h => by
    have : kz = [] := List.eq_nil_of_length_eq_zero h
    rw [this]; exact .nil
  | _, _, [], .cons _ _, h => by simp at h
  | _, _, k :: kz, .cons r rs, h => .cons r (vals_each rs (by simpa using h))
theorem each_vals : ∀ {vs : List Value} {ps : List (V × Int)}, PySem.W.EachIs (fun (v : Value) (p : V × Int) => RelV p.1 v) vs ps → Vals (ps.map Prod.fst) vs
  | _, _, .nil => .nil
  | _, _, .cons r rs => .cons r (each_vals rs)
theorem vals_at {xs : List V} {vs : List Value} (r : Vals xs vs) : ∀ {i : Nat} {v : Value}, vs[i]? = some v → ∃ x, xs[i]? = some x ∧ RelV x v := by
  induction r with
  | nil => intro i v h; simp at h
  | cons a b ih =>
    intro i v h
    cases i with
    | zero => exact ⟨_, rfl, by simpa using (show _ = _ from Option.some.inj h) ▸ a⟩
    | succ i => exact ih (by simpa using h)
theorem cr_sortK {k : Nat} {f : Addr} {fd : FuncData} {ps : List Str} {sp : Sp} (F : FnOk X.prog X.w X.K X.mg X.base (L2.CX X.prog X.w) k f fd ps sp) (hr : Room (k + 2) X.A) (hu : X.A.units + 70 < cLine) (hb : Binds X.K fd ps []) :
    CallRK X (.builtin "sorted") [Str.ofString "key"] (rSortK X.K f sp) := by
  intro pins s σ H xs zs us ws Q I r rz h
  obtain ⟨a, xs, kz, J, rfl, rfl, hs, hl, j0, hc, hq⟩ := h
  obtain ⟨its, rv, pl, hz⟩ := I.list hs
  obtain ⟨u, rfl, ru⟩ := vals1 r
  obtain rfl : u = Value.ref a := ru
  obtain ⟨g, rfl, rg⟩ := vals1 rz
  obtain rfl : g = Value.ref f := rg
  have hlv : kz.length = its.length := by rw [hl, rv.length]
  have hzv : its.length ≤ sizeLine := by rw [← rv.length]; exact hz
  show wpAny _ _ (call (.builtin "sorted") [.ref a] [(Str.ofString "key", .ref f)]) _ _ _
  refine PySem.W.sorted_of_sort pl.isList hzv (ksk_s1 _ _) (fun x => ksk_l1 _ _) fun E' => ?_
  rw [ksk_t1]
  generalize hlst : s.heap.objs.size + 1 = lst
  have ho := PySem.W.copyHeap_at s.heap its
  rw [hlst] at ho
  have below : ∀ {b : Addr} {o : Obj}, s.heap.get? b = some o → b < lst := fun {b o} q => hlst ▸ Nat.lt_succ_of_lt (Heap.lt_size q)
  have hla : lst < (PySem.W.copyHeap s.heap its).objs.size := Heap.lt_size ho
  -- the sort's own objects
  have go1 := get?_update_seq ho fun _ => (#[] : Array Value)
  generalize hk0 : (((PySem.W.copyHeap s.heap its).update lst (Obj.mapSeq fun _ => (#[] : Array Value))).push (seqObj "tuple" its.toArray 0)).objs.size = kst
  have hks : kst = (PySem.W.copyHeap s.heap its).objs.size + 1 := by rw [← hk0, size_push', Heap.size_update]
  have llt : lst < kst := by rw [hks]; exact Nat.lt_succ_of_lt hla
  have ne : kst ≠ lst := Nat.ne_of_gt llt
  have old : ∀ b o, s.heap.get? b = some o → (PySem.W.sortingHeap (PySem.W.copyHeap s.heap its) lst its).get? b = some o := fun b o q =>
    PySem.W.sortingHeap_old (Nat.ne_of_lt (below q)) (PySem.W.copyHeap_old q)
  let JJ : Shared → Prop := fun t => t.os = s.os ∧ AllBare t.gens ∧ (∃ o, t.heap.get? kst = some o) ∧ (∃ o, t.heap.get? lst = some o) ∧ ∃ H', Un (frs X.stack) [] H H' s.heap t.heap ∧ HOk X.prog X.w H' t.heap ∧ J H' ∧ H' kst = none ∧ H' lst = none
  have fresh : ∀ c, c = kst ∨ c = lst → s.heap.get? c = none := fun c hc => Heap.get?_none_of_le (by
    have hs : s.heap.objs.size ≤ lst := hlst ▸ Nat.le_succ _
    rcases hc with e | e
    · rw [e]; exact Nat.le_trans hs (Nat.le_of_lt llt)
    · rw [e]; exact hs)
  have still : Still JJ lst kst := fun t c g tk hc ⟨os, bare, ⟨o1, g1⟩, ⟨o2, g2⟩, H', un, hok, j, n1, n2⟩ sb gc => by
    have nc : H' c = none := by rcases hc with e | e <;> rw [e] <;> assumption
    have old' : ∀ {b : Addr} {o : Obj}, s.heap.get? b = some o → b ≠ c := fun {b o} q e => by rw [e, fresh c hc] at q; cases q
    have get : ∀ b, b ≠ c → g.get? b = t.heap.get? b := fun b hb => sb.2 b hb
    have there : ∀ b o, t.heap.get? b = some o → ∃ o', g.get? b = some o' := fun b o q => by
      by_cases hb : b = c
      · rw [hb]; exact gc
      · exact ⟨o, by rw [get b hb]; exact q⟩
    refine ⟨os, bare, there _ _ g1, there _ _ g2, H', ⟨fun b o q h1 h2 h3 => ?_, fun b o q h1 h2 h3 => ?_, un.free, fun b o q h1 => ?_, un.tups, un.frzs, un.tbls⟩, fun b o q => ?_, j, n1, n2⟩
    · rw [get b (old' q)]; exact un.keep b o q h1 h2 h3
    · rw [get b (old' q)]; exact un.slot b o q h1 h2 h3
    · obtain ⟨o', q'⟩ := un.there b o q h1
      exact there b o' q'
    · refine (hok b o q).stay (fun d u hd qd => ?_) (fun _ z => z) fun _ _ z => z
      have : d ≠ c := fun e => by
        subst e
        rcases hd with e | e
        · rw [← e] at q; rw [q] at nc; cases nc
        · rw [e] at nc; cases nc
      rw [get d this]; exact qd
  have fr : ∀ c, c = kst ∨ c = lst → c ∉ frs X.stack := fun c hc z => by
    obtain ⟨_, o, q, _⟩ := I.stack.mem z
    rw [fresh c hc] at q; cases q
  have init : JJ { s with heap := PySem.W.sortingHeap (PySem.W.copyHeap s.heap its) lst its } :=
    ⟨rfl, I.bare, ⟨seqObj "list" #[] 0, by rw [← hk0]; exact Heap.get?_push_size _ rfl⟩, ⟨_, Heap.get?_push_of_some _ (Heap.get?_push_of_some _ go1)⟩, H, Un.kept old, I.hok.kept old, j0,
      I.hok.fresh (Nat.le_trans (hlst ▸ Nat.le_succ _) (Nat.le_of_lt llt)), I.hok.fresh (hlst ▸ Nat.le_succ _)⟩
  have inv : ∀ t H', t.os = s.os → AllBare t.gens → Un (frs X.stack) [] H H' s.heap t.heap → HOk X.prog X.w H' t.heap → Inv X pins σ H' t := fun t H' os bare un hok => I.call' (ch := []) os un hok bare fun b z => nomatch z
  unfold ksk_tree
  refine wpAny_bind (listItems_at ho rfl ?_)
  refine wpAny_bind (listUpdate_at ho rfl ?_ (by rw [List.size_toArray]; exact hzv) (Nat.zero_le _))
  refine wpAny_bind (seqEpoch_at go1 rfl ?_)
  refine wpAny_bind (wpAny_newTuple ?_ (by show its.length ≤ _; exact hzv))
  refine wpAny_bind (wpAny_newList ?_ (Nat.zero_le _))
  refine wpAny_holding ?_
  have hkk : (((PySem.W.copyHeap s.heap its).update lst (Obj.mapSeq fun _ => (#[] : Array Value))).push (seqObj "tuple" its.toArray 0)).get? lst = some (seqObj "list" #[] _) := Heap.get?_push_of_some _ go1
  have hu2 : X.A.in1.in1.units + 3 < cLine := by show X.A.units + 1 + 1 + 3 < _; omega
  subst hk0
  refine sortG_rest (prog := X.prog) (w := X.w) (A := X.A.in1.in1) (J := JJ) (f := .ref f) (rev := false) (kz := kz) (s := { s with heap := PySem.W.sortingHeap (PySem.W.copyHeap s.heap its) lst its }) still init (Heap.get?_push_size _ rfl) (Heap.get?_push_of_some _ hkk) ne hlv hzv
    hu2 (fun i v k hv hk t jt => ?_) fun s' out c jt hg ko => ?_
  · obtain ⟨os, bare, ⟨o1, g1⟩, ⟨o2, g2⟩, H', un, hok, j, n1, n2⟩ := jt
    obtain ⟨x, hx, rx⟩ := vals_at rv hv
    have It := inv t H' os bare un hok
    have b := hb t [v] It.kIn (F.len _ _ _ _ (hc H' i x k j hx hk))
    refine wpAny_call (codeAny_mono (F.run X.A.in1.in1 X.stack t H' ⟨[v], []⟩ [v] [x] _ E0 (room_two hr) It.env0.in1.in1 b (.cons rx .nil) (hc H' i x k j hx hk)) fun r t' hq => ?_)
    cases r with
    | error e =>
      have hq : L2.CX X.prog X.w X.stack H' t E0 e t' := hq
      obtain ⟨_, _, _, _, _, _, _, _, _, _, _, _, z⟩ := hq
      exact z.elim
    | ok fl =>
      cases fl with
      | next => exact False.elim hq
      | brk => exact False.elim hq
      | cont => exact False.elim hq
      | ret u =>
        have hq : CE X.stack X.prog X.w H' t _ u t' := hq
        obtain ⟨y, H2, os2, bare2, un2, hok2, ru, rfl, j2⟩ := hq
        have kp : ∀ (c : Addr) (o : Obj), H' c = none → c ∉ frs X.stack → t.heap.get? c = some o → t'.heap.get? c = some o := fun c o h1 h2 q => un2.keep c o q h1 h2 (by simp)
        refine ⟨⟨os2.trans os, bare2, ⟨_, kp _ _ n1 (fr _ (.inl rfl)) g1⟩, ⟨_, kp _ _ n2 (fr _ (.inr rfl)) g2⟩, H2, un.trans un2, hok2, j2, un2.free _ _ g1 n1 (by simp), un2.free _ _ g2 n2 (by simp)⟩, fun c o hc q => ?_, ?_⟩
        · rcases hc with e | e
          · rw [e] at q ⊢; exact kp _ _ n1 (fr _ (.inl rfl)) q
          · rw [e] at q ⊢; exact kp _ _ n2 (fr _ (.inr rfl)) q
        obtain ⟨tt, rfl⟩ := (show ∃ tt, u = Value.int k tt from ru)
        exact ⟨tt, rfl⟩
  · obtain ⟨os, bare, ⟨o1, g1⟩, ⟨o2, g2⟩, H', un, hok, j, n1, n2⟩ := jt
    have ek : kz.map PyData.int = (xs.zip kz).map fun p => PyData.int p.2 := by
      have : kz = (xs.zip kz).map Prod.snd := (List.map_snd_zip (Nat.le_of_eq hl)).symm
      conv => lhs; rw [this]
      rw [List.map_map]; rfl
    rw [ek] at ko
    have ev := PySem.W.keyedOut_each (R := fun (v : Value) (p : V × Int) => RelV p.1 v) (fun p => PyData.int p.2) ko (vals_each rv hl)
    rw [PySem.W.dataLe_int (fun p : V × Int => p.2)] at ev
    have rv2 : Vals (byKeys xs kz) out := each_vals ev
    have lo : (byKeys xs kz).length = xs.length := by
      unfold byKeys
      rw [List.length_map, List.length_mergeSort, List.length_zip, hl, Nat.min_self]
    refine ⟨rfl, .ref lst, upd H' lst (.lst (byKeys xs kz)), ?_, rfl, hq H' lst j n2⟩
    have new : ObjOk X.prog X.w (upd H' lst (.lst (byKeys xs kz))) s'.heap lst (.lst (byKeys xs kz)) := ⟨by rw [lo]; exact hz, out, c, rv2, hg⟩
    have nl : ∀ {b : Addr} {o : HO}, H' b = some o → b ≠ lst := fun {b o} q e => by rw [e, n2] at q; cases q
    have hok2 : HOk X.prog X.w (upd H' lst (.lst (byKeys xs kz))) s'.heap := fun b o q => by
      by_cases e : b = lst
      · subst e; rw [upd_same] at q; cases q; exact new
      · rw [upd_ne e] at q
        exact (hok b o q).stay (fun _ _ _ z => z) (fun d z => by rw [upd_ne (nl z)]; exact z) fun d ys z => by rw [upd_ne (nl z)]; exact z
    refine inv s' _ os bare ⟨un.keep, un.slot, fun b o q h1 h2 => ?_, un.there, fun b ys q => ?_, fun b o u q => ?_, fun b ps q => ?_⟩ hok2
    · have : b ≠ lst := fun e => by rw [e, fresh lst (.inr rfl)] at q; cases q
      rw [upd_ne this]; exact un.free b o q h1 h2
    · have z := un.tups b ys q
      rw [upd_ne (nl z)]; exact z
    · have z := un.frzs b o u q
      rw [upd_ne (nl z)]; exact z
    · obtain ⟨more, z⟩ := un.tbls b ps q
      exact ⟨more, by rw [upd_ne (nl z)]; exact z⟩
end
end DL

/-! DL21: sorted(xs, key=f) over data. -/
namespace DL
open PySem PySem.Spec PyProof.Rows L2
section
variable {L : Lnk} {K : PySem.W.Frag} {W : WX} {wa : WE'}
def tCon (vs : List V) : TA := fun _ H Q => Q vs H
theorem zip_rps {O : Ow} {H : Hp} : ∀ {xs : List V} {ds : List D} {kz : List Int}, Rps K O H xs ds → ∃ ps : List ((V × D) × Int), xs.zip kz = ps.map (fun p => (p.1.1, p.2)) ∧ ds.zip kz = ps.map (fun p => (p.1.2, p.2)) ∧ ∀ p ∈ ps, Rp K O H p.1.1 p.1.2
  | _, _, kz, .nil => ⟨[], by simp, by simp, fun _ h => nomatch h⟩
  | _, _, [], .cons _ _ => ⟨[], by simp, by simp, fun _ h => nomatch h⟩
  | _, _, k :: kz, .cons (v := v) (d := d) r rs => by
    obtain ⟨ps, e1, e2, h⟩ := zip_rps (kz := kz) rs
    refine ⟨((v, d), k) :: ps, by rw [List.zip_cons_cons, e1]; rfl, by rw [List.zip_cons_cons, e2]; rfl, fun p hp => ?_⟩
    rcases List.mem_cons.mp hp with e | e
    · rw [e]; exact r
    · exact h p e
theorem rps_of {O : Ow} {H : Hp} : ∀ {ps : List ((V × D) × Int)}, (∀ p ∈ ps, Rp K O H p.1.1 p.1.2) → Rps K O H (ps.map fun p => p.1.1) (ps.map fun p => p.1.2)
  | [], _ => .nil
  | p :: ps, h => .cons (h p List.mem_cons_self) (rps_of fun q hq => h q (List.mem_cons_of_mem _ hq))
theorem Rps.byKeys {O : Ow} {H : Hp} {xs : List V} {ds : List D} {kz : List Int} (r : Rps K O H xs ds) : Rps K O H (DL.byKeys xs kz) (DL.byKeys ds kz) := by
  obtain ⟨ps, e1, e2, h⟩ := zip_rps (kz := kz) r
  unfold DL.byKeys
  rw [e1, e2]
  have m : ∀ {α : Type} (f : (V × D) × Int → α × Int), (∀ p, (f p).2 = p.2) → (ps.map f).mergeSort (fun p q => decide (p.2 ≤ q.2)) = (ps.mergeSort fun p q => decide (p.2 ≤ q.2)).map f := fun {α} f hf => by
    rw [List.map_mergeSort]
    intro a _ b _
    rw [hf, hf]
  rw [m (fun p => (p.1.1, p.2)) fun _ => rfl, m (fun p => (p.1.2, p.2)) fun _ => rfl, List.map_map, List.map_map]
  exact rps_of (ps := ps.mergeSort fun p q => decide (p.2 ≤ q.2)) fun p hp => h p (List.mem_mergeSort.mp hp)
theorem byKeys_len {α : Type} {xs : List α} {kz : List Int} (h : kz.length = xs.length) : (byKeys xs kz).length = xs.length := by
  unfold byKeys
  rw [List.length_map, List.length_mergeSort, List.length_zip, h, Nat.min_self]
theorem rps_at {O : Ow} {H : Hp} {xs : List V} {ds : List D} (r : Rps K O H xs ds) : ∀ {i : Nat} {x : V}, xs[i]? = some x → ∃ d, ds[i]? = some d ∧ Rp K O H x d := by
  induction xs generalizing ds with
  | nil => intro i x h; simp at h
  | cons v vs ih =>
    cases r with
    | cons r rs =>
      intro i x h
      cases i with
      | zero => cases Option.some.inj h; exact ⟨_, rfl, r⟩
      | succ i => exact ih rs (by simpa using h)
theorem rl_sortK {ta : TE} {f : Addr} {F : FSp} (ha : RE L K W ta wa) : RL L K W (tCKw (rSortK K f (spOf L K F)) (tCons ta tNil) (tCon [.ref f])) fun ρ S R Q => wa ρ S R fun x S1 => match res S1 x with
    | .lst xs => ∃ kz : List Int, kz.length = xs.length ∧ (∀ (i : Nat) (d : D) (k : Int), xs[i]? = some d → kz[i]? = some k → F [d] S1 xNo fun v S2 => v = .int k ∧ ∀ a o, S1 a = some o → S2 a = some o) ∧ Q (byKeys xs kz) S1
    | _ => False := fun σ H ρ S O R Q Q' A hw k => by
  refine ha.go A hw fun x H1 dx S1 O1 r1 A1 e1 q1 => ?_
  obtain ⟨hl, _, _⟩ := seq_of r1 A1.sok
  cases e : res S1 dx <;> rw [e] at q1 <;> try exact q1.elim
  obtain ⟨a, xs, rfl, g1, g2, g3⟩ := hl _ e
  obtain ⟨kz, l1, hk, q1⟩ := q1
  refine ⟨a, xs, kz, fun H' => ∃ O', Sok K S1 O' H' ∧ Ev S1 O1 H1 S1 O' H', rfl, rfl, SqL.of g1, by rw [l1, g3.len], ⟨O1, A1.sok, .refl⟩, fun H' i x j ⟨O', sk, ev⟩ hx hj => ?_, fun H' p ⟨O', sk, ev⟩ hp => ?_⟩
  · obtain ⟨d, hd, rd⟩ := rps_at g3 hx
    refine ⟨[d], S1, O', xNo, _, sk, .cons (rd.mono (ev.mo A1.sok)) .nil, hk i d j hd hj, fun _ _ _ _ _ _ _ _ _ _ z => z.elim, fun v H2 dv S2 O2 rv s2 e2 ⟨qv, sb⟩ => ?_⟩
    subst qv
    cases rv
    refine ⟨rfl, O2, ⟨fun a ds h => s2.dom a ds (sb a _ h), s2.ex⟩, ev.trans sk ⟨e2.keep, e2.own, fun a h n => ⟨(e2.res a h n).1, n⟩, e2.there⟩⟩
  · have A2 := A1.next sk ev
    have r2 : Rps K O' H' (byKeys xs kz) (byKeys _ kz) := (g3.mono (ev.mo A1.sok)).byKeys
    refine rl_new A2 (e1.trans A1.sok ev) (by rw [byKeys_len (by rw [l1, g3.len])]; exact g2) r2 trivial (fun p xs H' ds' S' O' a b c d e f g i j => k p xs H' ds' S' O' a b c d e f g i (by rw [j.1, j.2]; exact q1)) p hp
end
end DL

set_option maxHeartbeats 4000000
/-! DL22: set(xs) of a list of ints, as it stands in the heap; sorted(set(xs)). -/
namespace DL
open PySem PySem.Spec PyProof.Rows L2
def freshO (w : World) : Obj := { cls := .type "set", dict := none, data := .set #[] 0 (.fresh 0 0 (!w.params.followText "set-order")) }
section
variable {P : Program} {w : World} {A : Around} {E : Value → Shared → Prop} {s : Shared}
set_option maxHeartbeats 8000000 in
theorem set_of_list {a : Addr} {xs : Array Value} (ns : List Int) {Q : Value → Shared → Prop} (quiet : A.handled = none) (at_ : s.heap.IsList a xs) (iv : IntsAre xs.toList ns) (few : ns.length + 1 < scanBound)
    (done : ∀ (g : Heap) (tk c : Nat), SetR w g s.heap.objs.size (fun j => decide (j ∈ ns)) c → c ≤ ns.length → (∀ b o, s.heap.get? b = some o → g.get? b = some o) → Q (.ref s.heap.objs.size) { s with heap := g, toks := tk }) :
    wpAny (model P w) A (call (.type "set") [.ref a]) Q E s := by
  have xsz : xs.size = ns.length := (Array.length_toList (xs := xs)).symm.trans (IntsAre.length iv)
  have f1 := F.called_set.mro
  have f2 := F.called_set.made
  have f3 := F.called_set.sub
  have f4 := F.called_set.notType
  have f5 := F.called_set.canCreate
  have f6 := F.typeCall_set_1 (.ref a)
  obtain ⟨c0, tl0, f1⟩ := f1
  refine wpAny_call (codeAny_of_tree ?_)
  show wpAny _ _ (callAny (.type "set") _) _ _ _
  refine wpAny_pure ⟨Code.quiet_builtin _ (by decide +kernel), codeAny_builtin F.entry_type_call ?_⟩
  rw [Around.under_plain (weight_type_call_type "set" [.ref a] []) rfl]
  repeat (any_goals (first | assumption | wp_step))
  generalize hfo : freshO w = fo
  refine codeAny_mono (code_set_led1 (.ref a) (E := E) (Q₁ := fun u t => u = .ref s.heap.objs.size ∧ t = { s with heap := s.heap.push fo }) ⟨rfl, by rw [← hfo]; rfl⟩) fun r1 t1 q1 => ?_
  match r1, q1 with
  | .ok (.ret u), q1 => ?_
  | .error e, q1 => exact q1
  | .ok .next, q1 => exact q1.elim
  | .ok .brk, q1 => exact q1.elim
  | .ok .cont, q1 => exact q1.elim
  obtain ⟨rfl, rfl⟩ := q1
  have new : (s.heap.push fo).get? s.heap.objs.size = some fo := Heap.get?_push_size _ (by rw [← hfo]; rfl)
  have kind : Shared.TypeIs { s with heap := s.heap.push fo } (.ref s.heap.objs.size) "set" := ⟨_, new, by rw [← hfo]; rfl⟩
  have f7 := F.called_set.init.lookup
  have f8 := F.called_set.init.bind (.ref s.heap.objs.size)
  repeat (any_goals (first | assumption | wp_step))
  refine codeAny_mono (codeAny_call_builtin (R := wants (fun u t => u = .none ∧ ∃ g tk c, t = { s with heap := g, toks := tk } ∧ SetR w g s.heap.objs.size (fun j => decide (j ∈ ns)) c ∧ c ≤ ns.length ∧
      ∀ b o, s.heap.get? b = some o → g.get? b = some o) E) F.called_set.init.plain F.entry_set_init (check_set_init_1 kind ?_)) fun r2 t2 q2 => ?_
  · obtain ⟨⟨cl, di, da, sl⟩, at1, at2, k0, at3⟩ := at_
    simp only at at2 at3
    subst at2 at3
    have old : a < s.heap.objs.size := Heap.lt_size at1
    have at4 : (s.heap.push fo).get? a = some { cls := .type "list", dict := di, data := .seq xs k0, slots := sl } := Heap.get?_push_of_some _ at1
    have il : (s.heap.push fo).IsList a xs := ⟨_, at4, rfl, k0, rfl⟩
    have g1 := F.sub_list_set
    have g2 := F.sub_list_frozenset
    have g3 : (Value.type "list" == Value.type "dict") = false := by decide
    subst hfo
    unfold freshO at il new ⊢
    unfold Builtin.«set.__init__» noKeywords Builtin.Frozenset.updateFrom
    generalize hpi : pyIter = pI
    wp_walk
    subst hpi
    refine wpAny_pyIter_list il ?_
    refine wpAny_bind (wpAny_runValue ?_)
    have sz : (s.heap.push (freshO w)).objs.size = s.heap.objs.size + 1 := Heap.size_push ..
    unfold freshO at sz
    have far : s.heap.objs.size ∉ [s.heap.objs.size + 1, a] := by
      simp only [List.mem_cons, List.not_mem_nil, or_false, not_or]
      exact ⟨Nat.ne_of_lt (Nat.lt_succ_self _), Nat.ne_of_gt old⟩
    rw [← sz] at far
    have vals : ∀ (i : Nat) (v : Value), xs[i]? = some v → ∃ k t, ns[i]? = some k ∧ v = .int k t := fun i v hv => by
      have lt : i < ns.length := xsz ▸ (Array.getElem?_eq_some_iff.mp hv).1
      obtain ⟨t, e⟩ := IntsAre.int_at iv i v (by rw [Array.getElem?_toList]; exact hv)
      exact ⟨ns[i], t, List.getElem?_eq_getElem lt, by rw [e, List.getD_eq_getElem?_getD, List.getElem?_eq_getElem lt]; rfl⟩
    refine set_update_ints ((Walks.list (by simp [quiet]) _ a (by rw [sz]; exact Nat.ne_of_lt (Nat.lt_succ_of_lt old)) xs).toS) s.heap.objs.size far ns xsz few vals (xs.size - 0) 0 _ (by omega) (Nat.zero_le _)
      ⟨⟨_, Heap.get?_push_size _ rfl, rfl, rfl⟩, il.push _⟩ ⟨0, Nat.le_refl 0, setR_new_at (Heap.get?_push_of_some _ new)⟩ ?_
    rintro ⟨g, g', d', tk', os'⟩ c mv cn sr
    have e1 : g' = s.gens := mv.gens
    have e2 : d' = s.drawn := mv.drawn
    have e3 : os' = s.os := mv.os
    subst e1 e2 e3
    show wpAny _ _ _ _ _ _
    refine wpAny_pure ?_
    show wpAny _ _ (ret Value.none) _ _ _
    refine wpAny_pure ⟨rfl, g, tk', c, rfl, sr, xsz ▸ cn, fun b o e => ?_⟩
    have bl : b < s.heap.objs.size := Heap.lt_size e
    exact mv.heap b o (by rw [sz]; simp only [List.mem_cons, List.not_mem_nil, or_false, not_or]; exact ⟨Nat.ne_of_lt bl, Nat.ne_of_lt (Nat.lt_succ_of_lt bl)⟩) (Heap.get?_push_of_some _ (Heap.get?_push_of_some _ e))
  · subst hfo
    match r2, q2 with
    | .ok (.ret u), q2 => ?_
    | .error e, q2 => exact q2
    | .ok .next, q2 => exact q2.elim
    | .ok .brk, q2 => exact q2.elim
    | .ok .cont, q2 => exact q2.elim
    obtain ⟨rfl, g, tk, c, rfl, sr, cn, kp⟩ := q2
    repeat (any_goals (first | assumption | wp_step))
    exact done g tk c sr cn kp
end
end DL

set_option maxHeartbeats 4000000
/-! DL23: sorted(set(ints)); sorted of a list of tuples that begin with ints of which no two are the same. -/
namespace DL
open PySem PySem.Spec PyProof.Rows L2
section
variable {X : Cx}
def tSortSet (K : PySem.W.Frag) (ta : TE) : TE := fun σ H Q => ta σ H fun x H1 => ∃ (l : Addr) (ns : List Int), x = .ref l ∧ SqL K H1 l (ns.map V.int) ∧ ns.length < 64 ∧
  ∀ (ms : List Int), ms.Pairwise (· < ·) → (∀ k, k ∈ ms ↔ k ∈ ns) → ms.length ≤ ns.length → ∀ p, H1 p = none → Q (.ref p) (upd H1 p (.lst (ms.map V.int)))
theorem pe_sortSet {a : Expr} {ta : TE} {p p2 q pos : Pos} (hc : X.calm = true) (hg : Gl X "sorted") (hm : X.mg "sorted" = none) (hg2 : Gl X "set") (hm2 : X.mg "set" = none) (ha : PE X a ta)
    (na : starEach [a] X.env = (false, eval a X.env) :: starEach [] X.env) : PE X (.Call (.Name "sorted" p) [.Call (.Name "set" p2) [a] [] q] [] pos) (tSortSet X.K ta) := by
  refine ⟨fun pins s σ H Q I h => ?_⟩
  refine Call_ (ld_blt I hg hm boot_sorted ?_)
  refine callWith_builtin1 (args_cons ?_ rfl) rfl rfl
  refine Call_ (ld_blt I hg2 hm2 boot_set ?_)
  refine callWith_type1 (args_cons (thn (ha.run pins s σ H _ I h) fun v s1 ⟨x, H1, I1, r1, q1⟩ => args_nil ?_) na) na rfl
  obtain ⟨l, ns, rfl, hq, few, q1⟩ := q1
  cases r1
  obtain ⟨its, rv, pl, hz⟩ := I1.list hq
  refine set_of_list ns (I1.ok.hd hc) pl.isList (by simpa using rv.ints) (by unfold scanBound; omega) fun g tk c sr cn kp => ?_
  refine args_nil ?_
  have fresh : s1.heap.get? s1.heap.objs.size = none := Heap.get?_none_of_le (Nat.le_refl _)
  refine sorted_set (s := { s1 with heap := g, toks := tk }) sr (I1.ok.hd hc) (by omega) fun s' b out e ms k2 g2 o hb hg3 hi hs hm3 hl => ?_
  have kall : ∀ b u, s1.heap.get? b = some u → s'.heap.get? b = some u := fun b u z => k2 b u (kp b u z)
  have hb1 : s1.heap.objs.size ≤ b := Nat.le_trans (Nat.le_of_lt sr.lt) hb
  have hlen : (ms.map V.int).length ≤ sizeLine := by rw [List.length_map, hl, sizeLine_eq]; omega
  have hn : H1 b = none := I1.hok.fresh hb1
  have J : Inv X pins σ (upd H1 b (.lst (ms.map V.int))) { s1 with heap := s'.heap, gens := s'.gens, drawn := s'.drawn, toks := s'.toks } :=
    I1.call (ch := []) (Un.laid kall hb1 hn) (I1.hok.laid kall hb1 ⟨hlen, out.toList, e, vals_of_ints hi, hg3⟩) (by rw [g2]; exact I1.bare) (fun _ z => nomatch z)
  have es : s' = { s1 with heap := s'.heap, gens := s'.gens, drawn := s'.drawn, toks := s'.toks } := by
    have o' : s'.os = s1.os := o
    cases s'; cases s1; cases o'; rfl
  rw [es]
  exact ⟨.ref b, _, J, rfl, q1 ms hs (fun k => (hm3 k).trans decide_eq_true_iff) (by omega) b hn⟩
/-- sorted(xs): the items are tuples that begin with ints, no two alike -/
def rSortI (K : PySem.W.Frag) : List V → Hp → VK → Prop := fun vs H Q => ∃ (a : Addr) (xs : List V) (kz : List Int) (ps : List PyData), vs = [.ref a] ∧ SqL K H a xs ∧ kz.length = xs.length ∧ kz.Nodup ∧ DpAll K H xs ps ∧ PySem.W.AllAlike ps ∧
  (∀ p ∈ ps, p.depth ≤ 8) ∧ (∀ (i : Nat) (d : PyData) (k : Int), ps[i]? = some d → kz[i]? = some k → ∃ r, d = .tuple (.int k :: r)) ∧ ∀ p, H p = none → Q (.ref p) (upd H p (.lst (byKeys xs kz)))
theorem dpAll_len {K : PySem.W.Frag} {H : Hp} : ∀ {xs : List V} {ps : List PyData}, DpAll K H xs ps → ps.length = xs.length
  | _, _, .nil => rfl
  | _, _, .cons _ t => by rw [List.length_cons, List.length_cons, dpAll_len t]
/-- one by one, with keys and data -/
theorem each_three : ∀ {xs : List V} {vs : List Value} {kz : List Int} {ps : List PyData}, Vals xs vs → kz.length = xs.length → ps.length = xs.length → PySem.W.EachIs (fun (v : Value) (b : (V × Int) × PyData) => RelV b.1.1 v) vs ((xs.zip kz).zip ps)
  | [], _, [], [], .nil, _, _ => .nil
  | x :: xs, _, k :: kz, p :: ps, .cons r t, h, h2 => .cons r (each_three t (by simpa using h) (by simpa using h2))
theorem each_reads {h : Heap} : ∀ {xs : List V} {vs : List Value} {kz : List Int} {ps : List PyData} {as : List Addr}, ReadsAll h vs ps as → kz.length = xs.length → ps.length = xs.length → PySem.W.EachIs (fun (v : Value) (b : (V × Int) × PyData) => ∃ as, Reads h v b.2 as) vs ((xs.zip kz).zip ps)
  | [], _, [], [], _, .nil, _, _ => .nil
  | x :: xs, _, k :: kz, p :: ps, _, .cons r t, h, h2 => .cons ⟨_, r⟩ (each_reads t (by simpa using h) (by simpa using h2))
theorem zip3_map : ∀ {xs : List V} {kz : List Int} {ps : List PyData}, kz.length = xs.length → ps.length = xs.length → ((xs.zip kz).zip ps).map Prod.fst = xs.zip kz ∧ ((xs.zip kz).zip ps).map Prod.snd = ps := fun {xs kz ps} h h2 => by
  have l : (xs.zip kz).length = ps.length := by rw [List.length_zip, h, h2, Nat.min_self]
  exact ⟨List.map_fst_zip (Nat.le_of_eq l), List.map_snd_zip (Nat.le_of_eq l.symm)⟩
theorem vals_three : ∀ {vs : List Value} {bs : List ((V × Int) × PyData)}, PySem.W.EachIs (fun (v : Value) (b : (V × Int) × PyData) => RelV b.1.1 v) vs bs → Vals (bs.map fun b => b.1.1) vs
  | _, _, .nil => .nil
  | _, _, .cons r rs => .cons r (vals_three rs)
theorem sort_agree {xs : List V} {kz : List Int} {ps : List PyData} (l1 : kz.length = xs.length) (l2 : ps.length = xs.length) (nd : kz.Nodup) (hd : ∀ (i : Nat) (d : PyData) (k : Int), ps[i]? = some d → kz[i]? = some k → ∃ r, d = .tuple (.int k :: r)) :
    ((xs.zip kz).zip ps).mergeSort (PySem.W.dataLe false fun b => b.2) = ((xs.zip kz).zip ps).mergeSort fun b c => decide (b.1.2 ≤ c.1.2) := by
  have at_ : ∀ b ∈ (xs.zip kz).zip ps, ∃ i : Nat, kz[i]? = some b.1.2 ∧ ps[i]? = some b.2 ∧ xs[i]? = some b.1.1 := fun b hb => by
    obtain ⟨i, hi⟩ := List.mem_iff_getElem?.mp hb
    obtain ⟨z1, z2⟩ := List.getElem?_zip_eq_some.mp hi
    obtain ⟨z3, z4⟩ := List.getElem?_zip_eq_some.mp z1
    exact ⟨i, z4, z2, z3⟩
  have m := List.map_mergeSort (f := id) (r := PySem.W.dataLe false fun b : (V × Int) × PyData => b.2) (s := fun b c => decide (b.1.2 ≤ c.1.2)) (l := (xs.zip kz).zip ps) ?_
  · rw [List.map_id, List.map_id] at m; exact m
  intro b hb c hc
  obtain ⟨i, b1, b2, b3⟩ := at_ b hb
  obtain ⟨j, c1, c2, c3⟩ := at_ c hc
  obtain ⟨r, e⟩ := hd i _ _ b2 b1
  obtain ⟨u, f⟩ := hd j _ _ c2 c1
  show (!PySem.W.dataLt c.2 b.2) = decide (b.1.2 ≤ c.1.2)
  by_cases ek : b.1.2 = c.1.2
  · have ij : i = j := by
      obtain ⟨hi, _⟩ := List.getElem?_eq_some_iff.mp b1
      rw [← ek] at c1
      exact (List.getElem?_inj hi nd).mp (b1.trans c1.symm)
    subst ij
    have : b.2 = c.2 := Option.some.inj (b2.symm.trans c2)
    have ir : PySem.W.dataLt c.2 c.2 = false := PyProof.Rows.lex_irrefl _
    rw [this, ir, ek]; simp
  · rw [e, f, PySem.W.dataLt_tuple, PySem.W.dataLt_cons (by simp [PySem.W.alike]), PySem.W.dataLt_int]
    have : PyData.eqv (.int c.1.2) (.int b.1.2) = false := by simp [PyData.eqv]; exact fun z => ek z.symm
    rw [this, if_neg Bool.false_ne_true]
    by_cases z : c.1.2 < b.1.2
    · have : ¬ b.1.2 ≤ c.1.2 := by omega
      simp [z, this]
    · have : b.1.2 ≤ c.1.2 := by omega
      simp [z, this]
theorem cr_sortI (hu : X.A.units + 70 < cLine) : CallR X (.builtin "sorted") (rSortI X.K) := by
  intro pins s σ H vs us Q I r h
  obtain ⟨a, xs, kz, ps, rfl, hs, l1, nd, dp, al, dep, hd, hq⟩ := h
  have l2 := dpAll_len dp
  obtain ⟨its, rv, pl, hz⟩ := I.list hs
  obtain ⟨u, rfl, ru⟩ := vals1 r
  obtain rfl : u = Value.ref a := ru
  obtain ⟨as, ra⟩ := Dp.readsAll I ps _ its dp rv
  obtain ⟨e1, e2⟩ := zip3_map l1 l2
  have lb : ((xs.zip kz).zip ps).length = xs.length := by rw [List.length_zip, List.length_zip, l1, l2, Nat.min_self, Nat.min_self]
  have tup : ∀ d ∈ ps, ∃ x r, d = PyData.tuple (x :: r) := fun d m => by
    obtain ⟨i, hi⟩ := List.mem_iff_getElem?.mp m
    obtain ⟨li, _⟩ := List.getElem?_eq_some_iff.mp hi
    obtain ⟨r, e⟩ := hd i d kz[i] hi (List.getElem?_eq_getElem (by omega))
    exact ⟨_, _, e⟩
  refine PySem.W.sorted_data (R := fun (v : Value) (b : (V × Int) × PyData) => RelV b.1.1 v) (bs := (xs.zip kz).zip ps) (enc := fun b => b.2) (vs := its) pl.isList (each_three rv l1 l2) (each_reads ra l1 l2)
    (by rw [e2]; exact al) (by rw [e2]; exact .inl tup) (by rw [lb]; exact hz) (fun b hb => ?_) fun out lo eo => ?_
  · have : b.2 ∈ ps := e2 ▸ List.mem_map.mpr ⟨b, hb, rfl⟩
    have := dep _ this
    omega
  · obtain ⟨c, hc⟩ := sortedAll_at s.heap its out.toArray
    have kp : ∀ b u, s.heap.get? b = some u → (sortedAll s.heap its out.toArray).get? b = some u := fun b u z => sortedAll_old z
    rw [sort_agree l1 l2 nd hd] at eo
    have eb : (((xs.zip kz).zip ps).mergeSort fun b c => decide (b.1.2 ≤ c.1.2)).map (fun b => b.1.1) = byKeys xs kz := by
      have m := List.map_mergeSort (f := Prod.fst) (r := fun b c : (V × Int) × PyData => decide (b.1.2 ≤ c.1.2)) (s := fun p q : V × Int => decide (p.2 ≤ q.2)) (l := (xs.zip kz).zip ps) fun _ _ _ _ => rfl
      rw [e1] at m
      unfold byKeys
      rw [← m, List.map_map]; rfl
    have rv2 : Vals (byKeys xs kz) out := eb ▸ vals_three eo
    exact ⟨.ref (s.heap.objs.size + 1), upd H (s.heap.objs.size + 1) (.lst (byKeys xs kz)), I.laid (t' := s.toks) kp (Nat.le_succ _) ⟨by rw [byKeys_len l1]; exact hz, out, c, rv2, hc⟩, rfl, hq _ (I.hok.fresh (Nat.le_succ _))⟩
end
/-- xs[::-1] of a list: a new list -/
def tStpL (K : PySem.W.Frag) (te : TE) (tl th ts : TO) : TE := fun σ H Q => te σ H fun x H1 => tl σ H1 fun l H2 => th σ H2 fun u H3 => ts σ H3 fun o H4 => ∃ a xs, x = .ref a ∧ l = none ∧ u = none ∧ o = some (-1) ∧ SqL K H4 a xs ∧ ∀ p, H4 p = none → Q (.ref p) (upd H4 p (.lst xs.reverse))
theorem vals_rev {xs : List V} {us : List Value} (r : Vals xs us) : Vals xs.reverse us.reverse := by
  induction r with
  | nil => exact .nil
  | cons a t ih => rw [List.reverse_cons, List.reverse_cons]; exact ih.append (.cons a .nil)
theorem pe_stpL {X : Cx} {e st : Expr} {lo hi : Option Expr} {te : TE} {tl th ts : TO} {p3 pos : Pos} (he : PE X e te) (hl : PO X lo tl) (hh : PO X hi th) (hst : PO X (some st) ts) : PE X (.Subscript e (.Slice lo hi (some st) p3) pos) (tStpL X.K te tl th ts) := by
  refine ⟨fun pins s σ H Q I h => ?_⟩
  refine Subscript_ (thn (he.run pins s σ H _ I h) fun v s1 ⟨x, H1, I1, r1, q1⟩ => ?_)
  refine wpAny_Slice (thn (hl.run pins s1 σ H1 _ I1 q1) fun vl s2 ⟨l, H2, I2, pl, q2⟩ => ?_)
  refine thn (hh.run pins s2 σ H2 _ I2 q2) fun vu s3 ⟨u, H3, I3, pu, q3⟩ => ?_
  refine thn (hst.run pins s3 σ H3 _ I3 q3) fun vs s4 ⟨o, H4, I4, ps, a, xs, ex, e1, e2, e3, hx, q⟩ => ?_
  subst ex e1 e2 e3
  cases r1
  have I5 : Inv X pins σ H4 { s4 with heap := s4.heap.push { cls := .type "slice", data := .fields #[vl, vu, vs] } } := I4.kept (t' := s4.toks) fun b ob q => Heap.get?_push_of_some _ q
  obtain ⟨its, r, ht, hz⟩ := I5.list hx
  show wpAny (model X.prog X.w) X.A (subscriptTail e (.Slice lo hi (some st) p3) (.ref a) (.ref s4.heap.objs.size)) (EP X pins σ Q) X.xe { s4 with heap := s4.heap.push { cls := .type "slice", data := .fields #[vl, vu, vs] } }
  refine tail_any (ops := [.ref a, .ref s4.heap.objs.size]) ht.isList.typeIs (slot_list_getitem.lookup) ?_ (by with_unfolding_all rfl)
  refine wpAny_getItem_list_slice ht.isList (Heap.IsSliceOf.new _ vl vu vs) pl pu ps (by decide) ?_ (by rw [List.size_toArray, ← r.length]; exact hz)
  rw [PySem.W.krv_pick]
  exact ⟨.ref _, _, I5.laid (t' := s4.toks) (o := .lst xs.reverse) (fun b ob q => Heap.get?_push_of_some _ q) (Nat.le_refl _) ⟨by rw [List.length_reverse]; exact hz, _, 0, vals_rev r, Heap.get?_push_size _ rfl⟩, rfl, q _ (I5.hok.fresh (Nat.le_refl _))⟩
theorem Rps.rev {K : PySem.W.Frag} {O : Ow} {H : Hp} {xs : List V} {ds : List D} (r : Rps K O H xs ds) : Rps K O H xs.reverse ds.reverse := by
  induction xs generalizing ds with
  | nil => cases r; exact .nil
  | cons x xs ih => cases r with | cons a t => rw [List.reverse_cons, List.reverse_cons]; exact (ih t).append (.cons a .nil)
section
variable {L : Lnk} {K : PySem.W.Frag} {W : WX} {wa ws : WE'}
theorem rl_stpL {te : TE} {tl th : TO} {ts : TE} {wl wh : Env → Sto → XD → (Option Int → Sto → Prop) → Prop} (ha : RE L K W te wa) (hl : RO L K W tl wl) (hh : RO L K W th wh) (hs : RE L K W ts ws) : RL L K W (tStpL K te tl th (tPart ts)) fun ρ S R Q => wa ρ S R fun x S1 => wl ρ S1 R fun l S2 => wh ρ S2 R fun h S3 => ws ρ S3 R fun y S4 => match res S4 x, y with
    | .lst xs, .int k => l = none ∧ h = none ∧ k = -1 ∧ Q xs.reverse S4
    | _, _ => False := fun σ H ρ S O R Q Q' A hw k => by
  refine ha.go A hw fun x H1 dx S1 O1 r1 A1 e1 q1 => ?_
  refine hl.go A1 q1 fun l H2 S2 O2 A2 e2 q2 => ?_
  refine hh.go A2 q2 fun h H3 S3 O3 A3 e3 q3 => ?_
  refine hs.go A3 q3 fun y H4 dy S4 O4 r4 A4 e4 q4 => ?_
  have r1 := ((r1.mono (A1.mo e2)).mono (A2.mo e3)).mono (A3.mo e4)
  have ev := ((e1.trans A1.sok e2).trans A2.sok e3).trans A3.sok e4
  obtain ⟨hl, _, _⟩ := seq_of r1 A4.sok
  cases e : res S4 dx <;> rw [e] at q4 <;> cases dy <;> try exact q4.elim
  cases r4
  obtain ⟨a, xs, rfl, g1, g2, g3⟩ := hl _ e
  obtain ⟨rfl, rfl, rfl, q⟩ := q4
  refine ⟨_, rfl, a, xs, rfl, rfl, rfl, rfl, SqL.of g1, fun p hp => ?_⟩
  exact rl_new A4 ev (by rw [List.length_reverse]; exact g2) g3.rev trivial (fun p xs H' ds' S' O' a b c d e f g i j => k p xs H' ds' S' O' a b c d e f g i (by rw [j.1, j.2]; exact q)) p hp
end
section
variable {L : Lnk} {K : PySem.W.Frag} {W : WX} {wa : WE'}
theorem rl_sortSet {ta : TE} (ha : RE L K W ta wa) : RL L K W (tSortSet K ta) fun ρ S R Q => wa ρ S R fun x S1 => match res S1 x with
    | .lst xs => ∃ ns : List Int, xs = ns.map .int ∧ ns.length < 64 ∧ ∀ ms : List Int, ms.Pairwise (· < ·) → (∀ k, k ∈ ms ↔ k ∈ ns) → Q (ms.map .int) S1
    | _ => False := fun σ H ρ S O R Q Q' A hw k => by
  refine ha.go A hw fun x H1 dx S1 O1 r1 A1 e1 q1 => ?_
  obtain ⟨hl, _, _⟩ := seq_of r1 A1.sok
  cases e : res S1 dx <;> rw [e] at q1 <;> try exact q1.elim
  obtain ⟨a, xs, rfl, g1, g2, g3⟩ := hl _ e
  obtain ⟨ns, rfl, few, q1⟩ := q1
  obtain rfl := g3.ints
  refine ⟨a, ns, rfl, SqL.of g1, few, fun ms h1 h2 h3 => ?_⟩
  exact rl_new A1 e1 (by rw [List.length_map, sizeLine_eq]; omega) (Rps.ofInts ms) trivial (fun p xs H' ds' S' O' a b c d e f g i j => k p xs H' ds' S' O' a b c d e f g i (by rw [j.1, j.2]; exact q1 ms h1 h2))
theorem rl_sortI {ta : TE} (ha : RE L K W ta wa) : RL L K W (tCB (rSortI K) (tCons ta tNil)) fun ρ S R Q => wa ρ S R fun x S1 => match res S1 x with
    | .lst xs => ∃ (kz : List Int) (ps : List PyData), kz.length = xs.length ∧ kz.Nodup ∧ D.py.pys xs = some ps ∧ PySem.W.AllAlike ps ∧ (∀ p ∈ ps, p.depth ≤ 8) ∧
      (∀ (i : Nat) (d : PyData) (k : Int), ps[i]? = some d → kz[i]? = some k → ∃ r, d = .tuple (.int k :: r)) ∧ Q (byKeys xs kz) S1
    | _ => False := fun σ H ρ S O R Q Q' A hw k => by
  refine ha.go A hw fun x H1 dx S1 O1 r1 A1 e1 q1 => ?_
  obtain ⟨hl, _, _⟩ := seq_of r1 A1.sok
  cases e : res S1 dx <;> rw [e] at q1 <;> try exact q1.elim
  obtain ⟨a, xs, rfl, g1, g2, g3⟩ := hl _ e
  obtain ⟨kz, ps, l1, nd, hp, al, dep, hd, q1⟩ := q1
  refine ⟨a, xs, kz, ps, rfl, SqL.of g1, by rw [l1, g3.len], nd, dps_of g3 hp, al, dep, hd, ?_⟩
  exact rl_new A1 e1 (by rw [byKeys_len (by rw [l1, g3.len])]; exact g2) g3.byKeys trivial (fun p xs H' ds' S' O' a b c d e f g i j => k p xs H' ds' S' O' a b c d e f g i (by rw [j.1, j.2]; exact q1))
end
end DL

/-! DL12: the check is enough: expressions. -/
namespace DL
open PySem PySem.Spec PyProof.Rows L2
/-- the three readings of an expression -/
def Th (L : Lnk) (W : WX) (X : Cx) (x : Expr) (w : WE') : Prop := PE X x (tO L X.K W w) ∧ PT X x (tOT L X.K W w) ∧ (isBO x = true → PW X x (tOT L X.K W w))
section
variable {c : Ck} {L : Lnk} {W : WX} {X : Cx}
theorem th_val {x : Expr} {w : WE'} (pe : PE X x (tO L X.K W w)) (he : ∀ whole, isTrue x X.env whole = (do let v ← whole; standAt x.pos; holding [v] (truthy v))) (nb : isBO x = false) : Th L W X x w :=
  ⟨pe, (pt_val pe he).can (re_tO).tB, fun h => by rw [nb] at h; cases h⟩
theorem pe_callS0 {X : Cx} {CX : CXT} {k : Nat} {f : Addr} {fd : FuncData} {ps : List Str} {sp : Sp} {E : L2.St → XK} {x : Str} {p pos : Pos} (F : FnOk X.prog X.w X.K X.mg X.base CX k f fd ps sp) (hr : Room k X.A) (hg : Gl X x) (hm : X.mg x = some (.ref f)) (hk : PySem.W.keepIn X.K (.ref f) = true) (hb : Binds X.K fd ps []) (hx : ∀ σ, PassesAt CX X σ (E σ))
    (hdb : (x == ("__debug__" : Str)) = false) : PE X (.Call (.Name x p) [] [] pos) (tCallS sp E tNil) := by
  refine ⟨fun pins s σ H Q I h => ?_⟩
  refine wpAny_Call_Name_kw (ld_glob I hg hm ?_ hdb)
  exact PySem.W.callWith_K0 I.kIn hk (run_fnS (us := []) F hr hb (hx σ) I .nil h)
theorem re_callS {f : Nat} {t : TA} {ws : Env → Sto → XD → (List D → Sto → Prop) → Prop} {K : PySem.W.Frag} (h : RA L K W t ws) : RE L K W (tCallS (spOf L K (L.Γ.fn f)) (WE W) t) fun ρ S R Q => ws ρ S R fun ds S1 => L.Γ.fn f ds S1 R Q := fun σ H ρ S O R Q Q' A hw k => by
  refine h.go A hw fun vs H1 ds S1 O1 r1 A1 e1 q1 => ?_
  refine ⟨ds, S1, O1, R, Q, A1.sok, r1, q1, fun k' d S' O' H' c dd s' e' x r => A1.x k' d S' O' H' c dd s' e' x r, fun v H' d S' O' r' s' e' q' => k v H' d S' O' r' s' (e1.trans A1.sok e') q'⟩
theorem cst_ok {d : D} {x : Expr} (hx : XC c L W X) (h : cstC c d x = true) : PE X x (tO L X.K W fun _ S _ Q => Q d S) ∧ (∀ whole, isTrue x X.env whole = (do let v ← whole; standAt x.pos; holding [v] (truthy v))) ∧ isBO x = false := by
  unfold cstC at h
  split at h
  · have e := of_decide_eq_true h; subst e
    exact ⟨pe_int.can (re_c fun _ _ => .int _), fun _ => rfl, rfl⟩
  · have e := of_decide_eq_true h; subst e
    exact ⟨pe_bl.can (re_c fun _ _ => .bl _), fun _ => rfl, rfl⟩
  · have e := of_decide_eq_true h; subst e
    exact ⟨pe_str.can (re_c fun _ _ => .str _), fun _ => rfl, rfl⟩
  · exact ⟨pe_non.can (re_c fun _ _ => .non), fun _ => rfl, rfl⟩
  · rw [Bool.and_eq_true] at h
    obtain ⟨hg, hd⟩ := gloC_ok hx h.1
    have h2 := h.2
    simp only [Bool.or_eq_true, Bool.and_eq_true, decide_eq_true_eq] at h2
    rcases h2 with (((⟨e1, e2⟩ | ⟨e1, e2⟩) | ⟨e1, e2⟩) | ⟨e1, e2⟩) | ⟨e1, e2⟩ <;> subst e1 <;> subst e2
    · exact ⟨L2.PE.can (pe_bltn hg (bl_of hx (by decide +kernel)) (u := .type "int") (v := .ty "int") (by decide +kernel) rfl) (re_c fun _ _ => .ty _), fun _ => rfl, rfl⟩
    · exact ⟨L2.PE.can (pe_bltn hg (bl_of hx (by decide +kernel)) (u := .type "bool") (v := .ty "bool") (by decide +kernel) rfl) (re_c fun _ _ => .ty _), fun _ => rfl, rfl⟩
    · exact ⟨L2.PE.can (pe_bltn hg (bl_of hx (by decide +kernel)) (u := .type "tuple") (v := .ty "tuple") (by decide +kernel) rfl) (re_c fun _ _ => .ty _), fun _ => rfl, rfl⟩
    · exact ⟨L2.PE.can (pe_bltn hg (bl_of hx (by decide +kernel)) (u := .type "str") (v := .ty "str") (by decide +kernel) rfl) (re_c fun _ _ => .ty _), fun _ => rfl, rfl⟩
    · exact ⟨L2.PE.can (pe_bltn hg (bl_of hx (by decide +kernel)) (u := .type "list") (v := .ty "list") (by decide +kernel) rfl) (re_c fun _ _ => .ty _), fun _ => rfl, rfl⟩
  · cases h
theorem starEach_len (env : PySem.Env) : ∀ xs : List Expr, (starEach xs env).length = xs.length
  | [] => rfl
  | x :: xs => by cases x <;> exact congrArg (· + 1) (starEach_len env xs)
theorem okGs_len (env : PySem.Env) : ∀ {ts : Tgs} {xs : List Expr}, okGs ts c xs = true → (assignEach xs env).length = tgsLen ts ∧ ∀ p ∈ assignEach xs env, p.1 = false
  | .nil, [], _ => ⟨rfl, fun _ h => nomatch h⟩
  | .nil, _ :: _, h => by cases h
  | .cons t r, [], h => by cases h
  | .cons t r, x :: xs, h => by
    unfold okGs at h
    simp only [Bool.and_eq_true] at h
    obtain ⟨h1, h2⟩ := okGs_len env (ts := r) (xs := xs) h.2
    rw [noStar_assign h.1.1]
    refine ⟨by rw [List.length_cons, h1]; rfl, fun p hp => ?_⟩
    rcases List.mem_cons.mp hp with e | e
    · rw [e]
    · exact h2 p e
/-- targets, tests: canonical readings -/
def tOGt (L : Lnk) (K : PySem.W.Frag) (W : WX) (vs : List Nat) (w : WG) : TG := fun v σ H Q' => ∃ d ρ S O, ∃ Q : Env → Sto → Prop, At L K W σ H ρ S O xNo ∧ Rp K O H v d ∧ w d ρ S xNo Q ∧ ∀ σ' H' ρ' S' O', Sok K S' O' H' → Ev S O H S' O' H' → REnv K O' H' ρ' σ' → SetIn vs σ σ' → Q ρ' S' → Q' σ' H'
def tOTs (L : Lnk) (K : PySem.W.Frag) (W : WX) (w : WTs) : TT := fun σ H Q' => ∃ ρ S O, ∃ Q : Bool → Sto → Prop, At L K W σ H ρ S O xNo ∧ w ρ S Q ∧ ∀ b H' S' O', Sok K S' O' H' → Ev S O H S' O' H' → Q b S' → Q' b H'
theorem rg_tO {K : PySem.W.Frag} {vs : List Nat} {w : WG} : RG L K W vs (tOGt L K W vs w) w := fun v d σ H ρ S O Q Q' A r hw k => ⟨d, ρ, S, O, Q, A, r, hw, k⟩
theorem rts_tO {K : PySem.W.Frag} {w : WTs} : RTs L K W (tOTs L K W w) w := fun σ H ρ S O Q Q' A hw k => ⟨ρ, S, O, Q, A, hw, k⟩
theorem _root_.L2.PG.can {K : PySem.W.Frag} {vs : List Nat} {w : WG} {x : Expr} {g : TG} (h : PG X x g) (r : RG L K W vs g w) : PG X x (tOGt L K W vs w) := ⟨fun pins s σ H v u Q' I rv ⟨d, ρ, S, O, Q, A, rd, hw, k⟩ => h.run pins s σ H v u Q' I rv (r v d σ H ρ S O Q Q' A rd hw k)⟩
theorem _root_.L2.PTs.can {K : PySem.W.Frag} {w : WTs} {xs : List Expr} {t : TT} (h : PTs X xs t) (r : RTs L K W t w) : PTs X xs (tOTs L K W w) := ⟨fun pins s σ H Q' I ⟨ρ, S, O, Q, A, hw, k⟩ => h.run pins s σ H Q' I (r σ H ρ S O Q Q' A hw k)⟩
set_option maxHeartbeats 1000000
mutual
theorem sE : ∀ (e : Ex) {c : Ck} {W : WX} {X : Cx} {x : Expr}, XC c L W X → okE e c x = true → Th L W X x (wpE L.Γ e)
  | .var i, c, W, X, x, hx, h => by
    unfold okE at h
    split at h
    · rename_i n p
      unfold varC dbg at h
      simp only [Bool.and_eq_true, decide_eq_true_eq, Bool.not_eq_true'] at h
      exact th_val ((pe_var (by rw [hx.N]; exact h.1.1.1) (visC_ok hx h.1.1.2) h.1.2 h.2).can re_var) (fun _ => rfl) rfl
    · cases h
  | .cst d, c, W, X, x, hx, h => by
    obtain ⟨h1, h2, h3⟩ := cst_ok hx h
    exact th_val h1 h2 h3
  | .glb k, c, W, X, x, hx, h => by
    unfold okE at h
    split at h
    · rename_i n p
      rw [Bool.and_eq_true] at h
      obtain ⟨hg, hd⟩ := gloC_ok hx h.1
      obtain ⟨u, v, hm, r, rp⟩ := hx.gl _ (pairC_ok h.2)
      exact th_val ((pe_glob hg hm r hd).can (re_c rp)) (fun _ => rfl) rfl
    · cases h
  | .bin op a b, c, W, X, x, hx, h => by
    unfold okE at h
    split at h
    · simp only [Bool.and_eq_true, decide_eq_true_eq] at h
      obtain ⟨⟨e, ha⟩, hb⟩ := h
      subst e
      obtain ⟨r, ho, hr⟩ := bin_ok (X := X) hx.py op
      exact th_val ((pe_op ho (sE a hx ha).1 (sE b hx hb).1).can (re_op (f := fun _ dx dy P => binD op dx dy P) re_tO re_tO hr)) (fun _ => rfl) rfl
    · cases h
  | .neg a, c, W, X, x, hx, h => by
    unfold okE at h
    split at h
    · exact th_val ((pe_un un_neg (sE a hx h).1).can (re_neg re_tO)) (fun _ => rfl) rfl
    · cases h
  | .not a, c, W, X, x, hx, h => by
    unfold okE at h
    split at h
    · have t := sE a hx h
      exact ⟨(pe_not t.1).can (re_not re_tO), (pt_not t.2.1).can (rt_not rt_tO), fun h => by cases h⟩
    · cases h
  | .cmp op a b, c, W, X, x, hx, h => by
    unfold okE at h
    split at h
    · simp only [Bool.and_eq_true, decide_eq_true_eq] at h
      obtain ⟨⟨⟨e, hn⟩, ha⟩, hb⟩ := h
      subst e
      obtain ⟨r, ho, hr⟩ := cmp_ok (X := X) op (by have := hx.un; omega)
      have re := re_op (f := fun S dx dy P => cmpD op (res S dx) (res S dy) fun z => P (.bl z)) (re_tO (L := L) (K := X.K) (W := W) (w := wpE L.Γ a)) (re_tO (w := wpE L.Γ b)) hr
      exact ⟨(pe_cmpR ho (sE a hx ha).1 (sE b hx hb).1 (noSet_marks hn _)).can re, (pt_cmpR ho (sE a hx ha).1 (sE b hx hb).1 (noSet_marks hn _)).can re.tB, fun h => by cases h⟩
    · cases h
  | .chn o1 o2 a b d, c, W, X, x, hx, h => by
    unfold okE at h
    split at h
    · simp only [Bool.and_eq_true, decide_eq_true_eq] at h
      obtain ⟨⟨⟨⟨⟨e1, e2⟩, hn⟩, ha⟩, hb⟩, hd⟩ := h
      subst e1 e2
      obtain ⟨r, ho, hr⟩ := cmp_ok (X := X) o1 (by have := hx.un; omega)
      obtain ⟨r2, ho2, hr2⟩ := cmp_ok (X := X) o2 (by have := hx.un; omega)
      have re := re_chn (re_tO (L := L) (K := X.K) (W := W) (w := wpE L.Γ a)) (re_tO (w := wpE L.Γ b)) (re_tO (w := wpE L.Γ d)) hr hr2
      exact ⟨(pe_chain ho ho2 (sE a hx ha).1 (sE b hx hb).1 (sE d hx hd).1 (noSet_last hn _ _)).can re, (pt_chain ho ho2 (sE a hx ha).1 (sE b hx hb).1 (sE d hx hd).1 (noSet_last hn _ _)).can re.tB, fun h => by cases h⟩
    · cases h
  | .and a b, c, W, X, x, hx, h => by
    unfold okE at h
    split at h
    · rw [Bool.and_eq_true] at h
      obtain ⟨ha, hb⟩ := h
      have ta := sE a hx ha
      split at hb
      · have tb := sE b hx hb
        exact ⟨(pe_and ta.1 (pe_one tb.1)).can (re_and re_tO re_tO), ((pw_and ta.2.1 (pw_and1 tb.2.1)).can (rt_and rt_tO rt_tO)).pt, fun _ => (pw_and ta.2.1 (pw_and1 tb.2.1)).can (rt_and rt_tO rt_tO)⟩
      · have tb := sE b hx hb
        exact ⟨(pe_and ta.1 tb.1).can (re_and re_tO re_tO), ((pw_and ta.2.1 (tb.2.2 rfl)).can (rt_and rt_tO rt_tO)).pt, fun _ => (pw_and ta.2.1 (tb.2.2 rfl)).can (rt_and rt_tO rt_tO)⟩
    · cases h
  | .or a b, c, W, X, x, hx, h => by
    unfold okE at h
    split at h
    · rw [Bool.and_eq_true] at h
      obtain ⟨ha, hb⟩ := h
      have ta := sE a hx ha
      split at hb
      · have tb := sE b hx hb
        exact ⟨(pe_or ta.1 (pe_one tb.1)).can (re_or re_tO re_tO), ((pw_or ta.2.1 (pw_or1 tb.2.1)).can (rt_or rt_tO rt_tO)).pt, fun _ => (pw_or ta.2.1 (pw_or1 tb.2.1)).can (rt_or rt_tO rt_tO)⟩
      · have tb := sE b hx hb
        exact ⟨(pe_or ta.1 tb.1).can (re_or re_tO re_tO), ((pw_or ta.2.1 (tb.2.2 rfl)).can (rt_or rt_tO rt_tO)).pt, fun _ => (pw_or ta.2.1 (tb.2.2 rfl)).can (rt_or rt_tO rt_tO)⟩
    · cases h
  | .ite a b d, c, W, X, x, hx, h => by
    unfold okE at h
    split at h
    · simp only [Bool.and_eq_true] at h
      obtain ⟨⟨ha, hb⟩, hd⟩ := h
      have ta := sE a hx ha
      have tb := sE b hx hb
      have td := sE d hx hd
      exact ⟨(pe_ifExp ta.2.1 tb.1 td.1).can (re_ite rt_tO re_tO re_tO), (pt_ite ta.2.1 tb.2.1 td.2.1).can (rt_ite rt_tO rt_tO rt_tO), fun h => by cases h⟩
    · cases h
  | .idx a i, c, W, X, x, hx, h => by
    unfold okE at h
    split at h
    · simp only [Bool.and_eq_true] at h
      obtain ⟨⟨hn, ha⟩, hi⟩ := h
      exact th_val ((pe_ix ix_seq (sE a hx ha).1 (sE i hx hi).1 (noSlice_ix hn)).can (re_op (f := fun S dx dy P => ixD S dx dy P) re_tO re_tO hr_ix)) (fun _ => rfl) rfl
    · cases h
  | .slc a lo hi, c, W, X, x, hx, h => by
    unfold okE at h
    split at h
    · simp only [Bool.and_eq_true] at h
      obtain ⟨⟨ha, hl⟩, hh⟩ := h
      exact th_val ((pe_slice (sl_tupA.or sl_list) (sE a hx ha).1 (sO lo hx hl) (sO hi hx hh)).can (re_slcG re_tO ro_tO ro_tO)) (fun _ => rfl) rfl
    · cases h
  | .stp a lo hi st, c, W, X, x, hx, h => by
    unfold okE at h
    split at h
    · simp only [Bool.and_eq_true] at h
      obtain ⟨⟨⟨ha, hl⟩, hh⟩, hs⟩ := h
      exact th_val ((pe_stp (sE a hx ha).1 (sO lo hx hl) (sO hi hx hh) (po_some (sE st hx hs).1)).can (re_stp re_tO ro_tO ro_tO re_tO)) (fun _ => rfl) rfl
    · cases h
  | .tup es, c, W, X, x, hx, h => by
    unfold okE at h
    split at h
    · exact th_val ((pe_tup (sEs es hx h)).can (re_tup ra_tO)) (fun _ => rfl) rfl
    · cases h
  | .frz l, c, W, X, x, hx, h => by
    unfold okE at h
    obtain ⟨h1, h2, h3⟩ := sL l hx h
    exact th_val (h1.can (re_frz rl_tO)) h2 h3
  | .own l, c, W, X, x, hx, h => by
    unfold okE at h
    obtain ⟨h1, h2, h3⟩ := sL l hx h
    exact th_val (h1.can (re_own rl_tO)) h2 h3
  | .call f es, c, W, X, x, hx, h => by
    unfold okE at h
    split at h
    · rename_i n p y xs pos
      simp only [Bool.and_eq_true] at h
      obtain ⟨⟨⟨hg, hp⟩, hs⟩, he⟩ := h
      obtain ⟨hg, hd⟩ := gloC_ok hx hg
      obtain ⟨kk, g, fd, ps, F, hr2, hm, hk, hb⟩ := hx.fn _ (pairC_ok hp)
      have hr := hr2.mono (show kk ≤ kk + 2 by omega)
      have hs' := hs
      unfold noStars at hs'
      rw [Bool.and_eq_true] at hs'
      exact th_val ((pe_callS F hr hg hm hk hb (passAt hx.tk) (sEs es hx he) hd (noStar_each hs'.1) (noStars_each hs'.2 _)).can (re_callS ra_tO)) (fun _ => rfl) rfl
    · cases h
  | .bi b es, c, W, X, x, hx, h => by
    unfold okE at h
    split at h
    · rename_i n p y xs pos
      simp only [Bool.and_eq_true, decide_eq_true_eq] at h
      obtain ⟨⟨⟨hn, hg⟩, hs⟩, he⟩ := h
      obtain ⟨hg, hd⟩ := gloC_ok hx hg
      have hs' := hs
      unfold noStars at hs'
      rw [Bool.and_eq_true] at hs'
      have hm : X.mg n = none := bl_of hx (by rw [hn]; cases b <;> decide +kernel)
      have hnn : n ≠ ("__name__" : Str) := by rw [hn]; cases b <;> decide +kernel
      obtain ⟨r, hc, hb⟩ := bi_ok (X := X) b hx.calm
      have hv : bootBuiltins n = some (biVal b) := by rw [hn]; exact bi_boot b
      have pa := sEs es hx he
      have pe : PE X (.Call (.Name n p) (y :: xs) [] pos) (tCB r (tOA L X.K W (wpEs L.Γ es))) := by
        cases hb2 : biVal b with
        | builtin id =>
          rw [hb2] at hc hv
          exact pe_callB hc hg hm hv pa hnn hd (noStar_each hs'.1) (noStars_each hs'.2 _)
        | type T =>
          rw [hb2] at hc hv
          exact pe_callTy hc hg hm hv pa hnn hd (noStar_each hs'.1) (noStars_each hs'.2 _)
        | _ => cases b <;> cases hb2
      exact th_val (pe.can (re_bi ra_tO hb)) (fun _ => rfl) rfl
    · cases h
  | .app o e, c, W, X, x, hx, h => by
    unfold okE at h
    split at h
    · rename_i x m ap y p
      simp only [Bool.and_eq_true, decide_eq_true_eq] at h
      obtain ⟨⟨⟨⟨⟨hm, hl⟩, hc⟩, hn⟩, ho⟩, he⟩ := h
      subst hm
      have pa : PA X [y] (tCons (tO L X.K W (wpE L.Γ e)) tNil) := pa_cons (sE e hx he).1 pa_nil (noStar_each hn)
      refine th_val ((pe_bm PySem.F.plainAttrs_list PySem.F.slot_list_append PySem.F.type_list_append mt_append (sE o hx ho).1 pa (noCall_base hc _ _ _) ?_ hl (noStar_each hn) rfl).can (re_app re_tO re_tO)) (fun _ => rfl) rfl
      rw [noStar_each hn]
      rfl
    · cases h
theorem sEs : ∀ (es : Exs) {c : Ck} {W : WX} {X : Cx} {xs : List Expr}, XC c L W X → okEs es c xs = true → PA X xs (tOA L X.K W (wpEs L.Γ es))
  | .nil, c, W, X, xs, hx, h => by
    unfold okEs at h
    split at h
    · exact pa_nil.can ra_nil
    · cases h
  | .cons e r, c, W, X, xs, hx, h => by
    unfold okEs at h
    split at h
    · simp only [Bool.and_eq_true] at h
      obtain ⟨⟨hn, he⟩, hr⟩ := h
      exact (pa_cons (sE e hx he).1 (sEs r hx hr) (noStar_each hn)).can (ra_cons re_tO ra_tO)
    · cases h
  | .star e r, c, W, X, xs, hx, h => by
    unfold okEs at h
    split at h
    · simp only [Bool.and_eq_true] at h
      exact (StX.pa_star (sE e hx h.1).1 (sEs r hx h.2)).can (ra_star re_tO ra_tO)
    · cases h
theorem sO : ∀ (o : Ox) {c : Ck} {W : WX} {X : Cx} {x : Option Expr}, XC c L W X → okO o c x = true → PO X x (tOO L X.K W (wpO L.Γ o))
  | .no, c, W, X, x, hx, h => by
    unfold okO at h
    split at h
    · exact po_none.can ro_no
    · cases h
  | .so e, c, W, X, x, hx, h => by
    unfold okO at h
    split at h
    · exact (po_some (sE e hx h).1).can (ro_so re_tO)
    · cases h
theorem sL : ∀ (l : Lx) {c : Ck} {W : WX} {X : Cx} {x : Expr}, XC c L W X → okL l c x = true → PE X x (tOL L X.K W (wpL L.Γ l)) ∧ (∀ whole, isTrue x X.env whole = (do let v ← whole; standAt x.pos; holding [v] (truthy v))) ∧ isBO x = false
  | .disp es, c, W, X, x, hx, h => by
    unfold okL at h
    split at h
    · exact ⟨(pe_lst (sEs es hx h)).canL (rl_disp ra_tO), fun _ => rfl, rfl⟩
    · cases h
  | .comp own tg it ts el, c, W, X, x, hx, h => by
    unfold okL at h
    split at h
    · rename_i elt tx iter ifs a scope pos
      simp only [Bool.and_eq_true, decide_eq_true_eq] at h
      obtain ⟨⟨⟨⟨⟨⟨⟨ha, hb⟩, hv⟩, hn⟩, hi⟩, hg⟩, ht⟩, he⟩ := h
      subst ha
      have hB : BlkOk X.N X.env.scope scope (ownP c own) := by rw [hx.N, hx.sc]; exact blkOk_by hb
      have p := pe_lc (pos := pos) (elt := elt) (g := tOGt L X.K (fun _ _ _ _ => False) (tgV tg) (wpG L.Γ tg)) (tt := tOTs L X.K (fun _ _ _ _ => False) (wpTs L.Γ ts)) (te := tO L X.K (fun _ _ _ _ => False) (wpE L.Γ el)) hx.calm (by rw [hx.N]; exact hx.nd) (sI it hx hi) hB (fun s H C cl fp => sG tg (hx.blk s H scope cl C fp) hg) (fun s H C cl fp => sTs ts (hx.blk s H scope cl C fp) ht) (fun s H C cl fp => (sE el (hx.blk s H scope cl C fp) he).1) (noSet_fold hn _)
      rw [ownP_snd] at p
      exact ⟨p.canL (rl_comp ri_tO rg_tO rts_tO re_tO (subV_ok hv)), fun _ => rfl, rfl⟩
    · cases h
  | .comp2 own own2 tg it ts tg2 it2 ts2 el, c, W, X, x, hx, h => by
    unfold okL at h
    split at h
    · rename_i elt tx iter ifs a tx2 iter2 ifs2 a2 scope pos
      simp only [Bool.and_eq_true, decide_eq_true_eq] at h
      obtain ⟨⟨⟨⟨⟨⟨⟨⟨⟨⟨⟨⟨⟨⟨ha, ha2⟩, hb⟩, hv⟩, hv1⟩, hv2⟩, hn⟩, hn2⟩, hi⟩, hg⟩, ht⟩, hi2⟩, hg2⟩, ht2⟩, he⟩ := h
      subst ha ha2
      have hB : BlkOk X.N X.env.scope scope (ownP c own) := by rw [hx.N, hx.sc]; exact blkOk_by hb
      have p := pe_lc2 (pos := pos) (elt := elt) (vs1 := own2) (g := tOGt L X.K (fun _ _ _ _ => False) (tgV tg) (wpG L.Γ tg)) (tt := tOTs L X.K (fun _ _ _ _ => False) (wpTs L.Γ ts)) (te := tO L X.K (fun _ _ _ _ => False) (wpE L.Γ el))
        (wi1 := tOI L X.K (fun _ _ _ _ => False) (wpI L.Γ it2)) (g1 := tOGt L X.K (fun _ _ _ _ => False) (tgV tg2) (wpG L.Γ tg2)) (tt1 := tOTs L X.K (fun _ _ _ _ => False) (wpTs L.Γ ts2)) hx.calm (by rw [hx.N]; exact hx.nd) (sI it hx hi) hB (by rw [ownP_snd]; exact subV_ok hv1)
        (fun s H C cl fp => sG tg (hx.blk s H scope cl C fp) hg) (fun s H C cl fp => sTs ts (hx.blk s H scope cl C fp) ht)
        (fun s H C cl fp => sI it2 (hx.blk s H scope cl C fp) hi2) (fun s H C cl fp => sG tg2 (hx.blk s H scope cl C fp) hg2) (fun s H C cl fp => sTs ts2 (hx.blk s H scope cl C fp) ht2)
        (fun s H C cl fp => (sE el (hx.blk s H scope cl C fp) he).1) (noSet_fold hn _) (fun env => noSet_fold hn2 env)
      rw [ownP_snd] at p
      exact ⟨p.canL (rl_comp2 ri_tO rg_tO rts_tO ri_tO rg_tO rts_tO re_tO (subV_ok hv) (subV_ok hv2)), fun _ => rfl, rfl⟩
    · cases h
  | .rep a n, c, W, X, x, hx, h => by
    unfold okL at h
    split at h
    · simp only [Bool.and_eq_true] at h
      exact ⟨(pe_op op_rep (sE a hx h.1).1 (sE n hx h.2).1).canL (rl_rep re_tO re_tO), fun _ => rfl, rfl⟩
    · cases h
  | .cat a b, c, W, X, x, hx, h => by
    unfold okL at h
    split at h
    · simp only [Bool.and_eq_true] at h
      exact ⟨(pe_op op_cat (sE a hx h.1).1 (sE b hx h.2).1).canL (rl_cat re_tO re_tO), fun _ => rfl, rfl⟩
    · cases h
  | .ofSeq a, c, W, X, x, hx, h => by
    unfold okL at h
    split at h
    · simp only [Bool.and_eq_true, decide_eq_true_eq] at h
      obtain ⟨⟨⟨hn, hg⟩, hs⟩, ha⟩ := h
      subst hn
      obtain ⟨hg, hd⟩ := gloC_ok hx hg
      exact ⟨(pe_callTy call_list_of hg (bl_of hx (by decide +kernel)) boot_list (pa_cons (sE a hx ha).1 pa_nil (noStar_each hs)) (by decide) hd (noStar_each hs) rfl).canL (rl_ofSeq re_tO), fun _ => rfl, rfl⟩
    · cases h
  | .slc a lo hi, c, W, X, x, hx, h => by
    unfold okL at h
    split at h
    · simp only [Bool.and_eq_true] at h
      obtain ⟨⟨ha, hl⟩, hh⟩ := h
      exact ⟨(pe_slice sl_list (sE a hx ha).1 (sO lo hx hl) (sO hi hx hh)).canL (rl_slc re_tO ro_tO ro_tO), fun _ => rfl, rfl⟩
    · cases h
  | .sorted a, c, W, X, x, hx, h => by
    unfold okL at h
    split at h
    · simp only [Bool.and_eq_true, decide_eq_true_eq] at h
      obtain ⟨⟨⟨hn, hg⟩, hs⟩, ha⟩ := h
      subst hn
      obtain ⟨hg, hd⟩ := gloC_ok hx hg
      exact ⟨(pe_callB (cr_sortI hx.un) hg (bl_of hx (by decide +kernel)) PyProof.Rows.boot_sorted (pa_cons (sE a hx ha).1 pa_nil (noStar_each hs)) (by decide) hd (noStar_each hs) rfl).canL (rl_sortI re_tO), fun _ => rfl, rfl⟩
    · cases h
  | .stpL a lo hi st, c, W, X, x, hx, h => by
    unfold okL at h
    split at h
    · simp only [Bool.and_eq_true] at h
      obtain ⟨⟨⟨ha, hl⟩, hh⟩, hs⟩ := h
      exact ⟨(pe_stpL (sE a hx ha).1 (sO lo hx hl) (sO hi hx hh) (po_some (sE st hx hs).1)).canL (rl_stpL re_tO ro_tO ro_tO re_tO), fun _ => rfl, rfl⟩
    · cases h
  | .sortSet a, c, W, X, x, hx, h => by
    unfold okL at h
    split at h
    · simp only [Bool.and_eq_true, decide_eq_true_eq] at h
      obtain ⟨⟨⟨⟨⟨hn, hg⟩, hm⟩, hgm⟩, hs⟩, ha⟩ := h
      subst hn hm
      obtain ⟨hg, hd⟩ := gloC_ok hx hg
      obtain ⟨hgm, hdm⟩ := gloC_ok hx hgm
      exact ⟨(pe_sortSet hx.calm hg (bl_of hx (by decide +kernel)) hgm (bl_of hx (by decide +kernel)) (sE a hx ha).1 (noStar_each hs)).canL (rl_sortSet re_tO), fun _ => rfl, rfl⟩
    · cases h
  | .sortK f a, c, W, X, x, hx, h => by
    unfold okL at h
    split at h
    · rename_i n p1 y kn m p2 p3 p4
      simp only [Bool.and_eq_true, decide_eq_true_eq] at h
      obtain ⟨⟨⟨⟨⟨⟨hn, hg⟩, hs⟩, ha⟩, hk⟩, hgm⟩, hp⟩ := h
      subst hn hk
      obtain ⟨hg, hd⟩ := gloC_ok hx hg
      obtain ⟨hgm, hdm⟩ := gloC_ok hx hgm
      obtain ⟨kk, g, fd, ps, F, hr, hm, _, hb⟩ := hx.fn _ (pairC_ok hp)
      have pk : PK X [⟨some ("key" : Str), .Name m p2, p3⟩] (tCons (fun _ H Q => Q (.ref g) H) tNil) := pk_cons (pe_glob (u := .ref g) (v := .ref g) hgm hm rfl hdm) pk_nil
      exact ⟨(pe_callBK (cr_sortK F hr hx.un hb) hg (bl_of hx (by decide +kernel)) (by decide +kernel) (pa_cons (sE a hx ha).1 pa_nil (noStar_each hs)) pk (by decide) hd (by rw [noStar_each hs]; rfl) (noStars_each (show noStars [y] = true by unfold noStars; rw [hs]; rfl) _)).canL (rl_sortK re_tO), fun _ => rfl, rfl⟩
    · cases h
theorem sI : ∀ (it : It) {c : Ck} {W : WX} {X : Cx} {t x : Expr}, XC c L W X → okI it c t x = true → PI X t x (tOI L X.K W (wpI L.Γ it))
  | .seq e, c, W, X, t, x, hx, h => by
    unfold okI at h
    exact (pi_seqG (sE e hx h).1).can (ri_seq re_tO)
  | .rng1 a, c, W, X, t, x, hx, h => by
    unfold okI at h
    split at h
    · simp only [Bool.and_eq_true, decide_eq_true_eq] at h
      obtain ⟨⟨⟨hn, hg⟩, hs⟩, ha⟩ := h
      subst hn
      obtain ⟨hg, hd⟩ := gloC_ok hx hg
      exact (pi_range1 hg (bl_of hx (by decide +kernel)) (pa_cons (sE a hx ha).1 pa_nil (noStar_each hs)) (noStar_each hs)).can (ri_rng1 re_tO)
    · cases h
  | .rng2 a b, c, W, X, t, x, hx, h => by
    unfold okI at h
    split at h
    · simp only [Bool.and_eq_true, decide_eq_true_eq] at h
      obtain ⟨⟨⟨⟨⟨hn, hg⟩, hs⟩, hs2⟩, ha⟩, hb⟩ := h
      subst hn
      obtain ⟨hg, hd⟩ := gloC_ok hx hg
      exact (pi_range2 hg (bl_of hx (by decide +kernel)) (pa_cons (sE a hx ha).1 (pa_cons (sE b hx hb).1 pa_nil (noStar_each hs2)) (noStar_each hs)) (by rw [noStar_each hs, noStar_each hs2]; rfl) (noStar_each hs2)).can (ri_rng2 re_tO re_tO)
    · cases h
  | .rng3 a b d, c, W, X, t, x, hx, h => by
    unfold okI at h
    split at h
    · simp only [Bool.and_eq_true, decide_eq_true_eq] at h
      obtain ⟨⟨⟨⟨⟨⟨⟨hn, hg⟩, hs⟩, hs2⟩, hs3⟩, ha⟩, hb⟩, hd'⟩ := h
      subst hn
      obtain ⟨hg, hd⟩ := gloC_ok hx hg
      exact (pi_range3 hg (bl_of hx (by decide +kernel)) (pa_cons (sE a hx ha).1 (pa_cons (sE b hx hb).1 (pa_cons (sE d hx hd').1 pa_nil (noStar_each hs3)) (noStar_each hs2)) (noStar_each hs)) (noStar_each hs) (by rw [noStar_each hs2, noStar_each hs3]; rfl)).can (ri_rng3 re_tO re_tO re_tO)
    · cases h
  | .enum e, c, W, X, t, x, hx, h => by
    unfold okI at h
    split at h
    · split at h
      · simp only [Bool.and_eq_true, decide_eq_true_eq] at h
        obtain ⟨⟨⟨hn, hg⟩, hs⟩, ha⟩ := h
        subst hn
        obtain ⟨hg, hd⟩ := gloC_ok hx hg
        exact (pi_enumG hg (bl_of hx (by decide +kernel)) (pa_cons (sE e hx ha).1 pa_nil (noStar_each hs)) (noStar_each hs)).can (ri_enum re_tO)
      · cases h
    · cases h
  | .zip a b, c, W, X, t, x, hx, h => by
    unfold okI at h
    split at h
    · split at h
      · simp only [Bool.and_eq_true, decide_eq_true_eq] at h
        obtain ⟨⟨⟨⟨⟨hn, hg⟩, hs⟩, hs2⟩, ha⟩, hb⟩ := h
        subst hn
        obtain ⟨hg, hd⟩ := gloC_ok hx hg
        exact (pi_zipG hg (bl_of hx (by decide +kernel)) (pa_cons (sE a hx ha).1 (pa_cons (sE b hx hb).1 pa_nil (noStar_each hs2)) (noStar_each hs)) (noStar_each hs) (by rw [noStar_each hs2]; rfl)).can (ri_zip re_tO re_tO)
      · cases h
    · cases h
theorem sG : ∀ (t : Tg) {c : Ck} {W : WX} {X : Cx} {x : Expr}, XC c L W X → okG t c x = true → PG X x (tOGt L X.K W (tgV t) (wpG L.Γ t))
  | .nm i, c, W, X, x, hx, h => by
    unfold okG at h
    split at h
    · simp only [Bool.and_eq_true, decide_eq_true_eq] at h
      exact (pg_name (by rw [hx.N]; exact hx.nd) (by rw [hx.N]; exact h.1) (locC_ok hx h.2) (hx.st _ h.2)).can rg_nm
    · cases h
  | .tp ts, c, W, X, x, hx, h => by
    unfold okG at h
    split at h
    · rename_i xs k pos
      obtain ⟨g, h1, h2⟩ := sGs ts hx h
      obtain ⟨l1, l2⟩ := okGs_len X.env h
      exact (pg_tup hx.calm h1 l1 (List.findIdx?_eq_none_iff.mpr fun p hp => l2 p hp)).can (rg_tup h2)
    · cases h
  | .sub o i, c, W, X, x, hx, h => by
    unfold okG at h
    split at h
    · simp only [Bool.and_eq_true] at h
      obtain ⟨⟨hn, ho⟩, hi⟩ := h
      refine (pg_sub (sE o hx ho).1 (sE i hx hi).1 set_list fun v => ?_).can (rg_sub re_tO re_tO)
      rename_i y _
      cases y <;> first | rfl | cases hn
    · cases h
theorem sGs : ∀ (ts : Tgs) {c : Ck} {W : WX} {X : Cx} {xs : List Expr}, XC c L W X → okGs ts c xs = true → ∃ g, PGs X xs g ∧ RGs L X.K W (tgsV ts) g (wpGs L.Γ ts)
  | .nil, c, W, X, xs, hx, h => by
    unfold okGs at h
    split at h
    · exact ⟨_, pgs_nil, rgs_nil⟩
    · cases h
  | .cons t r, c, W, X, xs, hx, h => by
    unfold okGs at h
    split at h
    · simp only [Bool.and_eq_true] at h
      obtain ⟨⟨hn, ht⟩, hr⟩ := h
      obtain ⟨g', h3, h4⟩ := sGs r hx hr
      exact ⟨_, pgs_cons (sG t hx ht) h3 (by rw [noStar_assign hn]; rfl), rgs_cons rg_tO h4⟩
    · cases h
theorem sTs : ∀ (es : Exs) {c : Ck} {W : WX} {X : Cx} {xs : List Expr}, XC c L W X → okTs es c xs = true → PTs X xs (tOTs L X.K W (wpTs L.Γ es))
  | .nil, c, W, X, xs, hx, h => by
    unfold okTs at h
    split at h
    · exact pts_nil.can rts_nil
    · cases h
  | .cons e r, c, W, X, xs, hx, h => by
    unfold okTs at h
    split at h
    · split at h
      · exact (pts_one (sE e hx h).2.1).can (rts_one rt_tO)
      · cases h
    · cases h
  | .star e r, c, W, X, xs, hx, h => by cases h
end
end
end DL

/-! DL13: the check of statements, and why it is enough. -/
namespace DL
open PySem PySem.Spec PyProof.Rows L2
def env0 (sc : Scope) : PySem.Env := { scope := sc, locals := 0, globals := 0, cells := [] }
def isPure {α : Type} [DecidableEq α] (s : Sem α) (a : α) : Bool := match s with
  | .pure b => decide (b = a)
  | _ => false
theorem isPure_ok {α : Type} [DecidableEq α] {s : Sem α} {a : α} (h : isPure s a = true) : s = pure a := by
  unfold isPure at h
  split at h
  · have := of_decide_eq_true h; subst this; rfl
  · cases h
theorem swaps0 (v : Expr) (t : Option Expr) (l : Nat) (env : PySem.Env) : swapsWith v t l env = swapsWith v t l (env0 env.scope) := rfl
theorem stores0 (ts : List Expr) (v : Expr) (env : PySem.Env) : swappedStores ts v env = swappedStores ts v (env0 env.scope) := rfl
def isNm : Expr → Bool
  | .Name _ _ => true
  | _ => false
def lclC (c : Ck) (x : Str) : Bool := decide (c.sc.names.lookup x = some .local)
mutual
def okS : Sm → Ck → Stmt → Bool
  | .asg t e, c, st => match st with
    | .Assign [tx] ex pos =>
      (isPure (swapsWith ex (some tx) pos.line (env0 c.sc)) false && isPure (swappedStores [tx] ex (env0 c.sc)) none && noStar tx && okG t c tx && okE e c ex) ||
      (match t, tx, e with
      | .nm i, .Name n p, .frz l => isPure (swapsWith ex (some (.Name n p)) pos.line (env0 c.sc)) true && decide (c.N[i]? = some n) && lclC c n && okL l c ex
      | .nm i, .Name n p, .own l => isPure (swapsWith ex (some (.Name n p)) pos.line (env0 c.sc)) true && decide (c.N[i]? = some n) && lclC c n && okL l c ex
      | _, _, _ => false)
    | _ => false
  | .par is es, c, st => match st with
    | .Assign [.Tuple [.Name x px, .Name y py] kt pt] (.Tuple [a, b] k2 pt2) pos => (match is with
      | [i, j] => decide (c.N[i]? = some x) && decide (c.N[j]? = some y) && !(Nat.beq i j) && lclC c x && lclC c y && okEs es c [a, b] && isPure (swappedStores [.Tuple [.Name x px, .Name y py] kt pt] (.Tuple [a, b] k2 pt2) (env0 c.sc)) (some [x, y])
      | _ => false)
    | .Assign [.Tuple [.Name x px, .Name y py, .Name z pz] kt pt] (.Tuple [a, b, d] k2 pt2) pos => (match is with
      | [i, j, l] => decide (c.N[i]? = some x) && decide (c.N[j]? = some y) && decide (c.N[l]? = some z) && !(Nat.beq i j) && !(Nat.beq i l) && !(Nat.beq j l) && lclC c x && lclC c y && lclC c z && okEs es c [a, b, d] && isPure (swappedStores [.Tuple [.Name x px, .Name y py, .Name z pz] kt pt] (.Tuple [a, b, d] k2 pt2) (env0 c.sc)) (some [x, y, z])
      | _ => false)
    | _ => false
  | .aug i op e, c, st => match st with
    | .AugAssign (.Name n _) o ex _ => decide (c.N[i]? = some n) && locC c n && decide (o = bop op) && (decide (op = .add) || decide (op = .sub) || decide (op = .mul)) && okE e c ex
    | _ => false
  | .ex e, c, st => match st with
    | .Expr ex pos => isPure (swapsWith ex none pos.line (env0 c.sc)) false && okE e c ex
    | _ => false
  | .ret e, c, st => match st with
    | .Return (some ex) _ => okE e c ex
    | _ => false
  | .retF e, c, st => match st with
    | .Return (some ex) _ => okE e c ex
    | _ => false
  | .retN, c, st => match st with
    | .Return none _ => true
    | _ => false
  | .ife e a b, c, st => match st with
    | .If x xs ys _ => okE e c x && okB a c xs && okB b c ys
    | _ => false
  | .whl e b, c, st => match st with
    | .While x xs [] _ => okE e c x && okB b c xs
    | _ => false
  | .for tg it b, c, st => match st with
    | .For tx ix xs [] _ => noSet ix && okI it c tx ix && okG tg c tx && okB b c xs
    | _ => false
  | .raise _ _, c, st => true
  | .pass, c, st => match st with
    | .Pass _ => true
    | _ => false
  | .brk, c, st => match st with
    | .Break _ => true
    | _ => false
  | .cont, c, st => match st with
    | .Continue _ => true
    | _ => false
def okB : Bl → Ck → List Stmt → Bool
  | .nil, c, xs => match xs with
    | [] => true
    | _ => false
  | .cons s r, c, xs => match xs with
    | x :: xs => okS s c x && okB r c xs
    | _ => false
end
section
variable {L : Lnk} {K : PySem.W.Frag} {W : WX}
theorem len2 {α : Type} {l : List α} (h : l.length = 2) : ∃ a b, l = [a, b] := by
  match l, h with
  | [a, b], _ => exact ⟨a, b, rfl⟩
theorem len3 {α : Type} {l : List α} (h : l.length = 3) : ∃ a b c, l = [a, b, c] := by
  match l, h with
  | [a, b, c], _ => exact ⟨a, b, c, rfl⟩
theorem rs_par2 {i j : Nat} {t : TA} {ws : Env → Sto → XD → (List D → Sto → Prop) → Prop} (h : RA L K W t ws) : RS L K W (tPar i j t) fun E X ρ S => ws ρ S (fun k d S => X k d ρ S) fun ds S1 => ds.length = [i, j].length ∧ E.nx (parV [i, j] ds ρ) S1 := fun σ H ρ S O X E D A hw k => by
  refine h.go A.ex hw fun vs H1 ds S1 O1 r1 A1 e1 ⟨hl, q⟩ => ?_
  obtain ⟨a, b, rfl⟩ := len2 hl
  obtain ⟨v, u, rfl, r, r2⟩ := rps2 r1
  exact ⟨v, u, rfl, k.nx _ H1 _ S1 O1 A1.sok e1 ((A1.env.set i r).set j r2) q⟩
theorem rs_par3 {i j l : Nat} {t : TA} {ws : Env → Sto → XD → (List D → Sto → Prop) → Prop} (h : RA L K W t ws) : RS L K W (tPar3 i j l t) fun E X ρ S => ws ρ S (fun k d S => X k d ρ S) fun ds S1 => ds.length = [i, j, l].length ∧ E.nx (parV [i, j, l] ds ρ) S1 := fun σ H ρ S O X E D A hw k => by
  refine h.go A.ex hw fun vs H1 ds S1 O1 r1 A1 e1 ⟨hl, q⟩ => ?_
  obtain ⟨a, b, d, rfl⟩ := len3 hl
  cases r1 with
  | cons r r1 =>
    cases r1 with
    | cons r2 r1 =>
      cases r1 with
      | cons r3 r1 =>
        cases r1
        exact ⟨_, _, _, rfl, k.nx _ H1 _ S1 O1 A1.sok e1 (((A1.env.set i r).set j r2).set l r3) q⟩
theorem rs_never : RS L K W tNever fun _ _ _ _ => False := fun σ H ρ S O X E D A hw k => hw
end
set_option maxHeartbeats 1000000
/-- name = [..] with the stores exchanged -/
theorem sAsgL (l : Lx) {L : Lnk} {c : Ck} {W : WX} {X : Cx} {x : Expr} {n : Str} {i : Nat} {p spos : Pos} (hx : XC c L W X) (h : okL l c x = true) (hs : swapsWith x (some (.Name n p)) spos.line X.env = pure true) (hi' : X.N[i]? = some n) (hl : X.env.scope.names.lookup n = some .local) :
    PS X (.Assign [.Name n p] x spos) (tAsg (tOL L X.K W (wpL L.Γ l)) (gName i)) := by
  have np : ∀ {x : Expr}, (match x with | .ListComp _ _ _ _ => false | .SetComp _ _ _ _ => false | .DictComp _ _ _ _ _ => false | _ => true) = true → swapsWith x (some (.Name n p)) spos.line X.env = pure true → False := fun {x} hm hs => by
    cases x <;> first | exact absurd (Sem.pure.inj (show (Sem.pure false : Sem Bool) = Sem.pure true from hs)) Bool.false_ne_true | cases hm
  have lift : ∀ {t : TE}, PS X (.Assign [.Name n p] x spos) (tAsg t (gName i)) → RL L X.K W t (wpL L.Γ l) → PS X (.Assign [.Name n p] x spos) (tAsg (tOL L X.K W (wpL L.Γ l)) (gName i)) := fun {t} h r => ⟨fun pins s σ H D I ⟨ρ, S, O, R, Q, A, hw, k⟩ => h.run pins s σ H D I (r σ H ρ S O R Q _ A hw k)⟩
  cases l with
  | comp own tg it ts el =>
    unfold okL at h
    split at h
    · rename_i elt tx iter ifs a scope pos
      simp only [Bool.and_eq_true, decide_eq_true_eq] at h
      obtain ⟨⟨⟨⟨⟨⟨⟨ha, hb⟩, hv⟩, hn⟩, hi⟩, hg⟩, ht⟩, he⟩ := h
      subst ha
      have hB : BlkOk X.N X.env.scope scope (ownP c own) := by rw [hx.N, hx.sc]; exact blkOk_by hb
      have p := ps_setLc (pos := pos) (elt := elt) (g := tOGt L X.K (fun _ _ _ _ => False) (tgV tg) (wpG L.Γ tg)) (tt := tOTs L X.K (fun _ _ _ _ => False) (wpTs L.Γ ts)) (te := tO L X.K (fun _ _ _ _ => False) (wpE L.Γ el)) hx.calm (by rw [hx.N]; exact hx.nd) hi' hl hs (sI it hx hi) hB (fun s H C cl fp => sG tg (hx.blk s H scope cl C fp) hg) (fun s H C cl fp => sTs ts (hx.blk s H scope cl C fp) ht) (fun s H C cl fp => (sE el (hx.blk s H scope cl C fp) he).1) (noSet_fold hn _)
      rw [ownP_snd] at p
      exact lift p (rl_comp ri_tO rg_tO rts_tO re_tO (subV_ok hv))
    · cases h
  | comp2 own own2 tg it ts tg2 it2 ts2 el =>
    unfold okL at h
    split at h
    · rename_i elt tx iter ifs a tx2 iter2 ifs2 a2 scope pos
      simp only [Bool.and_eq_true, decide_eq_true_eq] at h
      obtain ⟨⟨⟨⟨⟨⟨⟨⟨⟨⟨⟨⟨⟨⟨ha, ha2⟩, hb⟩, hv⟩, hv1⟩, hv2⟩, hn⟩, hn2⟩, hi⟩, hg⟩, ht⟩, hi2⟩, hg2⟩, ht2⟩, he⟩ := h
      subst ha ha2
      have hB : BlkOk X.N X.env.scope scope (ownP c own) := by rw [hx.N, hx.sc]; exact blkOk_by hb
      have p := ps_setLc2 (pos := pos) (elt := elt) (vs1 := own2) (g := tOGt L X.K (fun _ _ _ _ => False) (tgV tg) (wpG L.Γ tg)) (tt := tOTs L X.K (fun _ _ _ _ => False) (wpTs L.Γ ts)) (te := tO L X.K (fun _ _ _ _ => False) (wpE L.Γ el))
        (wi1 := tOI L X.K (fun _ _ _ _ => False) (wpI L.Γ it2)) (g1 := tOGt L X.K (fun _ _ _ _ => False) (tgV tg2) (wpG L.Γ tg2)) (tt1 := tOTs L X.K (fun _ _ _ _ => False) (wpTs L.Γ ts2)) hx.calm (by rw [hx.N]; exact hx.nd) hi' hl hs (sI it hx hi) hB (by rw [ownP_snd]; exact subV_ok hv1)
        (fun s H C cl fp => sG tg (hx.blk s H scope cl C fp) hg) (fun s H C cl fp => sTs ts (hx.blk s H scope cl C fp) ht)
        (fun s H C cl fp => sI it2 (hx.blk s H scope cl C fp) hi2) (fun s H C cl fp => sG tg2 (hx.blk s H scope cl C fp) hg2) (fun s H C cl fp => sTs ts2 (hx.blk s H scope cl C fp) ht2)
        (fun s H C cl fp => (sE el (hx.blk s H scope cl C fp) he).1) (noSet_fold hn _) (fun env => noSet_fold hn2 env)
      rw [ownP_snd] at p
      exact lift p (rl_comp2 ri_tO rg_tO rts_tO ri_tO rg_tO rts_tO re_tO (subV_ok hv) (subV_ok hv2))
    · cases h
  | disp es => unfold okL at h; split at h <;> first | cases h | exact (np rfl hs).elim
  | rep a b => unfold okL at h; split at h <;> first | cases h | exact (np rfl hs).elim
  | cat a b => unfold okL at h; split at h <;> first | cases h | exact (np rfl hs).elim
  | ofSeq a => unfold okL at h; split at h <;> first | cases h | exact (np rfl hs).elim
  | slc a b => unfold okL at h; split at h <;> first | cases h | exact (np rfl hs).elim
  | sorted a => unfold okL at h; split at h <;> first | cases h | exact (np rfl hs).elim
  | stpL a b d e => unfold okL at h; split at h <;> first | cases h | exact (np rfl hs).elim
  | sortSet a => unfold okL at h; split at h <;> first | cases h | exact (np rfl hs).elim
  | sortK a b => unfold okL at h; split at h <;> first | cases h | exact (np rfl hs).elim
section
variable {L : Lnk}
mutual
theorem sS : ∀ (s : Sm) {c : Ck} {W : WX} {X : Cx} {st : Stmt}, XC c L W X → PassesOwn (model X.prog X.w) X.A X.env X.xe → okS s c st = true → PS X st (tOS L X.K W (wpS L.Γ s))
  | .asg t e, c, W, X, st, hx, po, h => by
    unfold okS at h
    split at h
    · rename_i tx ex pos
      rw [Bool.or_eq_true] at h
      rcases h with h | h
      · simp only [Bool.and_eq_true] at h
        obtain ⟨⟨⟨⟨h1, h2⟩, h3⟩, h4⟩, h5⟩ := h
        refine (ps_asg (sE e hx h5).1 (sG t hx h4) ?_ ?_ (by rw [noStar_assign h3]; rfl)).can (rs_asg re_tO rg_tO)
        · show swapsWith ex (some tx) pos.line X.env = pure false
          rw [swaps0, hx.sc]; exact isPure_ok h1
        · rw [stores0, hx.sc]; exact isPure_ok h2
      · split at h
        · rename_i i n p l
          simp only [Bool.and_eq_true, decide_eq_true_eq, lclC] at h
          obtain ⟨⟨⟨h1, h2⟩, h3⟩, h4⟩ := h
          exact (sAsgL l hx h4 (by rw [swaps0, hx.sc]; exact isPure_ok h1) (by rw [hx.N]; exact h2) (by rw [hx.sc]; exact h3)).can (rs_asg (re_frz rl_tO) rg_nm)
        · rename_i i n p l
          simp only [Bool.and_eq_true, decide_eq_true_eq, lclC] at h
          obtain ⟨⟨⟨h1, h2⟩, h3⟩, h4⟩ := h
          exact (sAsgL l hx h4 (by rw [swaps0, hx.sc]; exact isPure_ok h1) (by rw [hx.N]; exact h2) (by rw [hx.sc]; exact h3)).can (rs_asg (re_own rl_tO) rg_nm)
        · cases h
    · cases h
  | .par is es, c, W, X, st, hx, po, h => by
    unfold okS at h
    split at h
    · split at h
      · simp only [Bool.and_eq_true, decide_eq_true_eq, lclC, Bool.not_eq_true'] at h
        obtain ⟨⟨⟨⟨⟨⟨h1, h2⟩, h3⟩, h4⟩, h5⟩, h6⟩, h7⟩ := h
        exact (ps_par hx.calm (by rw [hx.N]; exact hx.nd) (by rw [hx.N]; exact h1) (by rw [hx.N]; exact h2) (Nat.ne_of_beq_eq_false h3) (by rw [hx.sc]; exact h4) (by rw [hx.sc]; exact h5) (sEs es hx h6) (by rw [stores0, hx.sc]; exact isPure_ok h7)).can (rs_par2 ra_tO)
      · cases h
    · split at h
      · simp only [Bool.and_eq_true, decide_eq_true_eq, lclC, Bool.not_eq_true'] at h
        obtain ⟨⟨⟨⟨⟨⟨⟨⟨⟨⟨h1, h2⟩, h3⟩, h4⟩, h5⟩, h6⟩, h7⟩, h8⟩, h9⟩, h10⟩, h11⟩ := h
        exact (ps_par3 hx.calm (by rw [hx.N]; exact hx.nd) (by rw [hx.N]; exact h1) (by rw [hx.N]; exact h2) (by rw [hx.N]; exact h3) (Nat.ne_of_beq_eq_false h4) (Nat.ne_of_beq_eq_false h5) (Nat.ne_of_beq_eq_false h6) (by rw [hx.sc]; exact h7) (by rw [hx.sc]; exact h8) (by rw [hx.sc]; exact h9) (sEs es hx h10) (by rw [stores0, hx.sc]; exact isPure_ok h11)).can (rs_par3 ra_tO)
      · cases h
    · cases h
  | .aug i op e, c, W, X, st, hx, po, h => by
    unfold okS at h
    split at h
    · simp only [Bool.and_eq_true, decide_eq_true_eq, Bool.or_eq_true] at h
      obtain ⟨⟨⟨⟨h1, h2⟩, h3⟩, h4⟩, h5⟩ := h
      subst h3
      obtain ⟨r, ho, hr⟩ := iop_ok (X := X) op (by rcases h4 with (h4 | h4) | h4; exact .inl h4; exact .inr (.inl h4); exact .inr (.inr h4))
      exact (ps_aug (by rw [hx.N]; exact hx.nd) (by rw [hx.N]; exact h1) (locC_ok hx h2) (sE e hx h5).1 ho (hx.st _ h2)).can (rs_aug re_tO hr)
    · cases h
  | .ex e, c, W, X, st, hx, po, h => by
    unfold okS at h
    split at h
    · simp only [Bool.and_eq_true] at h
      exact (ps_expr (sE e hx h.2).1 (by rw [swaps0, hx.sc]; exact isPure_ok h.1)).can (rs_ex re_tO)
    · cases h
  | .ret e, c, W, X, st, hx, po, h => by
    unfold okS at h
    split at h
    · exact (ps_ret (sE e hx h).1).can (rs_ret re_tO)
    · cases h
  | .retF e, c, W, X, st, hx, po, h => by
    unfold okS at h
    split at h
    · exact (ps_ret (sE e hx h).1).can (rs_retF re_tO)
    · cases h
  | .retN, c, W, X, st, hx, po, h => by
    unfold okS at h
    split at h
    · exact ps_retN.can rs_retN
    · cases h
  | .ife e a b, c, W, X, st, hx, po, h => by
    unfold okS at h
    split at h
    · simp only [Bool.and_eq_true] at h
      exact (ps_if (sE e hx h.1.1).2.1 (sB a hx po h.1.2) (sB b hx po h.2)).can (rs_if rt_tO rs_tO rs_tO)
    · cases h
  | .whl e b, c, W, X, st, hx, po, h => by
    unfold okS at h
    split at h
    · simp only [Bool.and_eq_true] at h
      exact (ps_while po (sE e hx h.1).2.1 (sB b hx po h.2)).can (rs_whl rt_tO rs_tO)
    · cases h
  | .for tg it b, c, W, X, st, hx, po, h => by
    unfold okS at h
    split at h
    · simp only [Bool.and_eq_true] at h
      obtain ⟨⟨⟨h1, h2⟩, h3⟩, h4⟩ := h
      exact (ps_for po hx.calm (sI it hx h2) (sG tg hx h3) (sB b hx po h4) (noSet_fold h1 _)).can (rs_for ri_tO rg_tO rs_tO)
    · cases h
  | .raise k e, c, W, X, st, hx, po, h => ps_never.can rs_never
  | .pass, c, W, X, st, hx, po, h => by
    unfold okS at h
    split at h
    · exact ps_pass.can rs_nx
    · cases h
  | .brk, c, W, X, st, hx, po, h => by
    unfold okS at h
    split at h
    · exact ps_break.can rs_bk
    · cases h
  | .cont, c, W, X, st, hx, po, h => by
    unfold okS at h
    split at h
    · exact ps_continue.can rs_ct
    · cases h
theorem sB : ∀ (b : Bl) {c : Ck} {W : WX} {X : Cx} {st : List Stmt}, XC c L W X → PassesOwn (model X.prog X.w) X.A X.env X.xe → okB b c st = true → PSs X st (tOS L X.K W (wpB L.Γ b))
  | .nil, c, W, X, st, hx, po, h => by
    unfold okB at h
    split at h
    · exact pss_nil.can rs_nx
    · cases h
  | .cons s r, c, W, X, st, hx, po, h => by
    unfold okB at h
    split at h
    · simp only [Bool.and_eq_true] at h
      exact (pss_cons (sS s hx po h.1) (sB r hx po h.2)).can (rs_seq (w1 := wpS L.Γ s) (w2 := wpB L.Γ r) rs_tO rs_tO)
    · cases h
end
end
end DL

/-! DL14: defs, their linking, the head's facts. -/
namespace DL
open PySem PySem.Spec PyProof.Rows L2
/-- a def: number, name, parameters, slots, level, the defs and constants that it names, body -/
structure Df where
  id : Nat
  name : Str
  ps : List Str
  N : List Str
  lvl : Nat
  fns : List (Nat × Str)
  gls : List (Nat × Str)
  body : Bl
def fnScopeC (N ps : List Str) (sc : Scope) : Bool :=
  (match sc.kind with | .function => true | _ => false) && !sc.isCoroutine && !sc.isGenerator && decide N.Nodup && decide (N.take ps.length = ps) && (ps.all fun x => decide (sc.names.lookup x = some .local) || decide (sc.names.lookup x = some .cell)) && (sc.names.all fun y => match y.2 with | .free => false | _ => true)
theorem fnScopeC_ok {N ps : List Str} {sc : Scope} (h : fnScopeC N ps sc = true) : FnScope N ps sc := by
  unfold fnScopeC at h
  simp only [Bool.and_eq_true, decide_eq_true_eq, List.all_eq_true, Bool.or_eq_true, Bool.not_eq_true'] at h
  obtain ⟨⟨⟨⟨⟨⟨h1, h2⟩, h3⟩, h4⟩, h5⟩, h6⟩, h7⟩ := h
  refine ⟨?_, h2, h3, h4, h5, h6, fun y hy e => ?_⟩
  · split at h1
    · assumption
    · cases h1
  · have q := h7 y hy
    rw [e] at q
    cases q
def okD (d : Df) (sc : Scope) (st : List Stmt) : Bool := okB d.body ⟨d.N, sc, none, d.fns, d.gls⟩ st && fnScopeC d.N d.ps sc
/-- the slots at the start -/
def env1 (d : Df) (ds : List D) : Env := ds.map some ++ List.replicate (d.N.length - d.ps.length) none
/-- less is known of the store -/
def Sub (S2 S1 : Sto) : Prop := ∀ a o, S2 a = some o → S1 a = some o
theorem Sub.refl {S : Sto} : Sub S S := fun _ _ h => h
theorem Sub.trans {S T U : Sto} (a : Sub S T) (b : Sub T U) : Sub S U := fun x o h => b x o (a x o h)
theorem sub_sup {S : Sto} {p : Addr} {o : DO} (h : S p = none) : Sub S (sup S p o) := fun a u e => by
  by_cases q : a = p
  · rw [q, h] at e; cases e
  · rw [sup_ne q]; exact e
def RtQ (Q : QD) : QD := fun d S1 => ∃ S2, Sub S2 S1 ∧ Q d S2
theorem rtq {Q : QD} {d : D} {S : Sto} (h : Q d S) : RtQ Q d S := ⟨S, .refl, h⟩
theorem rtq_sup {Q : QD} {d : D} {S : Sto} {p : Addr} {o : DO} (e : S p = none) (h : Q d S) : RtQ Q d (sup S p o) := ⟨S, sub_sup e, h⟩
theorem rtq_sdel {Q : QD} {d : D} {S : Sto} {p : Addr} (e : S p = none) (h : Q d S) : RtQ Q d (sdel S p) := ⟨S, fun a o q => by
  by_cases z : a = p
  · rw [z, e] at q; cases q
  · rw [sdel_ne z]; exact q, h⟩
/-- a body keeps its promise -/
def SpecOk (Γ : Gam) (d : Df) : Prop := ∀ ds S R Q, Γ.fn d.id ds S R Q → ds.length = d.ps.length ∧ wpB Γ d.body { nx := fun _ S => RtQ Q .non S, rt := RtQ Q } (fun k x _ S => RtQ (R k) x S) (env1 d ds) S
def BindOk (params : Arguments) (ps : List Str) : Prop := ∀ (x qual : Str) (body : List Stmt) (scope : Scope) (kV doc pm : Value) (an : Option Addr) (cdv ct : Value) (us : List Value), us.length = ps.length → bindArgs (PySem.W.fnOf x qual params body scope .none kV doc pm an cdv ct) ⟨us, []⟩ = pure (ps.zip us)
section
variable {L : Lnk} {P : Program} {w : World} {K : PySem.W.Frag} {mg : Str → Option Value} {base : Heap}
def Good (L : Lnk) (P : Program) (w : World) (K : PySem.W.Frag) (mg : Str → Option Value) (base : Heap) (d : Df) : Prop :=
  ∃ (f : Addr) (fd : FuncData), FnOk P w K mg base (L2.CX P w) d.lvl f fd d.ps (spOf L K (L.Γ.fn d.id)) ∧ mg d.name = some (.ref f) ∧ PySem.W.keepIn K (.ref f) = true ∧ Binds K fd d.ps [] ∧ ∃ oc od osl, K.lookup f = some ⟨oc, od, .func fd, osl⟩
def GlG (L : Lnk) (K : PySem.W.Frag) (mg : Str → Option Value) (k : Nat) (x : Str) : Prop := ∃ (u : Value) (v : V), mg x = some u ∧ RelV v u ∧ ∀ O H, Rp K O H v (L.Γ.gl k)
theorem df_ok (hN : base.NoSeer) (hT : P.given.tree = none) {d : Df} {params : Arguments} {st : List Stmt} {sc : Scope} {f : Addr} {fd : FuncData} {k : Nat} (h32 : 32 ≤ k) (hk : d.lvl = k + 1) (F : FunD K d.name d.name params st sc [] [] f fd) (hC : okD d sc st = true)
    (hfns : ∀ p ∈ d.fns, ∃ e : Df, e.id = p.1 ∧ e.name = p.2 ∧ e.lvl + 2 ≤ k ∧ Good L P w K mg base e) (hgl : ∀ p ∈ d.gls, GlG L K mg p.1 p.2) (hbl : ∀ x ∈ blts, mg x = none) (hS : SpecOk L.Γ d) :
    FnOk P w K mg base (L2.CX P w) d.lvl f fd d.ps (spOf L K (L.Γ.fn d.id)) := by
  unfold okD at hC
  rw [Bool.and_eq_true] at hC
  have S := fnScopeC_ok hC.2
  rw [hk]
  have len : ∀ vs H Q E, spOf L K (L.Γ.fn d.id) vs H Q E → vs.length = d.ps.length := fun vs H Q E ⟨ds, S, O, R, Q', s, r, h, _⟩ => by rw [r.len]; exact (hS ds S R Q' h).1
  refine F.ok S len fun cdv A outer s H vs Q E hr h => ?_
  obtain ⟨ds, St, O, R, Q', sk, r, h, hx, hq⟩ := h
  obtain ⟨hl, hw⟩ := hS ds St R Q' h
  have xc : XC ⟨d.N, sc, none, d.fns, d.gls⟩ L (fun cls dd _ H => E cls dd H) (cxOf (L2.CX P w) P w K mg base d.N d.name sc f cdv A outer s H E) :=
    { N := rfl, nd := S.nd, sc := rfl, calm := rfl,
      un := by have := hr.un; show (A.deeper _).units + 70 < cLine; omega
      py := ⟨⟨_, _, rfl, S.gen, S.co, rfl, rfl⟩, hN, hT, by have := hr.dp; show (A.deeper _).depth + 100 < recursionLimit; omega⟩
      tk := takes_of rfl rfl rfl rfl
      st := fun _ _ => .inl rfl
      bl := hbl
      fn := fun p hp => by
        obtain ⟨e, e1, e2, e3, g, gd, F', m, kp, b, _⟩ := hfns p hp
        rw [← e1, ← e2]
        exact ⟨e.lvl, g, gd, e.ps, F', hr.mono e3, m, kp, b⟩
      gl := fun p hp => hgl p hp }
  refine ⟨_, sB d.body xc (passes_of rfl) hC.1, ?_⟩
  have hv : vs.length = d.ps.length := by rw [r.len]; exact hl
  have less : ∀ {S1 S2 : Sto} {O' : Ow} {H' : Hp}, Sub S2 S1 → Sok K S1 O' H' → Ev St O H S1 O' H' → Sok K S2 O' H' ∧ Ev St O H S2 O' H' := fun {S1 S2 O' H'} sb s' e' => ⟨⟨fun a ds h => s'.dom a ds (sb a _ h), s'.ex⟩, ⟨e'.keep, e'.own, fun a h n => ⟨(e'.res a h n).1, by
    cases q : S2 a with
    | none => rfl
    | some o => have := sb a o q; rw [(e'.res a h n).2] at this; cases this⟩, e'.there⟩⟩
  refine ⟨env1 d ds, St, O, fun k x _ S => RtQ (R k) x S, _, ⟨sk, ?_, fun k' x σ' ρ' S' O' H' c dd s' e' _ xr ⟨S2, sb, q⟩ => hx k' x S2 O' H' c dd (less sb s' e').1 (less sb s' e').2 xr q⟩, hw, ⟨fun σ' H' ρ' S' O' s' e' _ ⟨S2, sb, q⟩ => hq _ H' _ S2 O' .non (less sb s' e').1 (less sb s' e').2 q, fun v H' dv S' O' rv s' e' ⟨S2, sb, q⟩ => hq v H' dv S2 O' rv (less sb s' e').1 (less sb s' e').2 q, fun _ _ _ _ _ _ _ _ q => q.elim, fun _ _ _ _ _ _ _ _ q => q.elim⟩⟩
  show REnv K O H (env1 d ds) (L2.start d.N vs)
  unfold L2.start env1
  rw [hv]
  exact REnv.start _ r
/-- what is told of a def of the text -/
def Told (K : PySem.W.Frag) (mg : Str → Option Value) (d : Df) (st : Stmt) : Prop := ∃ (f : Addr) (fd : FuncData), FunD K d.name d.name (defArgs st) (defBody st) (defScope st) [] [] f fd ∧ mg d.name = some (.ref f)
def calls (done : List Df) (d : Df) : Bool := Nat.ble 33 d.lvl && d.fns.all fun p => done.any fun e => Nat.beq e.id p.1 && decide (e.name = p.2) && Nat.blt (e.lvl + 2) d.lvl
def callsAll : List Df → List Df → Bool
  | _, [] => true
  | done, d :: r => calls done d && callsAll (d :: done) r
theorem link_all (hN : base.NoSeer) (hT0 : P.given.tree = none) (hbl : ∀ x ∈ blts, mg x = none) : ∀ (tab : List (Df × Stmt)) (done : List Df), (∀ e ∈ done, Good L P w K mg base e) → callsAll done (tab.map (·.1)) = true → (∀ p ∈ tab, Told K mg p.1 p.2) → (∀ p ∈ tab, okD p.1 (defScope p.2) (defBody p.2) = true) → (∀ p ∈ tab, BindOk (defArgs p.2) p.1.ps) →
    (∀ p ∈ tab, SpecOk L.Γ p.1) → (∀ p ∈ tab, ∀ g ∈ p.1.gls, GlG L K mg g.1 g.2) → ∀ p ∈ tab, Good L P w K mg base p.1
  | [], _, _, _, _, _, _, _, _ => fun _ h => nomatch h
  | (d, st) :: r, done, hd, hc, hT, hO, hB, hS, hG => by
    have hc' : (calls done d && callsAll (d :: done) (r.map (·.1))) = true := hc
    rw [Bool.and_eq_true] at hc'
    have hcd := hc'.1
    unfold calls at hcd
    rw [Bool.and_eq_true] at hcd
    have l1 : 33 ≤ d.lvl := Nat.le_of_ble_eq_true hcd.1
    have good : Good L P w K mg base d := by
      obtain ⟨f, fd, F, m⟩ := hT (d, st) List.mem_cons_self
      have bd : Binds K fd d.ps [] := F.bindsN fun kV doc pm an cdv ct us hl => hB (d, st) List.mem_cons_self _ _ _ _ kV doc pm an cdv ct us hl
      refine ⟨f, fd, df_ok hN hT0 (k := d.lvl - 1) (by omega) (by omega) F (hO (d, st) List.mem_cons_self) (fun p hp => ?_) (hG (d, st) List.mem_cons_self) hbl (hS (d, st) List.mem_cons_self), m, F.kp, bd, ?_⟩
      rotate_left 1
      · obtain ⟨oc, od, dV, kV, doc, pm, an, cdv, ct, osl, _, lk, _⟩ := F.ex
        exact ⟨oc, od, osl, lk⟩
      have := List.all_eq_true.mp hcd.2 p hp
      obtain ⟨e, he, q⟩ := List.any_eq_true.mp this
      simp only [Bool.and_eq_true, decide_eq_true_eq] at q
      have q3 : e.lvl + 2 < d.lvl := Nat.le_of_ble_eq_true q.2
      exact ⟨e, Nat.eq_of_beq_eq_true q.1.1, q.1.2, by omega, hd e he⟩
    have ih := link_all hN hT0 hbl r (d :: done) (fun e he => by
      rcases List.mem_cons.mp he with z | z
      · rw [z]; exact good
      · exact hd e z) hc'.2 (fun p hp => hT p (List.mem_cons_of_mem _ hp)) (fun p hp => hO p (List.mem_cons_of_mem _ hp)) (fun p hp => hB p (List.mem_cons_of_mem _ hp)) (fun p hp => hS p (List.mem_cons_of_mem _ hp)) (fun p hp => hG p (List.mem_cons_of_mem _ hp))
    intro p hp
    rcases List.mem_cons.mp hp with z | z
    · rw [z]; exact good
    · exact ih p z
end

/-! ### module constants -/
mutual
def datB (K : PySem.W.Frag) : D → Value → Bool
  | .non, u => (match u with | .none => true | _ => false)
  | .bl b, u => (match u with | .bool c => decide (b = c) | _ => false)
  | .int i, u => (match u with | .int j _ => decide (i = j) | _ => false)
  | .str x, u => (match u with | .str y _ => decide (x = y) | _ => false)
  | .tup ds, u => (match u with
    | .ref a => (match K.lookup a with
      | some ⟨.type c, _, .seq its _, _⟩ => decide (c = "tuple") && decide (its.size ≤ sizeLine) && datBs K ds its.toList
      | _ => false)
    | _ => false)
  | _, _ => false
def datBs (K : PySem.W.Frag) : List D → List Value → Bool
  | [], us => (match us with | [] => true | _ => false)
  | d :: ds, us => (match us with | u :: us => datB K d u && datBs K ds us | _ => false)
end
mutual
theorem datB_ok {K : PySem.W.Frag} : ∀ (d : D) {u : Value}, datB K d u = true → ∃ v, RelV v u ∧ ∀ O H, Rp K O H v d
  | .non, u, h => by
    unfold datB at h
    split at h
    · exact ⟨.non, rfl, fun _ _ => .non⟩
    · cases h
  | .bl b, u, h => by
    unfold datB at h
    split at h
    · have e := of_decide_eq_true h; subst e; exact ⟨.bl b, rfl, fun _ _ => .bl b⟩
    · cases h
  | .int b, u, h => by
    unfold datB at h
    split at h
    · have e := of_decide_eq_true h; subst e; exact ⟨.int b, ⟨_, rfl⟩, fun _ _ => .int b⟩
    · cases h
  | .str b, u, h => by
    unfold datB at h
    split at h
    · have e := of_decide_eq_true h; subst e; exact ⟨.str b, ⟨_, rfl⟩, fun _ _ => .str b⟩
    · cases h
  | .tup ds, u, h => by
    unfold datB at h
    split at h
    · rename_i a
      split at h
      · rename_i c dd its n sl q
        simp only [Bool.and_eq_true, decide_eq_true_eq] at h
        obtain ⟨⟨h1, h2⟩, h3⟩ := h
        subst h1
        obtain ⟨vs, r, rp⟩ := datBs_ok ds h3
        refine ⟨.ref a, rfl, fun O H => .tup (.inr ⟨_, its, n, q, rfl, rfl, h2, r⟩) ?_ (rp O H)⟩
        have := r.length
        rw [this]; simpa using h2
      · cases h
    · cases h
  | .lst _, _, h => by simp [datB] at h
  | .ref _, _, h => by simp [datB] at h
  | .ty _, _, h => by simp [datB] at h
  | .scr _, _, h => by simp [datB] at h
theorem datBs_ok {K : PySem.W.Frag} : ∀ (ds : List D) {us : List Value}, datBs K ds us = true → ∃ vs, Vals vs us ∧ ∀ O H, Rps K O H vs ds
  | [], us, h => by
    unfold datBs at h
    split at h
    · exact ⟨[], .nil, fun _ _ => .nil⟩
    · cases h
  | d :: ds, us, h => by
    unfold datBs at h
    split at h
    · rw [Bool.and_eq_true] at h
      obtain ⟨v, r, rp⟩ := datB_ok d h.1
      obtain ⟨vs, rs, rps⟩ := datBs_ok ds h.2
      exact ⟨v :: vs, .cons r rs, fun O H => .cons (rp O H) (rps O H)⟩
    · cases h
end
/-! ### the head's facts -/
def glB (K : PySem.W.Frag) (g : Str × D) : Bool := match PySem.W.nsIn K mainGlobals g.1 with
  | some (some u) => datB K g.2 u
  | _ => false
def obsE (fa : List He.Fa) (fn : List He.DefD) (gs : List (Str × D)) (K : PySem.W.Frag) : He.AlD := ((He.obsD fa fn K).1 && gs.all (glB K), (He.obsD fa fn K).2)
def SaysE (fa : List He.Fa) (fn : List He.DefD) (gs : List (Str × D)) (K : PySem.W.Frag) : Prop := obsE fa fn gs K = He.valD fn
theorem SaysE.d {fa : List He.Fa} {fn : List He.DefD} {gs : List (Str × D)} {K : PySem.W.Frag} (c : SaysE fa fn gs K) : He.SaysD fa fn K ∧ ∀ g ∈ gs, glB K g = true := by
  have c0 : (((He.obsD fa fn K).1 && gs.all (glB K), (He.obsD fa fn K).2) : He.AlD) = (true, fn.map He.DefD.val) := c
  obtain ⟨c1, c2⟩ := Prod.mk.inj c0
  rw [Bool.and_eq_true] at c1
  exact ⟨Prod.ext c1.1 c2, List.all_eq_true.mp c1.2⟩
def obsEG (n : Nat) (fa : List He.Fa) (fn : List He.DefD) (gs : List (Str × D)) (g : Addr → Option Obj) : He.AlD := obsE fa fn gs (He.frG g (He.asD g n))
def hookE (n : Nat) (fa : List He.Fa) (fn : List He.DefD) (gs : List (Str × D)) : PySem.W.Hook where
  α := He.AlD
  obs := fun s => obsEG n fa fn gs s.heap.get?
  val := fun _ => He.valD fn
  says := fun _ h => ∃ K : PySem.W.Frag, K.In h ∧ SaysE fa fn gs K
  of := fun _ _ e => ⟨_, He.frG_in, e⟩
  keeps := fun _ _ _ ⟨K, hK, c⟩ k => ⟨K, PySem.W.Frag.In.keeps hK k, c⟩
theorem obsEG_eq {n : Nat} {fa : List He.Fa} {fn : List He.DefD} {gs : List (Str × D)} {g : Addr → Option Obj} {s : Shared} (h : ∀ a, g a = s.heap.get? a) : obsEG n fa fn gs g = (hookE n fa fn gs).obs s := by
  have e : g = s.heap.get? := funext h
  rw [e] <;> rfl
def defOf (p : Df × Stmt) : He.DefD := ⟨(p.1.name, none), p.1.name, p.1.name, defArgs p.2, defBody p.2, defScope p.2, [], []⟩
def faOf (tab : List (Df × Stmt)) : List He.Fa := (tab.map fun p => He.Fa.glo p.1.name) ++ blts.map He.Fa.free
section
variable {K : PySem.W.Frag} {mg : Str → Option Value} {h : Heap}
theorem fact_mem {fa : List He.Fa} {fn : List He.DefD} (c : He.SaysD fa fn K) {f : He.Fa} (hf : f ∈ fa) : f.ok K = true := by
  obtain ⟨i, e⟩ := List.mem_iff_getElem?.mp hf
  exact c.fact i e
theorem told_of {tab : List (Df × Stmt)} {gs : List (Str × D)} (X : K.In h) (G : h.Ns mainGlobals mg) (c : SaysE (faOf tab) (tab.map defOf) gs K) : (∀ p ∈ tab, Told K mg p.1 p.2) ∧ (∀ x ∈ blts, mg x = none) ∧ (∀ g ∈ gs, ∃ (u : Value) (v : V), mg g.1 = some u ∧ RelV v u ∧ ∀ O H, Rp K O H v g.2) := by
  obtain ⟨c, cg⟩ := c.d
  refine ⟨fun p hp => ?_, fun x hx => ?_, fun g hg => ?_⟩
  · obtain ⟨i, e⟩ := List.mem_iff_getElem?.mp hp
    have e2 : (tab.map defOf)[i]? = some (defOf p) := by rw [List.getElem?_map, e]; rfl
    obtain ⟨fd, F⟩ := c.def_ i e2
    exact ⟨_, fd, F, He.glo_ok X G (fact_mem c (List.mem_append_left _ (List.mem_map.mpr ⟨p, hp, rfl⟩)))⟩
  · exact He.free_ok X G (fact_mem c (List.mem_append_right _ (List.mem_map.mpr ⟨x, hx, rfl⟩)))
  · have q := cg g hg
    unfold glB at q
    split at q
    · rename_i u e
      obtain ⟨v, r, rp⟩ := datB_ok g.2 q
      exact ⟨u, v, PySem.W.mg_of X G e, r, rp⟩
    · cases q
end
end DL

/-! DL15: from defs to the law; lemmas for loops. -/
namespace DL
open PySem PySem.Spec PyProof.Rows L2
theorem FnOk.to0 {P : Program} {w : World} {K : PySem.W.Frag} {mg : Str → Option Value} {base : Heap} {k : Nat} {f : Addr} {fd : FuncData} {ps : List Str} {sp : Sp} (F : FnOk P w K mg base (L2.CX P w) k f fd ps sp) :
    FnOk P w K mg base CX0 k f fd ps (fun vs H Q _ => sp vs H Q E0) :=
  ⟨fun vs H Q E h => F.len vs H Q E0 h, fun A outer s H args us vs Q E hr e0 hb r h => codeAny_mono (F.run A outer s H args us vs Q E0 hr e0 hb r h) fun q s' hq => by
    cases q with
    | ok fl => cases fl <;> exact hq
    | error e =>
      have hq : L2.CX P w outer H s E0 e s' := hq
      obtain ⟨_, _, _, _, _, _, _, _, _, _, _, _, z⟩ := hq
      exact z.elim⟩
theorem law_of {L : Lnk} {K : PySem.W.Frag} {F : FSp} {H : Hp} {a : Addr} {ns : List Int} (hl : ns.length ≤ 63) (hO : Only H) (hS : SqL K H a (ns.map V.int)) (h : F [.scr ns] (fun _ => none) xNo fun d _ => d = .bl true) : spOf L K F [.ref a] H (fun v _ => v = .bl true) E0 := by
  have z : ns.length ≤ sizeLine := Nat.le_trans hl (by decide)
  have rp : Rp K (fun _ => False) H (.ref a) (.scr ns) := by
    rcases hS with (h | ⟨o, h⟩) | h
    · rcases hO a with e | ⟨o, xs, e⟩ <;> rw [e] at h <;> cases h
    · exact .scr z h
    · exact .scrK z fun H' => .inr h
  refine ⟨[.scr ns], fun _ => none, fun _ => False, xNo, _, ⟨fun a ds h => (nomatch h), fun a h => h.elim⟩, .cons rp .nil, h, fun _ _ _ _ _ _ _ _ _ _ z => z.elim, fun v H' d S' O' r _ _ q => ?_⟩
  subst q
  cases r
  rfl
/-! ### known values -/
section
variable {S : Sto} {p : Addr} {ds : List D} {k : List D → (Sto → Prop) → Prop}
theorem res_i {i : Int} : res S (.int i) = .int i := rfl
theorem res_b {i : Bool} : res S (.bl i) = .bl i := rfl
theorem res_s {i : Str} : res S (.str i) = .str i := rfl
theorem res_n : res S .non = .non := rfl
theorem res_t {i : List D} : res S (.tup i) = .tup i := rfl
theorem res_l {i : List D} : res S (.lst i) = .lst i := rfl
theorem res_c {i : List Int} : res S (.scr i) = .scr i := rfl
theorem res_sup : res (sup S p (.lst ds)) (.ref p) = .lst ds := by unfold res; simp only [sup_same]
theorem res_of (h : S p = some (.lst ds)) : res S (.ref p) = .lst ds := by unfold res; simp only [h]
theorem seqD_t : seqD S (.tup ds) k = k ds fun _ => True := rfl
theorem seqD_l : seqD S (.lst ds) k = k ds fun _ => True := rfl
theorem seqD_c {i : List Int} : seqD S (.scr i) k = k (i.map .int) fun _ => True := rfl
theorem seqD_sup : seqD (sup S p (.lst ds)) (.ref p) k = k ds fun S' => S' p = some (.lst ds) := by unfold seqD; simp only [sup_same]
theorem seqD_of (h : S p = some (.lst ds)) : seqD S (.ref p) k = k ds fun S' => S' p = some (.lst ds) := by unfold seqD; simp only [h]
theorem at2_0 {a b : D} : atD [a, b] 0 = some a := rfl
theorem at2_1 {a b : D} : atD [a, b] 1 = some b := rfl
theorem at3_0 {a b c : D} : atD [a, b, c] 0 = some a := rfl
theorem at3_1 {a b c : D} : atD [a, b, c] 1 = some b := rfl
theorem at3_2 {a b c : D} : atD [a, b, c] 2 = some c := rfl
theorem ix3_0 : L2.ixN 3 0 = some 0 := rfl
theorem ix3_1 : L2.ixN 3 1 = some 1 := rfl
theorem ix3_2 : L2.ixN 3 2 = some 2 := rfl
theorem at_nat {xs : List D} {i : Nat} {d : D} (h : xs[i]? = some d) : atD xs (i : Int) = some d := L2.atI_nat h
theorem at_last {xs : List D} {d : D} (h : xs.getLast? = some d) : atD xs (-1) = some d := by
  have hne : xs ≠ [] := fun e => by rw [e] at h; cases h
  have e : xs = xs.dropLast ++ [d] := by
    rw [List.getLast?_eq_some_getLast hne] at h
    cases h
    exact (List.dropLast_concat_getLast hne).symm
  rw [e]
  exact L2.atI_last _ _
theorem ix_nat {n i : Nat} (h : i < n) : L2.ixN n (i : Int) = some i := by
  unfold L2.ixN
  rw [if_pos (by omega), if_pos (by omega)]
  rfl
theorem cut_to {xs : List D} {m : Nat} (h : m ≤ xs.length) : cutD xs none (some (m : Int)) = xs.take m := by
  unfold cutD
  rw [HT.sIx_none, HT.sIx_nat]
  have e : min m xs.length = m := by omega
  rw [e, List.drop_zero, Nat.sub_zero]
theorem cut_from {xs : List D} {m : Nat} (h : m ≤ xs.length) : cutD xs (some (m : Int)) none = xs.drop m := by
  unfold cutD
  rw [HT.sIx_none, HT.sIx_nat]
  have e : min m xs.length = m := by omega
  rw [e]
  exact List.take_of_length_le (by rw [List.length_drop]; exact Nat.le_refl _)
theorem cut_last {xs : List D} : cutD xs none (some (-1)) = xs.dropLast := by
  unfold cutD
  rw [HT.sIx_none, List.drop_zero, Nat.sub_zero, List.dropLast_eq_take]
  have e : HT.sIx xs.length xs.length (some (-1)) = ((-1 : Int) + (xs.length : Int)).toNat := by
    show (if (-1 : Int) < 0 then ((-1 : Int) + (xs.length : Int)).toNat else min (-1 : Int).toNat xs.length) = _
    exact if_pos (by decide)
  rw [e]
  congr 1
  omega
/-- turned round -/
theorem pick_rev {α : Type} (xs : List α) : pick xs none none (-1) = xs.reverse := by
  unfold pick
  have h1 : (Builtin.Slice.sliceAdjust none none (-1) (xs.length : Int)) = ((xs.length : Int) - 1, -1) := rfl
  rw [h1]
  have h2 : Builtin.Slice.slicePlaces ((xs.length : Int) - 1) (-1) (-1) = xs.length := by
    unfold Builtin.Slice.slicePlaces
    have q : ¬ ((-1 : Int) > 0) := by decide
    simp only [q, if_false]
    split
    · have : ((xs.length : Int) - 1 - -1 - 1) / (- -1) = (xs.length : Int) - 1 := by
        rw [show (- -1 : Int) = 1 by decide, Int.ediv_one]; omega
      rw [this]; omega
    · omega
  rw [h2]
  have f : ∀ k ∈ List.range xs.length, xs[((xs.length : Int) - 1 + (k : Int) * -1).toNat]? = xs.reverse[k]? := fun k hk => by
    have hk := List.mem_range.mp hk
    have e1 : ((xs.length : Int) - 1 + (k : Int) * -1).toNat = xs.length - 1 - k := by omega
    rw [e1, List.getElem?_reverse hk]
  have f2 : ∀ l : List Nat, (∀ k ∈ l, xs[((xs.length : Int) - 1 + (k : Int) * -1).toNat]? = xs.reverse[k]?) → (l.filterMap fun (k : Nat) => xs[((xs.length : Int) - 1 + (k : Int) * -1).toNat]?) = l.filterMap fun (k : Nat) => xs.reverse[k]? := fun l h => by
    induction l with
    | nil => rfl
    | cons a l ih => simp only [List.filterMap_cons, h a List.mem_cons_self, ih fun k hk => h k (List.mem_cons_of_mem _ hk)]
  show ((List.range xs.length).filterMap fun (k : Nat) => xs[((xs.length : Int) - 1 + (k : Int) * -1).toNat]?) = _
  rw [f2 _ f]
  have f3 : ∀ ys : List α, ((List.range ys.length).filterMap fun (k : Nat) => ys[k]?) = ys := fun ys => by
    induction ys with
    | nil => rfl
    | cons y ys ih =>
      rw [List.length_cons, List.range_succ_eq_map, List.filterMap_cons]
      show y :: List.filterMap _ _ = _
      rw [List.filterMap_map]
      congr 1
  have := f3 xs.reverse
  rw [List.length_reverse] at this
  exact this
theorem mulOk {k l : Nat} {x y : Int} (h : x.natAbs < 2 ^ k) (h' : y.natAbs < 2 ^ l) (hk : k ≤ 2 ^ 26) (hl : l ≤ 2 ^ 26) : IntMulOk x y := by
  have bits : ∀ {k : Nat} {x : Int}, x.natAbs < 2 ^ k → Builtin.Int.intBits x ≤ k := fun {k x} h => by
    unfold Builtin.Int.intBits
    split
    · exact Nat.zero_le _
    · rename_i hx
      have hx0 : x.natAbs ≠ 0 := by
        intro e
        apply hx
        have : x = 0 := by omega
        simp [this]
      have := (Nat.log2_lt hx0).mpr h
      omega
  have b1 := bits h
  have b2 := bits h'
  have tb : Builtin.Int.intTooBig ((Builtin.Int.intBits x : Int) + (Builtin.Int.intBits y : Int)) = false := by
    unfold Builtin.Int.intTooBig; unfold bitsLine
    exact decide_eq_false fun z => by omega
  unfold IntMulOk; rw [tb, Bool.and_false]
  exact Bool.false_ne_true
theorem res_ty {d : D} {t : String} (h : typD d = some t) : res S d = d := by cases d <;> first | rfl | cases h
end
/-! ### loops -/
theorem forL_ind {bd : D → Env → Sto → (Env → Sto → Prop) → Prop} {body : DEnd → Env → Sto → Prop} {C : Sto → Prop} {E : DEnd} (I : List D → Env → Sto → Prop) (he : ∀ ρ S, I [] ρ S → C S ∧ E.nx ρ S)
    (hs : ∀ d rest ρ S (N : Env → Sto → Prop), I (d :: rest) ρ S → (∀ ρ S, I rest ρ S → N ρ S) → C S ∧ bd d ρ S fun ρ' S' => body { nx := N, ct := N, bk := E.nx, rt := E.rt } ρ' S') : ∀ ds ρ S, I ds ρ S → forL bd body C E ds ρ S
  | [], ρ, S, h => he ρ S h
  | d :: ds, ρ, S, h => hs d ds ρ S _ h fun ρ S h => forL_ind I he hs ds ρ S h
theorem compL_ind {bd : D → Env → Sto → (Env → Sto → Prop) → Prop} {tw : Env → Sto → (Bool → Sto → Prop) → Prop} {ew : Env → Sto → QD → Prop} {B : List D → Prop} {C : Sto → Prop} {Kp : List D → Sto → Prop} {ρ : Env} (I : List D → Sto → List D → Prop) (he : ∀ S acc, I [] S acc → C S ∧ Kp acc S)
    (hs : ∀ d rest S acc (N : Sto → List D → Prop), I (d :: rest) S acc → (∀ S acc, I rest S acc → N S acc) → C S ∧ bd d ρ S fun ρ' S1 => tw ρ' S1 fun b S2 => if b = true then ew ρ' S2 fun y S3 => B acc ∧ N S3 (acc ++ [y]) else N S2 acc) : ∀ ds S acc, I ds S acc → compL bd tw ew B C Kp ρ ds S acc
  | [], S, acc, h => he S acc h
  | d :: ds, S, acc, h => hs d ds S acc _ h fun S acc h => compL_ind I he hs ds S acc h
theorem compO_ind {bd : D → Env → Sto → (Env → Sto → Prop) → Prop} {tw : Env → Sto → (Bool → Sto → Prop) → Prop} {iw : Env → Sto → List D → (List D → Sto → Prop) → Prop} {C : Sto → Prop} {Kp : List D → Sto → Prop} {ρ : Env} (I : List D → Sto → List D → Prop) (he : ∀ S acc, I [] S acc → C S ∧ Kp acc S)
    (hs : ∀ d rest S acc (N : Sto → List D → Prop), I (d :: rest) S acc → (∀ S acc, I rest S acc → N S acc) → C S ∧ bd d ρ S fun ρ' S1 => tw ρ' S1 fun b S2 => if b = true then iw ρ' S2 acc fun acc' S3 => N S3 acc' else N S2 acc) : ∀ ds S acc, I ds S acc → compO bd tw iw C Kp ρ ds S acc
  | [], S, acc, h => he S acc h
  | d :: ds, S, acc, h => hs d ds S acc _ h fun S acc h => compO_ind I he hs ds S acc h
/-- a comprehension without a test whose items are f of the walked ones -/
theorem compL_map {bd : D → Env → Sto → (Env → Sto → Prop) → Prop} {ew : Env → Sto → QD → Prop} {C : Sto → Prop} {Q : List D → Sto → Prop} {ρ : Env} {S : Sto} (f : D → D) (hC : C S) :
    ∀ (ds : List D) (acc : List D), (∀ d ∈ ds, ∀ N : QD, N (f d) S → bd d ρ S fun ρ' S1 => ew ρ' S1 N) → Q (acc ++ ds.map f) S → compL bd (fun _ S K => K true S) ew (fun _ => True) C Q ρ ds S acc
  | [], acc, h, q => ⟨hC, by rw [List.map_nil, List.append_nil] at q; exact q⟩
  | d :: ds, acc, h, q => ⟨hC, by
    have := h d List.mem_cons_self (fun y S3 => True ∧ compL bd (fun _ S K => K true S) ew (fun _ => True) C Q ρ ds S3 (acc ++ [y])) ⟨trivial, compL_map f hC ds (acc ++ [f d]) (fun d hd => h d (List.mem_cons_of_mem _ hd)) (by rw [List.append_assoc]; exact q)⟩
    simp only [if_true]
    exact this⟩
theorem compL_mapG {α : Type} {bd : D → Env → Sto → (Env → Sto → Prop) → Prop} {ew : Env → Sto → QD → Prop} {C : Sto → Prop} {Q : List D → Sto → Prop} {ρ : Env} {S : Sto} (g f : α → D) (hC : C S) :
    ∀ (l : List α) (acc : List D), (∀ a ∈ l, ∀ N : QD, N (f a) S → bd (g a) ρ S fun ρ' S1 => ew ρ' S1 N) → Q (acc ++ l.map f) S → compL bd (fun _ S K => K true S) ew (fun _ => True) C Q ρ (l.map g) S acc
  | [], acc, h, q => ⟨hC, by rw [List.map_nil, List.append_nil] at q; exact q⟩
  | a :: l, acc, h, q => ⟨hC, by
    have := h a List.mem_cons_self (fun y S3 => True ∧ compL bd (fun _ S K => K true S) ew (fun _ => True) C Q ρ (l.map g) S3 (acc ++ [y])) ⟨trivial, compL_mapG g f hC l (acc ++ [f a]) (fun d hd => h d (List.mem_cons_of_mem _ hd)) (by rw [List.append_assoc]; exact q)⟩
    simp only [if_true]
    exact this⟩
theorem zipD_map {α β : Type} (g : α → D) (h : β → D) : ∀ (l : List α) (m : List β), zipD (l.map g) (m.map h) = (l.zip m).map fun x => .tup [g x.1, h x.2]
  | [], m => by simp [zipD]
  | _ :: _, [] => by simp [zipD]
  | a :: l, b :: m => by
    have := zipD_map g h l m
    unfold zipD at this ⊢
    simp only [List.map_cons, List.zipWith_cons_cons, List.zip_cons_cons, this]
/-- numbered from n on -/
def num {α : Type} : Nat → List α → List (Nat × α)
  | _, [] => []
  | n, x :: r => (n, x) :: num (n + 1) r
theorem enumD_map {α : Type} (g : α → D) : ∀ (n : Nat) (l : List α), enumD n (l.map g) = (num n l).map fun x => .tup [.int x.1, g x.2]
  | _, [] => rfl
  | n, a :: l => by rw [List.map_cons, enumD, num, List.map_cons, enumD_map g (n + 1) l]
end DL

/-! DL16: == of trees of ints. -/
namespace DL
open PySem
/-- trees of ints and None, n deep at most -/
def IT : Nat → D → Prop
  | _, .int _ => True
  | _, .non => True
  | n + 1, .tup ds => ∀ d ∈ ds, IT n d
  | n + 1, .lst ds => ∀ d ∈ ds, IT n d
  | _, _ => False
theorem it_py : ∀ (n : Nat) (d : D), IT n d → ∃ p, d.py = some p ∧ p.canLay0 = true ∧ p.depth ≤ n
  | n, .int i, _ => ⟨.int i, rfl, rfl, Nat.zero_le _⟩
  | n, .non, _ => ⟨.none, rfl, rfl, Nat.zero_le _⟩
  | n + 1, .tup ds, h => by
    have all : ∀ ds : List D, (∀ d ∈ ds, IT n d) → ∃ ps, D.py.pys ds = some ps ∧ PyData.canLayAll0 ps = true ∧ PyData.depthAll ps ≤ n := by
      intro ds
      induction ds with
      | nil => intro _; exact ⟨[], rfl, rfl, Nat.zero_le _⟩
      | cons d ds ih =>
        intro h
        obtain ⟨p, h1, h2, h3⟩ := it_py n d (h d List.mem_cons_self)
        obtain ⟨ps, h4, h5, h6⟩ := ih fun d hd => h d (List.mem_cons_of_mem _ hd)
        refine ⟨p :: ps, by simp only [D.py.pys, h1, h4], ?_, ?_⟩
        · simp only [PyData.canLayAll0, h2, h5, Bool.and_self]
        · simp only [PyData.depthAll]; omega
    obtain ⟨ps, h1, h2, h3⟩ := all ds h
    refine ⟨.tuple ps, by simp only [D.py, h1, Option.map_some], by simp only [PyData.canLay0, h2], ?_⟩
    simp only [PyData.depth]; omega
  | n + 1, .lst ds, h => by
    have all : ∀ ds : List D, (∀ d ∈ ds, IT n d) → ∃ ps, D.py.pys ds = some ps ∧ PyData.canLayAll0 ps = true ∧ PyData.depthAll ps ≤ n := by
      intro ds
      induction ds with
      | nil => intro _; exact ⟨[], rfl, rfl, Nat.zero_le _⟩
      | cons d ds ih =>
        intro h
        obtain ⟨p, h1, h2, h3⟩ := it_py n d (h d List.mem_cons_self)
        obtain ⟨ps, h4, h5, h6⟩ := ih fun d hd => h d (List.mem_cons_of_mem _ hd)
        refine ⟨p :: ps, by simp only [D.py.pys, h1, h4], ?_, ?_⟩
        · simp only [PyData.canLayAll0, h2, h5, Bool.and_self]
        · simp only [PyData.depthAll]; omega
    obtain ⟨ps, h1, h2, h3⟩ := all ds h
    refine ⟨.list ps, by simp only [D.py, h1, Option.map_some], by simp only [PyData.canLay0, h2], ?_⟩
    simp only [PyData.depth]; omega
  | 0, .tup _, h => h.elim
  | 0, .lst _, h => h.elim
  | n, .bl _, h => by cases n <;> exact h.elim
  | n, .str _, h => by cases n <;> exact h.elim
  | n, .ref _, h => by cases n <;> exact h.elim
  | n, .ty _, h => by cases n <;> exact h.elim
  | n, .scr _, h => by cases n <;> exact h.elim
theorem it_eqv : ∀ (n m : Nat) (x y : D) (p q : PyData), IT n x → IT m y → x.py = some p → y.py = some q → (PyData.eqv p q = true ↔ x = y) := by
  intro n
  induction n with
  | zero =>
    intro m x y p q hx hy ep eq
    cases x <;> try exact hx.elim
    all_goals
      cases ep
      cases y <;> try (cases m <;> exact hy.elim)
      all_goals (try (cases eq; simp [PyData.eqv]))
      all_goals
        simp only [D.py] at eq
        revert eq
        cases D.py.pys _ <;> intro eq
        · cases eq
        · cases eq; simp [PyData.eqv]
  | succ n ih =>
    intro m x y p q hx hy ep eq
    have all : ∀ (m : Nat) (xs ys : List D) (ps qs : List PyData), (∀ d ∈ xs, IT n d) → (∀ d ∈ ys, IT m d) → D.py.pys xs = some ps → D.py.pys ys = some qs → (PyData.eqvAll ps qs = true ↔ xs = ys) := by
      intro m xs
      induction xs with
      | nil =>
        intro ys ps qs _ _ e1 e2
        cases e1
        cases ys with
        | nil => cases e2; simp [PyData.eqvAll]
        | cons y ys =>
          simp only [D.py.pys] at e2
          split at e2
          · cases e2; simp [PyData.eqvAll]
          · cases e2
      | cons x xs ihx =>
        intro ys ps qs h1 h2 e1 e2
        simp only [D.py.pys] at e1
        split at e1
        · rename_i p ps' ep eps
          cases e1
          cases ys with
          | nil => cases e2; simp [PyData.eqvAll]
          | cons y ys =>
            simp only [D.py.pys] at e2
            split at e2
            · rename_i q qs' eq eqs
              cases e2
              have a := ih m x y p q (h1 x List.mem_cons_self) (h2 y List.mem_cons_self) ep eq
              have b := ihx ys ps' qs' (fun d hd => h1 d (List.mem_cons_of_mem _ hd)) (fun d hd => h2 d (List.mem_cons_of_mem _ hd)) eps eqs
              simp only [PyData.eqvAll, Bool.and_eq_true, a, b, List.cons.injEq]
            · cases e2
        · cases e1
    cases x <;> try exact hx.elim
    case int | non =>
      cases ep
      cases y <;> try (cases m <;> exact hy.elim)
      all_goals (try (cases eq; simp [PyData.eqv]))
      all_goals
        simp only [D.py] at eq
        revert eq
        cases D.py.pys _ <;> intro eq
        · cases eq
        · cases eq; simp [PyData.eqv]
    case tup xs =>
      simp only [D.py] at ep
      cases e1 : D.py.pys xs with
      | none => rw [e1] at ep; cases ep
      | some ps =>
        rw [e1] at ep; cases ep
        cases y <;> try (cases m <;> exact hy.elim)
        case tup ys =>
          simp only [D.py] at eq
          cases e2 : D.py.pys ys with
          | none => rw [e2] at eq; cases eq
          | some qs =>
            rw [e2] at eq; cases eq
            cases m with
            | zero => exact hy.elim
            | succ m =>
              have := all m xs ys ps qs hx hy e1 e2
              simp only [PyData.eqv, this, D.tup.injEq]
        case lst ys =>
          simp only [D.py] at eq
          cases e2 : D.py.pys ys with
          | none => rw [e2] at eq; cases eq
          | some qs => rw [e2] at eq; cases eq; simp [PyData.eqv]
        all_goals (cases eq; simp [PyData.eqv])
    case lst xs =>
      simp only [D.py] at ep
      cases e1 : D.py.pys xs with
      | none => rw [e1] at ep; cases ep
      | some ps =>
        rw [e1] at ep; cases ep
        cases y <;> try (cases m <;> exact hy.elim)
        case lst ys =>
          simp only [D.py] at eq
          cases e2 : D.py.pys ys with
          | none => rw [e2] at eq; cases eq
          | some qs =>
            rw [e2] at eq; cases eq
            cases m with
            | zero => exact hy.elim
            | succ m =>
              have := all m xs ys ps qs hx hy e1 e2
              simp only [PyData.eqv, this, D.lst.injEq]
        case tup ys =>
          simp only [D.py] at eq
          cases e2 : D.py.pys ys with
          | none => rw [e2] at eq; cases eq
          | some qs => rw [e2] at eq; cases eq; simp [PyData.eqv]
        all_goals (cases eq; simp [PyData.eqv])
/-- == of two trees of ints -/
theorem eqD_it {n m : Nat} {x y : D} {k : Bool → Prop} (hx : IT n x) (hy : IT m y) (hn : n ≤ 64) (hm : m ≤ 64) (h1 : x = y → k true) (h2 : x ≠ y → k false) : eqD x y k := by
  obtain ⟨p, ep, lp, dp⟩ := it_py n x hx
  obtain ⟨q, eq, lq, dq⟩ := it_py m y hy
  refine ⟨p, q, ep, eq, by simp only [SeqAt.shaped, lp, Bool.true_and, decide_eq_true_eq]; omega, by simp only [SeqAt.shaped, lq, Bool.true_and, decide_eq_true_eq]; omega, ?_⟩
  have e := it_eqv n m x y p q hx hy ep eq
  by_cases z : x = y
  · rw [e.mpr z]; exact h1 z
  · have : PyData.eqv p q = false := by
      cases w : PyData.eqv p q with
      | true => exact absurd (e.mp w) z
      | false => rfl
    rw [this]; exact h2 z
end DL

/-! DL18: the law's end where divisions of great integers have room: the base heap is one without a seer. -/
namespace DL
open PySem PySem.Spec PyProof.Rows L2
/-- more is known -/
def More (K K' : PySem.W.Frag) : Prop := ∀ a o, K.lookup a = some o → K'.lookup a = some o
theorem more_app {K K2 : PySem.W.Frag} {h : Heap} (i1 : K.In h) (i2 : K2.In h) : More K (K2 ++ K) := fun a o e => by
  rw [List.lookup_append]
  cases q : K2.lookup a with
  | some u => have := (i2 a _ q).symm.trans (i1 a o e); rw [Option.some.inj this]; rfl
  | none => exact e
theorem of_app {K K2 : PySem.W.Frag} {h : Heap} (i : (K2 ++ K).In h) : K2.In h := fun a o e => i a o (by rw [List.lookup_append, e]; rfl)
theorem in_app {K K2 : PySem.W.Frag} {h : Heap} (a : K.In h) (b : K2.In h) : (K ++ K2).In h := fun x o e => by
  rw [List.lookup_append] at e
  cases q : K.lookup x with
  | some u => rw [q] at e; cases e; exact a x _ q
  | none => rw [q] at e; exact b x o e
/-- objects of a heap as a fragment -/
theorem in_list {h : Heap} : ∀ {l : PySem.W.Frag}, (∀ p ∈ l, h.get? p.1 = some p.2) → l.In h
  | [], _ => fun _ _ e => nomatch e
  | (b, x) :: r, H => fun a o e => by
    rw [List.lookup_cons] at e
    split at e
    · rename_i q; cases e; rw [beq_iff_eq.mp q]; exact H (b, x) List.mem_cons_self
    · exact in_list (fun p hp => H p (List.mem_cons_of_mem _ hp)) a o e
theorem look_list {h : Heap} : ∀ {l : PySem.W.Frag}, (∀ p ∈ l, h.get? p.1 = some p.2) → ∀ p ∈ l, l.lookup p.1 = some p.2
  | [], _ => fun _ e => nomatch e
  | (b, x) :: r, H => fun p hp => by
    rw [List.lookup_cons]
    split
    · rename_i q
      have e1 := H p hp
      have e2 := H (b, x) List.mem_cons_self
      rw [beq_iff_eq.mp q] at e1
      exact e2.symm.trans e1
    · rename_i q
      rcases List.mem_cons.mp hp with e | e
      · rw [e] at q; simp at q
      · exact look_list (fun p hp => H p (List.mem_cons_of_mem _ hp)) p e
theorem seer_frag {h : Heap} (N : h.NoSeer) : ∃ K2 : PySem.W.Frag, K2.In h ∧ ∀ b : Heap, K2.In b → b.NoSeer := by
  obtain ⟨mc, ⟨o1, es1, ep1, h1, r1⟩, c⟩ := N.statics
  obtain ⟨mm, ⟨o2, es2, ep2, h2, r2⟩, c2⟩ := N.mods
  obtain ⟨mb, ⟨o3, es3, ep3, h3, r3⟩, c3⟩ := N.imp
  obtain ⟨mg, bm, ob, ⟨o4, es4, ep4, h4, r4⟩, g1, g2, g3⟩ := N.main
  have hl : ∀ p ∈ [(cStatics, o1), (sysModules, o2), (builtinsNs, o3), (mainGlobals, o4), (bm, ob)], h.get? p.1 = some p.2 := fun p hp => by
    simp only [List.mem_cons, List.not_mem_nil, or_false] at hp
    rcases hp with rfl | rfl | rfl | rfl | rfl <;> assumption
  refine ⟨_, in_list hl, fun b hb => ?_⟩
  have at' : ∀ p ∈ [(cStatics, o1), (sysModules, o2), (builtinsNs, o3), (mainGlobals, o4), (bm, ob)], b.get? p.1 = some p.2 := fun p hp => hb _ _ (look_list hl p hp)
  refine ⟨⟨mc, ⟨o1, es1, ep1, at' (cStatics, o1) (List.mem_of_getElem? (i := 0) rfl), r1⟩, c⟩, ⟨mm, ⟨o2, es2, ep2, at' (sysModules, o2) (List.mem_of_getElem? (i := 1) rfl), r2⟩, c2⟩, ⟨mb, ⟨o3, es3, ep3, at' (builtinsNs, o3) (List.mem_of_getElem? (i := 2) rfl), r3⟩, c3⟩, ⟨mg, bm, ob, ⟨o4, es4, ep4, at' (mainGlobals, o4) (List.mem_of_getElem? (i := 3) rfl), r4⟩, g1, at' (bm, ob) (List.mem_of_getElem? (i := 4) rfl), g3⟩⟩
section
variable {K K' : PySem.W.Frag}
theorem keepIn_more (m : More K K') {f : Addr} {oc : Value} {od : Option Addr} {fd : FuncData} {osl : Array (Option Value)} (h : K.lookup f = some ⟨oc, od, .func fd, osl⟩) : PySem.W.keepIn K' (.ref f) = true := by
  unfold PySem.W.keepIn
  simp only [m _ _ h]
theorem codeIn_more (m : More K K') {cd : Value} {q : Str} (h : PySem.W.codeIn K cd q = true) : PySem.W.codeIn K' cd q = true := by
  unfold PySem.W.codeIn at h ⊢
  cases cd with
  | ref c =>
    simp only at h ⊢
    cases e : K.lookup c with
    | none => rw [e] at h; cases h
    | some o => rw [e] at h; rw [m _ _ e]; exact h
  | _ => exact h
theorem funD_more (m : More K K') {x q : Str} {ps : Arguments} {bd : List Stmt} {sc : Scope} {f : Addr} {fd : FuncData} (F : FunD K x q ps bd sc [] [] f fd) : FunD K' x q ps bd sc [] [] f fd := by
  obtain ⟨oc, od, dV, kV, doc, pm, an, cdv, ct, osl, e1, e2, e3, e4, e5⟩ := F.ex
  refine ⟨⟨oc, od, dV, kV, doc, pm, an, cdv, ct, osl, e1, m _ _ e2, codeIn_more m e3, ?_, .inl rfl⟩, keepIn_more m e2⟩
  rcases e4 with h | ⟨h, _⟩
  · exact .inl h
  · exact absurd rfl h
theorem told_more (m : More K K') {mg : Str → Option Value} {d : Df} {st : Stmt} (h : Told K mg d st) : Told K' mg d st :=
  let ⟨f, fd, F, e⟩ := h; ⟨f, fd, funD_more m F, e⟩
mutual
theorem datB_more (m : More K K') : ∀ (d : D) {u : Value}, datB K d u = true → datB K' d u = true
  | .tup ds, u, h => by
    unfold datB at h ⊢
    cases u with
    | ref a =>
      simp only at h ⊢
      cases e : K.lookup a with
      | none => rw [e] at h; cases h
      | some o =>
        rw [e] at h
        rw [m _ _ e]
        revert h
        split
        · intro h
          rw [Bool.and_eq_true] at h ⊢
          exact ⟨h.1, datBs_more m ds h.2⟩
        · intro h; cases h
    | _ => simp at h
  | .non, _, h => by unfold datB at h ⊢; exact h
  | .bl _, _, h => by unfold datB at h ⊢; exact h
  | .int _, _, h => by unfold datB at h ⊢; exact h
  | .str _, _, h => by unfold datB at h ⊢; exact h
  | .lst _, _, h => by simp [datB] at h
  | .ref _, _, h => by simp [datB] at h
  | .ty _, _, h => by simp [datB] at h
  | .scr _, _, h => by simp [datB] at h
theorem datBs_more (m : More K K') : ∀ (ds : List D) {us : List Value}, datBs K ds us = true → datBs K' ds us = true
  | [], us, h => by unfold datBs at h ⊢; exact h
  | d :: ds, us, h => by
    unfold datBs at h ⊢
    cases us with
    | nil => cases h
    | cons u us =>
      simp only [Bool.and_eq_true] at h ⊢
      exact ⟨datB_more m d h.1, datBs_more m ds h.2⟩
end
/-- told_of over a larger fragment -/
theorem told_ofM {mg : Str → Option Value} {h : Heap} (m : More K K') {tab : List (Df × Stmt)} {gs : List (Str × D)} (X : K.In h) (G : h.Ns mainGlobals mg) (c : SaysE (faOf tab) (tab.map defOf) gs K) :
    (∀ p ∈ tab, Told K' mg p.1 p.2) ∧ (∀ x ∈ blts, mg x = none) ∧ (∀ g ∈ gs, ∃ (u : Value) (v : V), mg g.1 = some u ∧ RelV v u ∧ ∀ O H, Rp K' O H v g.2) := by
  obtain ⟨a, b, _⟩ := told_of X G c
  refine ⟨fun p hp => told_more m (a p hp), b, fun g hg => ?_⟩
  have q := c.d.2 g hg
  unfold glB at q
  split at q
  · rename_i u e
    obtain ⟨v, r, rp⟩ := datB_ok g.2 (datB_more m g.2 q)
    exact ⟨u, v, PySem.W.mg_of X G e, r, rp⟩
  · cases q
end
/-! ### the head's run looked at piece by piece -/
theorem map3 {σ α β γ : Type _} {o : Option σ} {f : σ → α} {g : σ → β} {k : σ → γ} {x : α} {y : β} {z : γ} (a : o.map f = some x) (b : o.map g = some y) (c : o.map k = some z) : o.map (fun s => (f s, g s, k s)) = some (x, y, z) := by
  cases o with
  | none => cases a
  | some s =>
    have a := Option.some.inj a
    have b := Option.some.inj b
    have c := Option.some.inj c
    show some (f s, g s, k s) = _
    rw [a, b, c]
theorem obsE_app {K : PySem.W.Frag} {t1 t2 : List (Df × Stmt)} {g1 g2 : List (Str × D)} (a : obsE (faOf t1) (t1.map defOf) g1 K = He.valD (t1.map defOf)) (b : obsE (faOf t2) (t2.map defOf) g2 K = He.valD (t2.map defOf)) :
    obsE (faOf (t1 ++ t2)) ((t1 ++ t2).map defOf) (g1 ++ g2) K = He.valD ((t1 ++ t2).map defOf) := by
  unfold obsE He.obsD He.valD at a b ⊢
  obtain ⟨a1, a2⟩ := Prod.mk.inj a
  obtain ⟨b1, b2⟩ := Prod.mk.inj b
  refine Prod.ext ?_ ?_
  · simp only [Bool.and_eq_true] at a1 b1
    simp only [Bool.and_eq_true]
    unfold faOf at a1 b1 ⊢
    simp only [List.all_append, List.map_append, Bool.and_eq_true] at a1 b1 ⊢
    exact ⟨⟨⟨⟨a1.1.1.1, b1.1.1.1⟩, a1.1.1.2⟩, a1.1.2, b1.1.2⟩, a1.2, b1.2⟩
  · show List.map _ _ = List.map _ _
    rw [List.map_append, List.map_append, List.map_append]
    have a2 : List.map (fun d => He.fnW K (He.DefD.at_ d)) (List.map defOf t1) = _ := a2
    have b2 : List.map (fun d => He.fnW K (He.DefD.at_ d)) (List.map defOf t2) = _ := b2
    rw [a2, b2]
theorem map_obs {o : Option PySem.W.SharedT} {n : Nat} {t1 t2 : List (Df × Stmt)} {g1 g2 : List (Str × D)} (a : o.map (fun s => obsEG n (faOf t1) (t1.map defOf) g1 (HandSHeadRun.getT s)) = some (He.valD (t1.map defOf)))
    (b : o.map (fun s => obsEG n (faOf t2) (t2.map defOf) g2 (HandSHeadRun.getT s)) = some (He.valD (t2.map defOf))) :
    o.map (fun s => obsEG n (faOf (t1 ++ t2)) ((t1 ++ t2).map defOf) (g1 ++ g2) (HandSHeadRun.getT s)) = some (He.valD ((t1 ++ t2).map defOf)) := by
  cases o with
  | none => cases a
  | some s => exact congrArg some (obsE_app (Option.some.inj a) (Option.some.inj b))
theorem map_obs0 {o : Option PySem.W.SharedT} {n : Nat} {t1 t2 : List (Df × Stmt)} {g1 : List (Str × D)} (a : o.map (fun s => obsEG n (faOf t1) (t1.map defOf) g1 (HandSHeadRun.getT s)) = some (He.valD (t1.map defOf)))
    (b : o.map (fun s => obsEG n (faOf t2) (t2.map defOf) [] (HandSHeadRun.getT s)) = some (He.valD (t2.map defOf))) :
    o.map (fun s => obsEG n (faOf (t1 ++ t2)) ((t1 ++ t2).map defOf) g1 (HandSHeadRun.getT s)) = some (He.valD ((t1 ++ t2).map defOf)) := by
  have c := map_obs a b
  rw [List.append_nil] at c
  exact c
/-- the end of a law whose head imports nothing: the promise over bases in which there is no seer -/
theorem walk_far {law' : PySem.W.OpenLaw} {most k : Nat} {view' : Program} {out : List Str} {XQ : (Str → Option Value) → Heap → Prop} {YQ : World → Heap → Prop} {rec' : DefRec} {name : Str}
    (hm : law'.most = some most) (hs : most ≤ sizeLine) (hd : rec'.params.defaults = []) (room : Room k callerA) (hi : importsNone view' = true)
    (give : ∀ (w : World) (mg : Str → Option Value) (fa : Addr) (h : Heap), YQ w h → h.Ns mainGlobals mg → h.NoSeer → mg rec'.name = some (.ref fa) →
      ∃ (K : PySem.W.Frag) (fd : FuncData) (F : FSp) (L : Lnk), K.In h ∧ (∀ (s : Shared) (v : Value), BindsTo s fd ⟨[v], []⟩ [(name, v)]) ∧ (∀ ns : List Int, F [.scr ns] (fun _ => none) xNo fun d _ => d = .bl true) ∧
        ∀ base : Heap, K.In base → FnOk law'.prog w K mg base CX0 k fa fd [name] (fun vs H Q _ => spOf L K F vs H Q E0)) (h63 : most ≤ 63) :
    PySem.W.WalkO view' out XQ YQ law'.row.toRowW rec' [] (fun f vs => PySem.call f vs) :=
  Att.attach_call hm hd fun w _ _ mg _ fa _ _ _ _ a _ ns G Y _ _ _ hmg hobj hints hlen hg =>
    let ⟨_, _, _, _, KX, hb, hsp, hF⟩ := give w mg fa _ Y G.T.g (G.T.seer hi) hmg
    law_call KX G.T.g G.T.b G.T.builtins G.T.nolimit hg hobj hints (Nat.le_trans hlen hs) room (fun b kb _ => hF b kb) hb
      (fun H hO hS => law_of (Nat.le_trans hlen h63) hO hS (hsp ns)) fun _ _ _ z => z
end DL

/-! M1: sums; polys as lists of ints from the lowest on, without a nought on top. -/
namespace PM
def sumN : Nat → (Nat → Int) → Int
  | 0, _ => 0
  | n + 1, f => sumN n f + f n
theorem sumN_congr {f g : Nat → Int} : ∀ {n : Nat}, (∀ i, i < n → f i = g i) → sumN n f = sumN n g
  | 0, _ => rfl
  | n + 1, h => by rw [sumN, sumN, sumN_congr (n := n) fun i hi => h i (by omega), h n (by omega)]
theorem sumN_zero {f : Nat → Int} : ∀ {n : Nat}, (∀ i, i < n → f i = 0) → sumN n f = 0
  | 0, _ => rfl
  | n + 1, h => by rw [sumN, sumN_zero (n := n) fun i hi => h i (by omega), h n (by omega)]; rfl
theorem sumN_add (f g : Nat → Int) : ∀ n : Nat, sumN n (fun i => f i + g i) = sumN n f + sumN n g
  | 0 => rfl
  | n + 1 => by rw [sumN, sumN, sumN, sumN_add f g n]; omega
theorem sumN_mul (k : Int) (f : Nat → Int) : ∀ n : Nat, sumN n (fun i => k * f i) = k * sumN n f
  | 0 => by simp [sumN]
  | n + 1 => by rw [sumN, sumN, sumN_mul k f n, Int.mul_add]
theorem sumN_head (f : Nat → Int) : ∀ n : Nat, sumN (n + 1) f = f 0 + sumN n fun i => f (i + 1)
  | 0 => by simp [sumN]
  | n + 1 => by
    have := sumN_head f n
    rw [sumN, this, sumN]
    omega
theorem sumN_one {f : Nat → Int} {n k : Nat} (hk : k < n) (h : ∀ i, i < n → i ≠ k → f i = 0) : sumN n f = f k := by
  induction n with
  | zero => omega
  | succ n ih =>
    rw [sumN]
    by_cases e : k = n
    · subst e
      rw [sumN_zero fun i hi => h i (by omega) (by omega)]
      omega
    · rw [ih (by omega) fun i hi ne => h i (by omega) ne, h n (by omega) (by omega)]
      omega
theorem sumN_more {f : Nat → Int} {n : Nat} : ∀ {m : Nat}, n ≤ m → (∀ i, n ≤ i → i < m → f i = 0) → sumN m f = sumN n f
  | 0, h, _ => by have : n = 0 := by omega
                  subst this; rfl
  | m + 1, h, z => by
    by_cases e : n = m + 1
    · subst e; rfl
    · rw [sumN, sumN_more (m := m) (by omega) fun i h1 h2 => z i h1 (by omega), z m (by omega) (by omega)]
      omega
theorem sumN_rev (f : Nat → Int) : ∀ n : Nat, sumN n (fun i => f (n - 1 - i)) = sumN n f
  | 0 => rfl
  | n + 1 => by
    rw [sumN_head, sumN]
    have := sumN_rev f n
    rw [← this]
    have e : sumN n (fun i => f (n + 1 - 1 - (i + 1))) = sumN n fun i => f (n - 1 - i) := sumN_congr fun i hi => by
      congr 1; omega
    rw [e]
    have e2 : n + 1 - 1 - 0 = n := by omega
    rw [e2]
    omega
/-- the coefficient at a place -/
def cf (p : List Int) (i : Nat) : Int := p.getD i 0
theorem cf_nil (i : Nat) : cf [] i = 0 := rfl
theorem cf_ge {p : List Int} {i : Nat} (h : p.length ≤ i) : cf p i = 0 := by
  unfold cf
  rw [List.getD_eq_getElem?_getD, List.getElem?_eq_none h]; rfl
theorem cf_lt {p : List Int} {i : Nat} (h : i < p.length) : cf p i = p[i] := by
  unfold cf
  rw [List.getD_eq_getElem?_getD, List.getElem?_eq_getElem h]; rfl
theorem cf_cons_zero (c : Int) (p : List Int) : cf (c :: p) 0 = c := rfl
theorem cf_cons_succ (c : Int) (p : List Int) (i : Nat) : cf (c :: p) (i + 1) = cf p i := rfl
theorem cf_map_range (n : Nat) (f : Nat → Int) (i : Nat) : cf ((List.range n).map f) i = if i < n then f i else 0 := by
  by_cases h : i < n
  · rw [if_pos h, cf_lt (by simpa using h)]; simp
  · rw [if_neg h, cf_ge (by simpa using h)]
theorem cf_map (f : Int → Int) (h0 : f 0 = 0) (p : List Int) (i : Nat) : cf (p.map f) i = f (cf p i) := by
  by_cases h : i < p.length
  · rw [cf_lt (by simpa using h), cf_lt h]; simp
  · rw [cf_ge (by simpa using h), cf_ge (by omega), h0]
/-- no nought on top -/
def Nrm (p : List Int) : Prop := ∀ c, p.getLast? = some c → c ≠ 0
theorem nrm_nil : Nrm [] := fun _ h => nomatch h
theorem nrm_top {p : List Int} (h : Nrm p) (hp : p ≠ []) : cf p (p.length - 1) ≠ 0 := by
  have hl : 0 < p.length := List.length_pos_iff.mpr hp
  rw [cf_lt (by omega)]
  refine h _ ?_
  rw [List.getLast?_eq_getElem?]
  exact List.getElem?_eq_getElem _
theorem nrm_of_top {p : List Int} (h : p ≠ [] → cf p (p.length - 1) ≠ 0) : Nrm p := fun c hc => by
  have hp : p ≠ [] := fun e => by rw [e] at hc; cases hc
  have hl : 0 < p.length := List.length_pos_iff.mpr hp
  rw [List.getLast?_eq_getElem?, List.getElem?_eq_getElem (by omega)] at hc
  cases hc
  have := h hp
  rwa [cf_lt (by omega)] at this
theorem ext_len {p q : List Int} (hp : Nrm p) (h : ∀ i, cf p i = cf q i) : p.length ≤ q.length := by
  by_cases e : p = []
  · rw [e]; exact Nat.zero_le _
  · have hl : 0 < p.length := List.length_pos_iff.mpr e
    have := nrm_top hp e
    rw [h] at this
    by_cases l : p.length ≤ q.length
    · exact l
    · exact absurd (cf_ge (by omega)) this
theorem ext {p q : List Int} (hp : Nrm p) (hq : Nrm q) (h : ∀ i, cf p i = cf q i) : p = q := by
  have l1 := ext_len hp h
  have l2 := ext_len hq fun i => (h i).symm
  refine List.ext_getElem (by omega) fun i h1 h2 => ?_
  have := h i
  rwa [cf_lt h1, cf_lt h2] at this
/-- without the noughts on top -/
def trim (p : List Int) : List Int := (p.reverse.dropWhile (· == 0)).reverse
theorem trim_nil : trim [] = [] := rfl
theorem trim_snoc (p : List Int) (c : Int) : trim (p ++ [c]) = if c = 0 then trim p else p ++ [c] := by
  unfold trim
  rw [List.reverse_append, List.reverse_singleton, List.singleton_append, List.dropWhile_cons]
  by_cases h : c = 0
  · rw [if_pos h, if_pos (by simpa using h)]
  · rw [if_neg h, if_neg (by simpa using h)]
    simp
theorem snoc_ind {P : List Int → Prop} (h0 : P []) (h1 : ∀ p c, P p → P (p ++ [c])) (p : List Int) : P p := by
  have : ∀ n : Nat, ∀ p : List Int, p.length = n → P p := by
    intro n
    induction n with
    | zero => intro p e; rw [List.eq_nil_of_length_eq_zero e]; exact h0
    | succ n ih =>
      intro p e
      have hp : p ≠ [] := fun z => by rw [z] at e; cases e
      rw [← List.dropLast_concat_getLast hp]
      exact h1 _ _ (ih _ (by rw [List.length_dropLast]; omega))
  exact this _ p rfl
theorem nrm_trim (p : List Int) : Nrm (trim p) := by
  refine snoc_ind (P := fun p => Nrm (trim p)) (fun c h => nomatch h) (fun p c ih => ?_) p
  rw [trim_snoc]
  by_cases h : c = 0
  · rw [if_pos h]; exact ih
  · rw [if_neg h]
    intro d hd
    rw [List.getLast?_append, List.getLast?_singleton] at hd
    simp at hd
    rw [← hd]; exact h
theorem cf_append_zero (p : List Int) (i : Nat) : cf (p ++ [0]) i = cf p i := by
  by_cases h : i < p.length
  · rw [cf_lt (by simp; omega), cf_lt h, List.getElem_append_left h]
  · by_cases e : i = p.length
    · subst e
      rw [cf_lt (by simp), cf_ge (Nat.le_refl _)]
      simp
    · rw [cf_ge (by simp; omega), cf_ge (by omega)]
theorem cf_trim (p : List Int) (i : Nat) : cf (trim p) i = cf p i := by
  refine snoc_ind (P := fun p => cf (trim p) i = cf p i) rfl (fun p c ih => ?_) p
  rw [trim_snoc]
  by_cases h : c = 0
  · rw [if_pos h, ih, h, cf_append_zero]
  · rw [if_neg h]
theorem trim_of_nrm {p : List Int} (h : Nrm p) : trim p = p := ext (nrm_trim p) h (cf_trim p)
theorem trim_len (p : List Int) : (trim p).length ≤ p.length := by
  refine snoc_ind (P := fun p => (trim p).length ≤ p.length) (Nat.le_refl _) (fun p c ih => ?_) p
  rw [trim_snoc]
  split
  · rw [List.length_append]; omega
  · exact Nat.le_refl _
theorem trim_mem {p : List Int} {c : Int} (h : c ∈ trim p) : c ∈ p := by
  unfold trim at h
  rw [List.mem_reverse] at h
  exact List.mem_reverse.mp ((List.dropWhile_sublist _).subset h)
/-! ### sums, products -/
def pplus (p q : List Int) : List Int := trim ((List.range (max p.length q.length)).map fun i => cf p i + cf q i)
theorem nrm_pplus (p q : List Int) : Nrm (pplus p q) := nrm_trim _
theorem cf_pplus (p q : List Int) (i : Nat) : cf (pplus p q) i = cf p i + cf q i := by
  unfold pplus
  rw [cf_trim, cf_map_range]
  split
  · rfl
  · rw [cf_ge (p := p) (by omega), cf_ge (p := q) (by omega)]; rfl
theorem pplus_len (p q : List Int) : (pplus p q).length ≤ max p.length q.length := by
  refine Nat.le_trans (trim_len _) ?_
  simp
def conv (p q : List Int) (n : Nat) : Int := sumN (n + 1) fun i => cf p i * cf q (n - i)
def pmul (p q : List Int) : List Int := if p = [] ∨ q = [] then [] else (List.range (p.length + q.length - 1)).map (conv p q)
theorem conv_ge {p q : List Int} {n : Nat} (h : p.length + q.length ≤ n + 1) : conv p q n = 0 := sumN_zero fun i hi => by
  by_cases l : p.length ≤ i
  · rw [cf_ge l, Int.zero_mul]
  · rw [cf_ge (p := q) (by omega), Int.mul_zero]
theorem cf_pmul (p q : List Int) (n : Nat) : cf (pmul p q) n = conv p q n := by
  unfold pmul
  split
  · rename_i h
    rw [cf_nil]
    rcases h with h | h
    · subst h; exact (sumN_zero fun i _ => by rw [cf_nil, Int.zero_mul]).symm
    · subst h; exact (sumN_zero fun i _ => by rw [cf_nil, Int.mul_zero]).symm
  · rename_i h
    have h1 : 0 < p.length := List.length_pos_iff.mpr fun e => h (.inl e)
    rw [cf_map_range]
    split
    · rfl
    · rw [conv_ge (by omega)]
theorem nrm_pmul {p q : List Int} (hp : Nrm p) (hq : Nrm q) : Nrm (pmul p q) := by
  by_cases h : p = [] ∨ q = []
  · unfold pmul; rw [if_pos h]; exact nrm_nil
  · have n1 : p ≠ [] := fun e => h (.inl e)
    have n2 : q ≠ [] := fun e => h (.inr e)
    have l1 : 0 < p.length := List.length_pos_iff.mpr n1
    have l2 : 0 < q.length := List.length_pos_iff.mpr n2
    have hl : (pmul p q).length = p.length + q.length - 1 := by unfold pmul; rw [if_neg h]; simp
    refine nrm_of_top fun _ => ?_
    rw [hl, cf_pmul]
    unfold conv
    rw [sumN_one (k := p.length - 1) (by omega) fun i hi ne => ?_]
    · have e : p.length + q.length - 1 - 1 - (p.length - 1) = q.length - 1 := by omega
      rw [e]
      exact Int.mul_ne_zero (nrm_top hp n1) (nrm_top hq n2)
    · by_cases l : p.length ≤ i
      · rw [cf_ge l, Int.zero_mul]
      · rw [cf_ge (p := q) (by omega), Int.mul_zero]
theorem pmul_len (p q : List Int) : (pmul p q).length ≤ p.length + q.length := by
  unfold pmul
  split
  · exact Nat.zero_le _
  · simp
theorem pmul_plus {p q r : List Int} (hp : Nrm p) : pmul p (pplus q r) = pplus (pmul p q) (pmul p r) :=
  ext (nrm_pmul hp (nrm_pplus q r)) (nrm_pplus _ _) fun n => by
    rw [cf_pplus, cf_pmul, cf_pmul, cf_pmul]
    unfold conv
    rw [← sumN_add]
    exact sumN_congr fun i _ => by rw [cf_pplus, Int.mul_add]
/-- led to its slope -/
def pder (p : List Int) : List Int := (List.range (p.length - 1)).map fun (i : Nat) => ((i : Int) + 1) * cf p (i + 1)
theorem cf_pder (p : List Int) (i : Nat) : cf (pder p) i = ((i : Int) + 1) * cf p (i + 1) := by
  unfold pder
  rw [cf_map_range]
  split
  · rfl
  · rw [cf_ge (p := p) (by omega), Int.mul_zero]
theorem nrm_pder {p : List Int} (h : Nrm p) : Nrm (pder p) := by
  refine nrm_of_top fun ne => ?_
  have hl : (pder p).length = p.length - 1 := by unfold pder; simp
  have l1 : 0 < (pder p).length := List.length_pos_iff.mpr ne
  rw [cf_pder, hl]
  have hp : p ≠ [] := fun e => by subst e; exact ne rfl
  have e : p.length - 1 - 1 + 1 = p.length - 1 := by omega
  rw [e]
  exact Int.mul_ne_zero (by omega) (nrm_top h hp)
theorem pder_mul {p q : List Int} (hp : Nrm p) (hq : Nrm q) : pder (pmul p q) = pplus (pmul (pder p) q) (pmul p (pder q)) :=
  ext (nrm_pder (nrm_pmul hp hq)) (nrm_pplus _ _) fun n => by
    rw [cf_pder, cf_pmul, cf_pplus, cf_pmul, cf_pmul]
    unfold conv
    rw [← sumN_mul]
    have e1 : sumN (n + 1) (fun i => cf (pder p) i * cf q (n - i)) = sumN (n + 1 + 1) fun i => (i : Int) * (cf p i * cf q (n + 1 - i)) := by
      conv => rhs; rw [sumN_head]
      simp only [Int.natCast_zero, Int.zero_mul, Int.zero_add]
      refine sumN_congr fun i hi => ?_
      rw [cf_pder]
      have : n + 1 - (i + 1) = n - i := by omega
      rw [this, Int.natCast_add, Int.mul_assoc]
      rfl
    have e2 : sumN (n + 1) (fun i => cf p i * cf (pder q) (n - i)) = sumN (n + 1 + 1) fun i => ((n + 1 - i : Nat) : Int) * (cf p i * cf q (n + 1 - i)) := by
      conv => rhs; rw [sumN]
      simp only [Nat.sub_self, Int.natCast_zero, Int.zero_mul, Int.add_zero]
      refine sumN_congr fun i hi => ?_
      rw [cf_pder]
      have h1 : n + 1 - i = n - i + 1 := by omega
      rw [h1, Int.natCast_add]
      rw [← Int.mul_assoc, Int.mul_comm (cf p i), Int.mul_assoc]
      rfl
    rw [e1, e2, ← sumN_add]
    refine sumN_congr fun i hi => ?_
    rw [← Int.add_mul]
    congr 1
    omega
/-! ### by a number, moved, lowest -/
def pby (k : Int) (p : List Int) : List Int := if k = 0 then [] else p.map (k * ·)
def pone (c : Int) : List Int := trim [c]
def pmov (m : Int) : List Int → List Int
  | [] => []
  | c :: p => pplus (pmul (pmov m p) (trim [m, 1])) (trim [c])
theorem nrm_pmov (m : Int) (p : List Int) : Nrm (pmov m p) := by
  cases p with
  | nil => exact nrm_nil
  | cons c p => exact nrm_pplus _ _
def pcon (p : List Int) : Nat := p.foldl (fun g c => Int.gcd (g : Int) c) 0
def plow (p : List Int) : List Int := if p = [] then [] else p.map fun c => c.fdiv (if cf p (p.length - 1) > 0 then (pcon p : Int) else 0 - (pcon p : Int))
theorem pcon_dvd (p : List Int) : ∀ (g : Nat), ((p.foldl (fun g c => Int.gcd (g : Int) c) g : Nat) : Int) ∣ g ∧ ∀ c ∈ p, ((p.foldl (fun g c => Int.gcd (g : Int) c) g : Nat) : Int) ∣ c := by
  induction p with
  | nil => intro g; exact ⟨Int.dvd_refl _, fun _ h => nomatch h⟩
  | cons c p ih =>
    intro g
    obtain ⟨h1, h2⟩ := ih (Int.gcd (g : Int) c)
    refine ⟨Int.dvd_trans h1 (Int.gcd_dvd_left ..), fun d hd => ?_⟩
    rcases List.mem_cons.mp hd with e | e
    · rw [e]; exact Int.dvd_trans h1 (Int.gcd_dvd_right ..)
    · exact h2 d e
theorem pcon_zero {p : List Int} (h : pcon p = 0) : ∀ c ∈ p, c = 0 := fun c hc => by
  have := (pcon_dvd p 0).2 c hc
  unfold pcon at h
  rw [h] at this
  exact Int.zero_dvd.mp this
theorem pcon_le {p : List Int} {c : Int} (hc : c ∈ p) (h : c ≠ 0) : (pcon p) ≤ c.natAbs := by
  have := (pcon_dvd p 0).2 c hc
  exact Int.natAbs_dvd_natAbs.mpr this |> fun d => by
    have h2 : c.natAbs ≠ 0 := by omega
    have := Nat.le_of_dvd (by omega) d
    simpa [pcon] using this
end PM

/-! M2: values of polys at broken numbers; bounds. -/
namespace PM
/-! ### raw sums and products; the value -/
def padd : List Int → List Int → List Int
  | [], q => q
  | p, [] => p
  | a :: p, b :: q => (a + b) :: padd p q
def rmul : List Int → List Int → List Int
  | [], _ => []
  | c :: p, q => padd (q.map (c * ·)) (0 :: rmul p q)
def pe : List Int → Rat → Rat
  | [], _ => 0
  | c :: p, x => (c : Rat) + x * pe p x
theorem pe_nil (x : Rat) : pe [] x = 0 := rfl
theorem pe_cons (c : Int) (p : List Int) (x : Rat) : pe (c :: p) x = (c : Rat) + x * pe p x := rfl
theorem cf_padd : ∀ (p q : List Int) (i : Nat), cf (padd p q) i = cf p i + cf q i
  | [], q, i => by rw [padd, cf_nil, Int.zero_add]
  | a :: p, [], i => by rw [padd, cf_nil, Int.add_zero]; intro h; cases h
  | a :: p, b :: q, 0 => rfl
  | a :: p, b :: q, i + 1 => by rw [padd, cf_cons_succ, cf_cons_succ, cf_cons_succ, cf_padd p q i]
theorem pe_padd (x : Rat) : ∀ (p q : List Int), pe (padd p q) x = pe p x + pe q x
  | [], q => by rw [padd, pe_nil]; grind
  | a :: p, [] => by rw [padd, pe_nil]; grind; intro h; cases h
  | a :: p, b :: q => by rw [padd, pe_cons, pe_cons, pe_cons, pe_padd x p q, Rat.intCast_add]; grind
theorem pe_map (x : Rat) (k : Int) : ∀ (p : List Int), pe (p.map (k * ·)) x = (k : Rat) * pe p x
  | [] => by rw [List.map_nil, pe_nil]; grind
  | c :: p => by rw [List.map_cons, pe_cons, pe_cons, pe_map x k p, Rat.intCast_mul]; grind
theorem pe_rmul (x : Rat) (q : List Int) : ∀ (p : List Int), pe (rmul p q) x = pe p x * pe q x
  | [] => by rw [rmul, pe_nil]; grind
  | c :: p => by
    rw [rmul, pe_padd, pe_map, pe_cons, pe_rmul x q p, pe_cons, Rat.intCast_zero]
    grind
theorem cf_rmul (q : List Int) : ∀ (p : List Int) (n : Nat), cf (rmul p q) n = conv p q n
  | [], n => by
    rw [rmul, cf_nil]
    exact (sumN_zero fun i _ => by rw [cf_nil, Int.zero_mul]).symm
  | c :: p, n => by
    rw [rmul, cf_padd, cf_map _ (Int.mul_zero c)]
    unfold conv
    rw [sumN_head, cf_cons_zero, Nat.sub_zero]
    congr 1
    cases n with
    | zero => rfl
    | succ n =>
      rw [cf_cons_succ, cf_rmul q p n]
      unfold conv
      refine sumN_congr fun i hi => ?_
      rw [cf_cons_succ]
      congr 2
      omega
theorem pe_zero (x : Rat) : ∀ (p : List Int), (∀ i, cf p i = 0) → pe p x = 0
  | [], _ => rfl
  | c :: p, h => by
    have h0 : c = 0 := h 0
    rw [pe_cons, pe_zero x p fun i => h (i + 1), h0, Rat.intCast_zero]
    grind
theorem pe_ext (x : Rat) : ∀ (p q : List Int), (∀ i, cf p i = cf q i) → pe p x = pe q x
  | [], q, h => (pe_zero x q fun i => (h i).symm.trans (cf_nil i)).symm
  | a :: p, [], h => pe_zero x _ fun i => (h i).trans (cf_nil i)
  | a :: p, b :: q, h => by
    have h0 : a = b := h 0
    rw [pe_cons, pe_cons, h0, pe_ext x p q fun i => h (i + 1)]
theorem pe_pmul (p q : List Int) (x : Rat) : pe (pmul p q) x = pe p x * pe q x := by
  rw [← pe_rmul]
  exact pe_ext x _ _ fun i => by rw [cf_pmul, cf_rmul]
/-- value and power, from the top on -/
def hv (a b : Int) : List Int → Int × Int
  | [] => (0, 1)
  | c :: p => ((hv a b p).1 * a + c * (hv a b p).2, (hv a b p).2 * b)
theorem hv_pos (a : Int) {b : Int} (hb : 0 < b) : ∀ p : List Int, 0 < (hv a b p).2
  | [] => Int.one_pos
  | c :: p => Int.mul_pos (hv_pos a hb p) hb
theorem divInt_int (c : Int) : (c : Rat) = Rat.divInt c 1 := by
  apply Rat.ext
  · rw [Rat.num_divInt]; simp
  · rw [Rat.den_divInt]; simp
theorem hv_val (a : Int) {b : Int} (hb : 0 < b) : ∀ p : List Int, Rat.divInt ((hv a b p).1 * b) (hv a b p).2 = pe p (Rat.divInt a b)
  | [] => by
    rw [pe_nil]
    show Rat.divInt (0 * b) 1 = 0
    rw [Int.zero_mul, ← divInt_int]; rfl
  | c :: p => by
    have hp := hv_pos a hb p
    rw [pe_cons, ← hv_val a hb p, Rat.divInt_mul_divInt, divInt_int, Rat.divInt_add_divInt _ _ (by decide) (Int.ne_of_gt (Int.mul_pos hb hp)), Rat.divInt_eq_divInt_iff]
    · show ((hv a b p).1 * a + c * (hv a b p).2) * b * (1 * (b * (hv a b p).2)) = (c * (b * (hv a b p).2) + a * ((hv a b p).1 * b) * 1) * ((hv a b p).2 * b)
      grind
    · exact Int.ne_of_gt (Int.mul_pos hp hb)
    · exact Int.ne_of_gt (Int.mul_pos (by decide) (Int.mul_pos hb hp))
/-! ### bounds -/
def Bd (k : Nat) (x : Int) : Prop := x.natAbs < 2 ^ k
def BdP (k : Nat) (p : List Int) : Prop := ∀ c ∈ p, Bd k c
theorem Bd.mono {k l : Nat} {x : Int} (h : Bd k x) (hl : k ≤ l) : Bd l x := Nat.lt_of_lt_of_le h (Nat.pow_le_pow_right (by decide) hl)
theorem BdP.mono {k l : Nat} {p : List Int} (h : BdP k p) (hl : k ≤ l) : BdP l p := fun c hc => (h c hc).mono hl
theorem bd_zero {k : Nat} : Bd k 0 := Nat.two_pow_pos k
theorem Bd.mul {k l : Nat} {x y : Int} (h : Bd k x) (h' : Bd l y) : Bd (k + l) (x * y) := by
  unfold Bd at *
  rw [Int.natAbs_mul, Nat.pow_add]
  exact Nat.mul_lt_mul'' h h'
theorem Bd.add {k : Nat} {x y : Int} (h : Bd k x) (h' : Bd k y) : Bd (k + 1) (x + y) := by
  unfold Bd at *
  have := Int.natAbs_add_le x y
  rw [Nat.pow_succ]
  omega
theorem Bd.neg {k : Nat} {x : Int} (h : Bd k x) : Bd k (-x) := by
  unfold Bd at *
  rwa [Int.natAbs_neg]
theorem Bd.of {k : Nat} {x : Int} (h : x.natAbs < 2 ^ k) : Bd k x := h
theorem BdP.cf {k : Nat} {p : List Int} (h : BdP k p) (i : Nat) : Bd k (PM.cf p i) := by
  by_cases l : i < p.length
  · rw [cf_lt l]; exact h _ (List.getElem_mem _)
  · rw [cf_ge (by omega)]; exact bd_zero
theorem bd_sum {k l : Nat} {f : Nat → Int} : ∀ {n : Nat}, (∀ i, i < n → Bd k (f i)) → n ≤ 2 ^ l → Bd (k + l) (sumN n f) := fun {n} h hn => by
  have key : ∀ n, (∀ i, i < n → Bd k (f i)) → (sumN n f).natAbs ≤ n * (2 ^ k - 1) := by
    intro n
    induction n with
    | zero => intro _; simp [sumN]
    | succ n ih =>
      intro h
      rw [sumN, Nat.succ_mul]
      have h1 := ih fun i hi => h i (by omega)
      have h2 : (f n).natAbs < 2 ^ k := h n (by omega)
      have := Int.natAbs_add_le (sumN n f) (f n)
      omega
  have h1 := key n h
  unfold Bd
  have h2 : 0 < 2 ^ k := Nat.two_pow_pos k
  have h3 : n * (2 ^ k - 1) ≤ 2 ^ l * (2 ^ k - 1) := Nat.mul_le_mul_right _ hn
  have h4 : 2 ^ l * (2 ^ k - 1) < 2 ^ l * 2 ^ k := Nat.mul_lt_mul_of_pos_left (by omega) (Nat.two_pow_pos l)
  rw [Nat.pow_add, Nat.mul_comm (2 ^ k)]
  omega
theorem bd_pplus {k : Nat} {p q : List Int} (h : BdP k p) (h' : BdP k q) : BdP (k + 1) (pplus p q) := fun c hc => by
  have := trim_mem hc
  obtain ⟨i, _, e⟩ := List.mem_map.mp this
  rw [← e]
  exact (h.cf i).add (h'.cf i)
theorem bd_conv {k l m : Nat} {p q : List Int} (h : BdP k p) (h' : BdP l q) {n : Nat} (hn : n + 1 ≤ 2 ^ m) : Bd (k + l + m) (conv p q n) := bd_sum (fun i _ => (h.cf i).mul (h'.cf _)) hn
theorem bd_pmul {k l m : Nat} {p q : List Int} (h : BdP k p) (h' : BdP l q) (hm : p.length + q.length ≤ 2 ^ m) : BdP (k + l + m) (pmul p q) := fun c hc => by
  unfold pmul at hc
  split at hc
  · cases hc
  · obtain ⟨i, hi, e⟩ := List.mem_map.mp hc
    rw [← e]
    have := List.mem_range.mp hi
    exact bd_conv h h' (by omega)
theorem bd_pder {k l : Nat} {p : List Int} (h : BdP k p) (hl : p.length < 2 ^ l) : BdP (l + k) (pder p) := fun c hc => by
  unfold pder at hc
  obtain ⟨i, hi, e⟩ := List.mem_map.mp hc
  rw [← e]
  have := List.mem_range.mp hi
  have b : Bd l ((i : Int) + 1) := by unfold Bd; omega
  exact b.mul (h.cf _)
theorem bd_trim {k : Nat} {p : List Int} (h : BdP k p) : BdP k (trim p) := fun c hc => h c (trim_mem hc)
theorem bd_pby {k l : Nat} {n : Int} {p : List Int} (h : BdP l p) (hn : Bd k n) : BdP (k + l) (pby n p) := fun c hc => by
  unfold pby at hc
  split at hc
  · cases hc
  · obtain ⟨d, hd, e⟩ := List.mem_map.mp hc
    rw [← e]
    exact hn.mul (h d hd)
theorem bd_pmov {k l : Nat} {m : Int} (hm : Bd l m) (hl : 1 ≤ l) : ∀ {p : List Int}, BdP k p → p.length ≤ 60 → BdP (k + p.length * (l + 8)) (pmov m p) ∧ (pmov m p).length ≤ p.length
  | [], _, _ => ⟨(fun _ h => nomatch h), Nat.le_refl _⟩
  | c :: p, h, hp => by
    have hp' : p.length + 1 ≤ 60 := hp
    obtain ⟨b, len⟩ := bd_pmov hm hl (p := p) (fun d hd => h d (List.mem_cons_of_mem _ hd)) (by omega)
    have e : (c :: p).length = p.length + 1 := rfl
    have b1 : BdP l (trim [m, 1]) := bd_trim fun d hd => by
      rcases List.mem_cons.mp hd with q | hd
      · rw [q]; exact hm
      · rcases List.mem_cons.mp hd with q | hd
        · rw [q]; unfold Bd; exact Nat.lt_of_lt_of_le (by decide) (Nat.pow_le_pow_right (by decide) hl)
        · cases hd
    have l1 : (trim [m, 1]).length ≤ 2 := trim_len _
    have b2 : BdP (k + p.length * (l + 8) + l + 6) (pmul (pmov m p) (trim [m, 1])) := bd_pmul b b1 (by omega)
    have b3 : BdP k (trim [c]) := bd_trim fun d hd => h d (by rw [List.mem_singleton.mp hd]; exact List.mem_cons_self)
    have b4 := bd_pplus (b2.mono (l := k + p.length * (l + 8) + l + 7) (by omega)) (b3.mono (by omega))
    refine ⟨?_, ?_⟩
    · rw [e, Nat.succ_mul]
      exact b4.mono (by omega)
    · show (pplus (pmul (pmov m p) (trim [m, 1])) (trim [c])).length ≤ _
      have h1 := pplus_len (pmul (pmov m p) (trim [m, 1])) (trim [c])
      have h2 : (pmul (pmov m p) (trim [m, 1])).length ≤ p.length + 1 := by
        unfold pmul
        split
        · exact Nat.zero_le _
        · simp; omega
      have h3 : (trim [c]).length ≤ 1 := trim_len _
      rw [e]; omega
theorem bd_hv {k l : Nat} {a b : Int} (ha : Bd l a) (hb : Bd l b) : ∀ {p : List Int}, BdP k p → Bd (k + 1 + p.length * (l + 1)) (hv a b p).1 ∧ Bd (1 + p.length * l) (hv a b p).2
  | [], _ => ⟨bd_zero, by show (1 : Int).natAbs < 2 ^ (1 + 0 * l); simp⟩
  | c :: p, h => by
    obtain ⟨b1, b2⟩ := bd_hv ha hb (p := p) fun d hd => h d (List.mem_cons_of_mem _ hd)
    have e : (c :: p).length = p.length + 1 := rfl
    refine ⟨?_, ?_⟩
    · have x1 := b1.mul ha
      have x2 := (h c List.mem_cons_self).mul b2
      have le2 : p.length * l ≤ p.length * (l + 1) := Nat.mul_le_mul_left _ (Nat.le_succ _)
      have x3 := (x1.mono (l := k + 1 + p.length * (l + 1) + l) (by omega)).add (x2.mono (by omega))
      rw [e, Nat.succ_mul]
      exact x3.mono (by omega)
    · rw [e, Nat.succ_mul]
      exact (b2.mul hb).mono (by omega)
theorem bd_num {k : Nat} {n d : Int} (h : Bd k n) : Bd k (Rat.divInt n d).num := by
  rw [Rat.num_divInt]
  unfold Bd at *
  refine Nat.lt_of_le_of_lt ?_ h
  refine Nat.le_trans (Int.natAbs_ediv_le_natAbs _ _) ?_
  rw [Int.natAbs_mul]
  rcases Int.lt_trichotomy d 0 with z | z | z
  · rw [Int.sign_eq_neg_one_of_neg z]; simp
  · subst z; simp
  · rw [Int.sign_eq_one_of_pos z]; simp
theorem bd_den {k : Nat} {n d : Int} (h : Bd k d) (hk : 1 ≤ k) : Bd k (Rat.divInt n d).den := by
  rw [Rat.den_divInt]
  unfold Bd at *
  split
  · exact Nat.lt_of_lt_of_le (by decide) (Nat.pow_le_pow_right (by decide) hk)
  · refine Nat.lt_of_le_of_lt ?_ h
    exact Nat.div_le_self d.natAbs (d.gcd n)
end PM

/-! M7: rows of ints, lots: rows cleared by one another, lowest ones. -/
namespace PM
/-- the place of the first int that is not 0, or the length -/
def ld : List Int → Nat
  | [] => 0
  | c :: r => if c = 0 then ld r + 1 else 0
theorem ld_le : ∀ r : List Int, ld r ≤ r.length
  | [] => Nat.le_refl _
  | c :: r => by
    unfold ld
    split
    · exact Nat.succ_le_succ (ld_le r)
    · exact Nat.zero_le _
theorem cf_before : ∀ {r : List Int} {i : Nat}, i < ld r → cf r i = 0
  | [], i, _ => cf_nil i
  | c :: r, i, h => by
    unfold ld at h
    split at h
    · rename_i e
      cases i with
      | zero => exact e
      | succ i => exact cf_before (r := r) (by omega)
    · omega
theorem cf_ld : ∀ {r : List Int}, ld r < r.length → cf r (ld r) ≠ 0
  | [], h => absurd h (by decide)
  | c :: r, h => by
    unfold ld at h ⊢
    split at h
    · rename_i e
      rw [if_pos e, cf_cons_succ]
      exact cf_ld (by simpa using h)
    · rename_i e
      rw [if_neg e]
      exact e
theorem lt_of_cf {r : List Int} {i : Nat} (h : cf r i ≠ 0) : i < r.length := by
  rcases Nat.lt_or_ge i r.length with q | q
  · exact q
  · exact absurd (cf_ge q) h
theorem ld_of {r : List Int} {l : Nat} (h0 : ∀ i, i < l → cf r i = 0) (h1 : cf r l ≠ 0) : ld r = l := by
  have hl := lt_of_cf h1
  rcases Nat.lt_trichotomy (ld r) l with q | q | q
  · exact absurd (h0 _ q) (cf_ld (by omega))
  · exact q
  · exact absurd (cf_before q) h1
theorem ld_full {r : List Int} : ld r = r.length ↔ ∀ i, cf r i = 0 := by
  constructor
  · intro h i
    rcases Nat.lt_or_ge i r.length with q | q
    · exact cf_before (by omega)
    · exact cf_ge q
  · intro h
    rcases Nat.lt_or_ge (ld r) r.length with q | q
    · exact absurd (h _) (cf_ld q)
    · exact Nat.le_antisymm (ld_le r) q
theorem row_ext {r s : List Int} (hl : r.length = s.length) (h : ∀ i, cf r i = cf s i) : r = s := by
  refine List.ext_getElem hl fun i h1 h2 => ?_
  have := h i
  rw [cf_lt h1, cf_lt h2] at this
  exact this
theorem mem_cf {p : List Int} {c : Int} (h : c ∈ p) : ∃ i, cf p i = c := by
  obtain ⟨i, hi, e⟩ := List.mem_iff_getElem.mp h
  exact ⟨i, by rw [cf_lt hi, e]⟩
/-- the product with a row that is told by its ints -/
def dt (w : Nat) (r : List Int) (x : Nat → Int) : Int := sumN w fun i => cf r i * x i
theorem cf_zip (p q : Int) : ∀ (r o : List Int), r.length = o.length → ∀ i, cf (List.zipWith (fun a b => p * a - q * b) r o) i = p * cf r i - q * cf o i
  | [], [], _, i => by simp [cf_nil]
  | a :: r, b :: o, h, 0 => rfl
  | a :: r, b :: o, h, i + 1 => by
    rw [List.zipWith_cons_cons, cf_cons_succ, cf_cons_succ, cf_cons_succ]
    exact cf_zip p q r o (by simpa using h) i
theorem dt_lin {w : Nat} {r s t : List Int} {p q : Int} (h : ∀ i, cf t i = p * cf r i - q * cf s i) (x : Nat → Int) : dt w t x = p * dt w r x - q * dt w s x := by
  unfold dt
  have : ∀ n, sumN n (fun i => cf t i * x i) = p * sumN n (fun i => cf r i * x i) - q * sumN n (fun i => cf s i * x i) := fun n => by
    rw [show (fun i => cf t i * x i) = fun i => (p * (cf r i * x i)) + ((-q) * (cf s i * x i)) from funext fun i => by rw [h]; grind, sumN_add, sumN_mul, sumN_mul]
    grind
  exact this w
theorem dt_mul {w : Nat} {r t : List Int} {p : Int} (h : ∀ i, cf t i = p * cf r i) (x : Nat → Int) : dt w t x = p * dt w r x := by
  have := dt_lin (w := w) (r := r) (s := r) (t := t) (p := p) (q := 0) (fun i => by rw [h]; grind) x
  rw [this]; grind
/-- a row cleared at another one's lead -/
def les (r o : List Int) : List Int := if cf r (ld o) = 0 then r else List.zipWith (fun a b => cf o (ld o) * a - cf r (ld o) * b) r o
theorem les_len {r o : List Int} (h : r.length = o.length) : (les r o).length = r.length := by
  unfold les
  split
  · rfl
  · rw [List.length_zipWith, h, Nat.min_self]
theorem les_cf {r o : List Int} (h : r.length = o.length) : ∃ p q : Int, (p = 1 ∨ p = cf o (ld o)) ∧ (q = 0 ∨ (q = cf r (ld o) ∧ q ≠ 0)) ∧ ∀ i, cf (les r o) i = p * cf r i - q * cf o i := by
  unfold les
  split
  · exact ⟨1, 0, .inl rfl, .inl rfl, fun i => by grind⟩
  · rename_i e
    exact ⟨_, _, .inr rfl, .inr ⟨rfl, e⟩, cf_zip _ _ r o h⟩
theorem les_at {r o : List Int} (h : r.length = o.length) : cf (les r o) (ld o) = 0 := by
  unfold les
  split
  · rename_i e; exact e
  · rw [cf_zip _ _ r o h]; grind
theorem les_bd {k l : Nat} {r o : List Int} (h : r.length = o.length) (hr : BdP k r) (ho : BdP l o) : BdP (k + l + 1) (les r o) := fun c hc => by
  unfold les at hc
  split at hc
  · exact (hr c hc).mono (by omega)
  · obtain ⟨i, e⟩ := mem_cf hc
    rw [← e, cf_zip _ _ r o h]
    have b1 := (ho.cf (ld o)).mul (hr.cf i)
    have b2 := ((hr.cf (ld o)).mul (ho.cf i)).neg
    have := (b1.mono (show l + k ≤ k + l by omega)).add b2
    rwa [← Int.sub_eq_add_neg] at this
/-- cleared at the leads of all rows of a lot -/
def rst (lot : List (List Int)) (r : List Int) : List Int := lot.foldl les r
theorem rst_spec {w n : Nat} : ∀ (ls : List (List Int)) (r : List Int), r.length = n → (∀ s ∈ ls, s.length = n ∧ cf s (ld s) ≠ 0) → ls.Pairwise (fun s t => cf t (ld s) = 0) →
    (rst ls r).length = n ∧ (∀ s ∈ ls, cf (rst ls r) (ld s) = 0) ∧ (∀ t, cf r t = 0 → (∀ s ∈ ls, cf s t = 0) → cf (rst ls r) t = 0) ∧ ∃ P : Int, P ≠ 0 ∧ ∀ x, (∀ s ∈ ls, dt w s x = 0) → dt w (rst ls r) x = P * dt w r x
  | [], r, hr, _, _ => ⟨hr, (fun _ h => nomatch h), fun t h _ => h, 1, by decide, fun x _ => by show dt w r x = _; grind⟩
  | o :: ls, r, hr, hs, hp => by
    obtain ⟨ho, hn⟩ := hs o List.mem_cons_self
    have hro : r.length = o.length := by omega
    obtain ⟨p1, p2⟩ := List.pairwise_cons.mp hp
    obtain ⟨a1, a2, a3, P, hP, a4⟩ := rst_spec (w := w) ls (les r o) ((les_len hro).trans hr) (fun s h => hs s (List.mem_cons_of_mem _ h)) p2
    obtain ⟨p, q, hp, hq, hc⟩ := les_cf hro
    refine ⟨a1, fun s h => ?_, fun t h1 h2 => a3 t ?_ fun s h => h2 s (List.mem_cons_of_mem _ h), P * p, ?_, fun x hx => ?_⟩
    · rcases List.mem_cons.mp h with e | e
      · rw [e]; exact a3 _ (les_at hro) fun s h => p1 s h
      · exact a2 s e
    · rw [hc, h1, h2 o List.mem_cons_self]; grind
    · have : p ≠ 0 := by
        rcases hp with e | e
        · rw [e]; decide
        · rw [e]; exact hn
      exact Int.mul_ne_zero hP this
    · show dt w (rst ls (les r o)) x = _
      rw [a4 x fun s h => hx s (List.mem_cons_of_mem _ h), dt_lin hc x, hx o List.mem_cons_self]
      grind
theorem rst_bd {k : Nat} : ∀ (ls : List (List Int)) (r : List Int) (b n : Nat), r.length = n → (∀ s ∈ ls, s.length = n ∧ BdP k s) → BdP b r → BdP (b + ls.length * (k + 1)) (rst ls r)
  | [], r, b, n, _, _, h => h.mono (by omega)
  | o :: ls, r, b, n, hr, hs, h => by
    obtain ⟨ho, hb⟩ := hs o List.mem_cons_self
    have hro : r.length = o.length := by omega
    have := rst_bd ls (les r o) (b + k + 1) n ((les_len hro).trans hr) (fun s q => hs s (List.mem_cons_of_mem _ q)) (les_bd hro h hb)
    exact this.mono (by rw [List.length_cons, Nat.add_mul]; omega)
/-! ### lowest rows -/
def lwr (r : List Int) : List Int := if pcon r = 0 then r else r.map fun c => c.fdiv (if cf r (ld r) < 0 then 0 - (pcon r : Int) else (pcon r : Int))
theorem lwr_len (r : List Int) : (lwr r).length = r.length := by
  unfold lwr; split
  · rfl
  · rw [List.length_map]
theorem pcon_map_gen (k : Int) : ∀ (r : List Int) (g : Nat), (r.map (k * ·)).foldl (fun g c => Int.gcd (g : Int) c) (k.natAbs * g) = k.natAbs * r.foldl (fun g c => Int.gcd (g : Int) c) g
  | [], g => rfl
  | c :: r, g => by
    rw [List.map_cons, List.foldl_cons, List.foldl_cons, ← pcon_map_gen k r]
    congr 1
    have : Int.gcd ((k.natAbs * g : Nat) : Int) (k * c) = k.natAbs * Int.gcd (g : Int) c := by
      rw [Int.natCast_mul]
      have e : ((k.natAbs : Int)) = k ∨ ((k.natAbs : Int)) = -k := by omega
      rcases e with e | e
      · rw [e, Int.gcd_mul_left]
      · rw [e, Int.neg_mul, Int.neg_gcd, Int.gcd_mul_left]
    exact this
theorem pcon_map (k : Int) (r : List Int) : pcon (r.map (k * ·)) = k.natAbs * pcon r := by
  have := pcon_map_gen k r 0
  rwa [Nat.mul_zero] at this
theorem cf_dvd (r : List Int) (i : Nat) : (pcon r : Int) ∣ cf r i := by
  rcases Nat.lt_or_ge i r.length with q | q
  · rw [cf_lt q]; exact (pcon_dvd r 0).2 _ (List.getElem_mem q)
  · rw [cf_ge q]; exact Int.dvd_zero _
theorem pcon_of_zero {r : List Int} (h : ∀ i, cf r i = 0) : pcon r = 0 := by
  have e : r = r.map (0 * ·) := row_ext (by rw [List.length_map]) fun i => by rw [h, cf_map _ (by simp)]; grind
  rw [e, pcon_map]; simp
theorem pcon_pos {r : List Int} (h : ld r < r.length) : pcon r ≠ 0 := fun e => by
  have h1 := pcon_zero e
  have := cf_ld h
  rw [cf_lt h] at this
  exact this (h1 _ (List.getElem_mem h))
theorem lwr_eq {r : List Int} (h : ld r = r.length) : lwr r = r := by
  unfold lwr; rw [if_pos (pcon_of_zero (ld_full.mp h))]
theorem lwr_cf {r : List Int} (h : ld r < r.length) : ∃ k : Int, k ≠ 0 ∧ k.natAbs = pcon r ∧ (∀ i, cf r i = k * cf (lwr r) i) ∧ (0 < k ↔ 0 < cf r (ld r)) := by
  have hz := pcon_pos h
  have hd := cf_ld h
  generalize hk : (if cf r (ld r) < 0 then 0 - (pcon r : Int) else (pcon r : Int)) = k
  have hk0 : k ≠ 0 := by rw [← hk]; split <;> omega
  have hkd : k ∣ (pcon r : Int) := by
    rw [← hk]; split
    · rw [Int.zero_sub]; exact Int.neg_dvd.mpr (Int.dvd_refl _)
    · exact Int.dvd_refl _
  refine ⟨k, hk0, by rw [← hk]; split <;> omega, fun i => ?_, by rw [← hk]; split <;> omega⟩
  unfold lwr
  rw [if_neg hz, hk, cf_map _ (by simp)]
  have := Int.dvd_trans hkd (cf_dvd r i)
  rw [Int.fdiv_eq_ediv_of_dvd this, Int.mul_ediv_cancel' this]
theorem lwr_ld (r : List Int) : ld (lwr r) = ld r := by
  rcases Nat.lt_or_ge (ld r) r.length with h | h
  · obtain ⟨k, h0, _, h2, _⟩ := lwr_cf h
    refine ld_of (fun i hi => ?_) fun e => ?_
    · have := h2 i
      rw [cf_before hi] at this
      rcases Int.mul_eq_zero.mp this.symm with e | e
      · exact absurd e h0
      · exact e
    · have := h2 (ld r)
      rw [e, Int.mul_zero] at this
      exact cf_ld h this
  · rw [lwr_eq (Nat.le_antisymm (ld_le r) h)]
theorem lwr_pos {r : List Int} (h : ld r < r.length) : 0 < cf (lwr r) (ld r) := by
  obtain ⟨k, h0, _, h2, h3⟩ := lwr_cf h
  have e := h2 (ld r)
  have := cf_ld h
  rcases Int.lt_trichotomy k 0 with q | q | q
  · have n : ¬ 0 < cf r (ld r) := fun z => by have := h3.mpr z; omega
    have n2 : cf r (ld r) < 0 := by omega
    rcases Int.lt_trichotomy (cf (lwr r) (ld r)) 0 with z | z | z
    · have := Int.mul_pos_of_neg_of_neg q z; omega
    · rw [z] at e; omega
    · exact z
  · exact absurd q h0
  · have p := h3.mp q
    rcases Int.lt_trichotomy (cf (lwr r) (ld r)) 0 with z | z | z
    · have := Int.mul_neg_of_pos_of_neg q z; omega
    · rw [z] at e; omega
    · exact z
theorem lwr_con {r : List Int} (h : ld r < r.length) : pcon (lwr r) = 1 := by
  obtain ⟨k, h0, h1, h2, _⟩ := lwr_cf h
  have e : r = (lwr r).map (k * ·) := row_ext (by rw [List.length_map, lwr_len]) fun i => by rw [cf_map _ (by simp)]; exact h2 i
  have := pcon_map k (lwr r)
  rw [← e, h1] at this
  have hz := pcon_pos h
  have t : pcon r * 1 = pcon r * pcon (lwr r) := by omega
  exact (Nat.eq_of_mul_eq_mul_left (by omega) t).symm
theorem lwr_lwr (r : List Int) : lwr (lwr r) = lwr r := by
  rcases Nat.lt_or_ge (ld r) r.length with h | h
  · have h1 := lwr_con h
    have h2 := lwr_pos h
    rw [show lwr (lwr r) = (if pcon (lwr r) = 0 then lwr r else (lwr r).map fun c => c.fdiv (if cf (lwr r) (ld (lwr r)) < 0 then 0 - (pcon (lwr r) : Int) else (pcon (lwr r) : Int))) from rfl, h1, lwr_ld, if_neg (by decide), if_neg (by omega)]
    refine row_ext (by rw [List.length_map]) fun i => ?_
    rw [cf_map _ (by simp)]; simp
  · have e := lwr_eq (Nat.le_antisymm (ld_le r) h)
    rw [e, e]
theorem lwr_bd {b : Nat} {r : List Int} (h : BdP b r) : BdP b (lwr r) := fun c hc => by
  rcases Nat.lt_or_ge (ld r) r.length with q | q
  · obtain ⟨k, h0, _, h2, _⟩ := lwr_cf q
    obtain ⟨i, hi, rfl⟩ := List.mem_iff_getElem.mp hc
    have e := h2 i
    rw [cf_lt hi] at e
    have := h.cf i
    unfold Bd at *
    rw [e, Int.natAbs_mul] at this
    exact Nat.lt_of_le_of_lt (Nat.le_mul_of_pos_left _ (by omega)) this
  · rw [lwr_eq (Nat.le_antisymm (ld_le r) q)] at hc; exact h c hc
/-- two lowest rows of one line are one -/
theorem lwr_one {r s : List Int} {l : Nat} (hl : r.length = s.length) (h1 : lwr r = r) (h2 : lwr s = s) (e1 : ld r = l) (e2 : ld s = l) (hlt : l < r.length) (h : ∀ i, i < r.length → cf r i * cf s l = cf r l * cf s i) : r = s := by
  have c1 : pcon r = 1 := by rw [← h1]; exact lwr_con (by omega)
  have c2 : pcon s = 1 := by rw [← h2]; exact lwr_con (by omega)
  have p1 : 0 < cf r l := by have := lwr_pos (r := r) (by omega); rwa [h1, e1] at this
  have p2 : 0 < cf s l := by have := lwr_pos (r := s) (by omega); rwa [h2, e2] at this
  have hall : ∀ i, cf r i * cf s l = cf r l * cf s i := fun i => by
    rcases Nat.lt_or_ge i r.length with q | q
    · exact h i q
    · rw [cf_ge q, cf_ge (p := s) (i := i) (by omega)]; grind
  have e : r.map (cf s l * ·) = s.map (cf r l * ·) := row_ext (by rw [List.length_map, List.length_map, hl]) fun i => by
    rw [cf_map _ (by simp), cf_map _ (by simp)]
    have := hall i
    grind
  have t := congrArg pcon e
  rw [pcon_map, pcon_map, c1, c2] at t
  have t2 : cf s l = cf r l := by omega
  refine row_ext hl fun i => ?_
  have := hall i
  rw [t2, Int.mul_comm] at this
  exact Int.eq_of_mul_eq_mul_left (by omega) this
end PM

/-! M8: lots: rows with a new lead, cleared by one another; what leads a lot to nought. -/
namespace PM
def sortR (rs : List (List Int)) : List (List Int) := rs.mergeSort fun a b => decide ((ld a : Int) ≤ (ld b : Int))
def wnew (lot : List (List Int)) (v : List Int) : List (List Int) := (lot.map fun o => lwr (les o (lwr v))) ++ [lwr v]
def wrow (lot : List (List Int)) (r : List Int) : List (List Int) := if ld (rst lot r) = r.length then lot else sortR (wnew lot (rst lot r))
def lotf (rows : List (List Int)) : List (List Int) := rows.foldl wrow []
/-- a lot of a width -/
def IsLot (w : Nat) (lot : List (List Int)) : Prop := (∀ r ∈ lot, r.length = w ∧ ld r < w ∧ lwr r = r) ∧ lot.Pairwise fun r s => ld r < ld s ∧ cf r (ld s) = 0
def Nul (w : Nat) (rows : List (List Int)) (x : Nat → Int) : Prop := ∀ r ∈ rows, dt w r x = 0
theorem isLot_nil (w : Nat) : IsLot w [] := ⟨(fun _ h => nomatch h), List.Pairwise.nil⟩
theorem IsLot.zero {w : Nat} {lot : List (List Int)} (h : IsLot w lot) : lot.Pairwise fun r s => cf s (ld r) = 0 := h.2.imp fun {r s} q => cf_before q.1
theorem IsLot.off {w : Nat} {lot : List (List Int)} (h : IsLot w lot) : lot.Pairwise fun r s => ld r ≠ ld s ∧ cf r (ld s) = 0 ∧ cf s (ld r) = 0 := h.2.imp fun {r s} q => ⟨Nat.ne_of_lt q.1, q.2, cf_before q.1⟩
theorem IsLot.nodup {w : Nat} {lot : List (List Int)} (h : IsLot w lot) : lot.Nodup := h.2.imp fun {r s} q e => by rw [e] at q; exact Nat.lt_irrefl _ q.1
/-- of two unlike rows of a lot one has 0 at the other's lead -/
theorem IsLot.apart {w : Nat} {lot : List (List Int)} (h : IsLot w lot) {r s : List Int} (hr : r ∈ lot) (hs : s ∈ lot) (ne : r ≠ s) : ld r ≠ ld s ∧ cf r (ld s) = 0 := by
  have : ∀ {l : List (List Int)}, l.Pairwise (fun r s => ld r ≠ ld s ∧ cf r (ld s) = 0 ∧ cf s (ld r) = 0) → r ∈ l → s ∈ l → ld r ≠ ld s ∧ cf r (ld s) = 0 := fun {l} q => by
    induction q with
    | nil => intro a; exact nomatch a
    | cons a b ih =>
      intro h1 h2
      rcases List.mem_cons.mp h1 with e1 | e1 <;> rcases List.mem_cons.mp h2 with e2 | e2
      · exact absurd (e1.trans e2.symm) ne
      · rw [e1]; have := a s e2; exact ⟨this.1, this.2.1⟩
      · rw [e2]; have := a r e1; exact ⟨fun z => this.1 z.symm, this.2.2⟩
      · exact ih e1 e2
  exact this h.off hr hs
theorem IsLot.pos {w : Nat} {lot : List (List Int)} (h : IsLot w lot) {r : List Int} (hr : r ∈ lot) : 0 < cf r (ld r) := by
  obtain ⟨h1, h2, h3⟩ := h.1 r hr
  have := lwr_pos (r := r) (by omega)
  rwa [h3] at this
theorem IsLot.lead {w : Nat} {lot : List (List Int)} (h : IsLot w lot) {r s : List Int} (hr : r ∈ lot) (hs : s ∈ lot) (e : ld r = ld s) : r = s := Classical.byContradiction fun ne => (h.apart hr hs ne).1 e
theorem rst_lot {w : Nat} {lot : List (List Int)} (h : IsLot w lot) {r : List Int} (hr : r.length = w) :
    (rst lot r).length = w ∧ (∀ s ∈ lot, cf (rst lot r) (ld s) = 0) ∧ ∃ P : Int, P ≠ 0 ∧ ∀ x, Nul w lot x → dt w (rst lot r) x = P * dt w r x := by
  obtain ⟨a, b, _, c⟩ := rst_spec (w := w) (n := w) lot r hr (fun s hs => ⟨(h.1 s hs).1, Int.ne_of_gt (h.pos hs)⟩) h.zero
  exact ⟨a, b, c⟩
theorem dt_zero {w : Nat} {r : List Int} (h : ∀ i, cf r i = 0) (x : Nat → Int) : dt w r x = 0 := sumN_zero fun i _ => by rw [h]; grind
theorem dt_lwr {w : Nat} {r : List Int} : ∃ k : Int, k ≠ 0 ∧ ∀ x, dt w r x = k * dt w (lwr r) x := by
  rcases Nat.lt_or_ge (ld r) r.length with h | h
  · obtain ⟨k, h0, _, h2, _⟩ := lwr_cf h
    exact ⟨k, h0, dt_mul h2⟩
  · rw [lwr_eq (Nat.le_antisymm (ld_le r) h)]
    exact ⟨1, by decide, fun x => by grind⟩
/-- a row of a lot, cleared at a further lead -/
theorem les_lot {w : Nat} {o u : List Int} (ho : o.length = w) (hu : u.length = w) (lo : ld o < w) (lu : ld u < w) (ne : cf u (ld o) = 0) :
    (les o u).length = w ∧ ld (les o u) = ld o ∧ cf (les o u) (ld u) = 0 ∧ (∀ t, cf o t = 0 → cf u t = 0 → cf (les o u) t = 0) ∧ ∃ p q : Int, p ≠ 0 ∧ ∀ x, dt w (les o u) x = p * dt w o x - q * dt w u x := by
  have hl : o.length = u.length := by omega
  obtain ⟨p, q, hp, hq, hc⟩ := les_cf hl
  have hu0 := cf_ld (r := u) (by omega)
  have ho0 := cf_ld (r := o) (by omega)
  have hp0 : p ≠ 0 := by
    rcases hp with e | e
    · rw [e]; decide
    · rw [e]; exact hu0
  refine ⟨(les_len hl).trans ho, ld_of (fun i hi => ?_) ?_, les_at hl, fun t h1 h2 => by rw [hc, h1, h2]; grind, p, q, hp0, dt_lin hc⟩
  · rw [hc, cf_before hi]
    rcases hq with e | ⟨e, e2⟩
    · rw [e]; grind
    · -- o has an int at u's lead: this one stands behind o's
      have : ld o < ld u := by
        rcases Nat.lt_trichotomy (ld u) (ld o) with z | z | z
        · exact absurd (cf_before z) (e ▸ e2)
        · rw [← z] at ne; exact absurd ne hu0
        · exact z
      rw [cf_before (r := u) (by omega)]; grind
  · rw [hc, ne]
    have := Int.mul_ne_zero hp0 ho0
    intro z; apply this; grind
theorem sortR_perm (rs : List (List Int)) : (sortR rs).Perm rs := List.mergeSort_perm _ _
theorem sortR_sorted (rs : List (List Int)) : (sortR rs).Pairwise fun a b => ld a ≤ ld b := by
  have := List.pairwise_mergeSort (le := fun a b : List Int => decide ((ld a : Int) ≤ (ld b : Int))) (fun a b c h1 h2 => by simp at *; omega) (fun a b => by simp; omega) rs
  exact this.imp fun {a b} h => by simpa using h
/-- the rows of a lot and a further one -/
theorem wnew_ok {w : Nat} {lot : List (List Int)} (h : IsLot w lot) {v : List Int} (hv : v.length = w) (lv : ld v < w) (h0 : ∀ s ∈ lot, cf v (ld s) = 0) :
    (∀ r ∈ wnew lot v, r.length = w ∧ ld r < w ∧ lwr r = r) ∧ (wnew lot v).Pairwise (fun r s => ld r ≠ ld s ∧ cf r (ld s) = 0 ∧ cf s (ld r) = 0) ∧
      ∀ x, Nul w (wnew lot v) x ↔ Nul w lot x ∧ dt w v x = 0 := by
  have hu : (lwr v).length = w := (lwr_len v).trans hv
  have lu : ld (lwr v) < w := by rw [lwr_ld]; exact lv
  obtain ⟨kv, kv0, kve⟩ := dt_lwr (w := w) (r := v)
  have hu0 : ∀ s ∈ lot, cf (lwr v) (ld s) = 0 := fun s hs => by
    obtain ⟨k, k0, _, k2, _⟩ := lwr_cf (r := v) (by omega)
    have := k2 (ld s)
    rw [h0 s hs] at this
    rcases Int.mul_eq_zero.mp this.symm with e | e
    · exact absurd e k0
    · exact e
  have one : ∀ o ∈ lot, (lwr (les o (lwr v))).length = w ∧ ld (lwr (les o (lwr v))) = ld o ∧ cf (lwr (les o (lwr v))) (ld (lwr v)) = 0 ∧ (∀ t, cf o t = 0 → cf (lwr v) t = 0 → cf (lwr (les o (lwr v))) t = 0) ∧
      ∃ p q k : Int, p ≠ 0 ∧ k ≠ 0 ∧ ∀ x, k * dt w (lwr (les o (lwr v))) x = p * dt w o x - q * dt w (lwr v) x := fun o ho => by
    obtain ⟨o1, o2, o3⟩ := h.1 o ho
    obtain ⟨a1, a2, a3, a4, p, q, p0, a5⟩ := les_lot o1 hu o2 lu (hu0 o ho)
    obtain ⟨k, k0, _, k2, _⟩ := lwr_cf (r := les o (lwr v)) (by omega)
    have z : ∀ t, cf (les o (lwr v)) t = 0 → cf (lwr (les o (lwr v))) t = 0 := fun t e => by
      have := k2 t
      rw [e] at this
      rcases Int.mul_eq_zero.mp this.symm with e | e
      · exact absurd e k0
      · exact e
    exact ⟨(lwr_len _).trans a1, (lwr_ld _).trans a2, z _ a3, fun t h1 h2 => z t (a4 t h1 h2), p, q, k, p0, k0, fun x => by rw [← a5, ← dt_mul k2]⟩
  refine ⟨fun r hr => ?_, ?_, fun x => ?_⟩
  · rcases List.mem_append.mp hr with e | e
    · obtain ⟨o, ho, rfl⟩ := List.mem_map.mp e
      obtain ⟨b1, b2, _⟩ := one o ho
      exact ⟨b1, by rw [b2]; exact (h.1 o ho).2.1, lwr_lwr _⟩
    · rw [List.mem_singleton.mp e]; exact ⟨hu, lu, lwr_lwr _⟩
  · unfold wnew
    refine List.pairwise_append.mpr ⟨List.pairwise_map.mpr ?_, List.pairwise_singleton _ _, fun r hr s hs => ?_⟩
    · refine List.Pairwise.imp_of_mem ?_ h.off
      rintro r s hr hs ⟨n1, n2, n3⟩
      obtain ⟨_, b2, _, b4, _⟩ := one r hr
      obtain ⟨_, c2, _, c4, _⟩ := one s hs
      rw [b2, c2]
      exact ⟨n1, b4 _ n2 (hu0 s hs), c4 _ n3 (hu0 r hr)⟩
    · obtain ⟨o, ho, rfl⟩ := List.mem_map.mp hr
      rw [List.mem_singleton.mp hs]
      obtain ⟨b1, b2, b3, _⟩ := one o ho
      rw [b2]
      exact ⟨fun e => cf_ld (r := lwr v) (by omega) (e ▸ hu0 o ho), b3, hu0 o ho⟩
  · constructor
    · intro hx
      have e1 : dt w (lwr v) x = 0 := hx _ (List.mem_append_right _ (List.mem_singleton.mpr rfl))
      refine ⟨fun o ho => ?_, by rw [kve, e1]; grind⟩
      obtain ⟨_, _, _, _, p, q, k, p0, k0, e⟩ := one o ho
      have e2 := hx _ (List.mem_append_left _ (List.mem_map.mpr ⟨o, ho, rfl⟩))
      have e3 := e x
      rw [e1, e2] at e3
      have : p * dt w o x = 0 := by grind
      rcases Int.mul_eq_zero.mp this with z | z
      · exact absurd z p0
      · exact z
    · rintro ⟨hx, hv0⟩ r hr
      have e1 : dt w (lwr v) x = 0 := by
        rw [kve] at hv0
        rcases Int.mul_eq_zero.mp hv0 with z | z
        · exact absurd z kv0
        · exact z
      rcases List.mem_append.mp hr with e | e
      · obtain ⟨o, ho, rfl⟩ := List.mem_map.mp e
        obtain ⟨_, _, _, _, p, q, k, p0, k0, e⟩ := one o ho
        have e3 := e x
        rw [e1, hx o ho] at e3
        have : k * dt w (lwr (les o (lwr v))) x = 0 := by grind
        rcases Int.mul_eq_zero.mp this with z | z
        · exact absurd z k0
        · exact z
      · rw [List.mem_singleton.mp e]; exact e1
theorem isLot_sort {w : Nat} {rs : List (List Int)} (h1 : ∀ r ∈ rs, r.length = w ∧ ld r < w ∧ lwr r = r) (h2 : rs.Pairwise fun r s => ld r ≠ ld s ∧ cf r (ld s) = 0 ∧ cf s (ld r) = 0) : IsLot w (sortR rs) := by
  have pm := sortR_perm rs
  refine ⟨fun r hr => h1 r (pm.mem_iff.mp hr), ?_⟩
  have h3 : (sortR rs).Pairwise fun r s => ld r ≠ ld s ∧ cf r (ld s) = 0 ∧ cf s (ld r) = 0 := (pm.pairwise_iff fun {r s} q => ⟨fun e => q.1 e.symm, q.2.2, q.2.1⟩).mpr h2
  exact (List.Pairwise.and (sortR_sorted rs) h3).imp fun {a b} q => ⟨Nat.lt_of_le_of_ne q.1 q.2.1, q.2.2.1⟩
theorem wrow_ok {w : Nat} {lot : List (List Int)} (h : IsLot w lot) {r : List Int} (hr : r.length = w) :
    IsLot w (wrow lot r) ∧ (∀ x, Nul w (wrow lot r) x ↔ Nul w lot x ∧ dt w r x = 0) ∧ ((wrow lot r = lot ∧ ∀ x, Nul w lot x → dt w r x = 0) ∨ (wrow lot r).length = lot.length + 1) := by
  obtain ⟨a1, a2, P, P0, a3⟩ := rst_lot h hr
  unfold wrow
  split
  · rename_i e
    have z := ld_full.mp (e.trans (hr.trans a1.symm))
    have : ∀ x, Nul w lot x → dt w r x = 0 := fun x hx => by
      have := a3 x hx
      rw [dt_zero z] at this
      rcases Int.mul_eq_zero.mp this.symm with q | q
      · exact absurd q P0
      · exact q
    exact ⟨h, fun x => ⟨fun q => ⟨q, this x q⟩, fun q => q.1⟩, .inl ⟨rfl, this⟩⟩
  · rename_i e
    have lv : ld (rst lot r) < w := by
      have := ld_le (rst lot r)
      omega
    obtain ⟨b1, b2, b3⟩ := wnew_ok h a1 lv a2
    refine ⟨isLot_sort b1 b2, fun x => ?_, .inr ?_⟩
    · have : Nul w (sortR (wnew lot (rst lot r))) x ↔ Nul w (wnew lot (rst lot r)) x := ⟨fun q s hs => q s ((sortR_perm _).mem_iff.mpr hs), fun q s hs => q s ((sortR_perm _).mem_iff.mp hs)⟩
      rw [this, b3]
      constructor
      · rintro ⟨q1, q2⟩
        refine ⟨q1, ?_⟩
        rw [a3 x q1] at q2
        rcases Int.mul_eq_zero.mp q2 with z | z
        · exact absurd z P0
        · exact z
      · rintro ⟨q1, q2⟩
        exact ⟨q1, by rw [a3 x q1, q2]; grind⟩
    · rw [(sortR_perm _).length_eq]; unfold wnew; simp
theorem lotf_snoc (rows : List (List Int)) (r : List Int) : lotf (rows ++ [r]) = wrow (lotf rows) r := by unfold lotf; rw [List.foldl_append]; rfl
theorem lot_snoc_ind {P : List (List Int) → Prop} (h0 : P []) (h1 : ∀ p c, P p → P (p ++ [c])) (p : List (List Int)) : P p := by
  have : ∀ n, ∀ p : List (List Int), p.length = n → P p := fun n => by
    induction n with
    | zero => intro p hp; rw [List.eq_nil_of_length_eq_zero hp]; exact h0
    | succ n ih =>
      intro p hp
      rcases List.eq_nil_or_concat p with e | ⟨q, c, e⟩
      · rw [e] at hp; simp at hp
      · rw [e, List.concat_eq_append] at hp ⊢
        exact h1 q c (ih q (by simpa using hp))
  exact this _ p rfl
theorem lotf_ok {w : Nat} (rows : List (List Int)) : (∀ r ∈ rows, r.length = w) → IsLot w (lotf rows) ∧ (∀ x, Nul w (lotf rows) x ↔ Nul w rows x) := by
  induction rows using lot_snoc_ind with
  | h0 => intro _; exact ⟨isLot_nil w, fun x => Iff.rfl⟩
  | h1 p c ih =>
    intro h
    obtain ⟨i1, i2⟩ := ih fun r hr => h r (List.mem_append_left _ hr)
    obtain ⟨a, b, _⟩ := wrow_ok i1 (h c (List.mem_append_right _ (List.mem_singleton.mpr rfl)))
    rw [lotf_snoc]
    refine ⟨a, fun x => ?_⟩
    rw [b, i2]
    constructor
    · rintro ⟨q1, q2⟩ r hr
      rcases List.mem_append.mp hr with e | e
      · exact q1 r e
      · rw [List.mem_singleton.mp e]; exact q2
    · intro q
      exact ⟨fun r hr => q r (List.mem_append_left _ hr), q c (List.mem_append_right _ (List.mem_singleton.mpr rfl))⟩
end PM

/-! M9: rows apart; one lot for what is led to nought; bounds. -/
namespace PM
theorem sum_one {α : Type} {f : α → Int} {a : α} : ∀ {l : List α}, l.Nodup → a ∈ l → (∀ b ∈ l, b ≠ a → f b = 0) → (l.map f).sum = f a
  | [], _, h, _ => nomatch h
  | b :: l, nd, h, hz => by
    obtain ⟨n1, n2⟩ := List.nodup_cons.mp nd
    rw [List.map_cons, List.sum_cons]
    rcases List.mem_cons.mp h with e | e
    · subst e
      have : (l.map f).sum = 0 := sum_zero fun b hb => hz b (List.mem_cons_of_mem _ hb) fun z => n1 (z ▸ hb)
      rw [this, Int.add_zero]
    · have : b ≠ a := fun z => n1 (z ▸ e)
      rw [hz b List.mem_cons_self this, sum_one n2 e fun b hb => hz b (List.mem_cons_of_mem _ hb), Int.zero_add]
where sum_zero {α : Type} {f : α → Int} : ∀ {l : List α}, (∀ b ∈ l, f b = 0) → (l.map f).sum = 0
  | [], _ => rfl
  | b :: l, h => by rw [List.map_cons, List.sum_cons, h b List.mem_cons_self, sum_zero fun b hb => h b (List.mem_cons_of_mem _ hb)]; rfl
theorem cf_set (l : List Int) (j : Nat) (v : Int) (i : Nat) : cf (l.set j v) i = if i = j ∧ j < l.length then v else cf l i := by
  unfold cf
  rw [List.getD_eq_getElem?_getD, List.getD_eq_getElem?_getD, List.getElem?_set]
  by_cases e : j = i
  · subst e
    by_cases h : j < l.length
    · rw [if_pos rfl, if_pos h, if_pos ⟨rfl, h⟩]; rfl
    · rw [if_pos rfl, if_neg h, if_neg (fun z => h z.2), List.getElem?_eq_none (by omega)]
  · rw [if_neg e, if_neg (fun z => e z.1.symm)]
def shr (lot : List (List Int)) : Int := lot.foldl (fun s r => s * cf r (ld r)) 1
def qo (lot : List (List Int)) (r : List Int) : Int := (shr lot).fdiv (cf r (ld r))
def apl (w : Nat) (lot : List (List Int)) (c : Nat) : List Int := lot.foldl (fun l r => l.set (ld r) (0 - cf r c * qo lot r)) ((List.replicate w 0).set c (shr lot))
def NL (w : Nat) (lot : List (List Int)) : List Nat := (List.range w).filter fun c => decide (c ∉ lot.map ld)
def lns (w : Nat) (lot : List (List Int)) : List (List Int) := (NL w lot).map (apl w lot)
def apt (w : Nat) (lot : List (List Int)) : List (List Int) := lotf (lns w lot)
theorem shr_gen : ∀ (ls : List (List Int)) (k : Int), (∀ r ∈ ls, cf r (ld r) ≠ 0) → k ≠ 0 → ls.foldl (fun s r => s * cf r (ld r)) k ≠ 0 ∧ k ∣ ls.foldl (fun s r => s * cf r (ld r)) k ∧ ∀ r ∈ ls, cf r (ld r) ∣ ls.foldl (fun s r => s * cf r (ld r)) k
  | [], k, _, hk => ⟨hk, Int.dvd_refl _, fun _ h => nomatch h⟩
  | o :: ls, k, h, hk => by
    obtain ⟨a, b, c⟩ := shr_gen ls (k * cf o (ld o)) (fun r hr => h r (List.mem_cons_of_mem _ hr)) (Int.mul_ne_zero hk (h o List.mem_cons_self))
    refine ⟨a, Int.dvd_trans (Int.dvd_mul_right ..) b, fun r hr => ?_⟩
    rcases List.mem_cons.mp hr with e | e
    · rw [e]; exact Int.dvd_trans (Int.dvd_mul_left ..) b
    · exact c r e
theorem fold_set_len : ∀ (ls : List (List Int)) (f : List Int → Int) (l0 : List Int), (ls.foldl (fun l r => l.set (ld r) (f r)) l0).length = l0.length
  | [], _, _ => rfl
  | o :: ls, f, l0 => by rw [List.foldl_cons, fold_set_len ls f, List.length_set]
theorem fold_set_no (f : List Int → Int) {i : Nat} : ∀ (ls : List (List Int)) (l0 : List Int), (∀ s ∈ ls, ld s ≠ i) → cf (ls.foldl (fun l r => l.set (ld r) (f r)) l0) i = cf l0 i
  | [], _, _ => rfl
  | o :: ls, l0, h => by
    rw [List.foldl_cons, fold_set_no f ls _ fun s hs => h s (List.mem_cons_of_mem _ hs), cf_set, if_neg fun z => h o List.mem_cons_self z.1.symm]
theorem fold_set_at (f : List Int → Int) {s : List Int} : ∀ (ls : List (List Int)) (l0 : List Int), ls.Pairwise (fun r t => ld r ≠ ld t) → s ∈ ls → ld s < l0.length → cf (ls.foldl (fun l r => l.set (ld r) (f r)) l0) (ld s) = f s
  | o :: ls, l0, hp, hs, hl => by
    obtain ⟨p1, p2⟩ := List.pairwise_cons.mp hp
    rw [List.foldl_cons]
    rcases List.mem_cons.mp hs with e | e
    · subst e
      rw [fold_set_no f ls _ fun t ht z => p1 t ht z.symm, cf_set, if_pos ⟨rfl, hl⟩]
    · exact fold_set_at f ls _ p2 e (by rw [List.length_set]; exact hl)
theorem mem_NL {w : Nat} {lot : List (List Int)} {c : Nat} : c ∈ NL w lot ↔ c < w ∧ ∀ s ∈ lot, ld s ≠ c := by
  unfold NL
  rw [List.mem_filter, List.mem_range]
  simp
section
variable {w : Nat} {R : List (List Int)}
theorem shr_ne (h : IsLot w R) : shr R ≠ 0 := (shr_gen R 1 (fun r hr => Int.ne_of_gt (h.pos hr)) (by decide)).1
theorem qo_mul (h : IsLot w R) {r : List Int} (hr : r ∈ R) : qo R r * cf r (ld r) = shr R := by
  have d := (shr_gen R 1 (fun r hr => Int.ne_of_gt (h.pos hr)) (by decide)).2.2 r hr
  show (R.foldl (fun s r => s * cf r (ld r)) 1).fdiv (cf r (ld r)) * cf r (ld r) = R.foldl (fun s r => s * cf r (ld r)) 1
  rw [Int.fdiv_eq_ediv_of_dvd d]
  exact Int.ediv_mul_cancel d
theorem apl_len (c : Nat) : (apl w R c).length = w := by
  unfold apl; rw [fold_set_len, List.length_set, List.length_replicate]
theorem cf_rep (n i : Nat) : cf (List.replicate n 0) i = 0 := by
  unfold cf; rw [List.getD_eq_getElem?_getD, List.getElem?_replicate]; split <;> rfl
theorem IsLot.leads (h : IsLot w R) : R.Pairwise fun r t => ld r ≠ ld t := h.2.imp fun {r t} q => Nat.ne_of_lt q.1
theorem apl_at (h : IsLot w R) {s : List Int} (hs : s ∈ R) (c : Nat) : cf (apl w R c) (ld s) = 0 - cf s c * qo R s := by
  unfold apl
  exact fold_set_at (fun r => 0 - cf r c * qo R r) R _ h.leads hs (by rw [List.length_set, List.length_replicate]; exact (h.1 s hs).2.1)
theorem apl_c {c : Nat} (hc : c ∈ NL w R) : cf (apl w R c) c = shr R := by
  obtain ⟨h1, h2⟩ := mem_NL.mp hc
  unfold apl
  rw [fold_set_no _ R _ h2, cf_set, if_pos ⟨rfl, by rw [List.length_replicate]; exact h1⟩]
theorem apl_0 {c i : Nat} (hi : i ∈ NL w R) (ne : i ≠ c) : cf (apl w R c) i = 0 := by
  unfold apl
  rw [fold_set_no _ R _ (mem_NL.mp hi).2, cf_set, if_neg fun z => ne z.1, cf_rep]
/-- the product with such a line -/
theorem dt_apl (h : IsLot w R) {c : Nat} (hc : c ∈ NL w R) (z : Nat → Int) : dt w (apl w R c) z = shr R * z c + (R.map fun s => (0 - cf s c * qo R s) * z (ld s)).sum := by
  have gen : ∀ (ls : List (List Int)), (∀ s ∈ ls, ld s < w) → sumN w (fun i => ((if i = c then shr R else 0) + (ls.map fun s => if i = ld s then 0 - cf s c * qo R s else 0).sum) * z i) = shr R * z c + (ls.map fun s => (0 - cf s c * qo R s) * z (ld s)).sum := by
    intro ls
    induction ls with
    | nil =>
      intro _
      simp only [List.map_nil, List.sum_nil, Int.add_zero]
      rw [sumN_one (mem_NL.mp hc).1 fun i _ ne => by rw [if_neg ne, Int.zero_mul], if_pos rfl]
    | cons o ls ih =>
      intro hl
      have e : (fun i => ((if i = c then shr R else 0) + ((o :: ls).map fun s => if i = ld s then 0 - cf s c * qo R s else 0).sum) * z i) =
          fun i => ((if i = c then shr R else 0) + (ls.map fun s => if i = ld s then 0 - cf s c * qo R s else 0).sum) * z i + (if i = ld o then 0 - cf o c * qo R o else 0) * z i := funext fun i => by
        rw [List.map_cons, List.sum_cons]; grind
      rw [e, sumN_add, ih fun s hs => hl s (List.mem_cons_of_mem _ hs), sumN_one (hl o List.mem_cons_self) fun i _ ne => by rw [if_neg ne, Int.zero_mul], if_pos rfl, List.map_cons, List.sum_cons]
      grind
  rw [← gen R fun s hs => (h.1 s hs).2.1]
  unfold dt
  refine sumN_congr fun i hi => ?_
  congr 1
  by_cases e : ∃ s ∈ R, ld s = i
  · obtain ⟨s, hs, rfl⟩ := e
    rw [apl_at h hs, if_neg fun z => (mem_NL.mp hc).2 s hs z, sum_one h.nodup hs fun t ht ne => if_neg fun z => ne (h.lead ht hs z.symm), if_pos rfl, Int.zero_add]
  · have hn : ∀ s ∈ R, ld s ≠ i := fun s hs q => e ⟨s, hs, q⟩
    rw [sum_one.sum_zero fun s hs => if_neg fun z => hn s hs z.symm, Int.add_zero]
    by_cases ec : i = c
    · rw [if_pos ec, ec, apl_c hc]
    · rw [if_neg ec, apl_0 (mem_NL.mpr ⟨hi, hn⟩) ec]
theorem dt_comm (r s : List Int) : dt w r (cf s) = dt w s (cf r) := by
  unfold dt
  exact sumN_congr fun i _ => Int.mul_comm ..
theorem nul_apl (h : IsLot w R) {c : Nat} (hc : c ∈ NL w R) : Nul w R (cf (apl w R c)) := fun r hr => by
  rw [dt_comm, dt_apl h hc, sum_one h.nodup hr fun s hs ne => by rw [(h.apart hr hs fun z => ne z.symm).2, Int.mul_zero]]
  have := qo_mul h hr
  rw [← this]; grind
/-- what a lead is, told by what is led to nought -/
theorem lead_iff (h : IsLot w R) {c : Nat} (hc : c < w) : (∃ r ∈ R, ld r = c) ↔ ∀ x, Nul w R x → (∀ i, c < i → i < w → x i = 0) → x c = 0 := by
  constructor
  · rintro ⟨r, hr, rfl⟩ x hx h0
    have := hx r hr
    unfold dt at this
    rw [sumN_one hc fun i hi ne => by
      rcases Nat.lt_trichotomy i (ld r) with q | q | q
      · rw [cf_before q, Int.zero_mul]
      · exact absurd q ne
      · rw [h0 i q hi, Int.mul_zero]] at this
    rcases Int.mul_eq_zero.mp this with q | q
    · exact absurd q (Int.ne_of_gt (h.pos hr))
    · exact q
  · intro hx
    refine Classical.byContradiction fun no => ?_
    have hn : c ∈ NL w R := mem_NL.mpr ⟨hc, fun s hs e => no ⟨s, hs, e⟩⟩
    have := hx _ (nul_apl h hn) fun i h1 h2 => by
      by_cases e : ∃ s ∈ R, ld s = i
      · obtain ⟨s, hs, rfl⟩ := e
        rw [apl_at h hs, cf_before h1]; grind
      · exact apl_0 (mem_NL.mpr ⟨h2, fun s hs q => e ⟨s, hs, q⟩⟩) (by omega)
    rw [apl_c hn] at this
    exact shr_ne h this
theorem sorted_one : ∀ {l m : List (List Int)}, l.Pairwise (fun a b => ld a < ld b) → m.Pairwise (fun a b => ld a < ld b) → (∀ r, r ∈ l ↔ r ∈ m) → l = m
  | [], [], _, _, _ => rfl
  | [], b :: m, _, _, h => nomatch (h b).mpr List.mem_cons_self
  | a :: l, [], _, _, h => nomatch (h a).mp List.mem_cons_self
  | a :: l, b :: m, hl, hm, h => by
    obtain ⟨l1, l2⟩ := List.pairwise_cons.mp hl
    obtain ⟨m1, m2⟩ := List.pairwise_cons.mp hm
    have e : a = b := by
      rcases List.mem_cons.mp ((h a).mp List.mem_cons_self) with q | q
      · exact q
      · rcases List.mem_cons.mp ((h b).mpr List.mem_cons_self) with z | z
        · exact z.symm
        · have := m1 a q; have := l1 b z; omega
    subst e
    rw [sorted_one l2 m2 fun r => ?_]
    constructor
    · intro hr
      rcases List.mem_cons.mp ((h r).mp (List.mem_cons_of_mem _ hr)) with q | q
      · have := l1 r hr; rw [q] at this; omega
      · exact q
    · intro hr
      rcases List.mem_cons.mp ((h r).mpr (List.mem_cons_of_mem _ hr)) with q | q
      · have := m1 r hr; rw [q] at this; omega
      · exact q
/-- just one lot leads the same to nought -/
theorem lot_uniq {R' : List (List Int)} (h : IsLot w R) (h' : IsLot w R') (e : ∀ x, Nul w R x ↔ Nul w R' x) : R = R' := by
  have half : ∀ {R R' : List (List Int)}, IsLot w R → IsLot w R' → (∀ x, Nul w R x ↔ Nul w R' x) → ∀ r ∈ R, r ∈ R' := fun {R R'} h h' e r hr => by
    obtain ⟨r1, r2, r3⟩ := h.1 r hr
    have iff : ∀ {c}, c < w → ((∃ r ∈ R, ld r = c) ↔ ∃ r ∈ R', ld r = c) := fun {c} hc => by
      rw [lead_iff h hc, lead_iff h' hc]
      exact ⟨fun q x hx => q x ((e x).mpr hx), fun q x hx => q x ((e x).mp hx)⟩
    obtain ⟨s, hs, es⟩ := (iff r2).mp ⟨r, hr, rfl⟩
    obtain ⟨s1, s2, s3⟩ := h'.1 s hs
    have : r = s := by
      refine lwr_one (l := ld r) (by omega) r3 s3 rfl es (by omega) fun c hc => ?_
      by_cases ec : ∃ t ∈ R', ld t = c
      · obtain ⟨t, ht, rfl⟩ := ec
        by_cases et : t = s
        · rw [et, es]
        · obtain ⟨u, hu, eu⟩ := (iff (by omega)).mpr ⟨t, ht, rfl⟩
          have n1 : u ≠ r := fun z => by
            rw [z] at eu
            exact et (h'.lead ht hs (by omega))
          have z1 := (h.apart hr hu fun z => n1 z.symm).2
          have z2 := (h'.apart hs ht fun z => et z.symm).2
          rw [eu] at z1
          rw [z1, z2]; grind
      · have hn : c ∈ NL w R' := mem_NL.mpr ⟨by omega, fun t ht q => ec ⟨t, ht, q⟩⟩
        have z := (e _).mpr (nul_apl h' hn) r hr
        rw [dt_comm, dt_apl h' hn, sum_one h'.nodup hs fun t ht ne => by
          obtain ⟨u, hu, eu⟩ := (iff (h'.1 t ht).2.1).mpr ⟨t, ht, rfl⟩
          have n1 : u ≠ r := fun z => by
            rw [z] at eu
            exact ne (h'.lead ht hs (by omega))
          have z1 := (h.apart hr hu fun z => n1 z.symm).2
          rw [eu] at z1
          rw [z1, Int.mul_zero]] at z
        have q := qo_mul h' hs
        rw [es] at q z
        have sn := shr_ne h'
        have qn : qo R' s ≠ 0 := fun z => by rw [z] at q; exact sn (by omega)
        have : qo R' s * (cf r c * cf s (ld r)) = qo R' s * (cf r (ld r) * cf s c) := by rw [← q] at z; grind
        exact Int.eq_of_mul_eq_mul_left qn this
    rw [this]; exact hs
  exact sorted_one (h.2.imp fun {a b} q => q.1) (h'.2.imp fun {a b} q => q.1) fun r => ⟨half h h' e r, half h' h (fun x => (e x).symm) r⟩
/-! ### the rows apart -/
theorem lns_len (r : List Int) (hr : r ∈ lns w R) : r.length = w := by
  obtain ⟨c, _, rfl⟩ := List.mem_map.mp hr
  exact apl_len c
theorem apt_lot : IsLot w (apt w R) := (lotf_ok _ lns_len).1
theorem apt_nul (x : Nat → Int) : Nul w (apt w R) x ↔ Nul w (lns w R) x := (lotf_ok _ lns_len).2 x
theorem nul_lns {x : Nat → Int} : Nul w (lns w R) x ↔ ∀ c ∈ NL w R, dt w (apl w R c) x = 0 :=
  ⟨fun h c hc => h _ (List.mem_map.mpr ⟨c, hc, rfl⟩), fun h r hr => by
    obtain ⟨c, hc, rfl⟩ := List.mem_map.mp hr
    exact h c hc⟩
theorem sum_dt (z x : Nat → Int) (g : List Int → Int) : ∀ ls : List (List Int), sumN w (fun i => (ls.map fun s => cf s i * g s).sum * x i) = (ls.map fun s => g s * dt w s x).sum
  | [] => by
    simp only [List.map_nil, List.sum_nil, Int.zero_mul]
    exact sumN_zero fun _ _ => rfl
  | o :: ls => by
    have e : (fun i => ((o :: ls).map fun s => cf s i * g s).sum * x i) = fun i => (g o * (cf o i * x i)) + (ls.map fun s => cf s i * g s).sum * x i := funext fun i => by
      rw [List.map_cons, List.sum_cons]; grind
    rw [e, sumN_add, sumN_mul, sum_dt z x g ls, List.map_cons, List.sum_cons]; rfl
theorem spn (h : IsLot w R) {z : Nat → Int} (hz : Nul w (lns w R) z) {x : Nat → Int} (hx : Nul w R x) : sumN w (fun i => z i * x i) = 0 := by
  have key : ∀ c, c < w → shr R * z c = (R.map fun s => cf s c * (qo R s * z (ld s))).sum := fun c hc => by
    by_cases e : ∃ t ∈ R, ld t = c
    · obtain ⟨t, ht, rfl⟩ := e
      rw [sum_one h.nodup ht fun s hs ne => by rw [(h.apart hs ht ne).2, Int.zero_mul], ← qo_mul h ht]; grind
    · have hn : c ∈ NL w R := mem_NL.mpr ⟨hc, fun s hs q => e ⟨s, hs, q⟩⟩
      have := nul_lns.mp hz c hn
      rw [dt_apl h hn] at this
      have neg : ∀ ls : List (List Int), (ls.map fun s => (0 - cf s c * qo R s) * z (ld s)).sum = -(ls.map fun s => cf s c * (qo R s * z (ld s))).sum := fun ls => by
        induction ls with
        | nil => rfl
        | cons o ls ih => rw [List.map_cons, List.sum_cons, List.map_cons, List.sum_cons, ih]; grind
      rw [neg] at this
      omega
  have : shr R * sumN w (fun i => z i * x i) = 0 := by
    rw [← sumN_mul]
    have : sumN w (fun i => shr R * (z i * x i)) = sumN w (fun i => (R.map fun s => cf s i * (qo R s * z (ld s))).sum * x i) := sumN_congr fun i hi => by rw [← key i hi]; grind
    rw [this, sum_dt z x]
    exact sum_one.sum_zero fun s hs => by rw [hx s hs, Int.mul_zero]
  rcases Int.mul_eq_zero.mp this with q | q
  · exact absurd q (shr_ne h)
  · exact q
theorem apt_apt (h : IsLot w R) : apt w (apt w R) = R := by
  refine lot_uniq apt_lot h fun x => ?_
  rw [apt_nul]
  constructor
  · intro hx r hr
    have := spn apt_lot hx (x := cf r) ((apt_nul _).mpr (nul_lns.mpr fun c hc => by rw [dt_comm]; exact nul_apl h hc r hr))
    unfold dt
    rw [← this]
    exact sumN_congr fun i _ => Int.mul_comm ..
  · intro hx
    refine nul_lns.mpr fun c hc => ?_
    exact spn h (z := cf (apl w (apt w R) c)) ((apt_nul _).mp (nul_apl apt_lot hc)) hx
theorem NL_len (h : IsLot w R) : (NL w R).length + R.length = w := by
  have gen : ∀ l : List Nat, l.length = (l.filter fun c => decide (c ∉ R.map ld)).length + (l.filter fun c => !decide (c ∉ R.map ld)).length := fun l => by
    induction l with
    | nil => rfl
    | cons a l ih =>
      rw [List.length_cons, ih, List.filter_cons, List.filter_cons]
      cases decide (a ∉ R.map ld)
      · simp; omega
      · simp; omega
  have e := gen (List.range w)
  rw [List.length_range] at e
  have p : ((List.range w).filter fun c => !decide (c ∉ R.map ld)).Perm (R.map ld) := by
    refine (List.perm_ext_iff_of_nodup (List.nodup_range.filter _) ?_).mpr fun c => ?_
    · exact List.pairwise_map.mpr h.leads
    · rw [List.mem_filter, List.mem_range]
      simp only [decide_not, Bool.not_not, decide_eq_true_eq]
      refine ⟨fun q => q.2, fun q => ⟨?_, q⟩⟩
      obtain ⟨s, hs, rfl⟩ := List.mem_map.mp q
      exact (h.1 s hs).2.1
  have := p.length_eq
  rw [List.length_map] at this
  unfold NL
  omega
theorem IsLot.len (h : IsLot w R) : R.length ≤ w := by have := NL_len h; omega
theorem lotf_lines (h : IsLot w R) : ∀ (cs : List Nat), cs.Nodup → (∀ c ∈ cs, c ∈ NL w R) → (lotf (cs.map (apl w R))).length = cs.length := by
  have gen : ∀ (n : Nat) (cs : List Nat), cs.length = n → cs.Nodup → (∀ c ∈ cs, c ∈ NL w R) → (lotf (cs.map (apl w R))).length = cs.length := fun n => by
    induction n with
    | zero => intro cs hn _ _; rw [List.eq_nil_of_length_eq_zero hn]; rfl
    | succ n ih =>
      intro cs hn nd hc
      rcases List.eq_nil_or_concat cs with e | ⟨ds, c, e⟩
      · rw [e] at hn; simp at hn
      rw [List.concat_eq_append] at e
      subst e
      obtain ⟨d1, d2, d3⟩ := List.nodup_append.mp nd
      have i := ih ds (by simpa using hn) d1 fun d hd => hc d (List.mem_append_left _ hd)
      have cN := hc c (List.mem_append_right _ (List.mem_singleton.mpr rfl))
      obtain ⟨o1, o2⟩ := lotf_ok (w := w) (ds.map (apl w R)) fun r hr => by
        obtain ⟨d, _, rfl⟩ := List.mem_map.mp hr
        exact apl_len d
      rw [List.map_append, List.map_singleton, lotf_snoc, List.length_append, List.length_singleton]
      obtain ⟨_, _, a⟩ := wrow_ok o1 (apl_len (w := w) (R := R) c)
      rcases a with ⟨_, a⟩ | a
      · exfalso
        have unit : ∀ r : List Int, dt w r (fun i => if i = c then 1 else 0) = cf r c := fun r => by
          unfold dt
          rw [sumN_one (mem_NL.mp cN).1 fun i _ ne => by show cf r i * (if i = c then 1 else 0) = 0; rw [if_neg ne, Int.mul_zero]]
          show cf r c * (if c = c then 1 else 0) = cf r c
          rw [if_pos rfl, Int.mul_one]
        have := a (fun i => if i = c then 1 else 0) ((o2 _).mpr fun r hr => by
          obtain ⟨d, hd, rfl⟩ := List.mem_map.mp hr
          rw [unit]
          exact apl_0 cN fun z => d3 d hd c (List.mem_singleton.mpr rfl) z.symm)
        rw [unit, apl_c cN] at this
        exact shr_ne h this
      · rw [a, i]
  exact fun cs => gen _ cs rfl
theorem apt_len (h : IsLot w R) : (apt w R).length + R.length = w := by
  have := lotf_lines h (NL w R) (List.nodup_range.filter _) fun _ q => q
  unfold apt lns
  rw [this]
  exact NL_len h
end
/-! ### bounds -/
def bl (p : Nat) : Nat → Nat
  | 0 => 0
  | n + 1 => (n + 1) * (bl p n + 1) + p
theorem bl_mono (p : Nat) : ∀ {n m : Nat}, n ≤ m → bl p n ≤ bl p m := fun {n m} h => by
  induction h with
  | refl => exact Nat.le_refl _
  | step _ ih =>
    rename_i m _
    refine Nat.le_trans ih ?_
    show bl p m ≤ (m + 1) * (bl p m + 1) + p
    rw [Nat.add_mul]
    omega
theorem lotf_bd {w b : Nat} (rows : List (List Int)) : (∀ r ∈ rows, r.length = w ∧ BdP b r) → ∀ r ∈ lotf rows, BdP (bl b (lotf rows).length) r := by
  induction rows using lot_snoc_ind with
  | h0 => intro _ r hr; exact nomatch hr
  | h1 p c ih =>
    intro h
    have i1 := ih fun r hr => h r (List.mem_append_left _ hr)
    obtain ⟨o1, _⟩ := lotf_ok (w := w) p fun r hr => (h r (List.mem_append_left _ hr)).1
    obtain ⟨c1, c2⟩ := h c (List.mem_append_right _ (List.mem_singleton.mpr rfl))
    rw [lotf_snoc]
    obtain ⟨_, _, a⟩ := wrow_ok o1 c1
    obtain ⟨r1, r2, _⟩ := rst_lot o1 c1
    rcases a with ⟨a, _⟩ | a
    · rw [a]; exact i1
    · rw [a]
      unfold wrow
      split
      · intro r hr; exact (i1 r hr).mono (bl_mono _ (Nat.le_succ _))
      · intro r hr
        have hr := (sortR_perm _).mem_iff.mp hr
        have b1 : BdP (b + (lotf p).length * (bl b (lotf p).length + 1)) (rst (lotf p) c) := rst_bd (lotf p) c b w c1 (fun s hs => ⟨(o1.1 s hs).1, i1 s hs⟩) c2
        have e : bl b ((lotf p).length + 1) = bl b (lotf p).length + (b + (lotf p).length * (bl b (lotf p).length + 1)) + 1 := by
          show ((lotf p).length + 1) * (bl b (lotf p).length + 1) + b = _
          rw [Nat.add_mul]; omega
        rcases List.mem_append.mp hr with q | q
        · obtain ⟨o, ho, rfl⟩ := List.mem_map.mp q
          rw [e]
          exact lwr_bd (les_bd (by rw [lwr_len, r1]; exact (o1.1 o ho).1) (i1 o ho) (lwr_bd b1))
        · rw [List.mem_singleton.mp q, e]
          exact (lwr_bd b1).mono (by omega)
theorem shr_bd {b : Nat} : ∀ (ls : List (List Int)) (k : Int) (a : Nat), (∀ r ∈ ls, BdP b r) → Bd a k → Bd (a + ls.length * b) (ls.foldl (fun s r => s * cf r (ld r)) k)
  | [], k, a, _, h => h.mono (by omega)
  | o :: ls, k, a, hb, h => by
    have := shr_bd ls (k * cf o (ld o)) (a + b) (fun r hr => hb r (List.mem_cons_of_mem _ hr)) (h.mul ((hb o List.mem_cons_self).cf _))
    exact this.mono (by rw [List.length_cons, Nat.add_mul]; omega)
theorem bd_one : Bd 1 1 := by unfold Bd; decide
theorem bd_fdiv {b : Nat} {x y : Int} (h : Bd b x) (hy : y ≠ 0) (hd : y ∣ x) : Bd b (x.fdiv y) := by
  obtain ⟨k, rfl⟩ := hd
  rw [Int.fdiv_eq_ediv_of_dvd (Int.dvd_mul_right ..), Int.mul_ediv_cancel_left _ hy]
  unfold Bd at *
  rw [Int.natAbs_mul] at h
  exact Nat.lt_of_le_of_lt (Nat.le_mul_of_pos_left _ (by omega)) h
theorem qo_bd {w b : Nat} {R : List (List Int)} (h : IsLot w R) (hb : ∀ r ∈ R, BdP b r) {r : List Int} (hr : r ∈ R) : Bd (1 + R.length * b) (qo R r) := by
  have d := (shr_gen R 1 (fun r hr => Int.ne_of_gt (h.pos hr)) (by decide)).2.2 r hr
  exact bd_fdiv (shr_bd R 1 1 hb bd_one) (Int.ne_of_gt (h.pos hr)) d
theorem apl_bd {w b : Nat} {R : List (List Int)} (h : IsLot w R) (hb : ∀ r ∈ R, BdP b r) {c : Nat} (hc : c ∈ NL w R) : BdP ((R.length + 1) * b + 1) (apl w R c) := fun x hx => by
  obtain ⟨i, rfl⟩ := mem_cf hx
  by_cases e : ∃ s ∈ R, ld s = i
  · obtain ⟨s, hs, rfl⟩ := e
    rw [apl_at h hs, Int.zero_sub]
    exact (((hb s hs).cf c).mul (qo_bd h hb hs)).neg.mono (by rw [Nat.add_mul]; omega)
  · by_cases hi : i < w
    · have hn : i ∈ NL w R := mem_NL.mpr ⟨hi, fun s hs q => e ⟨s, hs, q⟩⟩
      by_cases ec : i = c
      · rw [ec, apl_c hc]; exact (shr_bd R 1 1 hb bd_one).mono (by rw [Nat.add_mul]; omega)
      · rw [apl_0 hn ec]; exact bd_zero
    · rw [cf_ge (by rw [apl_len]; omega)]; exact bd_zero
end PM

/-! M10: rows that may be made a lot within bounds; words of the laws. -/
namespace PM
theorem lwr_law {r : List Int} (h : pcon r ≠ 0) (hl : ld r < r.length) : (r.map fun c => (if 0 < cf r (ld r) then 1 else -1) * c.fdiv (pcon r : Int)) = lwr r := by
  unfold lwr
  rw [if_neg h]
  refine List.map_congr_left fun c hc => ?_
  have d : (pcon r : Int) ∣ c := (pcon_dvd r 0).2 c hc
  have hz := cf_ld hl
  by_cases q : 0 < cf r (ld r)
  · rw [if_pos q, if_neg (by omega)]; omega
  · rw [if_neg q, if_pos (by omega), Int.zero_sub, Int.fdiv_eq_ediv_of_dvd d, Int.fdiv_eq_ediv_of_dvd (Int.neg_dvd.mpr d), Int.ediv_neg]; omega
/-- the places of ints that are not 0 -/
def nzs : Nat → List Int → List Int
  | _, [] => []
  | n, c :: r => if c = 0 then nzs (n + 1) r else (n : Int) :: nzs (n + 1) r
theorem nzs_min : ∀ (r : List Int) (n : Nat), (((n + ld r : Nat) : Int) ∈ nzs n r ++ [((n + r.length : Nat) : Int)]) ∧ ∀ y ∈ nzs n r ++ [((n + r.length : Nat) : Int)], ((n + ld r : Nat) : Int) ≤ y
  | [], n => ⟨by simp [nzs, ld], fun y hy => by simp [nzs, ld] at *; omega⟩
  | c :: r, n => by
    obtain ⟨h1, h2⟩ := nzs_min r (n + 1)
    have e1 : n + 1 + ld r = n + (ld r + 1) := by omega
    have e2 : n + 1 + r.length = n + (c :: r).length := by rw [List.length_cons]; omega
    rw [e1, e2] at h1 h2
    by_cases e : c = 0
    · rw [nzs, if_pos e, show ld (c :: r) = ld r + 1 by rw [ld, if_pos e]]
      exact ⟨h1, h2⟩
    · rw [nzs, if_neg e, show ld (c :: r) = 0 by rw [ld, if_neg e]]
      refine ⟨by simp, fun y hy => ?_⟩
      rw [List.cons_append] at hy
      rcases List.mem_cons.mp hy with z | z
      · omega
      · have := h2 y z; omega
theorem wrow_len {w : Nat} {lot : List (List Int)} (h : IsLot w lot) {r : List Int} (hr : r.length = w) : (wrow lot r).length ≤ lot.length + 1 := by
  obtain ⟨_, _, a⟩ := wrow_ok h hr
  rcases a with ⟨a, _⟩ | a <;> rw [a] <;> omega
theorem lotf_len {w : Nat} (rows : List (List Int)) : (∀ r ∈ rows, r.length = w) → (lotf rows).length ≤ rows.length := by
  induction rows using lot_snoc_ind with
  | h0 => intro _; exact Nat.le_refl _
  | h1 p c ih =>
    intro h
    have i1 := ih fun r hr => h r (List.mem_append_left _ hr)
    have := wrow_len (lotf_ok p fun r hr => h r (List.mem_append_left _ hr)).1 (h c (List.mem_append_right _ (List.mem_singleton.mpr rfl)))
    rw [lotf_snoc, List.length_append, List.length_singleton]
    omega
def Tame (w : Nat) (rows : List (List Int)) : Prop := w ≤ 5 ∧ (∀ r ∈ rows, r.length = w ∧ BdP 3000000 r) ∧ ∀ n, ∀ s ∈ lotf (rows.take n), BdP 3000000 s
theorem tame_of {w b m : Nat} {rows : List (List Int)} (hw : w ≤ 5) (h : ∀ r ∈ rows, r.length = w ∧ BdP b r) (hb : b ≤ 3000000) (hm : w ≤ m ∨ rows.length ≤ m) (hl : bl b m ≤ 3000000) : Tame w rows :=
  ⟨hw, fun r hr => ⟨(h r hr).1, (h r hr).2.mono hb⟩, fun n s hs => by
    have ht : ∀ r ∈ rows.take n, r.length = w ∧ BdP b r := fun r hr => h r (List.mem_of_mem_take hr)
    have e := lotf_bd (rows.take n) ht s hs
    have l1 := lotf_len (w := w) (rows.take n) fun r hr => (ht r hr).1
    have l2 := (lotf_ok (w := w) (rows.take n) fun r hr => (ht r hr).1).1.len
    have l3 : (rows.take n).length ≤ rows.length := by rw [List.length_take]; omega
    exact e.mono (Nat.le_trans (bl_mono b (m := m) (by omega)) hl)⟩
/-- rows, and some that their lot holds -/
theorem lotf_more {w : Nat} {rows more : List (List Int)} (h : ∀ r ∈ rows, r.length = w) (h2 : ∀ r ∈ more, r ∈ lotf rows) (rows' : List (List Int)) (hp : ∀ r, r ∈ rows' ↔ r ∈ rows) : lotf (rows' ++ more) = lotf rows := by
  obtain ⟨o1, o2⟩ := lotf_ok rows h
  have hall : ∀ r ∈ rows' ++ more, r.length = w := fun r hr => by
    rcases List.mem_append.mp hr with e | e
    · exact h r ((hp r).mp e)
    · exact (o1.1 r (h2 r e)).1
  obtain ⟨p1, p2⟩ := lotf_ok (rows' ++ more) hall
  refine lot_uniq p1 o1 fun x => ?_
  rw [p2, o2]
  constructor
  · intro q r hr; exact q r (List.mem_append_left _ ((hp r).mpr hr))
  · intro q r hr
    rcases List.mem_append.mp hr with e | e
    · exact q r ((hp r).mp e)
    · exact (o2 x).mpr q r (h2 r e)
theorem tame_more {w : Nat} {rows : List (List Int)} (hw : w ≤ 5) (h : ∀ r ∈ rows, r.length = w ∧ BdP 100 r) : Tame w (rows.reverse ++ lotf rows) := by
  have hr : ∀ r ∈ rows.reverse, r.length = w ∧ BdP 100 r := fun r hr => h r (List.mem_reverse.mp hr)
  have b5 : bl 100 5 ≤ 3000000 := by decide
  have t1 : Tame w rows := tame_of hw h (by decide) (.inl hw) b5
  have t2 : Tame w rows.reverse := tame_of hw hr (by decide) (.inl hw) b5
  have hl : ∀ s ∈ lotf rows, BdP 3000000 s := fun s hs => by
    have := t1.2.2 rows.length s
    rw [List.take_length] at this
    exact this hs
  have o1 := (lotf_ok rows fun r hr => (h r hr).1).1
  refine ⟨hw, fun r hr' => ?_, fun n s hs => ?_⟩
  · rcases List.mem_append.mp hr' with e | e
    · exact ⟨(hr r e).1, (hr r e).2.mono (by decide)⟩
    · exact ⟨(o1.1 r e).1, hl r e⟩
  · rcases Nat.lt_or_ge n rows.reverse.length with q | q
    · rw [List.take_append_of_le_length (Nat.le_of_lt q)] at hs
      exact t2.2.2 n s hs
    · rw [List.take_append, List.take_of_length_le q, lotf_more (fun r hr => (h r hr).1) (fun r hr => List.mem_of_mem_take hr) _ fun r => List.mem_reverse] at hs
      exact hl s hs
/-- the bounds of a lot of drawn rows, of the rows apart, of those apart from these -/
theorem bounds {k n : Nat} (h : k + n ≤ 5) : bl 100 k ≤ 3000000 ∧ (k + 1) * bl 100 k + 1 ≤ 3000000 ∧ bl ((k + 1) * bl 100 k + 1) n ≤ 3000000 ∧ (n + 1) * bl ((k + 1) * bl 100 k + 1) n + 1 ≤ 3000000 ∧
    bl ((n + 1) * bl ((k + 1) * bl 100 k + 1) n + 1) k ≤ 3000000 := by
  have key : ∀ k, k < 6 → ∀ n, n < 6 → k + n ≤ 5 → bl 100 k ≤ 3000000 ∧ (k + 1) * bl 100 k + 1 ≤ 3000000 ∧ bl ((k + 1) * bl 100 k + 1) n ≤ 3000000 ∧ (n + 1) * bl ((k + 1) * bl 100 k + 1) n + 1 ≤ 3000000 ∧
    bl ((n + 1) * bl ((k + 1) * bl 100 k + 1) n + 1) k ≤ 3000000 := by decide +kernel
  exact key k (by omega) n (by omega) h
theorem drawn_all {w : Nat} {rows : List (List Int)} (hw : w ≤ 5) (h : ∀ r ∈ rows, r.length = w ∧ BdP 100 r) : IsLot w (lotf rows) ∧ (∀ r ∈ lotf rows, BdP 3000000 r) ∧ Tame w rows ∧ Tame w (rows.reverse ++ lotf rows) ∧ lotf (rows.reverse ++ lotf rows) = lotf rows ∧
    Tame w (lns w (lotf rows)) ∧ IsLot w (apt w (lotf rows)) ∧ (∀ r ∈ apt w (lotf rows), BdP 3000000 r) ∧ Tame w (lns w (apt w (lotf rows))) ∧ apt w (apt w (lotf rows)) = lotf rows ∧ (apt w (lotf rows)).length + (lotf rows).length = w := by
  have o1 := (lotf_ok rows fun r hr => (h r hr).1).1
  have b1 := lotf_bd (w := w) rows h
  have lw := o1.len
  have al := apt_len o1
  have Nl := NL_len o1
  obtain ⟨c1, c2, c3, c4, c5⟩ := bounds (k := (lotf rows).length) (n := (apt w (lotf rows)).length) (by omega)
  have hl : ∀ r ∈ lns w (lotf rows), r.length = w ∧ BdP (((lotf rows).length + 1) * bl 100 (lotf rows).length + 1) r := fun r hr => by
    obtain ⟨c, hc, rfl⟩ := List.mem_map.mp hr
    exact ⟨apl_len c, apl_bd o1 b1 hc⟩
  have t2 : Tame w (lns w (lotf rows)) := tame_of hw hl c2 (m := (apt w (lotf rows)).length) (.inr (by unfold lns; rw [List.length_map]; omega)) c3
  have a1 : IsLot w (apt w (lotf rows)) := apt_lot
  have b2 : ∀ r ∈ apt w (lotf rows), BdP (bl (((lotf rows).length + 1) * bl 100 (lotf rows).length + 1) (apt w (lotf rows)).length) r := lotf_bd (w := w) _ hl
  have Nl2 := NL_len a1
  have hl2 : ∀ r ∈ lns w (apt w (lotf rows)), r.length = w ∧ BdP (((apt w (lotf rows)).length + 1) * bl (((lotf rows).length + 1) * bl 100 (lotf rows).length + 1) (apt w (lotf rows)).length + 1) r := fun r hr => by
    obtain ⟨c, hc, rfl⟩ := List.mem_map.mp hr
    exact ⟨apl_len c, apl_bd a1 b2 hc⟩
  have t3 : Tame w (lns w (apt w (lotf rows))) := tame_of hw hl2 c4 (m := (lotf rows).length) (.inr (by unfold lns; rw [List.length_map]; omega)) c5
  exact ⟨o1, fun r hr => (b1 r hr).mono c1, tame_of hw h (by decide) (.inl hw) (by decide), tame_more hw h, lotf_more (fun r hr => (h r hr).1) (fun _ q => q) _ fun r => List.mem_reverse, t2, a1, fun r hr => (b2 r hr).mono c3, t3, apt_apt o1, al⟩
/-- the product of two rows -/
def dtl (a b : List Int) : Int := (List.zipWith (· * ·) a b).sum
end PM

/-! ### the law's defs: numbers, bodies, table -/
namespace LW
open PySem PySem.Spec PyProof.Rows L2 DL
namespace F
abbrev _law_dice : Nat := 0
abbrev is_integer : Nat := 1
abbrev require_width : Nat := 2
abbrev lead_in : Nat := 3
abbrev common_share : Nat := 4
abbrev lowest_row : Nat := 5
abbrev is_plain_row : Nat := 6
abbrev is_plain_lot : Nat := 7
abbrev require_lot : Nat := 8
abbrev less_by : Nat := 9
abbrev rest_by : Nat := 10
abbrev with_row : Nat := 11
abbrev lot_in : Nat := 12
abbrev apart_in : Nat := 13
abbrev rows_apart : Nat := 14
abbrev _law_roll : Nat := 15
abbrev _law_pick : Nat := 16
abbrev _law_drawn_rows : Nat := 17
abbrev _law_gcd : Nat := 18
abbrev _law_lead : Nat := 19
abbrev _law_lowest : Nat := 20
abbrev _law_less : Nat := 21
abbrev _law_with_row : Nat := 22
abbrev _law_lot : Nat := 23
abbrev _law_near : Nat := 24
abbrev require_rows : Nat := 25
abbrev lot_of : Nat := 26
abbrev _law_apart : Nat := 27
abbrev require_row : Nat := 28
abbrev dot : Nat := 29
abbrev product : Nat := 30
abbrev _law_dot : Nat := 31
abbrev does_hold : Nat := 32
abbrev holds : Nat := 33
abbrev _law_holds : Nat := 34
abbrev lowest : Nat := 35
abbrev is_row : Nat := 36
abbrev _law_is_int : Nat := 37
abbrev _law_is_row : Nat := 38
abbrev is_lot : Nat := 39
abbrev _law_is_lot : Nat := 40
abbrev _law_right : Nat := 41
abbrev law : Nat := 42
end F
namespace G
abbrev MAX_WIDTH : Nat := 0
end G
def b__law_dice : Bl := (.cons (.asg (.nm 2) (.ite (.cmp .lt (.var 1) (.bi .len (.cons (.var 0) .nil))) (.bi .int (.cons (.idx (.var 0) (.var 1)) .nil)) (.bin .add (.bin .mul (.cst (.int 137)) (.var 1)) (.cst (.int 41))))) (.cons (.asg (.nm 3) (.bin .mod (.bi .int (.cons (.bi .abs (.cons (.var 2) .nil)) .nil)) (.bin .pow (.bin .pow (.cst (.int 10)) (.cst (.int 53))) (.cst (.int 6))))) (.cons (.asg (.nm 4) (.bin .add (.bin .add (.bin .add (.bin .mul (.bin .mod (.var 3) (.cst (.int 2305843009213693907))) (.cst (.int 73))) (.bin .mul (.cst (.int 619)) (.var 1))) (.bin .mul (.cst (.int 41)) (.bi .int (.cons (.cmp .lt (.var 2) (.cst (.int 0))) .nil)))) (.cst (.int 17)))) (.cons (.ret (.own (.disp (.cons (.bi .max (.cons (.cst (.int 0)) (.cons (.bin .sub (.var 3) (.bin .pow (.cst (.int 10)) (.cst (.int 16)))) .nil))) (.cons (.var 4) (.cons (.cst (.int 0)) .nil)))))) .nil))))
def d__law_dice : Df := ⟨F._law_dice, "_law_dice", ["script", "spot"], ["script", "spot", "cell", "great", "seed"], 33, [], [], b__law_dice⟩
def b_is_integer : Bl := (.cons (.ret (.and (.bi .isinst (.cons (.var 0) (.cons (.cst (.ty "int")) .nil))) (.not (.bi .isinst (.cons (.var 0) (.cons (.cst (.ty "bool")) .nil)))))) .nil)
def d_is_integer : Df := ⟨F.is_integer, "is_integer", ["value"], ["value"], 33, [], [], b_is_integer⟩
def b_require_width : Bl := (.cons (.ife (.or (.not (.call F.is_integer (.cons (.var 0) .nil))) (.not (.chn .le .le (.cst (.int 1)) (.var 0) (.glb G.MAX_WIDTH)))) (.cons (.raise 0 (.cst .non)) .nil) .nil) .nil)
def d_require_width : Df := ⟨F.require_width, "require_width", ["width"], ["width"], 36, [(F.is_integer, "is_integer")], [(G.MAX_WIDTH, "MAX_WIDTH")], b_require_width⟩
def b_lead_in : Bl := (.cons (.for (.tp (.cons (.nm 1) (.cons (.nm 2) .nil))) (.enum (.var 0)) (.cons (.ife (.cmp .ne (.var 2) (.cst (.int 0))) (.cons (.ret (.var 1)) .nil) .nil) .nil)) (.cons (.ret (.cst .non)) .nil))
def d_lead_in : Df := ⟨F.lead_in, "lead_in", ["row"], ["row", "index", "number"], 33, [], [], b_lead_in⟩
def b_common_share : Bl := (.cons (.whl (.cmp .ne (.var 1) (.cst (.int 0))) (.cons (.par [0, 1] (.cons (.var 1) (.cons (.bin .mod (.var 0) (.var 1)) .nil))) .nil)) (.cons (.ret (.bi .abs (.cons (.var 0) .nil))) .nil))
def d_common_share : Df := ⟨F.common_share, "common_share", ["one", "other"], ["one", "other"], 33, [], [], b_common_share⟩
def b_lowest_row : Bl := (.cons (.asg (.nm 1) (.cst (.int 0))) (.cons (.for (.nm 2) (.seq (.var 0)) (.cons (.asg (.nm 1) (.call F.common_share (.cons (.var 1) (.cons (.var 2) .nil)))) .nil)) (.cons (.ife (.cmp .eq (.var 1) (.cst (.int 0))) (.cons (.ret (.bi .tuple (.cons (.var 0) .nil))) .nil) .nil) (.cons (.ife (.cmp .lt (.idx (.var 0) (.call F.lead_in (.cons (.var 0) .nil))) (.cst (.int 0))) (.cons (.asg (.nm 1) (.bin .sub (.cst (.int 0)) (.var 1))) .nil) .nil) (.cons (.ret (.bi .tuple (.cons (.frz (.comp [2] (.nm 2) (.seq (.var 0)) .nil (.bin .fdiv (.var 2) (.var 1)))) .nil))) .nil)))))
def d_lowest_row : Df := ⟨F.lowest_row, "lowest_row", ["row"], ["row", "share", "number"], 36, [(F.lead_in, "lead_in"), (F.common_share, "common_share")], [], b_lowest_row⟩
def b_is_plain_row : Bl := (.cons (.ret (.and (.bi .isinst (.cons (.var 1) (.cons (.cst (.ty "tuple")) .nil))) (.and (.cmp .eq (.bi .len (.cons (.var 1) .nil)) (.var 0)) (.bi .all (.cons (.frz (.comp [2] (.nm 2) (.seq (.var 1)) .nil (.call F.is_integer (.cons (.var 2) .nil)))) .nil))))) .nil)
def d_is_plain_row : Df := ⟨F.is_plain_row, "is_plain_row", ["width", "value"], ["width", "value", "one"], 36, [(F.is_integer, "is_integer")], [], b_is_plain_row⟩
def b_is_plain_lot : Bl := (.cons (.ife (.or (.not (.bi .isinst (.cons (.var 1) (.cons (.cst (.ty "tuple")) .nil)))) (.not (.bi .all (.cons (.frz (.comp [2] (.nm 2) (.seq (.var 1)) .nil (.call F.is_plain_row (.cons (.var 0) (.cons (.var 2) .nil))))) .nil)))) (.cons (.ret (.cst (.bl false))) .nil) .nil) (.cons (.asg (.nm 3) (.neg (.cst (.int 1)))) (.cons (.for (.tp (.cons (.nm 4) (.cons (.nm 2) .nil))) (.enum (.var 1)) (.cons (.asg (.nm 5) (.call F.lead_in (.cons (.var 2) .nil))) (.cons (.ife (.or (.cmp .is (.var 5) (.cst .non)) (.or (.cmp .le (.var 5) (.var 3)) (.cmp .ne (.call F.lowest_row (.cons (.var 2) .nil)) (.var 2)))) (.cons (.ret (.cst (.bl false))) .nil) .nil) (.cons (.ife (.bi .any (.cons (.frz (.comp [6, 7] (.tp (.cons (.nm 6) (.cons (.nm 7) .nil))) (.enum (.var 1)) (.cons (.cmp .ne (.var 6) (.var 4)) .nil) (.cmp .ne (.idx (.var 7) (.var 5)) (.cst (.int 0))))) .nil)) (.cons (.ret (.cst (.bl false))) .nil) .nil) (.cons (.asg (.nm 3) (.var 5)) .nil))))) (.cons (.ret (.cst (.bl true))) .nil))))
def d_is_plain_lot : Df := ⟨F.is_plain_lot, "is_plain_lot", ["width", "value"], ["width", "value", "row", "ahead", "place", "index", "at", "other"], 39, [(F.lowest_row, "lowest_row"), (F.lead_in, "lead_in"), (F.is_plain_row, "is_plain_row")], [], b_is_plain_lot⟩
def b_require_lot : Bl := (.cons (.ife (.not (.call F.is_plain_lot (.cons (.var 0) (.cons (.var 1) .nil)))) (.cons (.raise 0 (.cst .non)) .nil) .nil) .nil)
def d_require_lot : Df := ⟨F.require_lot, "require_lot", ["width", "lot"], ["width", "lot"], 42, [(F.is_plain_lot, "is_plain_lot")], [], b_require_lot⟩
def b_less_by : Bl := (.cons (.asg (.nm 2) (.call F.lead_in (.cons (.var 1) .nil))) (.cons (.ife (.cmp .eq (.idx (.var 0) (.var 2)) (.cst (.int 0))) (.cons (.ret (.var 0)) .nil) .nil) (.cons (.ret (.bi .tuple (.cons (.frz (.comp [3, 4] (.tp (.cons (.nm 3) (.cons (.nm 4) .nil))) (.zip (.var 0) (.var 1)) .nil (.bin .sub (.bin .mul (.idx (.var 1) (.var 2)) (.var 3)) (.bin .mul (.idx (.var 0) (.var 2)) (.var 4))))) .nil))) .nil)))
def d_less_by : Df := ⟨F.less_by, "less_by", ["row", "other"], ["row", "other", "index", "one", "two"], 36, [(F.lead_in, "lead_in")], [], b_less_by⟩
def b_rest_by : Bl := (.cons (.for (.nm 2) (.seq (.var 0)) (.cons (.asg (.nm 1) (.call F.less_by (.cons (.var 1) (.cons (.var 2) .nil)))) .nil)) (.cons (.ret (.var 1)) .nil))
def d_rest_by : Df := ⟨F.rest_by, "rest_by", ["lot", "row"], ["lot", "row", "other"], 39, [(F.less_by, "less_by")], [], b_rest_by⟩
def b_with_row : Bl := (.cons (.asg (.nm 2) (.call F.lowest_row (.cons (.call F.rest_by (.cons (.var 0) (.cons (.var 1) .nil))) .nil))) (.cons (.ife (.cmp .is (.call F.lead_in (.cons (.var 2) .nil)) (.cst .non)) (.cons (.ret (.var 0)) .nil) .nil) (.cons (.asg (.nm 3) (.frz (.cat (.frz (.comp [4] (.nm 4) (.seq (.var 0)) .nil (.call F.lowest_row (.cons (.call F.less_by (.cons (.var 4) (.cons (.var 2) .nil))) .nil)))) (.frz (.disp (.cons (.var 2) .nil)))))) (.cons (.ret (.bi .tuple (.cons (.frz (.sortK F.lead_in (.var 3))) .nil))) .nil))))
def d_with_row : Df := ⟨F.with_row, "with_row", ["lot", "row"], ["lot", "row", "left", "found", "other"], 42, [(F.lead_in, "lead_in"), (F.lowest_row, "lowest_row"), (F.less_by, "less_by"), (F.rest_by, "rest_by")], [], b_with_row⟩
def b_lot_in : Bl := (.cons (.asg (.nm 1) (.tup .nil)) (.cons (.for (.nm 2) (.seq (.var 0)) (.cons (.asg (.nm 1) (.call F.with_row (.cons (.var 1) (.cons (.var 2) .nil)))) .nil)) (.cons (.ret (.var 1)) .nil)))
def d_lot_in : Df := ⟨F.lot_in, "lot_in", ["rows"], ["rows", "lot", "row"], 45, [(F.with_row, "with_row")], [], b_lot_in⟩
def b_apart_in : Bl := (.cons (.par [2, 3, 4] (.cons (.frz (.comp [5] (.nm 5) (.seq (.var 1)) .nil (.call F.lead_in (.cons (.var 5) .nil)))) (.cons (.cst (.int 1)) (.cons (.own (.disp .nil)) .nil)))) (.cons (.for (.tp (.cons (.nm 6) (.cons (.nm 5) .nil))) (.zip (.var 2) (.var 1)) (.cons (.asg (.nm 3) (.bin .mul (.var 3) (.idx (.var 5) (.var 6)))) .nil)) (.cons (.for (.nm 7) (.rng1 (.var 0)) (.cons (.ife (.cmp .nin (.var 7) (.var 2)) (.cons (.asg (.nm 8) (.own (.rep (.frz (.disp (.cons (.cst (.int 0)) .nil))) (.var 0)))) (.cons (.asg (.sub (.var 8) (.var 7)) (.var 3)) (.cons (.for (.tp (.cons (.nm 6) (.cons (.nm 5) .nil))) (.zip (.var 2) (.var 1)) (.cons (.asg (.sub (.var 8) (.var 6)) (.bin .sub (.cst (.int 0)) (.bin .mul (.idx (.var 5) (.var 7)) (.bin .fdiv (.var 3) (.idx (.var 5) (.var 6)))))) .nil)) (.cons (.ex (.app (.var 4) (.bi .tuple (.cons (.var 8) .nil)))) .nil)))) .nil) .nil)) (.cons (.ret (.call F.lot_in (.cons (.var 4) .nil))) .nil))))
def d_apart_in : Df := ⟨F.apart_in, "apart_in", ["width", "lot"], ["width", "lot", "leads", "share", "found", "row", "lead", "index", "line"], 48, [(F.lot_in, "lot_in"), (F.lead_in, "lead_in")], [], b_apart_in⟩
def b_rows_apart : Bl := (.cons (.ex (.call F.require_width (.cons (.var 0) .nil))) (.cons (.ex (.call F.require_lot (.cons (.var 0) (.cons (.var 1) .nil)))) (.cons (.ret (.call F.apart_in (.cons (.var 0) (.cons (.var 1) .nil)))) .nil)))
def d_rows_apart : Df := ⟨F.rows_apart, "rows_apart", ["width", "lot"], ["width", "lot"], 51, [(F.apart_in, "apart_in"), (F.require_lot, "require_lot"), (F.require_width, "require_width")], [], b_rows_apart⟩
def b__law_roll : Bl := (.cons (.ife (.cmp .gt (.idx (.var 0) (.cst (.int 0))) (.cst (.int 0))) (.cons (.asg (.nm 2) (.bin .mod (.idx (.var 0) (.cst (.int 0))) (.var 1))) (.cons (.asg (.sub (.var 0) (.cst (.int 0))) (.bin .fdiv (.idx (.var 0) (.cst (.int 0))) (.var 1))) (.cons (.ret (.bi .int (.cons (.var 2) .nil))) .nil))) .nil) (.cons (.asg (.sub (.var 0) (.cst (.int 2))) (.bin .add (.idx (.var 0) (.cst (.int 2))) (.cst (.int 1)))) (.cons (.asg (.nm 3) (.bin .mod (.bin .add (.idx (.var 0) (.cst (.int 1))) (.bin .mul (.cst (.int 49979693)) (.idx (.var 0) (.cst (.int 2))))) (.cst (.int 2305843009213693951)))) (.cons (.asg (.nm 4) (.bin .add (.bin .mul (.bin .mod (.bin .add (.bin .mul (.var 3) (.var 3)) (.bin .mul (.cst (.int 131)) (.idx (.var 0) (.cst (.int 2))))) (.cst (.int 2305843009213693921))) (.cst (.int 32452867))) (.var 3))) (.cons (.ret (.bin .mod (.bi .int (.cons (.bin .fdiv (.var 4) (.cst (.int 65599))) .nil)) (.var 1))) .nil)))))
def d__law_roll : Df := ⟨F._law_roll, "_law_roll", ["dice", "total"], ["dice", "total", "found", "one", "two"], 33, [], [], b__law_roll⟩
def b__law_pick : Bl := (.cons (.ret (.idx (.var 1) (.call F._law_roll (.cons (.var 0) (.cons (.bi .len (.cons (.var 1) .nil)) .nil))))) .nil)
def d__law_pick : Df := ⟨F._law_pick, "_law_pick", ["dice", "items"], ["dice", "items"], 36, [(F._law_roll, "_law_roll")], [], b__law_pick⟩
def b__law_drawn_rows : Bl := (.cons (.asg (.nm 2) (.own (.disp .nil))) (.cons (.for (.nm 3) (.rng1 (.call F._law_roll (.cons (.var 0) (.cons (.cst (.int 6)) .nil)))) (.cons (.asg (.nm 4) (.bi .tuple (.cons (.frz (.comp [5] (.nm 5) (.rng1 (.var 1)) .nil (.call F._law_pick (.cons (.var 0) (.cons (.frz (.disp (.cons (.cst (.int 0)) (.cons (.cst (.int 0)) (.cons (.cst (.int 1)) (.cons (.neg (.cst (.int 1))) (.cons (.cst (.int 2)) (.cons (.neg (.cst (.int 3))) (.cons (.cst (.int 4)) (.cons (.bin .pow (.cst (.int 10)) (.cst (.int 20))) .nil)))))))))) .nil))))) .nil))) (.cons (.ife (.and (.cmp .ne (.var 2) (.frz (.disp .nil))) (.cmp .eq (.call F._law_roll (.cons (.var 0) (.cons (.cst (.int 3)) .nil))) (.cst (.int 0)))) (.cons (.asg (.nm 4) (.bi .tuple (.cons (.frz (.comp [6, 7] (.tp (.cons (.nm 6) (.cons (.nm 7) .nil))) (.zip (.idx (.var 2) (.cst (.int 0))) (.idx (.var 2) (.neg (.cst (.int 1))))) .nil (.bin .sub (.bin .mul (.cst (.int 2)) (.var 6)) (.bin .mul (.cst (.int 5)) (.var 7))))) .nil))) .nil) .nil) (.cons (.ex (.app (.var 2) (.var 4))) .nil)))) (.cons (.retF (.var 2)) .nil)))
def d__law_drawn_rows : Df := ⟨F._law_drawn_rows, "_law_drawn_rows", ["dice", "wide"], ["dice", "wide", "rows", "turn", "row", "at", "one", "other"], 39, [(F._law_roll, "_law_roll"), (F._law_pick, "_law_pick")], [], b__law_drawn_rows⟩
def b__law_gcd : Bl := (.cons (.whl (.cmp .ne (.var 1) (.cst (.int 0))) (.cons (.par [0, 1] (.cons (.var 1) (.cons (.bin .mod (.var 0) (.var 1)) .nil))) .nil)) (.cons (.ret (.bi .abs (.cons (.var 0) .nil))) .nil))
def d__law_gcd : Df := ⟨F._law_gcd, "_law_gcd", ["one", "other"], ["one", "other"], 33, [], [], b__law_gcd⟩
def b__law_lead : Bl := (.cons (.ret (.bi .min (.cons (.frz (.cat (.frz (.comp [1, 2] (.tp (.cons (.nm 1) (.cons (.nm 2) .nil))) (.enum (.var 0)) (.cons (.cmp .ne (.var 2) (.cst (.int 0))) .nil) (.var 1))) (.frz (.disp (.cons (.bi .len (.cons (.var 0) .nil)) .nil))))) .nil))) .nil)
def d__law_lead : Df := ⟨F._law_lead, "_law_lead", ["row"], ["row", "at", "number"], 33, [], [], b__law_lead⟩
def b__law_lowest : Bl := (.cons (.asg (.nm 1) (.cst (.int 0))) (.cons (.for (.nm 2) (.seq (.var 0)) (.cons (.asg (.nm 1) (.call F._law_gcd (.cons (.var 1) (.cons (.var 2) .nil)))) .nil)) (.cons (.ife (.cmp .eq (.var 1) (.cst (.int 0))) (.cons (.ret (.bi .tuple (.cons (.var 0) .nil))) .nil) .nil) (.cons (.asg (.nm 3) (.ite (.cmp .gt (.idx (.var 0) (.call F._law_lead (.cons (.var 0) .nil))) (.cst (.int 0))) (.cst (.int 1)) (.neg (.cst (.int 1))))) (.cons (.ret (.bi .tuple (.cons (.frz (.comp [2] (.nm 2) (.seq (.var 0)) .nil (.bin .mul (.var 3) (.bin .fdiv (.var 2) (.var 1))))) .nil))) .nil)))))
def d__law_lowest : Df := ⟨F._law_lowest, "_law_lowest", ["row"], ["row", "share", "number", "sign"], 36, [(F._law_lead, "_law_lead"), (F._law_gcd, "_law_gcd")], [], b__law_lowest⟩
def b__law_less : Bl := (.cons (.asg (.nm 2) (.call F._law_lead (.cons (.var 1) .nil))) (.cons (.ife (.cmp .eq (.idx (.var 0) (.var 2)) (.cst (.int 0))) (.cons (.ret (.var 0)) .nil) .nil) (.cons (.ret (.bi .tuple (.cons (.frz (.comp [3, 4] (.tp (.cons (.nm 3) (.cons (.nm 4) .nil))) (.zip (.var 0) (.var 1)) .nil (.bin .sub (.bin .mul (.idx (.var 1) (.var 2)) (.var 3)) (.bin .mul (.idx (.var 0) (.var 2)) (.var 4))))) .nil))) .nil)))
def d__law_less : Df := ⟨F._law_less, "_law_less", ["row", "other"], ["row", "other", "at", "one", "two"], 36, [(F._law_lead, "_law_lead")], [], b__law_less⟩
def b__law_with_row : Bl := (.cons (.for (.nm 2) (.seq (.var 0)) (.cons (.asg (.nm 1) (.call F._law_less (.cons (.var 1) (.cons (.var 2) .nil)))) .nil)) (.cons (.ife (.cmp .eq (.call F._law_lead (.cons (.var 1) .nil)) (.bi .len (.cons (.var 1) .nil))) (.cons (.ret (.var 0)) .nil) .nil) (.cons (.asg (.nm 1) (.call F._law_lowest (.cons (.var 1) .nil))) (.cons (.asg (.nm 3) (.frz (.cat (.frz (.comp [2] (.nm 2) (.seq (.var 0)) .nil (.call F._law_lowest (.cons (.call F._law_less (.cons (.var 2) (.cons (.var 1) .nil))) .nil)))) (.frz (.disp (.cons (.var 1) .nil)))))) (.cons (.ret (.bi .tuple (.cons (.frz (.comp [4] (.nm 4) (.seq (.frz (.sorted (.frz (.comp [5] (.nm 5) (.seq (.var 3)) .nil (.tup (.cons (.call F._law_lead (.cons (.var 5) .nil)) (.cons (.var 5) .nil)))))))) .nil (.idx (.var 4) (.cst (.int 1))))) .nil))) .nil)))))
def d__law_with_row : Df := ⟨F._law_with_row, "_law_with_row", ["lot", "row"], ["lot", "row", "other", "rows", "pair", "one"], 39, [(F._law_lead, "_law_lead"), (F._law_lowest, "_law_lowest"), (F._law_less, "_law_less")], [], b__law_with_row⟩
def b__law_lot : Bl := (.cons (.asg (.nm 1) (.tup .nil)) (.cons (.for (.nm 2) (.seq (.var 0)) (.cons (.asg (.nm 1) (.call F._law_with_row (.cons (.var 1) (.cons (.var 2) .nil)))) .nil)) (.cons (.ret (.var 1)) .nil)))
def d__law_lot : Df := ⟨F._law_lot, "_law_lot", ["rows"], ["rows", "lot", "row"], 42, [(F._law_with_row, "_law_with_row")], [], b__law_lot⟩
def b__law_near : Bl := (.cons (.asg (.nm 4) (.own (.disp (.cons (.cst .non) (.cons (.cst (.int 0)) (.cons (.tup .nil) (.cons (.cst (.str "row")) (.cons (.frz (.disp .nil)) (.cons (.frz (.ofSeq (.var 3))) (.cons (.var 3) (.cons (.bin .add (.var 3) (.tup (.cons (.cst (.int 0)) .nil))) (.cons (.slc (.var 3) (.so (.cst (.int 1))) .no) (.cons (.var 2) (.cons (.frz (.ofSeq (.var 2))) (.cons (.stp (.var 2) .no .no (.neg (.cst (.int 1)))) (.cons (.bin .add (.var 2) (.slc (.var 2) .no (.so (.cst (.int 1))))) .nil)))))))))))))))) (.cons (.asg (.nm 4) (.own (.cat (.var 4) (.frz (.disp (.cons (.tup (.cons (.var 3) .nil)) (.cons (.bin .add (.var 2) (.tup (.cons (.var 3) .nil))) (.cons (.bin .mul (.tup (.cons (.cst (.bl true)) .nil)) (.var 1)) (.cons (.bin .mul (.tup (.cons (.cst (.str "1")) .nil)) (.var 1)) (.cons (.tup (.cons (.bin .mul (.tup (.cons (.cst (.int 0)) .nil)) (.var 1)) .nil)) .nil)))))))))) (.cons (.ex (.app (.var 4) (.bi .tuple (.cons (.frz (.comp [6] (.nm 6) (.seq (.var 2)) .nil (.bi .tuple (.cons (.frz (.comp [5] (.nm 5) (.seq (.var 6)) .nil (.bin .mul (.cst (.int 2)) (.var 5)))) .nil)))) .nil)))) (.cons (.ife (.cmp .ne (.var 2) (.tup .nil)) (.cons (.ex (.app (.var 4) (.bi .tuple (.cons (.frz (.cat (.frz (.disp (.cons (.bi .tuple (.cons (.frz (.comp [5] (.nm 5) (.seq (.idx (.var 2) (.cst (.int 0)))) .nil (.bin .sub (.cst (.int 0)) (.var 5)))) .nil)) .nil))) (.frz (.ofSeq (.slc (.var 2) (.so (.cst (.int 1))) .no))))) .nil)))) (.cons (.ex (.app (.var 4) (.bi .tuple (.cons (.frz (.cat (.frz (.disp (.cons (.bi .tuple (.cons (.frz (.comp [6, 7] (.tp (.cons (.nm 6) (.cons (.nm 7) .nil))) (.zip (.idx (.var 2) (.cst (.int 0))) (.idx (.var 2) (.neg (.cst (.int 1))))) .nil (.bin .add (.var 6) (.var 7)))) .nil)) .nil))) (.frz (.ofSeq (.slc (.var 2) (.so (.cst (.int 1))) .no))))) .nil)))) .nil)) .nil) (.cons (.retF (.var 4)) .nil)))))
def d__law_near : Df := ⟨F._law_near, "_law_near", ["dice", "wide", "lot", "row"], ["dice", "wide", "lot", "row", "found", "number", "one", "other"], 33, [], [], b__law_near⟩
def b_require_rows : Bl := (.cons (.ife (.or (.not (.bi .isinst (.cons (.var 1) (.cons (.cst (.ty "tuple")) .nil)))) (.not (.bi .all (.cons (.frz (.comp [2] (.nm 2) (.seq (.var 1)) .nil (.call F.is_plain_row (.cons (.var 0) (.cons (.var 2) .nil))))) .nil)))) (.cons (.raise 0 (.cst .non)) .nil) .nil) .nil)
def d_require_rows : Df := ⟨F.require_rows, "require_rows", ["width", "rows"], ["width", "rows", "row"], 39, [(F.is_plain_row, "is_plain_row")], [], b_require_rows⟩
def b_lot_of : Bl := (.cons (.ex (.call F.require_width (.cons (.var 0) .nil))) (.cons (.ex (.call F.require_rows (.cons (.var 0) (.cons (.var 1) .nil)))) (.cons (.ret (.call F.lot_in (.cons (.var 1) .nil))) .nil)))
def d_lot_of : Df := ⟨F.lot_of, "lot_of", ["width", "rows"], ["width", "rows"], 48, [(F.lot_in, "lot_in"), (F.require_rows, "require_rows"), (F.require_width, "require_width")], [], b_lot_of⟩
def b__law_apart : Bl := (.cons (.par [2, 3] (.cons (.frz (.comp [4] (.nm 4) (.seq (.var 0)) .nil (.call F._law_lead (.cons (.var 4) .nil)))) (.cons (.own (.disp .nil)) .nil))) (.cons (.for (.nm 5) (.rng1 (.var 1)) (.cons (.ife (.cmp .nin (.var 5) (.var 2)) (.cons (.asg (.nm 6) (.cst (.int 1))) (.cons (.for (.nm 4) (.seq (.var 0)) (.cons (.asg (.nm 6) (.bin .mul (.var 6) (.idx (.var 4) (.call F._law_lead (.cons (.var 4) .nil))))) .nil)) (.cons (.asg (.nm 7) (.own (.rep (.frz (.disp (.cons (.cst (.int 0)) .nil))) (.var 1)))) (.cons (.asg (.sub (.var 7) (.var 5)) (.var 6)) (.cons (.for (.nm 4) (.seq (.var 0)) (.cons (.asg (.sub (.var 7) (.call F._law_lead (.cons (.var 4) .nil))) (.bin .sub (.cst (.int 0)) (.bin .mul (.idx (.var 4) (.var 5)) (.bin .fdiv (.var 6) (.idx (.var 4) (.call F._law_lead (.cons (.var 4) .nil))))))) .nil)) (.cons (.ex (.app (.var 3) (.bi .tuple (.cons (.var 7) .nil)))) .nil)))))) .nil) .nil)) (.cons (.ret (.call F._law_lot (.cons (.var 3) .nil))) .nil)))
def d__law_apart : Df := ⟨F._law_apart, "_law_apart", ["lot", "wide"], ["lot", "wide", "leads", "found", "row", "at", "share", "line"], 45, [(F._law_lot, "_law_lot"), (F._law_lead, "_law_lead")], [], b__law_apart⟩
def b_require_row : Bl := (.cons (.ife (.not (.call F.is_plain_row (.cons (.var 0) (.cons (.var 1) .nil)))) (.cons (.raise 0 (.cst .non)) .nil) .nil) .nil)
def d_require_row : Df := ⟨F.require_row, "require_row", ["width", "row"], ["width", "row"], 39, [(F.is_plain_row, "is_plain_row")], [], b_require_row⟩
def b_dot : Bl := (.cons (.ret (.bi .sum (.cons (.frz (.comp [2, 3] (.tp (.cons (.nm 2) (.cons (.nm 3) .nil))) (.zip (.var 0) (.var 1)) .nil (.bin .mul (.var 2) (.var 3)))) .nil))) .nil)
def d_dot : Df := ⟨F.dot, "dot", ["one", "other"], ["one", "other", "left", "right"], 33, [], [], b_dot⟩
def b_product : Bl := (.cons (.ex (.call F.require_width (.cons (.var 0) .nil))) (.cons (.ex (.call F.require_row (.cons (.var 0) (.cons (.var 1) .nil)))) (.cons (.ex (.call F.require_row (.cons (.var 0) (.cons (.var 2) .nil)))) (.cons (.ret (.call F.dot (.cons (.var 1) (.cons (.var 2) .nil)))) .nil))))
def d_product : Df := ⟨F.product, "product", ["width", "one", "other"], ["width", "one", "other"], 42, [(F.dot, "dot"), (F.require_row, "require_row"), (F.require_width, "require_width")], [], b_product⟩
def b__law_dot : Bl := (.cons (.ret (.bi .sum (.cons (.frz (.comp [2, 3] (.tp (.cons (.nm 2) (.cons (.nm 3) .nil))) (.zip (.var 0) (.var 1)) .nil (.bin .mul (.var 2) (.var 3)))) .nil))) .nil)
def d__law_dot : Df := ⟨F._law_dot, "_law_dot", ["one", "other"], ["one", "other", "left", "right"], 33, [], [], b__law_dot⟩
def b_does_hold : Bl := (.cons (.ret (.cmp .is (.call F.lead_in (.cons (.call F.rest_by (.cons (.var 0) (.cons (.var 1) .nil))) .nil)) (.cst .non))) .nil)
def d_does_hold : Df := ⟨F.does_hold, "does_hold", ["lot", "row"], ["lot", "row"], 42, [(F.lead_in, "lead_in"), (F.rest_by, "rest_by")], [], b_does_hold⟩
def b_holds : Bl := (.cons (.ex (.call F.require_width (.cons (.var 0) .nil))) (.cons (.ex (.call F.require_lot (.cons (.var 0) (.cons (.var 1) .nil)))) (.cons (.ex (.call F.require_row (.cons (.var 0) (.cons (.var 2) .nil)))) (.cons (.ret (.call F.does_hold (.cons (.var 1) (.cons (.var 2) .nil)))) .nil))))
def d_holds : Df := ⟨F.holds, "holds", ["width", "lot", "row"], ["width", "lot", "row"], 45, [(F.does_hold, "does_hold"), (F.require_row, "require_row"), (F.require_lot, "require_lot"), (F.require_width, "require_width")], [], b_holds⟩
def b__law_holds : Bl := (.cons (.for (.nm 2) (.seq (.var 0)) (.cons (.asg (.nm 1) (.call F._law_less (.cons (.var 1) (.cons (.var 2) .nil)))) .nil)) (.cons (.ret (.cmp .eq (.call F._law_lead (.cons (.var 1) .nil)) (.bi .len (.cons (.var 1) .nil)))) .nil))
def d__law_holds : Df := ⟨F._law_holds, "_law_holds", ["lot", "row"], ["lot", "row", "other"], 39, [(F._law_lead, "_law_lead"), (F._law_less, "_law_less")], [], b__law_holds⟩
def b_lowest : Bl := (.cons (.ex (.call F.require_width (.cons (.var 0) .nil))) (.cons (.ex (.call F.require_row (.cons (.var 0) (.cons (.var 1) .nil)))) (.cons (.ret (.call F.lowest_row (.cons (.var 1) .nil))) .nil)))
def d_lowest : Df := ⟨F.lowest, "lowest", ["width", "row"], ["width", "row"], 42, [(F.lowest_row, "lowest_row"), (F.require_row, "require_row"), (F.require_width, "require_width")], [], b_lowest⟩
def b_is_row : Bl := (.cons (.ex (.call F.require_width (.cons (.var 0) .nil))) (.cons (.ret (.call F.is_plain_row (.cons (.var 0) (.cons (.var 1) .nil)))) .nil))
def d_is_row : Df := ⟨F.is_row, "is_row", ["width", "value"], ["width", "value"], 39, [(F.is_plain_row, "is_plain_row"), (F.require_width, "require_width")], [], b_is_row⟩
def b__law_is_int : Bl := (.cons (.ret (.and (.bi .isinst (.cons (.var 0) (.cons (.cst (.ty "int")) .nil))) (.not (.bi .isinst (.cons (.var 0) (.cons (.cst (.ty "bool")) .nil)))))) .nil)
def d__law_is_int : Df := ⟨F._law_is_int, "_law_is_int", ["value"], ["value"], 33, [], [], b__law_is_int⟩
def b__law_is_row : Bl := (.cons (.ife (.or (.not (.bi .isinst (.cons (.var 0) (.cons (.cst (.ty "tuple")) .nil)))) (.cmp .ne (.bi .len (.cons (.var 0) .nil)) (.var 1))) (.cons (.ret (.cst (.bl false))) .nil) .nil) (.cons (.ret (.cmp .eq (.frz (.comp [2] (.nm 2) (.seq (.var 0)) (.cons (.not (.call F._law_is_int (.cons (.var 2) .nil))) .nil) (.cst (.int 1)))) (.frz (.disp .nil)))) .nil))
def d__law_is_row : Df := ⟨F._law_is_row, "_law_is_row", ["value", "wide"], ["value", "wide", "number"], 36, [(F._law_is_int, "_law_is_int")], [], b__law_is_row⟩
def b_is_lot : Bl := (.cons (.ex (.call F.require_width (.cons (.var 0) .nil))) (.cons (.ret (.call F.is_plain_lot (.cons (.var 0) (.cons (.var 1) .nil)))) .nil))
def d_is_lot : Df := ⟨F.is_lot, "is_lot", ["width", "value"], ["width", "value"], 42, [(F.is_plain_lot, "is_plain_lot"), (F.require_width, "require_width")], [], b_is_lot⟩
def b__law_is_lot : Bl := (.cons (.ife (.or (.not (.bi .isinst (.cons (.var 0) (.cons (.cst (.ty "tuple")) .nil)))) (.cmp .ne (.frz (.comp [2] (.nm 2) (.seq (.var 0)) (.cons (.not (.call F._law_is_row (.cons (.var 2) (.cons (.var 1) .nil)))) .nil) (.cst (.int 1)))) (.frz (.disp .nil)))) (.cons (.ret (.cst (.bl false))) .nil) .nil) (.cons (.asg (.nm 3) (.frz (.comp [2] (.nm 2) (.seq (.var 0)) .nil (.call F._law_lead (.cons (.var 2) .nil))))) (.cons (.ife (.or (.cmp .ne (.var 3) (.frz (.sortSet (.var 3)))) (.or (.cmp .inn (.var 1) (.var 3)) (.cmp .ne (.frz (.comp [2] (.nm 2) (.seq (.var 0)) (.cons (.cmp .ne (.call F._law_lowest (.cons (.var 2) .nil)) (.var 2)) .nil) (.cst (.int 1)))) (.frz (.disp .nil))))) (.cons (.ret (.cst (.bl false))) .nil) .nil) (.cons (.for (.nm 4) (.seq (.var 3)) (.cons (.ife (.cmp .ne (.bi .len (.cons (.frz (.comp [2] (.nm 2) (.seq (.var 0)) (.cons (.cmp .ne (.idx (.var 2) (.var 4)) (.cst (.int 0))) .nil) (.cst (.int 1)))) .nil)) (.cst (.int 1))) (.cons (.ret (.cst (.bl false))) .nil) .nil) .nil)) (.cons (.ret (.cst (.bl true))) .nil)))))
def d__law_is_lot : Df := ⟨F._law_is_lot, "_law_is_lot", ["value", "wide"], ["value", "wide", "row", "leads", "lead"], 39, [(F._law_lowest, "_law_lowest"), (F._law_lead, "_law_lead"), (F._law_is_row, "_law_is_row")], [], b__law_is_lot⟩
def b__law_right : Bl := (.cons (.asg (.nm 1) (.bin .add (.cst (.int 1)) (.call F._law_roll (.cons (.var 0) (.cons (.cst (.int 5)) .nil))))) (.cons (.asg (.nm 2) (.call F._law_drawn_rows (.cons (.var 0) (.cons (.var 1) .nil)))) (.cons (.asg (.nm 3) (.call F._law_lot (.cons (.var 2) .nil))) (.cons (.ife (.or (.cmp .ne (.call F.lot_of (.cons (.var 1) (.cons (.bi .tuple (.cons (.var 2) .nil)) .nil))) (.var 3)) (.cmp .ne (.call F.lot_of (.cons (.var 1) (.cons (.bin .add (.bi .tuple (.cons (.frz (.stpL (.var 2) .no .no (.neg (.cst (.int 1))))) .nil)) (.var 3)) .nil))) (.var 3))) (.cons (.ret (.cst (.bl false))) .nil) .nil) (.cons (.asg (.nm 4) (.call F.rows_apart (.cons (.var 1) (.cons (.var 3) .nil)))) (.cons (.ife (.or (.cmp .ne (.var 4) (.call F._law_apart (.cons (.var 3) (.cons (.var 1) .nil)))) (.or (.cmp .ne (.bin .add (.bi .len (.cons (.var 4) .nil)) (.bi .len (.cons (.var 3) .nil))) (.var 1)) (.cmp .ne (.call F.rows_apart (.cons (.var 1) (.cons (.var 4) .nil))) (.var 3)))) (.cons (.ret (.cst (.bl false))) .nil) .nil) (.cons (.asg (.nm 5) (.bi .tuple (.cons (.frz (.comp [6] (.nm 6) (.rng1 (.var 1)) .nil (.bin .sub (.call F._law_roll (.cons (.var 0) (.cons (.cst (.int 7)) .nil))) (.cst (.int 3))))) .nil))) (.cons (.asg (.nm 7) (.bi .tuple (.cons (.frz (.comp [6] (.nm 6) (.rng1 (.var 1)) .nil (.bi .sum (.cons (.frz (.comp [8] (.nm 8) (.seq (.var 3)) .nil (.bin .mul (.cst (.int 3)) (.idx (.var 8) (.var 6))))) .nil)))) .nil))) (.cons (.for (.nm 8) (.seq (.tup (.cons (.var 5) (.cons (.var 7) (.cons (.bin .mul (.tup (.cons (.cst (.int 0)) .nil)) (.var 1)) .nil))))) (.cons (.ife (.or (.cmp .ne (.call F.holds (.cons (.var 1) (.cons (.var 3) (.cons (.var 8) .nil)))) (.call F._law_holds (.cons (.var 3) (.cons (.var 8) .nil)))) (.cmp .ne (.call F.lowest (.cons (.var 1) (.cons (.var 8) .nil))) (.call F._law_lowest (.cons (.var 8) .nil)))) (.cons (.ret (.cst (.bl false))) .nil) .nil) (.cons (.ife (.cmp .ne (.call F.product (.cons (.var 1) (.cons (.var 8) (.cons (.var 5) .nil)))) (.call F._law_dot (.cons (.var 8) (.cons (.var 5) .nil)))) (.cons (.ret (.cst (.bl false))) .nil) .nil) .nil))) (.cons (.for (.nm 9) (.seq (.call F._law_near (.cons (.var 0) (.cons (.var 1) (.cons (.var 3) (.cons (.var 5) .nil)))))) (.cons (.ife (.cmp .ne (.bi .repr (.cons (.call F.is_row (.cons (.var 1) (.cons (.var 9) .nil))) .nil)) (.bi .repr (.cons (.call F._law_is_row (.cons (.var 9) (.cons (.var 1) .nil))) .nil))) (.cons (.ret (.cst (.bl false))) .nil) .nil) (.cons (.ife (.cmp .ne (.bi .repr (.cons (.call F.is_lot (.cons (.var 1) (.cons (.var 9) .nil))) .nil)) (.bi .repr (.cons (.call F._law_is_lot (.cons (.var 9) (.cons (.var 1) .nil))) .nil))) (.cons (.ret (.cst (.bl false))) .nil) .nil) .nil))) (.cons (.ret (.cst (.bl true))) .nil)))))))))))
def d__law_right : Df := ⟨F._law_right, "_law_right", ["dice"], ["dice", "wide", "rows", "lot", "apart", "row", "at", "held", "one", "value"], 54, [(F._law_near, "_law_near"), (F.is_lot, "is_lot"), (F._law_is_lot, "_law_is_lot"), (F.is_row, "is_row"), (F._law_is_row, "_law_is_row"), (F.product, "product"), (F._law_dot, "_law_dot"), (F.lowest, "lowest"), (F._law_lowest, "_law_lowest"), (F.holds, "holds"), (F._law_holds, "_law_holds"), (F._law_roll, "_law_roll"), (F.rows_apart, "rows_apart"), (F._law_apart, "_law_apart"), (F.lot_of, "lot_of"), (F._law_lot, "_law_lot"), (F._law_drawn_rows, "_law_drawn_rows")], [], b__law_right⟩
def b_law : Bl := (.cons (.for (.nm 1) (.rng1 (.bi .max (.cons (.cst (.int 1)) (.cons (.bi .min (.cons (.cst (.int 8)) (.cons (.bi .len (.cons (.var 0) .nil)) .nil))) .nil)))) (.cons (.asg (.nm 2) (.call F._law_dice (.cons (.var 0) (.cons (.var 1) .nil)))) (.cons (.for (.nm 3) (.rng1 (.cst (.int 3))) (.cons (.ife (.not (.call F._law_right (.cons (.var 2) .nil))) (.cons (.ret (.cst (.bl false))) .nil) .nil) .nil)) .nil))) (.cons (.ret (.cmp .eq (.call F.rows_apart (.cons (.cst (.int 3)) (.cons (.tup .nil) .nil))) (.tup (.cons (.tup (.cons (.cst (.int 1)) (.cons (.cst (.int 0)) (.cons (.cst (.int 0)) .nil)))) (.cons (.tup (.cons (.cst (.int 0)) (.cons (.cst (.int 1)) (.cons (.cst (.int 0)) .nil)))) (.cons (.tup (.cons (.cst (.int 0)) (.cons (.cst (.int 0)) (.cons (.cst (.int 1)) .nil)))) .nil)))))) .nil))
def d_law : Df := ⟨F.law, "law", ["script"], ["script", "spot", "dice", "turn"], 57, [(F.rows_apart, "rows_apart"), (F._law_right, "_law_right"), (F._law_dice, "_law_dice")], [], b_law⟩
end LW
/-! ### promises of the defs -/
namespace LW
open PySem DL PM
abbrev dI (p : List Int) : List D := p.map D.int
abbrev P (p : List Int) : D := .tup (dI p)
abbrev Lt (lot : List (List Int)) : D := .tup (lot.map P)
abbrev Dice (p : Addr) (a b c : Int) (S : Sto) : Sto := sup S p (.lst [.int a, .int b, .int c])
abbrev HasDice (S : Sto) (p : Addr) : Prop := ∃ a b c : Int, S p = some (.lst [.int a, .int b, .int c])
def isI : D → Bool
  | .int _ => true
  | _ => false
def Ty (v : D) : Prop := ∃ t, typD v = some t
def Ty2 (v : D) : Prop := Ty v ∧ ∀ xs, v = .tup xs → ∀ x ∈ xs, Ty x
def Ty3 (v : D) : Prop := Ty v ∧ ∀ xs, v = .tup xs → ∀ x ∈ xs, Ty2 x
/-- if it is a tuple of rows, then they are within bounds -/
def Szd (v : D) : Prop := ∀ lot, v = Lt lot → ∀ r ∈ lot, BdP 4000000 r ∧ r.length ≤ 1000
abbrev B3 (lot : List (List Int)) : Prop := ∀ r ∈ lot, BdP 3000000 r
def ldD (r : List Int) : D := if ld r < r.length then .int (ld r : Nat) else .non
abbrev sp_common_share : FSp := fun ds S R Q => ∃ a b : Int, ds = [.int a, .int b] ∧ Q (.int (Int.gcd a b)) S
abbrev sp__law_gcd : FSp := sp_common_share
abbrev sp_is_integer : FSp := fun ds S R Q => ∃ v, ds = [v] ∧ Ty v ∧ Q (.bl (isI v)) S
abbrev sp__law_is_int : FSp := sp_is_integer
abbrev sp__law_dice : FSp := fun ds S R Q => ∃ ns, ∃ i : Nat, ds = [.scr ns, .int i] ∧ ∀ p a b c, S p = none → Q (.ref p) (Dice p a b c S)
abbrev sp__law_roll : FSp := fun ds S R Q => ∃ p t, ds = [.ref p, .int t] ∧ HasDice S p ∧ 0 < t ∧ t < 2 ^ 30 ∧ ∀ r a b c : Int, 0 ≤ r → r < t → Q (.int r) (Dice p a b c S)
abbrev sp__law_pick : FSp := fun ds S R Q => ∃ p xs, ds = [.ref p, .lst xs] ∧ HasDice S p ∧ xs ≠ [] ∧ xs.length < 1000 ∧ ∀ x ∈ xs, ∀ a b c : Int, Q x (Dice p a b c S)
abbrev sp_require_width : FSp := fun ds S R Q => ∃ w : Nat, ds = [.int w] ∧ 1 ≤ w ∧ w ≤ 200 ∧ Q .non S
abbrev sp_lead_in : FSp := fun ds S R Q => ∃ r, ds = [P r] ∧ r.length ≤ 1000 ∧ Q (ldD r) S
abbrev sp__law_lead : FSp := fun ds S R Q => ∃ r, ds = [P r] ∧ r.length ≤ 1000 ∧ Q (.int (ld r : Nat)) S
abbrev sp_lowest_row : FSp := fun ds S R Q => ∃ r, ds = [P r] ∧ r.length ≤ 1000 ∧ Q (P (lwr r)) S
abbrev sp__law_lowest : FSp := fun ds S R Q => ∃ r, ds = [P r] ∧ r.length ≤ 1000 ∧ BdP 60000000 r ∧ Q (P (lwr r)) S
abbrev sp_is_plain_row : FSp := fun ds S R Q => ∃ v, ∃ w : Nat, ds = [.int w, v] ∧ Ty2 v ∧ ∀ b : Bool, (b = true ↔ ∃ r, v = P r ∧ r.length = w) → Q (.bl b) S
abbrev sp__law_is_row : FSp := fun ds S R Q => ∃ v, ∃ w : Nat, ds = [v, .int w] ∧ Ty2 v ∧ ∀ b : Bool, (b = true ↔ ∃ r, v = P r ∧ r.length = w) → Q (.bl b) S
abbrev sp_is_plain_lot : FSp := fun ds S R Q => ∃ v, ∃ w : Nat, ds = [.int w, v] ∧ w ≤ 200 ∧ Ty3 v ∧ ∀ b : Bool, (b = true ↔ ∃ lot, v = Lt lot ∧ IsLot w lot) → Q (.bl b) S
abbrev sp__law_is_lot : FSp := fun ds S R Q => ∃ v, ∃ w : Nat, ds = [v, .int w] ∧ w ≤ 200 ∧ Ty3 v ∧ Szd v ∧ (∀ xs, v = .tup xs → xs.length < 64) ∧ ∀ b : Bool, (b = true ↔ ∃ lot, v = Lt lot ∧ IsLot w lot) → Q (.bl b) S
abbrev sp_require_lot : FSp := fun ds S R Q => ∃ w : Nat, ∃ lot, ds = [.int w, Lt lot] ∧ w ≤ 200 ∧ IsLot w lot ∧ Q .non S
abbrev sp_require_row : FSp := fun ds S R Q => ∃ w : Nat, ∃ r, ds = [.int w, P r] ∧ r.length = w ∧ Q .non S
abbrev sp_require_rows : FSp := fun ds S R Q => ∃ w : Nat, ∃ rows : List (List Int), ds = [.int w, Lt rows] ∧ (∀ r ∈ rows, r.length = w) ∧ Q .non S
abbrev sp_less_by : FSp := fun ds S R Q => ∃ r o, ds = [P r, P o] ∧ r.length = o.length ∧ ld o < o.length ∧ o.length ≤ 1000 ∧ BdP 30000000 r ∧ BdP 30000000 o ∧ Q (P (les r o)) S
abbrev sp__law_less : FSp := sp_less_by
abbrev sp_rest_by : FSp := fun ds S R Q => ∃ w : Nat, ∃ lot r, ds = [Lt lot, P r] ∧ w ≤ 5 ∧ IsLot w lot ∧ B3 lot ∧ r.length = w ∧ BdP 3000000 r ∧ Q (P (rst lot r)) S
abbrev sp_with_row : FSp := fun ds S R Q => ∃ w : Nat, ∃ lot r, ds = [Lt lot, P r] ∧ w ≤ 5 ∧ IsLot w lot ∧ B3 lot ∧ r.length = w ∧ BdP 3000000 r ∧ Q (Lt (wrow lot r)) S
abbrev sp__law_with_row : FSp := sp_with_row
abbrev sp_lot_in : FSp := fun ds S R Q => ∃ w : Nat, ∃ v rows, ds = [v] ∧ (res S v = .tup (rows.map P) ∨ res S v = .lst (rows.map P)) ∧ Tame w rows ∧ Q (Lt (lotf rows)) S
abbrev sp__law_lot : FSp := sp_lot_in
abbrev sp_apart_in : FSp := fun ds S R Q => ∃ w : Nat, ∃ lot, ds = [.int w, Lt lot] ∧ w ≤ 5 ∧ IsLot w lot ∧ B3 lot ∧ Tame w (lns w lot) ∧ Q (Lt (apt w lot)) S
abbrev sp__law_apart : FSp := fun ds S R Q => ∃ w : Nat, ∃ lot, ds = [Lt lot, .int w] ∧ w ≤ 5 ∧ IsLot w lot ∧ B3 lot ∧ Tame w (lns w lot) ∧ Q (Lt (apt w lot)) S
abbrev sp_rows_apart : FSp := fun ds S R Q => ∃ w : Nat, ∃ lot, ds = [.int w, Lt lot] ∧ 1 ≤ w ∧ w ≤ 5 ∧ IsLot w lot ∧ B3 lot ∧ Tame w (lns w lot) ∧ Q (Lt (apt w lot)) S
abbrev sp_dot : FSp := fun ds S R Q => ∃ a b, ds = [P a, P b] ∧ BdP 4000000 a ∧ BdP 4000000 b ∧ Q (.int (dtl a b)) S
abbrev sp__law_dot : FSp := sp_dot
abbrev sp_product : FSp := fun ds S R Q => ∃ w : Nat, ∃ a b, ds = [.int w, P a, P b] ∧ 1 ≤ w ∧ w ≤ 200 ∧ a.length = w ∧ b.length = w ∧ BdP 4000000 a ∧ BdP 4000000 b ∧ Q (.int (dtl a b)) S
abbrev sp_does_hold : FSp := fun ds S R Q => ∃ w : Nat, ∃ lot r, ds = [Lt lot, P r] ∧ w ≤ 5 ∧ IsLot w lot ∧ B3 lot ∧ r.length = w ∧ BdP 3000000 r ∧ Q (.bl (decide (ld (rst lot r) = r.length))) S
abbrev sp__law_holds : FSp := sp_does_hold
abbrev sp_holds : FSp := fun ds S R Q => ∃ w : Nat, ∃ lot r, ds = [.int w, Lt lot, P r] ∧ 1 ≤ w ∧ w ≤ 5 ∧ IsLot w lot ∧ B3 lot ∧ r.length = w ∧ BdP 3000000 r ∧ Q (.bl (decide (ld (rst lot r) = r.length))) S
abbrev sp_lowest : FSp := fun ds S R Q => ∃ w : Nat, ∃ r, ds = [.int w, P r] ∧ 1 ≤ w ∧ w ≤ 200 ∧ r.length = w ∧ Q (P (lwr r)) S
abbrev sp_lot_of : FSp := fun ds S R Q => ∃ w : Nat, ∃ rows, ds = [.int w, Lt rows] ∧ 1 ≤ w ∧ Tame w rows ∧ Q (Lt (lotf rows)) S
abbrev sp_is_row : FSp := fun ds S R Q => ∃ v, ∃ w : Nat, ds = [.int w, v] ∧ 1 ≤ w ∧ w ≤ 200 ∧ Ty2 v ∧ ∀ b : Bool, (b = true ↔ ∃ r, v = P r ∧ r.length = w) → Q (.bl b) S
abbrev sp_is_lot : FSp := fun ds S R Q => ∃ v, ∃ w : Nat, ds = [.int w, v] ∧ 1 ≤ w ∧ w ≤ 200 ∧ Ty3 v ∧ ∀ b : Bool, (b = true ↔ ∃ lot, v = Lt lot ∧ IsLot w lot) → Q (.bl b) S
abbrev sp__law_drawn_rows : FSp := fun ds S R Q => ∃ p, ∃ w : Nat, ds = [.ref p, .int w] ∧ HasDice S p ∧ 1 ≤ w ∧ w ≤ 5 ∧ ∀ rows : List (List Int), ∀ a b c : Int, rows.length ≤ 5 → (∀ r ∈ rows, r.length = w ∧ BdP 100 r) → Q (.lst (rows.map P)) (Dice p a b c S)
abbrev sp__law_near : FSp := fun ds S R Q => ∃ p, ∃ w : Nat, ∃ lot row, ds = [.ref p, .int w, Lt lot, P row] ∧ 1 ≤ w ∧ w ≤ 5 ∧ IsLot w lot ∧ B3 lot ∧ row.length = w ∧ BdP 3 row ∧ ∀ vs : List D, (∀ v ∈ vs, Ty3 v ∧ Szd v ∧ ∀ xs, v = .tup xs → xs.length < 64) → Q (.lst vs) S
abbrev sp__law_right : FSp := fun ds S R Q => ∃ p, ds = [.ref p] ∧ HasDice S p ∧ ∀ x y z : Int, Q (.bl true) (Dice p x y z S)
abbrev sp_law : FSp := fun ds S R Q => ∃ ns, ds = [.scr ns] ∧ ∀ S', Q (.bl true) S'
end LW

namespace LW
open PySem DL PM
/-! ### promises, by number -/
def fnT : List FSp := [sp__law_dice, sp_is_integer, sp_require_width, sp_lead_in, sp_common_share, sp_lowest_row, sp_is_plain_row, sp_is_plain_lot, sp_require_lot, sp_less_by, sp_rest_by, sp_with_row, sp_lot_in, sp_apart_in, sp_rows_apart, sp__law_roll, sp__law_pick, sp__law_drawn_rows, sp__law_gcd, sp__law_lead, sp__law_lowest, sp__law_less, sp__law_with_row, sp__law_lot, sp__law_near, sp_require_rows, sp_lot_of, sp__law_apart, sp_require_row, sp_dot, sp_product, sp__law_dot, sp_does_hold, sp_holds, sp__law_holds, sp_lowest, sp_is_row, sp__law_is_int, sp__law_is_row, sp_is_lot, sp__law_is_lot, sp__law_right, sp_law]
def glT : List D := [(.int 200)]
def Gm : Gam := ⟨fun k => fnT.getD k fun _ _ _ _ => False, fun k => glT.getD k .non⟩
theorem fn__law_dice : Gm.fn F._law_dice = sp__law_dice := rfl
theorem fn_is_integer : Gm.fn F.is_integer = sp_is_integer := rfl
theorem fn_require_width : Gm.fn F.require_width = sp_require_width := rfl
theorem fn_lead_in : Gm.fn F.lead_in = sp_lead_in := rfl
theorem fn_common_share : Gm.fn F.common_share = sp_common_share := rfl
theorem fn_lowest_row : Gm.fn F.lowest_row = sp_lowest_row := rfl
theorem fn_is_plain_row : Gm.fn F.is_plain_row = sp_is_plain_row := rfl
theorem fn_is_plain_lot : Gm.fn F.is_plain_lot = sp_is_plain_lot := rfl
theorem fn_require_lot : Gm.fn F.require_lot = sp_require_lot := rfl
theorem fn_less_by : Gm.fn F.less_by = sp_less_by := rfl
theorem fn_rest_by : Gm.fn F.rest_by = sp_rest_by := rfl
theorem fn_with_row : Gm.fn F.with_row = sp_with_row := rfl
theorem fn_lot_in : Gm.fn F.lot_in = sp_lot_in := rfl
theorem fn_apart_in : Gm.fn F.apart_in = sp_apart_in := rfl
theorem fn_rows_apart : Gm.fn F.rows_apart = sp_rows_apart := rfl
theorem fn__law_roll : Gm.fn F._law_roll = sp__law_roll := rfl
theorem fn__law_pick : Gm.fn F._law_pick = sp__law_pick := rfl
theorem fn__law_drawn_rows : Gm.fn F._law_drawn_rows = sp__law_drawn_rows := rfl
theorem fn__law_gcd : Gm.fn F._law_gcd = sp__law_gcd := rfl
theorem fn__law_lead : Gm.fn F._law_lead = sp__law_lead := rfl
theorem fn__law_lowest : Gm.fn F._law_lowest = sp__law_lowest := rfl
theorem fn__law_less : Gm.fn F._law_less = sp__law_less := rfl
theorem fn__law_with_row : Gm.fn F._law_with_row = sp__law_with_row := rfl
theorem fn__law_lot : Gm.fn F._law_lot = sp__law_lot := rfl
theorem fn__law_near : Gm.fn F._law_near = sp__law_near := rfl
theorem fn_require_rows : Gm.fn F.require_rows = sp_require_rows := rfl
theorem fn_lot_of : Gm.fn F.lot_of = sp_lot_of := rfl
theorem fn__law_apart : Gm.fn F._law_apart = sp__law_apart := rfl
theorem fn_require_row : Gm.fn F.require_row = sp_require_row := rfl
theorem fn_dot : Gm.fn F.dot = sp_dot := rfl
theorem fn_product : Gm.fn F.product = sp_product := rfl
theorem fn__law_dot : Gm.fn F._law_dot = sp__law_dot := rfl
theorem fn_does_hold : Gm.fn F.does_hold = sp_does_hold := rfl
theorem fn_holds : Gm.fn F.holds = sp_holds := rfl
theorem fn__law_holds : Gm.fn F._law_holds = sp__law_holds := rfl
theorem fn_lowest : Gm.fn F.lowest = sp_lowest := rfl
theorem fn_is_row : Gm.fn F.is_row = sp_is_row := rfl
theorem fn__law_is_int : Gm.fn F._law_is_int = sp__law_is_int := rfl
theorem fn__law_is_row : Gm.fn F._law_is_row = sp__law_is_row := rfl
theorem fn_is_lot : Gm.fn F.is_lot = sp_is_lot := rfl
theorem fn__law_is_lot : Gm.fn F._law_is_lot = sp__law_is_lot := rfl
theorem fn__law_right : Gm.fn F._law_right = sp__law_right := rfl
theorem fn_law : Gm.fn F.law = sp_law := rfl
theorem gl_MAX_WIDTH : Gm.gl G.MAX_WIDTH = (.int 200) := rfl
local macro_rules | `(tactic| walk_at "wpx") => `(tactic| simp only [wpS, wpE, wpEs, wpO, wpL, wpI, wpG, wpGs, wpTs, getV, setV, delV, delVs, parV, tgsLen, tstD, binD, cmpD, biD, res_i, res_b, res_s, res_n, res_t, res_l, res_c, res_sup, seqD_t, seqD_l, seqD_c, seqD_sup, sup_same, sup_sup, pick_rev, at2_0, at2_1, at3_0, at3_1, at3_2, ix3_0, ix3_1, ix3_2, Option.some.injEq, exists_eq_left',  if_true, if_false, Bool.false_eq_true, List.length_cons, List.length_nil, decide_true, decide_false, Bool.not_true, Bool.not_false, true_and, and_true, fn__law_dice, fn_is_integer, fn_require_width, fn_lead_in, fn_common_share, fn_lowest_row, fn_is_plain_row, fn_is_plain_lot, fn_require_lot, fn_less_by, fn_rest_by, fn_with_row, fn_lot_in, fn_apart_in, fn_rows_apart, fn__law_roll, fn__law_pick, fn__law_drawn_rows, fn__law_gcd, fn__law_lead, fn__law_lowest, fn__law_less, fn__law_with_row, fn__law_lot, fn__law_near, fn_require_rows, fn_lot_of, fn__law_apart, fn_require_row, fn_dot, fn_product, fn__law_dot, fn_does_hold, fn_holds, fn__law_holds, fn_lowest, fn_is_row, fn__law_is_int, fn__law_is_row, fn_is_lot, fn__law_is_lot, fn__law_right, fn_law, gl_MAX_WIDTH])
local macro_rules | `(tactic| walk_at "wpc") => `(tactic| ((try dsimp only); rw [wpB]; simp only [wpS, wpE, wpEs, wpO, wpL, wpI, wpG, wpGs, wpTs, getV, setV, delV, delVs, parV, tgsLen, tstD, binD, cmpD, biD, res_i, res_b, res_s, res_n, res_t, res_l, res_c, res_sup, seqD_t, seqD_l, seqD_c, seqD_sup, sup_same, sup_sup, pick_rev, at2_0, at2_1, at3_0, at3_1, at3_2, ix3_0, ix3_1, ix3_2, Option.some.injEq, exists_eq_left',  if_true, if_false, Bool.false_eq_true, List.length_cons, List.length_nil, decide_true, decide_false, Bool.not_true, Bool.not_false, true_and, and_true, fn__law_dice, fn_is_integer, fn_require_width, fn_lead_in, fn_common_share, fn_lowest_row, fn_is_plain_row, fn_is_plain_lot, fn_require_lot, fn_less_by, fn_rest_by, fn_with_row, fn_lot_in, fn_apart_in, fn_rows_apart, fn__law_roll, fn__law_pick, fn__law_drawn_rows, fn__law_gcd, fn__law_lead, fn__law_lowest, fn__law_less, fn__law_with_row, fn__law_lot, fn__law_near, fn_require_rows, fn_lot_of, fn__law_apart, fn_require_row, fn_dot, fn_product, fn__law_dot, fn_does_hold, fn_holds, fn__law_holds, fn_lowest, fn_is_row, fn__law_is_int, fn__law_is_row, fn_is_lot, fn__law_is_lot, fn__law_right, fn_law, gl_MAX_WIDTH]))

theorem gcd_fmod (a b : Int) : Int.gcd b (a.fmod b) = Int.gcd a b := by
  have e : a.fmod b = a - (a.fdiv b) * b := by
    have := Int.fmod_add_mul_fdiv a b
    rw [Int.mul_comm b] at this
    omega
  rw [e, Int.gcd_comm b, Int.gcd_sub_mul_right_left]
theorem fmod_lt (a b : Int) (h : b ≠ 0) : (a.fmod b).natAbs < b.natAbs := by
  have h1 := Int.fmod_eq_emod (a := a) (b := b)
  have h2 := Int.emod_nonneg a h
  have h3 := Int.emod_lt a h
  rw [h1]
  split
  · omega
  · rename_i z
    have : a % b ≠ 0 := fun e => z (.inr (Int.dvd_of_emod_eq_zero e))
    omega
theorem sok_common_share : SpecOk Gm d_common_share := by
  rintro ds S R Q ⟨a, b, rfl, q⟩
  refine ⟨rfl, ?_⟩
  show wpB Gm b_common_share _ _ [some (.int a), some (.int b)] S
  unfold b_common_share
  walk_at "wpc"
  refine ⟨fun m ρ S' => ∃ x y : Int, m = y.natAbs ∧ ρ = [some (.int x), some (.int y)] ∧ S' = S ∧ Int.gcd x y = Int.gcd a b, ⟨_, a, b, rfl, rfl, rfl, rfl⟩, ?_⟩
  rintro m _ _ ⟨x, y, rfl, rfl, rfl, hg⟩
  walk_at "wpx"
  by_cases hy : y = 0
  · subst hy
    walk_at "wpc"
    refine rtq ?_
    have e : (if x < 0 then -x else x) = (Int.gcd a b : Int) := by
      rw [← hg, Int.gcd_zero_right]
      split <;> omega
    rw [e]; exact q
  · simp only [hy, decide_false, Bool.not_false, if_true]
    walk_at "wpc"
    exact ⟨hy, _, fmod_lt x y hy, y, x.fmod y, rfl, rfl, rfl, by rw [gcd_fmod]; exact hg⟩
theorem sok__law_gcd : SpecOk Gm d__law_gcd := sok_common_share
theorem sok_is_integer : SpecOk Gm d_is_integer := by
  rintro ds S R Q ⟨v, rfl, ⟨t, ht⟩, q⟩
  refine ⟨rfl, ?_⟩
  show wpB Gm b_is_integer _ _ [some v] S
  unfold b_is_integer
  walk_at "wpc"
  rw [res_ty ht]
  refine ⟨t, ht, by decide, ?_⟩
  cases v <;> cases ht <;> first | exact rtq q | (refine ⟨_, rfl, by decide, rtq q⟩)
theorem sok__law_is_int : SpecOk Gm d__law_is_int := sok_is_integer
theorem divs (t b : Int) (hb : b ≠ 0) : t.fdiv (if b > 0 then (Int.gcd t b : Int) else 0 - (Int.gcd t b : Int)) = (Rat.divInt t b).num ∧ b.fdiv (if b > 0 then (Int.gcd t b : Int) else 0 - (Int.gcd t b : Int)) = ((Rat.divInt t b).den : Int) := by
  have d1 : (Int.gcd t b : Int) ∣ t := Int.gcd_dvd_left ..
  have d2 : (Int.gcd t b : Int) ∣ b := Int.gcd_dvd_right ..
  rw [Rat.num_divInt, Rat.den_divInt, if_neg hb, Int.gcd_comm b t]
  by_cases h : b > 0
  · rw [if_pos h, Int.fdiv_eq_ediv_of_dvd d1, Int.fdiv_eq_ediv_of_dvd d2, Int.sign_eq_one_of_pos h, Int.one_mul]
    refine ⟨rfl, ?_⟩
    rw [Int.natCast_ediv, Int.natAbs_of_nonneg (by omega)]
  · have hn : b < 0 := by omega
    have e : 0 - (Int.gcd t b : Int) = -(Int.gcd t b : Int) := by omega
    rw [if_neg h, e, Int.fdiv_eq_ediv_of_dvd (Int.neg_dvd.mpr d1), Int.fdiv_eq_ediv_of_dvd (Int.neg_dvd.mpr d2), Int.sign_eq_neg_one_of_neg hn, Int.ediv_neg, Int.ediv_neg]
    refine ⟨?_, ?_⟩
    · rw [Int.neg_mul, Int.one_mul, Int.neg_ediv_of_dvd d1]
    · have e2 : (b.natAbs : Int) = -b := by omega
      rw [Int.natCast_ediv, e2, Int.neg_ediv_of_dvd d2]
theorem noPy {x y : Int} : PyOk x y := trivial

theorem dI_len (p : List Int) : (dI p).length = p.length := List.length_map ..
theorem dI_get {p : List Int} {i : Nat} (h : i < p.length) : (dI p)[i]? = some (.int (cf p i)) := by
  rw [List.getElem?_map, List.getElem?_eq_getElem h, cf_lt h]; rfl
theorem dI_take (p : List Int) (m : Nat) : (dI p).take m = dI (p.take m) := (List.map_take ..).symm
theorem dI_at {p : List Int} {i : Nat} (h : i < p.length) : atD (dI p) (i : Int) = some (.int (cf p i)) := at_nat (dI_get h)
theorem take_succ_cf {p : List Int} {i : Nat} (h : i < p.length) : p.take (i + 1) = p.take i ++ [cf p i] := by
  rw [List.take_succ, List.getElem?_eq_getElem h, cf_lt h]; rfl

theorem dI_map (f : Int → Int) (p : List Int) : dI (p.map f) = p.map fun c => D.int (f c) := by
  show List.map _ (List.map _ _) = _
  rw [List.map_map]
  rfl
theorem dI_cons (c : Int) (l : List Int) : dI (c :: l) = .int c :: dI l := rfl
theorem it_l (p : List Int) : IT 1 (.lst (dI p)) := fun d hd => by obtain ⟨c, _, e⟩ := List.mem_map.mp hd; subst e; trivial
theorem it_t (p : List Int) : IT 1 (.tup (dI p)) := fun d hd => by obtain ⟨c, _, e⟩ := List.mem_map.mp hd; subst e; trivial
theorem dI_nil {p : List Int} (h : dI p = []) : p = [] := List.map_eq_nil_iff.mp h

theorem sup_self {S : Sto} {p : Addr} {o : DO} (h : S p = some o) : sup S p o = S := by
  funext a
  unfold sup
  split
  · rename_i e; rw [e, h]
  · rfl
theorem eqD_same {n : Nat} {x : D} {k : Bool → Prop} (h : IT n x) (hn : n ≤ 64) (q : k true) : eqD x x k := eqD_it h h hn hn (fun _ => q) fun z => absurd rfl z
theorem fmod_rng (a t : Int) (h : 0 < t) : 0 ≤ a.fmod t ∧ a.fmod t < t := ⟨Int.fmod_nonneg_of_pos a h, Int.fmod_lt_of_pos a h⟩
theorem sok__law_dice : SpecOk Gm d__law_dice := by
  rintro ds S R Q ⟨ns, i, rfl, q⟩
  refine ⟨rfl, ?_⟩
  show wpB Gm b__law_dice _ _ [some (.scr ns), some (.int i), none, none, none] S
  unfold b__law_dice
  walk_at "wpc"
  by_cases h : (i : Int) < (ns.length : Int)
  · simp only [h, decide_true, if_true]
    refine ⟨ns[i]'(by omega), L2.atI_nat (List.getElem?_eq_getElem (by omega)), ?_⟩
    generalize ns[i]'(by omega) = c
    walk_at "wpc"
    refine ⟨⟨by decide, by decide +kernel⟩, ⟨by decide, by decide +kernel⟩, by decide +kernel, ?_⟩
    generalize Int.fmod _ _ = g
    walk_at "wpc"
    refine ⟨by decide, .of_right (by decide), .of_left (by decide), .of_left (by decide), ?_⟩
    walk_at "wpc"
    refine ⟨⟨by decide, by decide +kernel⟩, _, _, rfl, rfl, by decide, fun p hp => ?_⟩
    exact rtq (q p _ _ _ hp)
  · simp only [h, decide_false, Bool.false_eq_true, if_false]
    refine ⟨.of_left (by decide), ?_⟩
    generalize 137 * (i : Int) + 41 = c
    walk_at "wpc"
    refine ⟨⟨by decide, by decide +kernel⟩, ⟨by decide, by decide +kernel⟩, by decide +kernel, ?_⟩
    generalize Int.fmod _ _ = g
    walk_at "wpc"
    refine ⟨by decide, .of_right (by decide), .of_left (by decide), .of_left (by decide), ?_⟩
    walk_at "wpc"
    refine ⟨⟨by decide, by decide +kernel⟩, _, _, rfl, rfl, by decide, fun p hp => ?_⟩
    exact rtq (q p _ _ _ hp)
theorem sok__law_roll : SpecOk Gm d__law_roll := by
  rintro ds S R Q ⟨p, t, rfl, ⟨a, b, c, hS⟩, ht, ht2, q⟩
  refine ⟨rfl, ?_⟩
  show wpB Gm b__law_roll _ _ [some (.ref p), some (.int t), none, none, none] S
  unfold b__law_roll
  rw [← sup_self hS]
  have hpy : t.natAbs < 2 ^ 9000 := Nat.lt_of_lt_of_le (show t.natAbs < 2 ^ 30 by omega) (Nat.pow_le_pow_right (by decide) (by decide))
  walk_at "wpc"
  by_cases h : 0 < a
  · simp only [h, decide_true, if_true]
    walk_at "wpc"
    refine ⟨by omega, ?_⟩
    walk_at "wpc"
    refine ⟨by omega, noPy, _, _, _, 0, rfl, rfl, sup_same, rfl, ?_⟩
    simp only [sup_sup, List.set_cons_zero]
    walk_at "wpc"
    obtain ⟨r1, r2⟩ := fmod_rng a t ht
    exact rtq (q _ _ _ _ r1 r2)
  · simp only [h, decide_false, Bool.false_eq_true, if_false]
    rw [wpB]
    walk_at "wpc"
    refine ⟨_, _, _, 2, rfl, rfl, sup_same, rfl, ?_⟩
    simp only [sup_sup, List.set_cons_succ, List.set_cons_zero]
    walk_at "wpc"
    refine ⟨.of_left (by decide), by decide, ?_⟩
    obtain ⟨o1, o2⟩ := fmod_rng (b + 49979693 * (c + 1)) 2305843009213693951 (by decide)
    revert o1 o2
    generalize Int.fmod _ _ = o
    intro o1 o2
    walk_at "wpc"
    have ho : o.natAbs < 2 ^ 61 := by omega
    refine ⟨mulOk ho ho (by decide) (by decide), .of_left (by decide), by decide, .of_right (by decide), ?_⟩
    walk_at "wpc"
    refine ⟨by decide, noPy, by omega, ?_⟩
    obtain ⟨r1, r2⟩ := fmod_rng ((Int.fmod (o * o + 131 * (c + 1)) 2305843009213693921 * 32452867 + o).fdiv 65599) t ht
    exact rtq (q _ _ _ _ r1 r2)
theorem sok__law_pick : SpecOk Gm d__law_pick := by
  rintro ds S R Q ⟨p, xs, rfl, hS, hne, hl, q⟩
  refine ⟨rfl, ?_⟩
  show wpB Gm b__law_pick _ _ [some (.ref p), some (.lst xs)] S
  unfold b__law_pick
  walk_at "wpc"
  have hp : 0 < xs.length := List.length_pos_iff.mpr hne
  refine ⟨p, _, rfl, hS, by omega, by omega, fun r a b c h0 h1 => ?_⟩
  obtain ⟨n, rfl⟩ : ∃ n : Nat, r = n := ⟨r.toNat, by omega⟩
  walk_at "wpx"
  have hn : n < xs.length := by omega
  exact ⟨xs[n], at_nat (List.getElem?_eq_getElem hn), rtq (q _ (List.getElem_mem hn) a b c)⟩
theorem dI7 : ([D.int 0, .int 1, .int 1, .int (-1), .int 2, .int (-2), .int 3] : List D) = dI [0, 1, 1, -1, 2, -2, 3] := rfl
theorem nrm_snoc {l : List Int} {c : Int} (h : c ≠ 0) : Nrm (l ++ [c]) := fun d hd => by
  rw [List.getLast?_append, List.getLast?_singleton] at hd
  simp at hd
  rw [← hd]; exact h
theorem nrm_pby {k : Int} {p : List Int} (h : Nrm p) : Nrm (pby k p) := by
  unfold pby
  split
  · exact nrm_nil
  · rename_i hk
    refine nrm_of_top fun ne => ?_
    have hp : p ≠ [] := fun e => ne (by rw [e]; rfl)
    rw [List.length_map, cf_map _ (Int.mul_zero k)]
    exact Int.mul_ne_zero hk (nrm_top h hp)
theorem pby_len (k : Int) (p : List Int) : (pby k p).length ≤ p.length := by
  unfold pby
  split
  · exact Nat.zero_le _
  · rw [List.length_map]; exact Nat.le_refl _

def dropB : Nat → Bl → Bl
  | 0, b => b
  | _ + 1, .nil => .nil
  | n + 1, .cons _ r => dropB n r
theorem isI_i (i : Int) : isI (.int i) = true := rfl
theorem ty_i (i : Int) : Ty (.int i) := ⟨"int", rfl⟩
theorem glw : Gm.gl G.MAX_WIDTH = .int 200 := rfl
theorem sok_require_width : SpecOk Gm d_require_width := by
  rintro ds S R Q ⟨w, rfl, h1, h2, q⟩
  refine ⟨rfl, ?_⟩
  show wpB Gm b_require_width _ _ [some (.int w)] S
  unfold b_require_width
  walk_at "wpc"
  refine ⟨_, rfl, ty_i _, ?_⟩
  rw [isI_i]
  walk_at "wpx"
  have e1 : decide ((1 : Int) ≤ w) = true := decide_eq_true (by omega)
  have e2 : decide ((w : Int) ≤ 200) = true := decide_eq_true (by omega)
  rw [e1]
  walk_at "wpx"
  rw [e2]
  walk_at "wpx"
  rw [wpB]
  try dsimp only
  rw [wpB]
  exact rtq q
theorem ld_nil : ld [] = 0 := rfl
theorem ld_zero (c : Int) (r : List Int) (h : c = 0) : ld (c :: r) = ld r + 1 := by rw [ld, if_pos h]
theorem ld_one (c : Int) (r : List Int) (h : c ≠ 0) : ld (c :: r) = 0 := by rw [ld, if_neg h]
theorem num_cons {α : Type} (n : Nat) (a : α) (l : List α) : num n (a :: l) = (n, a) :: num (n + 1) l := rfl
theorem enumD_ints (n : Nat) (r : List Int) : enumD n (dI r) = (num n r).map fun x => .tup [.int x.1, .int x.2] := enumD_map D.int n r
theorem sok_lead_in : SpecOk Gm d_lead_in := by
  rintro ds S R Q ⟨r, rfl, hl, q⟩
  refine ⟨rfl, ?_⟩
  show wpB Gm b_lead_in _ _ [some (P r), none, none] S
  unfold b_lead_in
  walk_at "wpc"
  rw [enumD_ints]
  refine forL_ind (fun rest ρ S' => ∃ (n : Nat) (m : List Int) (x y : Option D), rest = (num n m).map (fun x => .tup [.int x.1, .int x.2]) ∧ ρ = [some (P r), x, y] ∧ S' = S ∧ ld r = n + ld m ∧ r.length = n + m.length) ?_ ?_ _ _ _ ⟨0, r, none, none, rfl, rfl, rfl, by omega, by omega⟩
  · rintro ρ S' ⟨n, m, x, y, e, rfl, rfl, h1, h2⟩
    have hm : m = [] := by
      cases m with
      | nil => rfl
      | cons c m => cases e
    subst hm
    refine ⟨trivial, ?_⟩
    walk_at "wpc"
    have : ldD r = .non := by unfold ldD; rw [if_neg (by rw [h1, h2]; simp [ld])]
    rw [this] at q
    exact rtq q
  · rintro d rest ρ S' N ⟨n, m, x, y, e, rfl, rfl, h1, h2⟩ hN
    cases m with
    | nil => cases e
    | cons c m =>
      cases e
      refine ⟨trivial, ?_⟩
      walk_at "wpc"
      by_cases hc : c = 0
      · simp only [hc, decide_true, Bool.not_true, Bool.false_eq_true, if_false]
        rw [wpB]
        dsimp only
        rw [wpB]
        rw [ld_zero c m hc] at h1
        exact hN _ _ ⟨n + 1, m, _, _, rfl, rfl, rfl, by omega, by rw [h2, List.length_cons]; omega⟩
      · simp only [hc, decide_false, Bool.not_false, if_true]
        rw [ld_one c m hc] at h1
        walk_at "wpc"
        have : ldD r = .int n := by unfold ldD; rw [if_pos (by rw [h1, h2, List.length_cons]; omega), h1]; rfl
        rw [this] at q
        exact rtq q
theorem sok__law_lead : SpecOk Gm d__law_lead := by
  rintro ds S R Q ⟨r, rfl, hl, q⟩
  refine ⟨rfl, ?_⟩
  show wpB Gm b__law_lead _ _ [some (P r), none, none] S
  unfold b__law_lead
  walk_at "wpc"
  rw [enumD_ints]
  refine compL_ind (fun rest S' acc => ∃ (n : Nat) (m l : List Int), rest = (num n m).map (fun x => .tup [.int x.1, .int x.2]) ∧ S' = S ∧ acc = dI l ∧ l ++ nzs n m = nzs 0 r ∧ l.length + m.length ≤ 1000) ?_ ?_ _ _ _ ⟨0, r, [], rfl, rfl, rfl, rfl, by simp; omega⟩
  · rintro S' acc ⟨n, m, l, e, rfl, rfl, h1, h2⟩
    have hm : m = [] := by
      cases m with
      | nil => rfl
      | cons c m => cases e
    subst hm
    refine ⟨trivial, ?_⟩
    have el : l = nzs 0 r := by rw [← h1]; simp [nzs]
    refine ⟨by decide, by rw [dI_len, sizeLine_eq]; simp at h2; omega, l ++ [(r.length : Int)], by rw [List.map_append, dI_len]; rfl, by simp, fun m hm hmin => ?_⟩
    obtain ⟨z1, z2⟩ := nzs_min r 0
    rw [el] at hm hmin
    rw [Nat.zero_add, Nat.zero_add] at z1 z2
    have a := hmin _ z1
    have b := z2 _ hm
    have : m = (ld r : Nat) := by omega
    rw [this]
    exact rtq q
  · rintro d rest S' acc N ⟨n, m, l, e, rfl, rfl, h1, h2⟩ hN
    cases m with
    | nil => cases e
    | cons c m =>
      cases e
      refine ⟨trivial, ?_⟩
      walk_at "wpx"
      by_cases hc : c = 0
      · simp only [hc, decide_true, Bool.not_true, Bool.false_eq_true, if_false]
        rw [nzs, if_pos hc] at h1
        exact hN _ _ ⟨n + 1, m, l, rfl, rfl, rfl, h1, by rw [List.length_cons] at h2; omega⟩
      · simp only [hc, decide_false, Bool.not_false, if_true]
        rw [nzs, if_neg hc] at h1
        exact hN _ _ ⟨n + 1, m, l ++ [(n : Int)], rfl, rfl, by simp [dI], by rw [List.append_assoc]; exact h1, by rw [List.length_append]; simp at h2 ⊢; omega⟩

theorem at_ld {r : List Int} (h : ld r < r.length) : atD (dI r) ((ld r : Nat) : Int) = some (.int (cf r (ld r))) := dI_at h
theorem frow_map (f : Int → Int) (r : List Int) : (r.map fun c => D.int (f c)) = dI (r.map f) := (dI_map f r).symm
/-- the share of a row: a loop -/
theorem sok_lowest_row : SpecOk Gm d_lowest_row := by
  rintro ds S R Q ⟨r, rfl, hl, q⟩
  refine ⟨rfl, ?_⟩
  show wpB Gm b_lowest_row _ _ [some (P r), none, none] S
  unfold b_lowest_row
  walk_at "wpc"
  walk_at "wpc"
  refine forL_ind (fun rest ρ S' => ∃ (m : List Int) (g : Nat) (x : Option D), rest = dI m ∧ ρ = [some (P r), some (.int g), x] ∧ S' = S ∧ m.foldl (fun g c => Int.gcd (g : Int) c) g = pcon r) ?_ ?_ _ _ _ ⟨r, 0, none, rfl, rfl, rfl, rfl⟩
  · rintro ρ S' ⟨m, g, x, e, rfl, rfl, h⟩
    have hr : m = [] := dI_nil e.symm
    subst hr
    refine ⟨trivial, ?_⟩
    have hg : g = pcon r := h
    subst hg
    walk_at "wpc"
    by_cases hz : ((pcon r : Nat) : Int) = 0
    · simp only [hz, decide_true, if_true]
      walk_at "wpc"
      have e1 : lwr r = r := by unfold lwr; rw [if_pos (by omega)]
      rw [e1] at q
      exact rtq q
    · have hz' : pcon r ≠ 0 := by omega
      have hlt : ld r < r.length := by
        rcases Nat.lt_or_ge (ld r) r.length with z | z
        · exact z
        · exact absurd (pcon_of_zero (ld_full.mp (Nat.le_antisymm (ld_le r) z))) hz'
      simp only [hz, decide_false, Bool.false_eq_true, if_false]
      rw [wpB]
      walk_at "wpc"
      refine ⟨r, rfl, hl, ?_⟩
      have e1 : ldD r = .int (ld r : Nat) := by unfold ldD; rw [if_pos hlt]
      rw [e1]
      walk_at "wpx"
      refine ⟨_, at_ld hlt, ?_⟩
      walk_at "wpx"
      have e2 : ∀ k : Int, k ≠ 0 → k = (if cf r (ld r) < 0 then 0 - (pcon r : Int) else (pcon r : Int)) → wpB Gm (dropB 4 b_lowest_row) { nx := fun _ S => RtQ Q .non S, rt := RtQ Q } (fun k x _ S => RtQ (R k) x S) [some (P r), some (.int k), x] S' := fun k hk ek => by
        show wpB Gm (dropB 4 b_lowest_row) _ _ [some (P r), some (.int k), x] S'
        have ed : dropB 4 b_lowest_row = .cons (.ret (.bi .tuple (.cons (.frz (.comp [2] (.nm 2) (.seq (.var 0)) .nil (.bin .fdiv (.var 2) (.var 1)))) .nil))) .nil := rfl
        rw [ed]
        walk_at "wpc"
        refine compL_mapG D.int (fun c => D.int (c.fdiv k)) trivial r [] (fun c hc N hN => ?_) ?_
        · walk_at "wpx"
          exact ⟨hk, noPy, hN⟩
        · try walk_at "wpx"
          have : lwr r = r.map fun c => c.fdiv k := by unfold lwr; rw [if_neg hz', ek]
          rw [this] at q
          rw [List.nil_append, frow_map]
          exact rtq q
      by_cases hn : cf r (ld r) < 0
      · simp only [hn, decide_true, if_true]
        walk_at "wpc"
        rw [wpB]
        exact e2 _ (by omega) (by rw [if_pos hn])
      · simp only [hn, decide_false, Bool.false_eq_true, if_false]
        rw [wpB]
        exact e2 _ (by omega) (by rw [if_neg hn])
  · rintro d rest ρ S' N ⟨m, g, x, e, rfl, rfl, h⟩ hN
    cases m with
    | nil => cases e
    | cons c m =>
      cases e
      refine ⟨trivial, ?_⟩
      walk_at "wpc"
      refine ⟨_, _, rfl, ?_⟩
      dsimp only
      rw [wpB]
      exact hN _ _ ⟨m, Int.gcd g c, some (.int c), rfl, rfl, rfl, h⟩
theorem sok__law_lowest : SpecOk Gm d__law_lowest := by
  rintro ds S R Q ⟨r, rfl, hl, hb, q⟩
  refine ⟨rfl, ?_⟩
  show wpB Gm b__law_lowest _ _ [some (P r), none, none, none] S
  unfold b__law_lowest
  walk_at "wpc"
  walk_at "wpc"
  refine forL_ind (fun rest ρ S' => ∃ (m : List Int) (g : Nat) (x : Option D), rest = dI m ∧ ρ = [some (P r), some (.int g), x, none] ∧ S' = S ∧ m.foldl (fun g c => Int.gcd (g : Int) c) g = pcon r) ?_ ?_ _ _ _ ⟨r, 0, none, rfl, rfl, rfl, rfl⟩
  · rintro ρ S' ⟨m, g, x, e, rfl, rfl, h⟩
    have hr : m = [] := dI_nil e.symm
    subst hr
    refine ⟨trivial, ?_⟩
    have hg : g = pcon r := h
    subst hg
    walk_at "wpc"
    by_cases hz : ((pcon r : Nat) : Int) = 0
    · simp only [hz, decide_true, if_true]
      walk_at "wpc"
      have e1 : lwr r = r := by unfold lwr; rw [if_pos (by omega)]
      rw [e1] at q
      exact rtq q
    · have hz' : pcon r ≠ 0 := by omega
      have hlt : ld r < r.length := by
        rcases Nat.lt_or_ge (ld r) r.length with z | z
        · exact z
        · exact absurd (pcon_of_zero (ld_full.mp (Nat.le_antisymm (ld_le r) z))) hz'
      simp only [hz, decide_false, Bool.false_eq_true, if_false]
      rw [wpB]
      walk_at "wpc"
      refine ⟨r, rfl, hl, _, at_ld hlt, ?_⟩
      have e2 : ∀ k : Int, k = (if 0 < cf r (ld r) then 1 else -1) → wpB Gm (dropB 4 b__law_lowest) { nx := fun _ S => RtQ Q .non S, rt := RtQ Q } (fun k x _ S => RtQ (R k) x S) [some (P r), some (.int (pcon r : Nat)), x, some (.int k)] S' := fun k ek => by
        have ed : dropB 4 b__law_lowest = .cons (.ret (.bi .tuple (.cons (.frz (.comp [2] (.nm 2) (.seq (.var 0)) .nil (.bin .mul (.var 3) (.bin .fdiv (.var 2) (.var 1))))) .nil))) .nil := rfl
        rw [ed]
        walk_at "wpc"
        refine compL_mapG D.int (fun c => D.int (k * c.fdiv (pcon r : Int))) trivial r [] (fun c hc N hN => ?_) ?_
        · walk_at "wpx"
          have d : (pcon r : Int) ∣ c := (pcon_dvd r 0).2 c hc
          have b1 := bd_fdiv (hb c hc) hz d
          have b2 : Bd 1 k := by rw [ek]; split <;> (unfold Bd; decide)
          exact ⟨hz, noPy, mulOk b2 b1 (by decide) (by decide), hN⟩
        · try walk_at "wpx"
          rw [List.nil_append, frow_map, ek, lwr_law hz' hlt]
          exact rtq q
      walk_at "wpx"
      by_cases hn : 0 < cf r (ld r)
      · simp only [hn, decide_true, if_true]
        exact e2 _ (by rw [if_pos hn])
      · simp only [hn, decide_false, Bool.false_eq_true, if_false]
        try walk_at "wpx"
        exact e2 _ (by rw [if_neg hn])
  · rintro d rest ρ S' N ⟨m, g, x, e, rfl, rfl, h⟩ hN
    cases m with
    | nil => cases e
    | cons c m =>
      cases e
      refine ⟨trivial, ?_⟩
      walk_at "wpc"
      refine ⟨_, _, rfl, ?_⟩
      dsimp only
      rw [wpB]
      exact hN _ _ ⟨m, Int.gcd g c, some (.int c), rfl, rfl, rfl, h⟩

theorem zip_with (f : Int → Int → Int) : ∀ (r o : List Int), ((r.zip o).map fun x => D.int (f x.1 x.2)) = dI (List.zipWith f r o)
  | [], _ => rfl
  | _ :: _, [] => rfl
  | a :: r, b :: o => by rw [List.zip_cons_cons, List.map_cons, zip_with f r o]; rfl
theorem ldD_lt {r : List Int} (h : ld r < r.length) : ldD r = .int (ld r : Nat) := by unfold ldD; rw [if_pos h]
theorem ldD_full {r : List Int} (h : ld r = r.length) : ldD r = .non := by unfold ldD; rw [if_neg (by omega)]
theorem sub_mul_ok {a b x y : Int} (h1 : Bd 30000000 a) (h2 : Bd 30000000 x) : IntMulOk a x := mulOk h1 h2 (by decide) (by decide)
theorem sok_less_by : SpecOk Gm d_less_by := by
  rintro ds S R Q ⟨r, o, rfl, hl, ho, h1, br, bo, q⟩
  refine ⟨rfl, ?_⟩
  show wpB Gm b_less_by _ _ [some (P r), some (P o), none, none, none] S
  unfold b_less_by
  walk_at "wpc"
  refine ⟨o, rfl, h1, ?_⟩
  rw [ldD_lt ho]
  walk_at "wpc"
  refine ⟨_, dI_at (p := r) (i := ld o) (by omega), ?_⟩
  walk_at "wpx"
  by_cases hz : cf r (ld o) = 0
  · simp only [hz, decide_true, if_true]
    walk_at "wpc"
    have : les r o = r := by unfold les; rw [if_pos hz]
    rw [this] at q
    exact rtq q
  · simp only [hz, decide_false, Bool.false_eq_true, if_false]
    rw [wpB]
    walk_at "wpc"
    rw [zipD_map]
    refine compL_mapG (fun x : Int × Int => D.tup [D.int x.1, D.int x.2]) (fun x => D.int (cf o (ld o) * x.1 - cf r (ld o) * x.2)) trivial _ [] (fun x hx N hN => ?_) ?_
    · walk_at "wpx"
      refine ⟨_, dI_at ho, ?_⟩
      walk_at "wpx"
      refine ⟨sub_mul_ok (y := 0) (b := 0) (bo.cf _) (br _ (List.of_mem_zip hx).1), _, dI_at (p := r) (i := ld o) (by omega), ?_⟩
      walk_at "wpx"
      exact ⟨sub_mul_ok (y := 0) (b := 0) (br.cf _) (bo _ (List.of_mem_zip hx).2), hN⟩
    · try walk_at "wpx"
      have : les r o = List.zipWith (fun a b => cf o (ld o) * a - cf r (ld o) * b) r o := by unfold les; rw [if_neg hz]
      rw [this] at q
      rw [List.nil_append, zip_with fun a b => cf o (ld o) * a - cf r (ld o) * b]
      exact rtq q
theorem sok__law_less : SpecOk Gm d__law_less := by
  rintro ds S R Q ⟨r, o, rfl, hl, ho, h1, br, bo, q⟩
  refine ⟨rfl, ?_⟩
  show wpB Gm b__law_less _ _ [some (P r), some (P o), none, none, none] S
  unfold b__law_less
  walk_at "wpc"
  refine ⟨o, rfl, h1, ?_⟩
  walk_at "wpc"
  refine ⟨_, dI_at (p := r) (i := ld o) (by omega), ?_⟩
  walk_at "wpx"
  by_cases hz : cf r (ld o) = 0
  · simp only [hz, decide_true, if_true]
    walk_at "wpc"
    have : les r o = r := by unfold les; rw [if_pos hz]
    rw [this] at q
    exact rtq q
  · simp only [hz, decide_false, Bool.false_eq_true, if_false]
    rw [wpB]
    walk_at "wpc"
    rw [zipD_map]
    refine compL_mapG (fun x : Int × Int => D.tup [D.int x.1, D.int x.2]) (fun x => D.int (cf o (ld o) * x.1 - cf r (ld o) * x.2)) trivial _ [] (fun x hx N hN => ?_) ?_
    · walk_at "wpx"
      refine ⟨_, dI_at ho, ?_⟩
      walk_at "wpx"
      refine ⟨sub_mul_ok (y := 0) (b := 0) (bo.cf _) (br _ (List.of_mem_zip hx).1), _, dI_at (p := r) (i := ld o) (by omega), ?_⟩
      walk_at "wpx"
      exact ⟨sub_mul_ok (y := 0) (b := 0) (br.cf _) (bo _ (List.of_mem_zip hx).2), hN⟩
    · try walk_at "wpx"
      have : les r o = List.zipWith (fun a b => cf o (ld o) * a - cf r (ld o) * b) r o := by unfold les; rw [if_neg hz]
      rw [this] at q
      rw [List.nil_append, zip_with fun a b => cf o (ld o) * a - cf r (ld o) * b]
      exact rtq q
/-- what holds while a row is cleared by the rows of a lot -/
def Clr (w : Nat) (lot : List (List Int)) (r : List Int) (m : List (List Int)) (v : List Int) : Prop :=
  (∀ s ∈ m, s ∈ lot) ∧ m.length ≤ lot.length ∧ rst m v = rst lot r ∧ v.length = w ∧ BdP (3000000 + (lot.length - m.length) * 3000001) v
theorem clr_init {w : Nat} {lot : List (List Int)} {r : List Int} (hr : r.length = w) (hb : BdP 3000000 r) : Clr w lot r lot r := ⟨fun _ h => h, Nat.le_refl _, rfl, hr, hb.mono (by omega)⟩
theorem clr_next {w : Nat} {lot m : List (List Int)} {r o v : List Int} (hI : IsLot w lot) (hB : B3 lot) (h : Clr w lot r (o :: m) v) : Clr w lot r m (les v o) := by
  obtain ⟨h1, h2, h3, h4, h5⟩ := h
  have ho := h1 o List.mem_cons_self
  have hl : v.length = o.length := by rw [h4, (hI.1 o ho).1]
  refine ⟨fun s hs => h1 s (List.mem_cons_of_mem _ hs), by rw [List.length_cons] at h2; omega, h3, (les_len hl).trans h4, (les_bd hl h5 (hB o ho)).mono ?_⟩
  rw [List.length_cons] at h2 ⊢
  have : lot.length - m.length = (lot.length - (m.length + 1)) + 1 := by omega
  rw [this, Nat.add_mul]; omega
theorem clr_bd {w : Nat} {lot m : List (List Int)} {r v : List Int} (hw : w ≤ 5) (hI : IsLot w lot) (h : Clr w lot r m v) : BdP 30000000 v := h.2.2.2.2.mono (by
  have := hI.len
  have : (lot.length - m.length) * 3000001 ≤ 5 * 3000001 := Nat.mul_le_mul_right _ (by omega)
  omega)
theorem map_nil' {lot : List (List Int)} (h : lot.map P = []) : lot = [] := List.map_eq_nil_iff.mp h
theorem sok_rest_by : SpecOk Gm d_rest_by := by
  rintro ds S R Q ⟨w, lot, r, rfl, hw, hI, hB, hr, br, q⟩
  refine ⟨rfl, ?_⟩
  show wpB Gm b_rest_by _ _ [some (Lt lot), some (P r), none] S
  unfold b_rest_by
  walk_at "wpc"
  refine forL_ind (fun rest ρ S' => ∃ (m : List (List Int)) (v : List Int) (x : Option D), rest = m.map P ∧ ρ = [some (Lt lot), some (P v), x] ∧ S' = S ∧ Clr w lot r m v) ?_ ?_ _ _ _ ⟨lot, r, none, rfl, rfl, rfl, clr_init hr br⟩
  · rintro ρ S' ⟨m, v, x, e, rfl, rfl, h⟩
    obtain rfl := map_nil' e.symm
    refine ⟨trivial, ?_⟩
    walk_at "wpc"
    rw [← h.2.2.1] at q
    exact rtq q
  · rintro d rest ρ S' N ⟨m, v, x, e, rfl, rfl, h⟩ hN
    cases m with
    | nil => cases e
    | cons o m =>
      cases e
      refine ⟨trivial, ?_⟩
      have ho := h.1 o List.mem_cons_self
      obtain ⟨o1, o2, o3⟩ := hI.1 o ho
      walk_at "wpc"
      refine ⟨v, o, rfl, by rw [h.2.2.2.1, o1], by omega, by omega, clr_bd hw hI h, (hB o ho).mono (by decide), ?_⟩
      dsimp only
      rw [wpB]
      exact hN _ _ ⟨m, _, some (P o), rfl, rfl, rfl, clr_next hI hB h⟩
theorem rst_len' {w : Nat} {lot : List (List Int)} (hI : IsLot w lot) {r : List Int} (hr : r.length = w) : (rst lot r).length = w := (rst_lot hI hr).1
theorem sok_does_hold : SpecOk Gm d_does_hold := by
  rintro ds S R Q ⟨w, lot, r, rfl, hw, hI, hB, hr, br, q⟩
  refine ⟨rfl, ?_⟩
  show wpB Gm b_does_hold _ _ [some (Lt lot), some (P r)] S
  unfold b_does_hold
  have hl := rst_len' hI hr
  walk_at "wpc"
  refine ⟨w, lot, r, rfl, hw, hI, hB, hr, br, ?_⟩
  refine ⟨_, rfl, by omega, ?_⟩
  by_cases e : ld (rst lot r) = (rst lot r).length
  · rw [ldD_full e]
    walk_at "wpx"
    rw [decide_eq_true (by omega)] at q
    exact rtq q
  · rw [ldD_lt (by have := ld_le (rst lot r); omega)]
    walk_at "wpx"
    rw [decide_eq_false (by omega)] at q
    exact rtq q
theorem sok__law_holds : SpecOk Gm d__law_holds := by
  rintro ds S R Q ⟨w, lot, r, rfl, hw, hI, hB, hr, br, q⟩
  refine ⟨rfl, ?_⟩
  show wpB Gm b__law_holds _ _ [some (Lt lot), some (P r), none] S
  unfold b__law_holds
  have hl := rst_len' hI hr
  walk_at "wpc"
  refine forL_ind (fun rest ρ S' => ∃ (m : List (List Int)) (v : List Int) (x : Option D), rest = m.map P ∧ ρ = [some (Lt lot), some (P v), x] ∧ S' = S ∧ Clr w lot r m v) ?_ ?_ _ _ _ ⟨lot, r, none, rfl, rfl, rfl, clr_init hr br⟩
  · rintro ρ S' ⟨m, v, x, e, rfl, rfl, h⟩
    obtain rfl := map_nil' e.symm
    refine ⟨trivial, ?_⟩
    have hv : v = rst lot r := h.2.2.1
    subst hv
    walk_at "wpc"
    refine ⟨_, rfl, by omega, ?_⟩
    walk_at "wpx"
    have : decide (((ld (rst lot r) : Nat) : Int) = ((dI (rst lot r)).length : Nat)) = decide (ld (rst lot r) = r.length) := decide_eq_decide.mpr (by rw [dI_len]; omega)
    rw [this]
    exact rtq q
  · rintro d rest ρ S' N ⟨m, v, x, e, rfl, rfl, h⟩ hN
    cases m with
    | nil => cases e
    | cons o m =>
      cases e
      refine ⟨trivial, ?_⟩
      have ho := h.1 o List.mem_cons_self
      obtain ⟨o1, o2, o3⟩ := hI.1 o ho
      walk_at "wpc"
      refine ⟨v, o, rfl, by rw [h.2.2.2.1, o1], by omega, by omega, clr_bd hw hI h, (hB o ho).mono (by decide), ?_⟩
      dsimp only
      rw [wpB]
      exact hN _ _ ⟨m, _, some (P o), rfl, rfl, rfl, clr_next hI hB h⟩

theorem byKeys_map (k : List Int → Int) (f : List Int → D) (l : List (List Int)) : byKeys (l.map f) (l.map k) = (l.mergeSort fun a b => decide (k a ≤ k b)).map f := by
  unfold byKeys
  have e : (l.map f).zip (l.map k) = l.map fun r => (f r, k r) := by
    induction l with
    | nil => rfl
    | cons a l ih => rw [List.map_cons, List.map_cons, List.zip_cons_cons, ih]; rfl
  rw [e]
  have m := List.map_mergeSort (f := fun r => (f r, k r)) (r := fun a b => decide (k a ≤ k b)) (s := fun p q : D × Int => decide (p.2 ≤ q.2)) (l := l) fun _ _ _ _ => rfl
  rw [← m, List.map_map]
  rfl
theorem byKeys_sort (f : List Int → D) (l : List (List Int)) : byKeys (l.map f) (l.map fun r => ((ld r : Nat) : Int)) = (sortR l).map f := byKeys_map _ f l
/-- what is known of a row and a lot, once it is cleared -/
theorem rst_bd' {w : Nat} {lot : List (List Int)} (hw : w ≤ 5) (hI : IsLot w lot) (hB : B3 lot) {r : List Int} (hr : r.length = w) (br : BdP 3000000 r) : BdP 30000000 (rst lot r) := by
  have := rst_bd (k := 3000000) lot r 3000000 w hr (fun s hs => ⟨(hI.1 s hs).1, hB s hs⟩) br
  exact this.mono (by
    have := hI.len
    have : lot.length * (3000000 + 1) ≤ 5 * 3000001 := Nat.mul_le_mul_right _ (by omega)
    omega)
theorem wnew_all {w : Nat} {lot : List (List Int)} (hI : IsLot w lot) {v : List Int} (hv : v.length = w) (lv : ld v < w) (h0 : ∀ s ∈ lot, cf v (ld s) = 0) : (∀ r ∈ wnew lot v, r.length = w ∧ ld r < w) ∧ ((wnew lot v).map fun r => ((ld r : Nat) : Int)).Nodup := by
  obtain ⟨a, b, _⟩ := wnew_ok hI hv lv h0
  refine ⟨fun r hr => ⟨(a r hr).1, (a r hr).2.1⟩, List.pairwise_map.mpr (b.imp fun {r s} q e => q.1 (by omega))⟩
theorem sok_with_row : SpecOk Gm d_with_row := by
  rintro ds S R Q ⟨w, lot, r, rfl, hw, hI, hB, hr, br, q⟩
  refine ⟨rfl, ?_⟩
  show wpB Gm b_with_row _ _ [some (Lt lot), some (P r), none, none, none] S
  unfold b_with_row
  have hl := rst_len' hI hr
  have hb := rst_bd' hw hI hB hr br
  have hll := hI.len
  walk_at "wpc"
  refine ⟨w, lot, r, rfl, hw, hI, hB, hr, br, ?_⟩
  refine ⟨_, rfl, by omega, ?_⟩
  walk_at "wpc"
  refine ⟨_, rfl, by rw [lwr_len]; omega, ?_⟩
  by_cases e : ld (rst lot r) = (rst lot r).length
  · rw [ldD_full (by rw [lwr_ld, lwr_len, e])]
    walk_at "wpx"
    walk_at "wpc"
    have : wrow lot r = lot := by unfold wrow; rw [if_pos (by omega)]
    rw [this] at q
    exact rtq q
  · have lv : ld (rst lot r) < w := by have := ld_le (rst lot r); omega
    rw [ldD_lt (by rw [lwr_ld, lwr_len]; omega)]
    walk_at "wpx"
    rw [wpB]
    walk_at "wpc"
    refine compL_mapG P (fun o => P (lwr (les o (lwr (rst lot r))))) trivial lot [] (fun o ho N hN => ?_) ?_
    · obtain ⟨o1, o2, o3⟩ := hI.1 o ho
      walk_at "wpx"
      refine ⟨o, _, rfl, by rw [o1, lwr_len, hl], by rw [lwr_ld, lwr_len]; omega, by rw [lwr_len]; omega, (hB o ho).mono (by decide), lwr_bd hb, ?_⟩
      exact ⟨_, rfl, by rw [les_len (by rw [o1, lwr_len, hl])]; omega, hN⟩
    · try walk_at "wpx"
      have ew : (lot.map fun o => P (lwr (les o (lwr (rst lot r))))) ++ [P (lwr (rst lot r))] = (wnew lot (rst lot r)).map P := by unfold wnew; rw [List.map_append, List.map_map]; rfl
      rw [List.nil_append, ew]
      have lw : (wnew lot (rst lot r)).length = lot.length + 1 := by unfold wnew; simp
      refine ⟨by decide, by rw [List.length_map, sizeLine_eq]; simp; omega, ?_⟩
      walk_at "wpc"
      obtain ⟨a1, a2⟩ := wnew_all hI hl lv (rst_lot hI hr).2.1
      refine ⟨(wnew lot (rst lot r)).map fun r => ((ld r : Nat) : Int), by rw [List.length_map, List.length_map], fun i d k hi hk => ?_, ?_⟩
      · rw [List.getElem?_map] at hi hk
        cases h : (wnew lot (rst lot r))[i]? with
        | none => rw [h] at hi; cases hi
        | some u =>
          rw [h] at hi hk
          cases hi; cases hk
          obtain ⟨u1, u2⟩ := a1 u (List.mem_of_getElem? h)
          exact ⟨u, rfl, by omega, by rw [ldD_lt (by omega)]; exact ⟨rfl, fun _ _ z => z⟩⟩
      · rw [byKeys_sort]
        have : wrow lot r = sortR (wnew lot (rst lot r)) := by unfold wrow; rw [if_neg (by omega)]
        rw [this] at q
        exact rtq q
theorem pys_pairs : ∀ l : List (List Int), D.py.pys (l.map fun r => D.tup [.int (ld r : Nat), P r]) = some (l.map fun r => PyData.tuple [.int (ld r : Nat), .tuple (r.map PyData.int)])
  | [] => rfl
  | r :: l => by
    have e : ∀ r : List Int, D.py.pys (dI r) = some (r.map PyData.int) := fun r => by
      induction r with
      | nil => rfl
      | cons c r ih => rw [dI_cons, D.py.pys, ih]; rfl
    rw [List.map_cons, D.py.pys, pys_pairs l]
    simp only [D.py, D.py.pys, e, Option.map_some]
    rfl
theorem sok__law_with_row : SpecOk Gm d__law_with_row := by
  rintro ds S R Q ⟨w, lot, r, rfl, hw, hI, hB, hr, br, q⟩
  refine ⟨rfl, ?_⟩
  show wpB Gm b__law_with_row _ _ [some (Lt lot), some (P r), none, none, none, none] S
  unfold b__law_with_row
  have hl := rst_len' hI hr
  have hb := rst_bd' hw hI hB hr br
  have hll := hI.len
  walk_at "wpc"
  refine forL_ind (fun rest ρ S' => ∃ (m : List (List Int)) (v : List Int) (x : Option D), rest = m.map P ∧ ρ = [some (Lt lot), some (P v), x, none, none, none] ∧ S' = S ∧ Clr w lot r m v) ?_ ?_ _ _ _ ⟨lot, r, none, rfl, rfl, rfl, clr_init hr br⟩
  · rintro ρ S' ⟨m, v, x, e, rfl, rfl, h⟩
    obtain rfl := map_nil' e.symm
    refine ⟨trivial, ?_⟩
    have hv : v = rst lot r := h.2.2.1
    subst hv
    walk_at "wpc"
    refine ⟨_, rfl, by omega, ?_⟩
    walk_at "wpx"
    by_cases e : ld (rst lot r) = (rst lot r).length
    · have e2 : decide (((ld (rst lot r) : Nat) : Int) = ((dI (rst lot r)).length : Nat)) = true := decide_eq_true (by rw [dI_len]; omega)
      rw [e2]
      walk_at "wpx"
      walk_at "wpc"
      have : wrow lot r = lot := by unfold wrow; rw [if_pos (by omega)]
      rw [this] at q
      exact rtq q
    · have lv : ld (rst lot r) < w := by have := ld_le (rst lot r); omega
      have e2 : decide (((ld (rst lot r) : Nat) : Int) = ((dI (rst lot r)).length : Nat)) = false := decide_eq_false (by rw [dI_len]; omega)
      rw [e2]
      walk_at "wpx"
      rw [wpB]
      walk_at "wpc"
      refine ⟨_, rfl, by omega, hb.mono (by decide), ?_⟩
      walk_at "wpc"
      refine compL_mapG P (fun o => P (lwr (les o (lwr (rst lot r))))) trivial lot [] (fun o ho N hN => ?_) ?_
      · obtain ⟨o1, o2, o3⟩ := hI.1 o ho
        walk_at "wpx"
        refine ⟨o, _, rfl, by rw [o1, lwr_len, hl], by rw [lwr_ld, lwr_len]; omega, by rw [lwr_len]; omega, (hB o ho).mono (by decide), lwr_bd hb, ?_⟩
        refine ⟨_, rfl, by rw [les_len (by rw [o1, lwr_len, hl])]; omega, ?_, hN⟩
        exact (les_bd (by rw [o1, lwr_len, hl]) (hB o ho) (lwr_bd hb)).mono (by decide)
      · try walk_at "wpx"
        have ew : (lot.map fun o => P (lwr (les o (lwr (rst lot r))))) ++ [P (lwr (rst lot r))] = (wnew lot (rst lot r)).map P := by unfold wnew; rw [List.map_append, List.map_map]; rfl
        rw [List.nil_append, ew]
        have lw : (wnew lot (rst lot r)).length = lot.length + 1 := by unfold wnew; simp
        refine ⟨by decide, by rw [List.length_map, sizeLine_eq]; simp; omega, ?_⟩
        obtain ⟨a1, a2⟩ := wnew_all hI hl lv (rst_lot hI hr).2.1
        walk_at "wpc"
        refine compL_mapG P (fun r => D.tup [.int (ld r : Nat), P r]) trivial (wnew lot (rst lot r)) [] (fun u hu N hN => ?_) ?_
        · obtain ⟨u1, u2⟩ := a1 u hu
          walk_at "wpx"
          exact ⟨_, rfl, by omega, by decide, hN⟩
        · try walk_at "wpx"
          rw [List.nil_append]
          refine ⟨(wnew lot (rst lot r)).map fun r => ((ld r : Nat) : Int), _, by rw [List.length_map, List.length_map], a2, pys_pairs _, ?_, ?_, ?_, ?_⟩
          · exact PySem.W.AllAlike.of fun a b => by simp [PySem.W.alike, PySem.W.alikeAll, PySem.W.alike_ints]
          · intro p hp
            obtain ⟨u, _, rfl⟩ := List.mem_map.mp hp
            simp [PyData.depth, PyData.depthAll, PySem.W.depth_ints]
          · intro i d k hi hk
            rw [List.getElem?_map] at hi hk
            cases h : (wnew lot (rst lot r))[i]? with
            | none => rw [h] at hi; cases hi
            | some u =>
              rw [h] at hi hk
              cases hi; cases hk
              exact ⟨_, rfl⟩
          · rw [byKeys_sort]
            try walk_at "wpx"
            refine compL_mapG (fun r => D.tup [.int (ld r : Nat), P r]) P trivial (sortR (wnew lot (rst lot r))) [] (fun u hu N hN => ?_) ?_
            · walk_at "wpx"
              exact hN
            · try walk_at "wpx"
              have : wrow lot r = sortR (wnew lot (rst lot r)) := by unfold wrow; rw [if_neg (by omega)]
              rw [this] at q
              rw [List.nil_append]
              exact rtq q
  · rintro d rest ρ S' N ⟨m, v, x, e, rfl, rfl, h⟩ hN
    cases m with
    | nil => cases e
    | cons o m =>
      cases e
      refine ⟨trivial, ?_⟩
      have ho := h.1 o List.mem_cons_self
      obtain ⟨o1, o2, o3⟩ := hI.1 o ho
      walk_at "wpc"
      refine ⟨v, o, rfl, by rw [h.2.2.2.1, o1], by omega, by omega, clr_bd hw hI h, (hB o ho).mono (by decide), ?_⟩
      dsimp only
      rw [wpB]
      exact hN _ _ ⟨m, _, some (P o), rfl, rfl, rfl, clr_next hI hB h⟩

theorem all_dI : ∀ {xs : List D}, xs.all isI = true → ∃ p, xs = dI p
  | [], _ => ⟨[], rfl⟩
  | x :: xs, h => by
    rw [List.all_cons, Bool.and_eq_true] at h
    obtain ⟨p, rfl⟩ := all_dI h.2
    cases x <;> first | exact ⟨_ :: p, rfl⟩ | cases h.1
theorem dI_all (p : List Int) : (dI p).all isI = true := by
  induction p with
  | nil => rfl
  | cons c p ih => rw [dI_cons, List.all_cons, ih]; rfl
theorem dI_inj {p q : List Int} (h : dI p = dI q) : p = q := (List.map_inj_right fun _ _ => D.int.inj).mp h
theorem P_inj {p q : List Int} (h : P p = P q) : p = q := dI_inj (D.tup.inj h)
theorem mapP_inj {p q : List (List Int)} (h : p.map P = q.map P) : p = q := (List.map_inj_right fun _ _ => P_inj).mp h
theorem Lt_inj {p q : List (List Int)} (h : Lt p = Lt q) : p = q := mapP_inj (D.tup.inj h)
theorem ty2_P (p : List Int) : Ty2 (P p) := ⟨⟨_, rfl⟩, fun xs e x hx => by cases e; obtain ⟨c, _, rfl⟩ := List.mem_map.mp hx; exact ⟨_, rfl⟩⟩
theorem ty3_Lt (l : List (List Int)) : Ty3 (Lt l) := ⟨⟨_, rfl⟩, fun xs e x hx => by cases e; obtain ⟨c, _, rfl⟩ := List.mem_map.mp hx; exact ty2_P c⟩
/-- whether a value is a row of a width -/
def rowB (w : Nat) : D → Bool
  | .tup xs => decide (xs.length = w) && xs.all isI
  | _ => false
theorem rowB_iff {w : Nat} {v : D} : rowB w v = true ↔ ∃ r, v = P r ∧ r.length = w := by
  constructor
  · intro h
    cases v <;> try cases h
    rename_i xs
    obtain ⟨h1, h2⟩ := Bool.and_eq_true_iff.mp h
    obtain ⟨p, rfl⟩ := all_dI h2
    have := of_decide_eq_true h1
    exact ⟨p, rfl, by rw [← this, dI_len]⟩
  · rintro ⟨r, rfl, h⟩
    show (decide ((dI r).length = w) && (dI r).all isI) = true
    rw [dI_all, dI_len, h]; simp
theorem rowB_of {w : Nat} {v : D} {b : Bool} (h : b = true ↔ ∃ r, v = P r ∧ r.length = w) : b = rowB w v := by
  have := h.trans rowB_iff.symm
  cases b <;> cases hh : rowB w v <;> simp_all
/-- rows, all of them -/
theorem all_rows {w : Nat} : ∀ {xs : List D}, xs.all (rowB w) = true → ∃ lot : List (List Int), xs = lot.map P ∧ ∀ r ∈ lot, r.length = w
  | [], _ => ⟨[], rfl, fun _ h => nomatch h⟩
  | x :: xs, h => by
    rw [List.all_cons, Bool.and_eq_true] at h
    obtain ⟨lot, rfl, hl⟩ := all_rows h.2
    obtain ⟨r, rfl, hr⟩ := rowB_iff.mp h.1
    refine ⟨r :: lot, rfl, fun s hs => ?_⟩
    rcases List.mem_cons.mp hs with e | e
    · rw [e]; exact hr
    · exact hl s e
theorem rows_all {w : Nat} {lot : List (List Int)} (h : ∀ r ∈ lot, r.length = w) : (lot.map P).all (rowB w) = true := List.all_eq_true.mpr fun x hx => by
  obtain ⟨r, hr, rfl⟩ := List.mem_map.mp hx
  exact rowB_iff.mpr ⟨r, rfl, h r hr⟩
theorem sok_is_plain_row : SpecOk Gm d_is_plain_row := by
  rintro ds S R Q ⟨v, w, rfl, ⟨⟨t, ht⟩, hx⟩, q⟩
  refine ⟨rfl, ?_⟩
  show wpB Gm b_is_plain_row _ _ [some (.int w), some v, none] S
  unfold b_is_plain_row
  have qq : RtQ Q (.bl (rowB w v)) S := rtq (q _ rowB_iff)
  walk_at "wpc"
  rw [res_ty ht]
  refine ⟨t, ht, by decide, ?_⟩
  cases v with
  | tup xs =>
    cases ht
    have e1 : isiB "tuple" "tuple" = true := rfl
    rw [e1]
    walk_at "wpx"
    by_cases hl : xs.length = w
    · have e2 : decide ((xs.length : Int) = w) = true := decide_eq_true (by omega)
      rw [e2]
      walk_at "wpx"
      refine compL_map (fun d => .bl (isI d)) trivial xs [] (fun d hd N hN => ?_) ?_
      · walk_at "wpx"
        exact ⟨d, rfl, hx xs rfl d hd, hN⟩
      · refine ⟨xs.map isI, by rw [List.nil_append, List.map_map]; rfl, ?_⟩
        have ea : (xs.map isI).all id = rowB w (.tup xs) := by
          show _ = (decide (xs.length = w) && xs.all isI)
          rw [List.all_map, hl]; simp
        rw [ea]; exact qq
    · have e2 : decide ((xs.length : Int) = w) = false := decide_eq_false (by omega)
      rw [e2]
      walk_at "wpx"
      have ea : rowB w (.tup xs) = false := by show (decide (xs.length = w) && xs.all isI) = false; rw [decide_eq_false hl]; rfl
      rw [ea] at qq; exact qq
  | _ => cases ht <;> exact qq
theorem sok_require_row : SpecOk Gm d_require_row := by
  rintro ds S R Q ⟨w, r, rfl, hr, q⟩
  refine ⟨rfl, ?_⟩
  show wpB Gm b_require_row _ _ [some (.int w), some (P r)] S
  unfold b_require_row
  walk_at "wpc"
  refine ⟨_, w, rfl, ty2_P r, fun b hb => ?_⟩
  have : b = true := hb.mpr ⟨r, rfl, hr⟩
  subst this
  walk_at "wpx"
  rw [wpB]
  try dsimp only
  rw [wpB]
  exact rtq q
theorem sok_require_rows : SpecOk Gm d_require_rows := by
  rintro ds S R Q ⟨w, rows, rfl, hr, q⟩
  refine ⟨rfl, ?_⟩
  show wpB Gm b_require_rows _ _ [some (.int w), some (Lt rows), none] S
  unfold b_require_rows
  walk_at "wpc"
  refine ⟨"tuple", rfl, by decide, ?_⟩
  have e1 : isiB "tuple" "tuple" = true := rfl
  rw [e1]
  walk_at "wpx"
  refine compL_mapG P (fun r => .bl (rowB w (P r))) trivial rows [] (fun r hr' N hN => ?_) ?_
  · walk_at "wpx"
    exact ⟨_, w, rfl, ty2_P r, fun b hb => by rw [rowB_of hb]; exact hN⟩
  · refine ⟨rows.map fun r => rowB w (P r), by rw [List.nil_append, List.map_map]; rfl, ?_⟩
    have ea : (rows.map fun r => rowB w (P r)).all id = true := List.all_eq_true.mpr fun b hb => by
      obtain ⟨r, hr', rfl⟩ := List.mem_map.mp hb
      exact rowB_iff.mpr ⟨r, rfl, hr r hr'⟩
    rw [ea]
    walk_at "wpx"
    rw [wpB]
    try dsimp only
    rw [wpB]
    exact rtq q
theorem sok_require_lot : SpecOk Gm d_require_lot := by
  rintro ds S R Q ⟨w, lot, rfl, hw, hI, q⟩
  refine ⟨rfl, ?_⟩
  show wpB Gm b_require_lot _ _ [some (.int w), some (Lt lot)] S
  unfold b_require_lot
  walk_at "wpc"
  refine ⟨_, w, rfl, hw, ty3_Lt lot, fun b hb => ?_⟩
  have : b = true := hb.mpr ⟨lot, rfl, hI⟩
  subst this
  walk_at "wpx"
  rw [wpB]
  try dsimp only
  rw [wpB]
  exact rtq q
/-- what holds while a lot grows -/
theorem tame_at {w : Nat} {rows m : List (List Int)} {o : List Int} {n : Nat} (h : Tame w rows) (e : rows.drop n = o :: m) : o.length = w ∧ BdP 3000000 o ∧ IsLot w (lotf (rows.take n)) ∧ B3 (lotf (rows.take n)) ∧ lotf (rows.take (n + 1)) = wrow (lotf (rows.take n)) o ∧ rows.drop (n + 1) = m := by
  have ho : o ∈ rows := List.mem_of_mem_drop (i := n) (by rw [e]; exact List.mem_cons_self)
  obtain ⟨h1, h2, h3⟩ := h
  have hn : rows[n]? = some o := by
    have := congrArg List.head? e
    rw [List.head?_drop] at this; exact this
  refine ⟨(h2 o ho).1, (h2 o ho).2, (lotf_ok _ fun r hr => (h2 r (List.mem_of_mem_take hr)).1).1, h3 n, ?_, ?_⟩
  · rw [List.take_add_one, hn]
    show lotf (rows.take n ++ [o]) = _
    rw [lotf_snoc]
  · have := congrArg List.tail e
    rw [List.tail_drop] at this; exact this
theorem drop_nil {rows : List (List Int)} {n : Nat} (e : rows.drop n = []) : rows.take n = rows := List.take_of_length_le (List.drop_eq_nil_iff.mp e)
theorem sok_lot_in : SpecOk Gm d_lot_in := by
  rintro ds S R Q ⟨w, v, rows, rfl, hv, hT, q⟩
  refine ⟨rfl, ?_⟩
  show wpB Gm b_lot_in _ _ [some v, none, none] S
  unfold b_lot_in
  walk_at "wpc"
  refine ⟨by decide, ?_⟩
  have loop : ∀ C : Sto → Prop, C S → forL (fun d ρ S K => K (setV ρ 2 d) S) (fun E' ρ S => wpB Gm (.cons (.asg (.nm 1) (.call F.with_row (.cons (.var 1) (.cons (.var 2) .nil)))) .nil) E' (fun k x _ S => RtQ (R k) x S) ρ S) C
      { nx := wpB Gm (.cons (.ret (.var 1)) .nil) { nx := fun _ S => RtQ Q .non S, rt := RtQ Q } fun k x _ S => RtQ (R k) x S, rt := RtQ Q } (rows.map P) [some v, some (Lt []), none] S := fun C hC => by
    refine forL_ind (fun rest ρ S' => ∃ (n : Nat) (x : Option D), rest = (rows.drop n).map P ∧ ρ = [some v, some (Lt (lotf (rows.take n))), x] ∧ S' = S) ?_ ?_ _ _ _ ⟨0, none, rfl, rfl, rfl⟩
    · rintro ρ S' ⟨n, x, e, rfl, rfl⟩
      have en := drop_nil (map_nil' e.symm)
      rw [en]
      refine ⟨hC, ?_⟩
      walk_at "wpc"
      exact rtq q
    · rintro d rest ρ S' N ⟨n, x, e, rfl, rfl⟩ hN
      cases hm : rows.drop n with
      | nil => rw [hm] at e; cases e
      | cons o m =>
        rw [hm] at e
        cases e
        obtain ⟨h1, h2, h3, h4, h5, h6⟩ := tame_at hT hm
        refine ⟨hC, ?_⟩
        walk_at "wpc"
        refine ⟨w, _, o, rfl, hT.1, h3, h4, h1, h2, ?_⟩
        dsimp only
        rw [wpB, ← h5]
        exact hN _ _ ⟨n + 1, some (P o), by rw [h6], rfl, rfl⟩
  rcases hv with e | e
  · have ev : v = .tup (rows.map P) := by
      cases v <;> first | exact e | (rename_i a; unfold res at e; dsimp only at e; split at e <;> cases e)
    subst ev
    walk_at "wpc"
    exact loop _ trivial
  · cases v <;> first | (cases e <;> (walk_at "wpc"; exact loop _ trivial)) | skip
    rename_i a
    have hS : S a = some (.lst (rows.map P)) := by
      unfold res at e
      dsimp only at e
      split at e
      · rename_i ds hd
        cases e
        exact hd
      · cases e
    rw [wpB]
    simp only [wpS, wpI, wpE, wpG, getV, seqD_of hS]
    exact loop _ hS
theorem sok__law_lot : SpecOk Gm d__law_lot := sok_lot_in

theorem it_rows (l : List (List Int)) : IT 2 (.tup (l.map P)) := fun d hd => by obtain ⟨c, _, rfl⟩ := List.mem_map.mp hd; exact it_t c
/-- some other row has an int at a place -/
def badR (n idx : Nat) : Nat → List (List Int) → Bool
  | _, [] => false
  | k, s :: m => (decide (k ≠ n) && !decide (cf s idx = 0)) || badR n idx (k + 1) m
theorem badR_iff {n idx : Nat} : ∀ (k : Nat) (m : List (List Int)), badR n idx k m = true ↔ ∃ i s, m[i]? = some s ∧ k + i ≠ n ∧ cf s idx ≠ 0
  | k, [] => by simp [badR]
  | k, s :: m => by
    rw [badR, Bool.or_eq_true, badR_iff (k + 1) m, Bool.and_eq_true]
    constructor
    · rintro (⟨h1, h2⟩ | ⟨i, s', h1, h2, h3⟩)
      · exact ⟨0, s, rfl, by simpa using h1, by simpa using h2⟩
      · exact ⟨i + 1, s', h1, by omega, h3⟩
    · rintro ⟨i, s', h1, h2, h3⟩
      cases i with
      | zero =>
        cases h1
        exact .inl ⟨by simpa using h2, by simpa using h3⟩
      | succ i => exact .inr ⟨i, s', h1, by omega, h3⟩
/-- so far so good -/
def Good (w : Nat) (lot : List (List Int)) (n : Nat) (a : Int) : Prop :=
  n ≤ lot.length ∧ (∀ i r, i < n → lot[i]? = some r → ld r < w ∧ lwr r = r ∧ (ld r : Int) ≤ a ∧ ∀ j s, lot[j]? = some s → j ≠ i → cf s (ld r) = 0) ∧ (∀ i j r s, i < j → j < n → lot[i]? = some r → lot[j]? = some s → ld r < ld s) ∧ ((n = 0 ∧ a = -1) ∨ ∃ i r, i + 1 = n ∧ lot[i]? = some r ∧ a = ld r)
theorem good_all {w : Nat} {lot : List (List Int)} {a : Int} (hw : ∀ r ∈ lot, r.length = w) (h : Good w lot lot.length a) : IsLot w lot := by
  obtain ⟨_, h2, h3, _⟩ := h
  refine ⟨fun r hr => ?_, List.pairwise_iff_getElem.mpr fun i j hi hj ij => ?_⟩
  · obtain ⟨i, hi, e⟩ := List.mem_iff_getElem.mp hr
    have := h2 i r hi (by rw [List.getElem?_eq_getElem hi, e])
    exact ⟨hw r hr, this.1, this.2.1⟩
  · refine ⟨h3 i j _ _ ij hj (List.getElem?_eq_getElem hi) (List.getElem?_eq_getElem hj), ?_⟩
    exact (h2 j _ hj (List.getElem?_eq_getElem hj)).2.2.2 i _ (List.getElem?_eq_getElem hi) (by omega)
theorem lot_at {w : Nat} {lot : List (List Int)} (h : IsLot w lot) {i j : Nat} {r s : List Int} (hi : lot[i]? = some r) (hj : lot[j]? = some s) (ij : i < j) : ld r < ld s := by
  obtain ⟨a, rfl⟩ := List.getElem?_eq_some_iff.mp hi
  obtain ⟨b, rfl⟩ := List.getElem?_eq_some_iff.mp hj
  exact (List.pairwise_iff_getElem.mp h.2 i j a b ij).1
theorem lot_off {w : Nat} {lot : List (List Int)} (h : IsLot w lot) {i j : Nat} {r s : List Int} (hi : lot[i]? = some r) (hj : lot[j]? = some s) (ij : j ≠ i) : cf s (ld r) = 0 := by
  refine (h.apart (List.mem_of_getElem? hj) (List.mem_of_getElem? hi) fun e => ?_).2
  rcases Nat.lt_or_gt_of_ne ij with q | q
  · have := lot_at h hj hi q; rw [e] at this; omega
  · have := lot_at h hi hj q; rw [e] at this; omega
theorem good_next {w : Nat} {lot : List (List Int)} {n : Nat} {a : Int} {r : List Int} (h : Good w lot n a) (hr : lot[n]? = some r) (h1 : ld r < w) (h2 : a < ld r) (h3 : lwr r = r) (h4 : badR n (ld r) 0 lot = false) : Good w lot (n + 1) (ld r) := by
  obtain ⟨g0, g1, g2, g3⟩ := h
  obtain ⟨hn, _⟩ := List.getElem?_eq_some_iff.mp hr
  refine ⟨hn, fun i s hi hs => ?_, fun i j s t ij hj hs ht => ?_, .inr ⟨n, r, rfl, hr, rfl⟩⟩
  · rcases Nat.lt_or_ge i n with q | q
    · obtain ⟨a1, a2, a3, a4⟩ := g1 i s q hs
      exact ⟨a1, a2, by omega, a4⟩
    · have e : i = n := by omega
      subst e
      obtain rfl : r = s := Option.some.inj (hr.symm.trans hs)
      refine ⟨h1, h3, by omega, fun j t ht ne => Classical.byContradiction fun z => ?_⟩
      have := (badR_iff (n := i) (idx := ld r) 0 lot).mpr ⟨j, t, ht, by omega, z⟩
      rw [h4] at this; cases this
  · rcases Nat.lt_or_ge j n with q | q
    · exact g2 i j s t ij q hs ht
    · have e : j = n := by omega
      subst e
      cases hr.symm.trans ht
      have := (g1 i s (by omega) hs).2.2.1
      omega
theorem num_get {α : Type} : ∀ (n : Nat) (l : List α), (num n l).length = l.length
  | _, [] => rfl
  | n, a :: l => by rw [num_cons, List.length_cons, num_get (n + 1) l, List.length_cons]
theorem drop_at {α : Type} {l m : List α} {a : α} {n : Nat} (h : l.drop n = a :: m) : l[n]? = some a ∧ l.drop (n + 1) = m := by
  refine ⟨?_, ?_⟩
  · have := congrArg List.head? h
    rw [List.head?_drop] at this; exact this
  · have := congrArg List.tail h
    rw [List.tail_drop] at this; exact this
theorem sok_is_plain_lot : SpecOk Gm d_is_plain_lot := by
  rintro ds S R Q ⟨v, w, rfl, hw, ⟨⟨t, ht⟩, hx⟩, q⟩
  refine ⟨rfl, ?_⟩
  show wpB Gm b_is_plain_lot _ _ [some (.int w), some v, none, none, none, none, none, none] S
  unfold b_is_plain_lot
  have no : (¬ ∃ lot, v = Lt lot ∧ IsLot w lot) → RtQ Q (.bl false) S := fun h => rtq (q _ ⟨fun z => (nomatch z), fun z => absurd z h⟩)
  walk_at "wpc"
  rw [res_ty ht]
  refine ⟨t, ht, by decide, ?_⟩
  have other : isiB t "tuple" = false → wpB Gm (.cons (.ret (.cst (.bl false))) .nil) { nx := wpB Gm (dropB 1 b_is_plain_lot) { nx := fun _ S => RtQ Q .non S, rt := RtQ Q } fun k x _ S => RtQ (R k) x S, rt := RtQ Q } (fun k x _ S => RtQ (R k) x S) [some (.int w), some v, none, none, none, none, none, none] S := fun hb => by
    walk_at "wpc"
    exact no fun ⟨lot, e, _⟩ => by cases e; cases ht; exact absurd hb (by decide)
  cases v with
  | tup xs =>
    cases ht
    have e1 : isiB "tuple" "tuple" = true := rfl
    rw [e1]
    walk_at "wpx"
    refine compL_map (fun d => .bl (rowB w d)) trivial xs [] (fun d hd N hN => ?_) ?_
    · walk_at "wpx"
      exact ⟨d, w, rfl, hx xs rfl d hd, fun b hb => by rw [rowB_of hb]; exact hN⟩
    refine ⟨xs.map (rowB w), by rw [List.nil_append, List.map_map]; rfl, ?_⟩
    have ea : (xs.map (rowB w)).all id = xs.all (rowB w) := by rw [List.all_map]; simp
    rw [ea]
    by_cases hall : xs.all (rowB w) = true
    · rw [hall]
      walk_at "wpx"
      rw [wpB]
      walk_at "wpc"
      obtain ⟨lot, rfl, hl⟩ := all_rows hall
      have no' : (¬ IsLot w lot) → RtQ Q (.bl false) S := fun h => no fun ⟨l, e, hI⟩ => h (Lt_inj e ▸ hI)
      walk_at "wpc"
      rw [enumD_map]
      refine forL_ind (fun rest ρ S' => ∃ (n : Nat) (a : Int) (x y z : Option D) (u u2 : Option D), rest = (num n (lot.drop n)).map (fun x => D.tup [.int x.1, P x.2]) ∧ ρ = [some (.int w), some (Lt lot), x, some (.int a), y, z, u, u2] ∧ S' = S ∧ Good w lot n a) ?_ ?_ _ _ _
        ⟨0, -1, none, none, none, none, none, rfl, rfl, rfl, Nat.zero_le _, fun i r hi => by omega, fun i j r s _ hj => by omega, .inl ⟨rfl, rfl⟩⟩
      · rintro ρ S' ⟨n, a, x, y, z, u, u2, e, rfl, rfl, g⟩
        have hn : n = lot.length := by
          have := congrArg List.length e
          rw [List.length_map, num_get, List.length_drop] at this
          have := g.1
          simp at *; omega
        subst hn
        refine ⟨trivial, ?_⟩
        walk_at "wpc"
        exact rtq (q _ ⟨fun _ => ⟨lot, rfl, good_all hl g⟩, fun _ => rfl⟩)
      · rintro d rest ρ S' N ⟨n, a, x, y, z, u, u2, e, rfl, rfl, g⟩ hN
        cases hm : lot.drop n with
        | nil => rw [hm] at e; cases e
        | cons r m =>
          rw [hm] at e
          cases e
          obtain ⟨hr, hdr⟩ := drop_at hm
          have rl := hl r (List.mem_of_getElem? hr)
          refine ⟨trivial, ?_⟩
          walk_at "wpc"
          refine ⟨r, rfl, by omega, ?_⟩
          by_cases c1 : ld r = r.length
          · rw [ldD_full c1]
            walk_at "wpc"
            walk_at "wpc"
            exact no' fun hI => by have := (hI.1 r (List.mem_of_getElem? hr)).2.1; omega
          · have l1 : ld r < r.length := by have := ld_le r; omega
            rw [ldD_lt l1]
            walk_at "wpc"
            by_cases c2 : ((ld r : Nat) : Int) ≤ a
            · rw [decide_eq_true c2]
              walk_at "wpx"
              walk_at "wpc"
              refine no' fun hI => ?_
              obtain ⟨_, _, _, g3⟩ := g
              rcases g3 with ⟨_, e⟩ | ⟨i, s, hi, hs, e⟩
              · omega
              · have := lot_at hI hs hr (by omega); omega
            · rw [decide_eq_false c2]
              walk_at "wpx"
              refine ⟨r, rfl, by omega, ?_⟩
              refine eqD_it (n := 1) (m := 1) (it_t _) (it_t _) (by decide) (by decide) (fun z1 => ?_) (fun z1 => ?_)
              · have c3 : lwr r = r := P_inj z1
                walk_at "wpx"
                rw [wpB]
                walk_at "wpc"
                rw [enumD_map]
                refine compL_ind (fun rest S2 acc => S2 = S' ∧ ∃ (k : Nat) (l : List Bool), rest = (num k (lot.drop k)).map (fun x => D.tup [.int x.1, P x.2]) ∧ acc = l.map D.bl ∧ (l.any id || badR n (ld r) k (lot.drop k)) = badR n (ld r) 0 lot) ?_ ?_ _ _ _ ⟨rfl, 0, [], rfl, rfl, by simp⟩
                · rintro S' acc ⟨rfl, k, l, e, rfl, hb⟩
                  refine ⟨trivial, ?_⟩
                  have hk : lot.drop k = [] := by
                    cases hk : lot.drop k with
                    | nil => rfl
                    | cons s m => rw [hk] at e; cases e
                  rw [hk] at hb
                  have hb : l.any id = badR n (ld r) 0 lot := by rw [← hb]; simp [badR]
                  try walk_at "wpx"
                  refine ⟨l, rfl, ?_⟩
                  rw [hb]
                  cases hbb : badR n (ld r) 0 lot with
                  | true =>
                    simp only [if_true]
                    walk_at "wpc"
                    refine no' fun hI => ?_
                    obtain ⟨i, s, h1, h2, h3⟩ := (badR_iff 0 lot).mp hbb
                    exact h3 (lot_off hI hr h1 (by omega))
                  | false =>
                    simp only [Bool.false_eq_true, if_false]
                    rw [wpB]
                    walk_at "wpc"
                    rw [wpB]
                    exact hN _ _ ⟨n + 1, ld r, _, _, _, _, _, by rw [hdr], rfl, rfl, good_next g hr (by omega) (by omega) c3 hbb⟩
                · rintro d rest S' acc N' ⟨rfl, k, l, e, rfl, hb⟩ hN'
                  cases hk : lot.drop k with
                  | nil => rw [hk] at e; cases e
                  | cons s m =>
                    rw [hk] at e hb
                    cases e
                    obtain ⟨hs, hds⟩ := drop_at hk
                    have sl := hl s (List.mem_of_getElem? hs)
                    refine ⟨trivial, ?_⟩
                    walk_at "wpx"
                    rw [badR] at hb
                    by_cases ek : (k : Int) = n
                    · rw [decide_eq_true ek]
                      walk_at "wpx"
                      have : decide (k ≠ n) = false := decide_eq_false fun z => z (by omega)
                      rw [this] at hb
                      exact hN' _ _ ⟨rfl, k + 1, l, by rw [hds], rfl, by rw [hds]; simpa using hb⟩
                    · rw [decide_eq_false ek]
                      walk_at "wpx"
                      refine ⟨_, dI_at (p := s) (i := ld r) (by omega), ?_⟩
                      walk_at "wpx"
                      have : decide (k ≠ n) = true := decide_eq_true fun z => ek (by omega)
                      rw [this] at hb
                      exact hN' _ _ ⟨rfl, k + 1, l ++ [!decide (cf s (ld r) = 0)], by rw [hds], by simp, by rw [hds, List.any_append]; simpa [Bool.or_assoc] using hb⟩
              · walk_at "wpx"
                walk_at "wpc"
                exact no' fun hI => z1 (by show P (lwr r) = P r; rw [(hI.1 r (List.mem_of_getElem? hr)).2.2])
    · have hall' : xs.all (rowB w) = false := by simpa using hall
      rw [hall']
      walk_at "wpx"
      walk_at "wpc"
      exact no fun ⟨lot, e, hI⟩ => hall (by cases e; exact rows_all fun r hr => (hI.1 r hr).1)
  | _ => cases ht <;> exact other rfl

theorem rep_one (k : Nat) : dI (List.replicate k 1) ++ [D.int 1] = dI (List.replicate (k + 1) 1) := by
  simp [dI, List.replicate_succ']
theorem rep_nil {k : Nat} (h : dI (List.replicate k 1) = []) : k = 0 := by
  have := congrArg List.length h
  simpa using this
theorem sok__law_is_row : SpecOk Gm d__law_is_row := by
  rintro ds S R Q ⟨v, w, rfl, ⟨⟨t, ht⟩, hx⟩, q⟩
  refine ⟨rfl, ?_⟩
  show wpB Gm b__law_is_row _ _ [some v, some (.int w), none] S
  unfold b__law_is_row
  have qq : RtQ Q (.bl (rowB w v)) S := rtq (q _ rowB_iff)
  have other : rowB w v = false → wpB Gm (.cons (.ret (.cst (.bl false))) .nil) { nx := wpB Gm (dropB 1 b__law_is_row) { nx := fun _ S => RtQ Q .non S, rt := RtQ Q } fun k x _ S => RtQ (R k) x S, rt := RtQ Q } (fun k x _ S => RtQ (R k) x S) [some v, some (.int w), none] S := fun hb => by
    walk_at "wpc"
    rw [hb] at qq
    exact qq
  walk_at "wpc"
  rw [res_ty ht]
  refine ⟨t, ht, by decide, ?_⟩
  cases v with
  | tup xs =>
    cases ht
    have e1 : isiB "tuple" "tuple" = true := rfl
    rw [e1]
    walk_at "wpx"
    by_cases hl : xs.length = w
    · have e2 : decide ((xs.length : Int) = w) = true := decide_eq_true (by omega)
      rw [e2]
      walk_at "wpx"
      rw [wpB]
      walk_at "wpc"
      refine compL_ind (fun rest S2 acc => S2 = S ∧ ∃ k, acc = dI (List.replicate k 1) ∧ ((k = 0 ∧ rest.all isI = true) ↔ xs.all isI = true) ∧ ∀ d ∈ rest, d ∈ xs) ?_ ?_ xs S [] ⟨rfl, 0, rfl, by simp, fun d hd => hd⟩
      · rintro S2 acc ⟨rfl, k, rfl, hk, _⟩
        refine ⟨trivial, by decide, ?_⟩
        refine eqD_it (n := 1) (m := 1) (it_l _) (fun _ h => nomatch h) (by decide) (by decide) (fun z => ?_) (fun z => ?_)
        · have k0 : k = 0 := rep_nil (D.lst.inj z)
          have hall := hk.mp ⟨k0, rfl⟩
          have : rowB w (.tup xs) = true := by show (decide (xs.length = w) && xs.all isI) = true; rw [hall, decide_eq_true hl]; rfl
          rw [this] at qq; exact qq
        · have k0 : k ≠ 0 := fun e => z (by rw [e]; rfl)
          have hall : xs.all isI = false := by
            cases hh : xs.all isI with
            | false => rfl
            | true => exact absurd (hk.mpr hh).1 k0
          have : rowB w (.tup xs) = false := by show (decide (xs.length = w) && xs.all isI) = false; rw [hall, Bool.and_false]
          rw [this] at qq; exact qq
      · rintro d rest S2 acc N ⟨rfl, k, rfl, hk, hr⟩ hN
        refine ⟨trivial, ?_⟩
        walk_at "wpx"
        refine ⟨d, rfl, hx xs rfl d (hr d List.mem_cons_self), ?_⟩
        rw [List.all_cons] at hk
        cases hd : isI d with
        | true =>
          rw [hd, Bool.true_and] at hk
          simp only [Bool.not_true, Bool.false_eq_true, if_false]
          exact hN _ _ ⟨rfl, k, rfl, hk, fun d hd => hr d (List.mem_cons_of_mem _ hd)⟩
        | false =>
          rw [hd] at hk
          simp only [Bool.not_false, if_true]
          refine hN _ _ ⟨rfl, k + 1, rep_one k, ?_, fun d hd => hr d (List.mem_cons_of_mem _ hd)⟩
          constructor
          · intro z; omega
          · intro z; have := (hk.mpr z).2; simp at this
    · have e2 : decide ((xs.length : Int) = w) = false := decide_eq_false (by omega)
      rw [e2]
      walk_at "wpx"
      exact other (by show (decide (xs.length = w) && xs.all isI) = false; rw [decide_eq_false hl]; rfl)
  | _ => cases ht <;> exact other rfl
theorem sok_is_row : SpecOk Gm d_is_row := by
  rintro ds S R Q ⟨v, w, rfl, h1, h2, hv, q⟩
  refine ⟨rfl, ?_⟩
  show wpB Gm b_is_row _ _ [some (.int w), some v] S
  unfold b_is_row
  walk_at "wpc"
  refine ⟨w, rfl, h1, h2, ?_⟩
  walk_at "wpc"
  exact ⟨v, w, rfl, hv, fun b hb => rtq (q b hb)⟩
theorem sok_is_lot : SpecOk Gm d_is_lot := by
  rintro ds S R Q ⟨v, w, rfl, h1, h2, hv, q⟩
  refine ⟨rfl, ?_⟩
  show wpB Gm b_is_lot _ _ [some (.int w), some v] S
  unfold b_is_lot
  walk_at "wpc"
  refine ⟨w, rfl, h1, h2, ?_⟩
  walk_at "wpc"
  exact ⟨v, w, rfl, h2, hv, fun b hb => rtq (q b hb)⟩
theorem sok_lowest : SpecOk Gm d_lowest := by
  rintro ds S R Q ⟨w, r, rfl, h1, h2, hr, q⟩
  refine ⟨rfl, ?_⟩
  show wpB Gm b_lowest _ _ [some (.int w), some (P r)] S
  unfold b_lowest
  walk_at "wpc"
  refine ⟨w, rfl, h1, h2, ?_⟩
  walk_at "wpc"
  refine ⟨w, r, rfl, hr, ?_⟩
  walk_at "wpc"
  exact ⟨r, rfl, by omega, rtq q⟩
theorem sok_lot_of : SpecOk Gm d_lot_of := by
  rintro ds S R Q ⟨w, rows, rfl, h1, hT, q⟩
  refine ⟨rfl, ?_⟩
  show wpB Gm b_lot_of _ _ [some (.int w), some (Lt rows)] S
  unfold b_lot_of
  have := hT.1
  walk_at "wpc"
  refine ⟨w, rfl, h1, by omega, ?_⟩
  walk_at "wpc"
  refine ⟨w, rows, rfl, fun r hr => (hT.2.1 r hr).1, ?_⟩
  walk_at "wpc"
  exact ⟨w, _, rows, rfl, .inl rfl, hT, rtq q⟩
theorem sok_rows_apart : SpecOk Gm d_rows_apart := by
  rintro ds S R Q ⟨w, lot, rfl, h1, h2, hI, hB, hT, q⟩
  refine ⟨rfl, ?_⟩
  show wpB Gm b_rows_apart _ _ [some (.int w), some (Lt lot)] S
  unfold b_rows_apart
  walk_at "wpc"
  refine ⟨w, rfl, h1, by omega, ?_⟩
  walk_at "wpc"
  refine ⟨w, lot, rfl, by omega, hI, ?_⟩
  walk_at "wpc"
  exact ⟨w, lot, rfl, h2, hI, hB, hT, rtq q⟩
theorem sok_holds : SpecOk Gm d_holds := by
  rintro ds S R Q ⟨w, lot, r, rfl, h1, h2, hI, hB, hr, br, q⟩
  refine ⟨rfl, ?_⟩
  show wpB Gm b_holds _ _ [some (.int w), some (Lt lot), some (P r)] S
  unfold b_holds
  walk_at "wpc"
  refine ⟨w, rfl, h1, by omega, ?_⟩
  walk_at "wpc"
  refine ⟨w, lot, rfl, by omega, hI, ?_⟩
  walk_at "wpc"
  refine ⟨w, r, rfl, hr, ?_⟩
  walk_at "wpc"
  exact ⟨w, lot, r, rfl, h2, hI, hB, hr, br, rtq q⟩
theorem zip_mul : ∀ (a b : List Int), ((a.zip b).map fun x => D.int (x.1 * x.2)) = dI (List.zipWith (· * ·) a b) := zip_with fun x y => x * y
theorem sok_dot : SpecOk Gm d_dot := by
  rintro ds S R Q ⟨a, b, rfl, ha, hb, q⟩
  refine ⟨rfl, ?_⟩
  show wpB Gm b_dot _ _ [some (P a), some (P b), none, none] S
  unfold b_dot
  walk_at "wpc"
  rw [zipD_map]
  refine compL_mapG (fun x : Int × Int => D.tup [D.int x.1, D.int x.2]) (fun x => D.int (x.1 * x.2)) trivial _ [] (fun x hx N hN => ?_) ?_
  · walk_at "wpx"
    exact ⟨mulOk (ha _ (List.of_mem_zip hx).1) (hb _ (List.of_mem_zip hx).2) (by decide) (by decide), hN⟩
  · try walk_at "wpx"
    rw [List.nil_append, zip_mul]
    exact ⟨_, rfl, rtq q⟩
theorem sok__law_dot : SpecOk Gm d__law_dot := sok_dot
theorem sok_product : SpecOk Gm d_product := by
  rintro ds S R Q ⟨w, a, b, rfl, h1, h2, la, lb, ha, hb, q⟩
  refine ⟨rfl, ?_⟩
  show wpB Gm b_product _ _ [some (.int w), some (P a), some (P b)] S
  unfold b_product
  walk_at "wpc"
  refine ⟨w, rfl, h1, h2, ?_⟩
  walk_at "wpc"
  refine ⟨w, a, rfl, la, ?_⟩
  walk_at "wpc"
  refine ⟨w, b, rfl, lb, ?_⟩
  walk_at "wpc"
  exact ⟨a, b, rfl, ha, hb, rtq q⟩

theorem pys_ints (L : List Int) : D.py.pys (dI L) = some (L.map PyData.int) := by
  induction L with
  | nil => rfl
  | cons c L ih => rw [dI_cons, D.py.pys, ih]; rfl
theorem any_ints (i : Int) (L : List Int) : ((L.map PyData.int).any fun z => PyData.eqv z (.int i)) = decide (i ∈ L) := by
  induction L with
  | nil => rfl
  | cons c L ih =>
    rw [List.map_cons, List.any_cons, ih]
    by_cases h : c = i
    · subst h; simp [PyData.eqv]
    · have : ¬ i = c := fun z => h z.symm
      simp [PyData.eqv, h, this]
theorem inD_ints {i : Int} {L : List Int} {k : Bool → Prop} (q : k (decide (i ∈ L))) : inD (.int i) (.lst (dI L)) k := by
  refine ⟨.int i, L.map PyData.int, rfl, pys_ints L, ?_, ?_, by rw [any_ints]; exact q⟩
  · show (PyData.canLay0 (.int i) && decide (PyData.depth (.int i) ≤ 64)) = true
    simp [PyData.canLay0, PyData.depth]
  · obtain ⟨p, h1, h2, h3⟩ := it_py 1 (.lst (dI L)) (it_l L)
    have : p = .list (L.map PyData.int) := by
      simp only [D.py, pys_ints, Option.map_some] at h1
      exact (Option.some.inj h1).symm
    subst this
    show (PyData.canLay0 _ && decide (PyData.depth _ ≤ 64)) = true
    rw [h2, decide_eq_true (by omega)]; rfl
theorem zip_self (g h : List Int → D) : ∀ l : List (List Int), zipD (l.map g) (l.map h) = l.map fun r => .tup [g r, h r]
  | [] => rfl
  | a :: l => by
    show D.tup [g a, h a] :: zipD (l.map g) (l.map h) = _
    rw [zip_self g h l]; rfl
theorem rep0' (w : Nat) : (List.replicate w [D.int 0]).flatten = dI (List.replicate w 0) := by
  induction w with
  | zero => rfl
  | succ w ih => rw [List.replicate_succ, List.flatten_cons, ih, List.replicate_succ]; rfl
theorem dI_set (F : List Int) (k : Nat) (x : Int) : (dI F).set k (.int x) = dI (F.set k x) := (List.map_set ..).symm
theorem range_ints (n : Nat) : rangeD 0 1 n = (List.range n).map fun i => D.int (i : Nat) := by
  unfold rangeD
  exact List.map_congr_left fun i _ => by congr 1; omega
theorem rdrop {n i c : Nat} {m : List Nat} (h : (List.range n).drop i = c :: m) : c = i ∧ i < n ∧ (List.range n).drop (i + 1) = m ∧ (List.range n).take (i + 1) = (List.range n).take i ++ [i] := by
  obtain ⟨h1, h2⟩ := drop_at h
  obtain ⟨h3, h4⟩ := List.getElem?_eq_some_iff.mp h1
  rw [List.length_range] at h3
  rw [List.getElem_range] at h4
  refine ⟨h4.symm, h3, h2, ?_⟩
  rw [List.take_add_one, h1, ← h4]; rfl
theorem rend {n i : Nat} (h : (List.range n).drop i = []) : (List.range n).take i = List.range n := List.take_of_length_le (List.drop_eq_nil_iff.mp h)
/-- the lines for the places so far -/
def lnsT (w : Nat) (lot : List (List Int)) (i : Nat) : List (List Int) := (((List.range w).take i).filter fun c => decide (c ∉ lot.map ld)).map (apl w lot)
theorem lnsT_full {w : Nat} {lot : List (List Int)} {i : Nat} (h : (List.range w).drop i = []) : lnsT w lot i = lns w lot := by unfold lnsT; rw [rend h]; rfl
theorem lnsT_len (w : Nat) (lot : List (List Int)) (i : Nat) : (lnsT w lot i).length ≤ w := by
  unfold lnsT
  rw [List.length_map]
  refine Nat.le_trans (List.length_filter_le _ _) ?_
  rw [List.length_take, List.length_range]; omega
theorem lead_mem {lot : List (List Int)} {i : Nat} : (((i : Nat) : Int) ∈ lot.map fun r => ((ld r : Nat) : Int)) ↔ i ∈ lot.map ld := by
  rw [List.mem_map, List.mem_map]
  constructor
  · rintro ⟨r, hr, e⟩; exact ⟨r, hr, by omega⟩
  · rintro ⟨r, hr, e⟩; exact ⟨r, hr, by omega⟩
def lstep (lot : List (List Int)) (c : Nat) (l r : List Int) : List Int := l.set (ld r) (0 - cf r c * qo lot r)
theorem lstep_len (lot : List (List Int)) (c : Nat) (l r : List Int) : (lstep lot c l r).length = l.length := List.length_set
theorem shr_bd' {w : Nat} {lot : List (List Int)} (hw : w ≤ 5) (hI : IsLot w lot) (hB : B3 lot) : Bd 15000001 (shr lot) := (shr_bd (b := 3000000) lot 1 1 hB bd_one).mono (by have := hI.len; have : lot.length * 3000000 ≤ 5 * 3000000 := Nat.mul_le_mul_right _ (by omega); omega)
theorem qo_bd' {w : Nat} {lot : List (List Int)} (hw : w ≤ 5) (hI : IsLot w lot) (hB : B3 lot) {r : List Int} (hr : r ∈ lot) : Bd 15000001 (qo lot r) := (qo_bd hI hB hr).mono (by have := hI.len; have : lot.length * 3000000 ≤ 5 * 3000000 := Nat.mul_le_mul_right _ (by omega); omega)
theorem sub_two {S S2 : Sto} {p : Addr} {o : DO} (h : Sub S S2) (hp : S2 p = none) : Sub S (sup S2 p o) := h.trans (sub_sup hp)

theorem lnsT_succ {w : Nat} {lot : List (List Int)} {i : Nat} (h : (List.range w).take (i + 1) = (List.range w).take i ++ [i]) : lnsT w lot (i + 1) = if i ∈ lot.map ld then lnsT w lot i else lnsT w lot i ++ [apl w lot i] := by
  unfold lnsT
  rw [h, List.filter_append, List.map_append]
  by_cases hc : i ∈ lot.map ld
  · rw [if_pos hc, List.filter_cons_of_neg (by simpa using hc)]; simp
  · rw [if_neg hc, List.filter_cons_of_pos (by simpa using hc)]; simp
theorem leads_dI (lot : List (List Int)) : (lot.map fun r => D.int (ld r : Nat)) = dI (lot.map fun r => ((ld r : Nat) : Int)) := by
  show _ = List.map D.int _
  rw [List.map_map]; rfl
theorem sok_apart_in : SpecOk Gm d_apart_in := by
  rintro ds S R Q ⟨w, lot, rfl, hw, hI, hB, hT, q⟩
  refine ⟨rfl, ?_⟩
  show wpB Gm b_apart_in _ _ [some (.int w), some (Lt lot), none, none, none, none, none, none, none] S
  unfold b_apart_in
  walk_at "wpc"
  refine compL_mapG P (fun r => D.int (ld r : Nat)) trivial lot [] (fun r hr N hN => ?_) ?_
  · obtain ⟨r1, r2, r3⟩ := hI.1 r hr
    walk_at "wpx"
    exact ⟨r, rfl, by omega, by rw [ldD_lt (by omega)]; exact hN⟩
  try walk_at "wpx"
  rw [List.nil_append]
  refine ⟨by decide, fun p hp => ?_⟩
  walk_at "wpc"
  rw [zip_self]
  refine forL_ind (fun rest ρ S' => ∃ (m : List (List Int)) (k : Int) (x y : Option D), rest = m.map (fun r => D.tup [D.int (ld r : Nat), P r]) ∧ ρ = [some (.int w), some (Lt lot), some (.lst (lot.map fun r => D.int (ld r : Nat))), some (.int k), some (.ref p), x, y, none, none] ∧ S' = sup S p (.lst []) ∧
    m.foldl (fun s r => s * cf r (ld r)) k = shr lot ∧ Bd (1 + (lot.length - m.length) * 3000000) k ∧ m.length ≤ lot.length ∧ ∀ r ∈ m, r ∈ lot) ?_ ?_ _ _ _ ⟨lot, 1, none, none, rfl, rfl, rfl, rfl, bd_one.mono (by omega), Nat.le_refl _, fun _ h => h⟩
  · rintro ρ S' ⟨m, k, x, y, e, rfl, rfl, hk, hb, hm, hm2⟩
    have hm0 : m = [] := List.map_eq_nil_iff.mp e.symm
    subst hm0
    have hk : k = shr lot := hk
    subst hk
    refine ⟨trivial, ?_⟩
    walk_at "wpc"
    refine ⟨w, rfl, by omega, by omega, ?_⟩
    rw [show ((w : Int).toNat) = w by omega, range_ints]
    refine forL_ind (fun rest ρ S' => ∃ (i : Nat) (x y z u : Option D), rest = ((List.range w).drop i).map (fun i => D.int (i : Nat)) ∧ ρ = [some (.int w), some (Lt lot), some (.lst (lot.map fun r => D.int (ld r : Nat))), some (.int (shr lot)), some (.ref p), x, y, z, u] ∧ Sub S S' ∧ S' p = some (.lst ((lnsT w lot i).map P))) ?_ ?_ _ _ _
      ⟨0, x, y, none, none, rfl, rfl, sub_sup hp, by rw [sup_same]; rfl⟩
    · rintro ρ S' ⟨i, x, y, z, u, e, rfl, hs, hf⟩
      have hd : (List.range w).drop i = [] := List.map_eq_nil_iff.mp e.symm
      rw [lnsT_full hd] at hf
      refine ⟨trivial, ?_⟩
      walk_at "wpc"
      exact ⟨w, _, lns w lot, rfl, .inr (res_of hf), hT, ⟨S, hs, q⟩⟩
    · rintro d rest ρ S' N ⟨i, x, y, z, u, e, rfl, hs, hf⟩ hN
      cases hm : (List.range w).drop i with
      | nil => rw [hm] at e; cases e
      | cons c m =>
        obtain ⟨ec, hi, hdr, htk⟩ := rdrop hm
        subst ec
        rw [hm] at e
        cases e
        refine ⟨trivial, ?_⟩
        walk_at "wpc"
        rw [leads_dI]
        refine inD_ints ?_
        by_cases hc : c ∈ lot.map ld
        · rw [decide_eq_true (lead_mem.mpr hc)]
          walk_at "wpx"
          rw [wpB]
          try dsimp only
          rw [wpB]
          exact hN _ _ ⟨c + 1, x, y, _, u, by rw [hdr], by rw [leads_dI], hs, by rw [lnsT_succ htk, if_pos hc]; exact hf⟩
        · rw [decide_eq_false fun z => hc (lead_mem.mp z)]
          walk_at "wpx"
          have hcN : c ∈ NL w lot := mem_NL.mpr ⟨hi, fun s hs e => hc (List.mem_map.mpr ⟨s, hs, e⟩)⟩
          walk_at "wpc"
          refine ⟨by decide, by omega, by omega, by rw [sizeLine_eq]; omega, fun r hr => ?_⟩
          have hne : p ≠ r := fun e => by rw [e, hr] at hf; cases hf
          rw [show ((w : Int).toNat) = w by omega, rep0']
          walk_at "wpc"
          refine ⟨r, _, _, c, rfl, rfl, sup_same, by rw [dI_len, List.length_replicate]; exact ix_nat hi, ?_⟩
          simp only [sup_sup, dI_set]
          rw [← leads_dI]
          walk_at "wpc"
          rw [zip_self]
          refine forL_ind (fun rest ρ S2 => ∃ (m : List (List Int)) (l : List Int) (x y : Option D), rest = m.map (fun r => D.tup [D.int (ld r : Nat), P r]) ∧ ρ = [some (.int w), some (Lt lot), some (.lst (lot.map fun r => D.int (ld r : Nat))), some (.int (shr lot)), some (.ref p), x, y, some (.int (c : Nat)), some (.ref r)] ∧
            S2 = sup S' r (.lst (dI l)) ∧ m.foldl (lstep lot c) l = apl w lot c ∧ l.length = w ∧ ∀ s ∈ m, s ∈ lot) ?_ ?_ _ _ _ ⟨lot, _, x, y, rfl, rfl, rfl, rfl, by rw [List.length_set, List.length_replicate], fun _ h => h⟩
          · rintro ρ S2 ⟨m, l, x, y, e, rfl, rfl, hl, hl2, hm2⟩
            have hm0 : m = [] := List.map_eq_nil_iff.mp e.symm
            subst hm0
            have hl : l = apl w lot c := hl
            subst hl
            refine ⟨trivial, ?_⟩
            have hf2 : sup S' r (.lst (dI (apl w lot c))) p = some (.lst ((lnsT w lot c).map P)) := (sup_ne hne).trans hf
            walk_at "wpc"
            refine ⟨p, rfl, ⟨_, hf2⟩, _, hf2, by rw [List.length_map, sizeLine_eq]; have := lnsT_len w lot c; omega, ?_⟩
            rw [wpB]
            try dsimp only
            rw [wpB]
            refine hN _ _ ⟨c + 1, x, y, _, _, by rw [hdr], rfl, fun a o h => ?_, by rw [sup_same, lnsT_succ htk, if_neg hc, List.map_append]; rfl⟩
            have h1 : a ≠ p := fun e => by rw [e, hp] at h; cases h
            have h2 : a ≠ r := fun e => by have := hs a o h; rw [e, hr] at this; cases this
            rw [sup_ne h1, sup_ne h2]
            exact hs a o h
          · rintro d rest ρ S2 N2 ⟨m, l, x, y, e, rfl, rfl, hl, hl2, hm2⟩ hN2
            cases m with
            | nil => cases e
            | cons o m =>
              cases e
              have ho := hm2 o List.mem_cons_self
              obtain ⟨o1, o2, o3⟩ := hI.1 o ho
              refine ⟨trivial, ?_⟩
              walk_at "wpc"
              refine ⟨_, dI_at (p := o) (i := c) (by omega), _, dI_at (p := o) (i := ld o) (by omega), ?_⟩
              walk_at "wpx"
              have z0 : cf o (ld o) ≠ 0 := Int.ne_of_gt (hI.pos ho)
              refine ⟨z0, noPy, mulOk ((hB o ho).cf c) (qo_bd' hw hI hB ho) (by decide) (by decide), r, _, _, ld o, rfl, rfl, sup_same, by rw [dI_len, hl2]; exact ix_nat o2, ?_⟩
              simp only [sup_sup, dI_set]
              rw [wpB]
              exact hN2 _ _ ⟨m, lstep lot c l o, _, _, rfl, rfl, rfl, hl, by rw [lstep_len, hl2], fun s h => hm2 s (List.mem_cons_of_mem _ h)⟩
  · rintro d rest ρ S' N ⟨m, k, x, y, e, rfl, rfl, hk, hb, hm, hm2⟩ hN
    cases m with
    | nil => cases e
    | cons o m =>
      cases e
      have ho := hm2 o List.mem_cons_self
      obtain ⟨o1, o2, o3⟩ := hI.1 o ho
      refine ⟨trivial, ?_⟩
      walk_at "wpc"
      refine ⟨_, dI_at (p := o) (i := ld o) (by omega), ?_⟩
      walk_at "wpx"
      have hll := hI.len
      rw [List.length_cons] at hm hb
      have hb2 : Bd 20000000 k := hb.mono (by
        have : (lot.length - (m.length + 1)) * 3000000 ≤ 5 * 3000000 := Nat.mul_le_mul_right _ (by omega)
        omega)
      refine ⟨mulOk hb2 ((hB o ho).cf _) (by decide) (by decide), ?_⟩
      rw [wpB]
      refine hN _ _ ⟨m, _, _, _, rfl, rfl, rfl, hk, (hb.mul ((hB o ho).cf (ld o))).mono ?_, by omega, fun s h => hm2 s (List.mem_cons_of_mem _ h)⟩
      have : lot.length - m.length = (lot.length - (m.length + 1)) + 1 := by omega
      rw [this, Nat.add_mul]; omega

theorem sok__law_apart : SpecOk Gm d__law_apart := by
  rintro ds S R Q ⟨w, lot, rfl, hw, hI, hB, hT, q⟩
  refine ⟨rfl, ?_⟩
  show wpB Gm b__law_apart _ _ [some (Lt lot), some (.int w), none, none, none, none, none, none] S
  unfold b__law_apart
  have hll := hI.len
  walk_at "wpc"
  refine compL_mapG P (fun r => D.int (ld r : Nat)) trivial lot [] (fun r hr N hN => ?_) ?_
  · obtain ⟨r1, r2, r3⟩ := hI.1 r hr
    walk_at "wpx"
    exact ⟨r, rfl, by omega, hN⟩
  try walk_at "wpx"
  rw [List.nil_append]
  refine ⟨by decide, fun p hp => ?_⟩
  walk_at "wpc"
  refine ⟨w, rfl, by omega, by omega, ?_⟩
  rw [show ((w : Int).toNat) = w by omega, range_ints]
  refine forL_ind (fun rest ρ S' => ∃ (i : Nat) (x y z u : Option D), rest = ((List.range w).drop i).map (fun i => D.int (i : Nat)) ∧ ρ = [some (Lt lot), some (.int w), some (.lst (lot.map fun r => D.int (ld r : Nat))), some (.ref p), x, y, z, u] ∧ Sub S S' ∧ S' p = some (.lst ((lnsT w lot i).map P))) ?_ ?_ _ _ _
    ⟨0, none, none, none, none, rfl, rfl, sub_sup hp, by rw [sup_same]; rfl⟩
  · rintro ρ S' ⟨i, x, y, z, u, e, rfl, hs, hf⟩
    have hd : (List.range w).drop i = [] := List.map_eq_nil_iff.mp e.symm
    rw [lnsT_full hd] at hf
    refine ⟨trivial, ?_⟩
    walk_at "wpc"
    exact ⟨w, _, lns w lot, rfl, .inr (res_of hf), hT, ⟨S, hs, q⟩⟩
  · rintro d rest ρ S' N ⟨i, x, y, z, u, e, rfl, hs, hf⟩ hN
    cases hm : (List.range w).drop i with
    | nil => rw [hm] at e; cases e
    | cons c m =>
      obtain ⟨ec, hi, hdr, htk⟩ := rdrop hm
      subst ec
      rw [hm] at e
      cases e
      refine ⟨trivial, ?_⟩
      walk_at "wpc"
      rw [leads_dI]
      refine inD_ints ?_
      by_cases hc : c ∈ lot.map ld
      · rw [decide_eq_true (lead_mem.mpr hc)]
        walk_at "wpx"
        rw [wpB]
        try dsimp only
        rw [wpB]
        exact hN _ _ ⟨c + 1, x, _, z, u, by rw [hdr], by rw [leads_dI], hs, by rw [lnsT_succ htk, if_pos hc]; exact hf⟩
      · rw [decide_eq_false fun z => hc (lead_mem.mp z)]
        walk_at "wpx"
        have hcN : c ∈ NL w lot := mem_NL.mpr ⟨hi, fun s hs e => hc (List.mem_map.mpr ⟨s, hs, e⟩)⟩
        rw [← leads_dI]
        walk_at "wpc"
        walk_at "wpc"
        refine forL_ind (fun rest ρ S2 => ∃ (m : List (List Int)) (k : Int) (x : Option D), rest = m.map P ∧ ρ = [some (Lt lot), some (.int w), some (.lst (lot.map fun r => D.int (ld r : Nat))), some (.ref p), x, some (.int (c : Nat)), some (.int k), u] ∧ S2 = S' ∧
          m.foldl (fun s r => s * cf r (ld r)) k = shr lot ∧ Bd (1 + (lot.length - m.length) * 3000000) k ∧ m.length ≤ lot.length ∧ ∀ r ∈ m, r ∈ lot) ?_ ?_ _ _ _ ⟨lot, 1, x, rfl, rfl, rfl, rfl, bd_one.mono (by omega), Nat.le_refl _, fun _ h => h⟩
        · rintro ρ S2 ⟨m, k, x, e, rfl, rfl, hk, hb, hm, hm2⟩
          obtain rfl := map_nil' e.symm
          have hk : k = shr lot := hk
          subst hk
          refine ⟨trivial, ?_⟩
          walk_at "wpc"
          refine ⟨by decide, by omega, by omega, by rw [sizeLine_eq]; omega, fun r hr => ?_⟩
          have hne : p ≠ r := fun e => by rw [e, hr] at hf; cases hf
          rw [show ((w : Int).toNat) = w by omega, rep0']
          walk_at "wpc"
          refine ⟨r, _, _, c, rfl, rfl, sup_same, by rw [dI_len, List.length_replicate]; exact ix_nat hi, ?_⟩
          simp only [sup_sup, dI_set]
          walk_at "wpc"
          refine forL_ind (fun rest ρ S3 => ∃ (m : List (List Int)) (l : List Int) (x : Option D), rest = m.map P ∧ ρ = [some (Lt lot), some (.int w), some (.lst (lot.map fun r => D.int (ld r : Nat))), some (.ref p), x, some (.int (c : Nat)), some (.int (shr lot)), some (.ref r)] ∧
            S3 = sup S2 r (.lst (dI l)) ∧ m.foldl (lstep lot c) l = apl w lot c ∧ l.length = w ∧ ∀ s ∈ m, s ∈ lot) ?_ ?_ _ _ _ ⟨lot, _, x, rfl, rfl, rfl, rfl, by rw [List.length_set, List.length_replicate], fun _ h => h⟩
          · rintro ρ S3 ⟨m, l, x, e, rfl, rfl, hl, hl2, hm2⟩
            obtain rfl := map_nil' e.symm
            have hl : l = apl w lot c := hl
            subst hl
            refine ⟨trivial, ?_⟩
            have hf2 : sup S2 r (.lst (dI (apl w lot c))) p = some (.lst ((lnsT w lot c).map P)) := (sup_ne hne).trans hf
            walk_at "wpc"
            refine ⟨p, rfl, ⟨_, hf2⟩, _, hf2, by rw [List.length_map, sizeLine_eq]; have := lnsT_len w lot c; omega, ?_⟩
            rw [wpB]
            try dsimp only
            rw [wpB]
            refine hN _ _ ⟨c + 1, x, _, _, _, by rw [hdr], rfl, fun a o h => ?_, by rw [sup_same, lnsT_succ htk, if_neg hc, List.map_append]; rfl⟩
            have h1 : a ≠ p := fun e => by rw [e, hp] at h; cases h
            have h2 : a ≠ r := fun e => by have := hs a o h; rw [e, hr] at this; cases this
            rw [sup_ne h1, sup_ne h2]
            exact hs a o h
          · rintro d rest ρ S3 N2 ⟨m, l, x, e, rfl, rfl, hl, hl2, hm2⟩ hN2
            cases m with
            | nil => cases e
            | cons o m =>
              cases e
              have ho := hm2 o List.mem_cons_self
              obtain ⟨o1, o2, o3⟩ := hI.1 o ho
              refine ⟨trivial, ?_⟩
              walk_at "wpc"
              refine ⟨_, dI_at (p := o) (i := c) (by omega), o, rfl, by omega, ?_⟩
              refine ⟨_, dI_at (p := o) (i := ld o) (by omega), ?_⟩
              walk_at "wpx"
              have z0 : cf o (ld o) ≠ 0 := Int.ne_of_gt (hI.pos ho)
              refine ⟨z0, noPy, mulOk ((hB o ho).cf c) (qo_bd' hw hI hB ho) (by decide) (by decide), o, rfl, by omega, r, _, _, ld o, rfl, rfl, sup_same, by rw [dI_len, hl2]; exact ix_nat o2, ?_⟩
              simp only [sup_sup, dI_set]
              rw [wpB]
              exact hN2 _ _ ⟨m, lstep lot c l o, _, rfl, rfl, rfl, hl, by rw [lstep_len, hl2], fun s h => hm2 s (List.mem_cons_of_mem _ h)⟩
        · rintro d rest ρ S2 N2 ⟨m, k, x, e, rfl, rfl, hk, hb, hm, hm2⟩ hN2
          cases m with
          | nil => cases e
          | cons o m =>
            cases e
            have ho := hm2 o List.mem_cons_self
            obtain ⟨o1, o2, o3⟩ := hI.1 o ho
            refine ⟨trivial, ?_⟩
            walk_at "wpc"
            refine ⟨o, rfl, by omega, _, dI_at (p := o) (i := ld o) (by omega), ?_⟩
            walk_at "wpx"
            rw [List.length_cons] at hm hb
            have hb2 : Bd 20000000 k := hb.mono (by
              have : (lot.length - (m.length + 1)) * 3000000 ≤ 5 * 3000000 := Nat.mul_le_mul_right _ (by omega)
              omega)
            refine ⟨mulOk hb2 ((hB o ho).cf _) (by decide) (by decide), ?_⟩
            rw [wpB]
            refine hN2 _ _ ⟨m, _, _, rfl, rfl, rfl, hk, (hb.mul ((hB o ho).cf (ld o))).mono ?_, by omega, fun s h => hm2 s (List.mem_cons_of_mem _ h)⟩
            have : lot.length - m.length = (lot.length - (m.length + 1)) + 1 := by omega
            rw [this, Nat.add_mul]; omega

theorem len_one {α : Type} {r : α} : ∀ {l : List α}, l.Nodup → (∀ x ∈ l, x = r) → r ∈ l → l.length = 1
  | [], _, _, h => nomatch h
  | [a], _, _, _ => rfl
  | a :: b :: l, nd, h, _ => by
    have e1 := h a List.mem_cons_self
    have e2 := h b (List.mem_cons_of_mem _ List.mem_cons_self)
    exact absurd (by rw [e1, e2]; exact List.mem_cons_self) (List.nodup_cons.mp nd).1
theorem isLot_iff {w : Nat} {lot : List (List Int)} (hl : ∀ r ∈ lot, r.length = w) : IsLot w lot ↔ (lot.map fun r => ((ld r : Nat) : Int)).Pairwise (· < ·) ∧ (∀ r ∈ lot, ld r ≠ w) ∧ (∀ r ∈ lot, lwr r = r) ∧ ∀ r ∈ lot, (lot.filter fun s => !decide (cf s (ld r) = 0)).length = 1 := by
  constructor
  · intro h
    refine ⟨List.pairwise_map.mpr (h.2.imp fun {a b} q => by have := q.1; omega), fun r hr => by have := (h.1 r hr).2.1; omega, fun r hr => (h.1 r hr).2.2, fun r hr => ?_⟩
    refine len_one (r := r) (h.nodup.filter _) (fun x hx => ?_) (List.mem_filter.mpr ⟨hr, ?_⟩)
    · obtain ⟨x1, x2⟩ := List.mem_filter.mp hx
      refine Classical.byContradiction fun ne => ?_
      have := (h.apart x1 hr ne).2
      rw [this] at x2; simp at x2
    · have := Int.ne_of_gt (h.pos hr)
      simp [this]
  · rintro ⟨h1, h2, h3, h4⟩
    have h1' := List.pairwise_map.mp h1
    refine ⟨fun r hr => ⟨hl r hr, ?_, h3 r hr⟩, List.pairwise_iff_forall_sublist.mpr fun {a b} hs => ?_⟩
    · have := ld_le r
      have := hl r hr
      have := h2 r hr
      omega
    · have ma : a ∈ lot := hs.subset List.mem_cons_self
      have mb : b ∈ lot := hs.subset (List.mem_cons_of_mem _ List.mem_cons_self)
      refine ⟨by have := List.pairwise_iff_forall_sublist.mp h1' hs; omega, Classical.byContradiction fun ne => ?_⟩
      have hb : cf b (ld b) ≠ 0 := cf_ld (by have := ld_le b; have := hl b mb; have := h2 b mb; omega)
      have f := (hs.filter fun s => !decide (cf s (ld b) = 0)).length_le
      rw [h4 b mb, List.filter_cons_of_pos (by simpa using ne), List.filter_cons_of_pos (by simpa using hb)] at f
      simp at f
theorem ints_one : ∀ {l m : List Int}, l.Pairwise (· < ·) → m.Pairwise (· < ·) → (∀ k, k ∈ l ↔ k ∈ m) → l = m
  | [], [], _, _, _ => rfl
  | [], b :: m, _, _, h => nomatch (h b).mpr List.mem_cons_self
  | a :: l, [], _, _, h => nomatch (h a).mp List.mem_cons_self
  | a :: l, b :: m, hl, hm, h => by
    obtain ⟨l1, l2⟩ := List.pairwise_cons.mp hl
    obtain ⟨m1, m2⟩ := List.pairwise_cons.mp hm
    have e : a = b := by
      rcases List.mem_cons.mp ((h a).mp List.mem_cons_self) with q | q
      · exact q
      · rcases List.mem_cons.mp ((h b).mpr List.mem_cons_self) with z | z
        · exact z.symm
        · have := m1 a q; have := l1 b z; omega
    subst e
    rw [ints_one l2 m2 fun r => ?_]
    constructor
    · intro hr
      rcases List.mem_cons.mp ((h r).mp (List.mem_cons_of_mem _ hr)) with q | q
      · have := l1 r hr; omega
      · exact q
    · intro hr
      rcases List.mem_cons.mp ((h r).mpr (List.mem_cons_of_mem _ hr)) with q | q
      · have := m1 r hr; omega
      · exact q
theorem sok__law_is_lot : SpecOk Gm d__law_is_lot := by
  rintro ds S R Q ⟨v, w, rfl, hw, ⟨⟨t, ht⟩, hx⟩, hz, hlen, q⟩
  refine ⟨rfl, ?_⟩
  show wpB Gm b__law_is_lot _ _ [some v, some (.int w), none, none, none] S
  unfold b__law_is_lot
  have no : (¬ ∃ lot, v = Lt lot ∧ IsLot w lot) → RtQ Q (.bl false) S := fun h => rtq (q _ ⟨fun z => (nomatch z), fun z => absurd z h⟩)
  have other : (¬ ∃ lot, v = Lt lot ∧ IsLot w lot) → wpB Gm (.cons (.ret (.cst (.bl false))) .nil) { nx := wpB Gm (dropB 1 b__law_is_lot) { nx := fun _ S => RtQ Q .non S, rt := RtQ Q } fun k x _ S => RtQ (R k) x S, rt := RtQ Q } (fun k x _ S => RtQ (R k) x S) [some v, some (.int w), none, none, none] S := fun h => by
    walk_at "wpc"
    exact no h
  walk_at "wpc"
  rw [res_ty ht]
  refine ⟨t, ht, by decide, ?_⟩
  cases v with
  | tup xs =>
    cases ht
    have e1 : isiB "tuple" "tuple" = true := rfl
    rw [e1]
    walk_at "wpx"
    refine compL_ind (fun rest S2 acc => S2 = S ∧ ∃ k, acc = dI (List.replicate k 1) ∧ ((k = 0 ∧ rest.all (rowB w) = true) ↔ xs.all (rowB w) = true) ∧ ∀ d ∈ rest, d ∈ xs) ?_ ?_ xs S [] ⟨rfl, 0, rfl, by simp, fun d hd => hd⟩
    · rintro S2 acc ⟨rfl, k, rfl, hk, _⟩
      refine ⟨trivial, by decide, ?_⟩
      refine eqD_it (n := 1) (m := 1) (it_l _) (fun _ h => nomatch h) (by decide) (by decide) (fun z => ?_) (fun z => ?_)
      · have k0 : k = 0 := rep_nil (D.lst.inj z)
        have hall := hk.mp ⟨k0, rfl⟩
        obtain ⟨lot, rfl, hl⟩ := all_rows hall
        have no' : (¬ IsLot w lot) → RtQ Q (.bl false) S2 := fun h => no fun ⟨l, e, hI⟩ => h (Lt_inj e ▸ hI)
        have il := isLot_iff hl
        have szd := hz lot rfl
        have few := hlen _ rfl
        rw [List.length_map] at few
        walk_at "wpx"
        rw [wpB]
        walk_at "wpc"
        refine compL_mapG P (fun r => D.int (ld r : Nat)) trivial lot [] (fun r hr N hN => ?_) ?_
        · walk_at "wpx"
          exact ⟨r, rfl, (szd r hr).2, hN⟩
        try walk_at "wpx"
        rw [List.nil_append, leads_dI]
        walk_at "wpc"
        refine ⟨lot.map fun r => ((ld r : Nat) : Int), rfl, by rw [List.length_map]; exact few, fun ms m1 m2 => ?_⟩
        refine eqD_it (n := 1) (m := 1) (it_l _) (it_l ms) (by decide) (by decide) (fun z => ?_) (fun z => ?_)
        · have em : (lot.map fun r => ((ld r : Nat) : Int)) = ms := dI_inj (D.lst.inj z)
          rw [← em] at m1
          walk_at "wpx"
          refine inD_ints ?_
          by_cases hc : w ∈ lot.map ld
          · rw [decide_eq_true (lead_mem.mpr hc)]
            walk_at "wpx"
            walk_at "wpc"
            refine no' fun hI => ?_
            obtain ⟨r, hr, e⟩ := List.mem_map.mp hc
            have := (hI.1 r hr).2.1; omega
          · rw [decide_eq_false fun z => hc (lead_mem.mp z)]
            have hc' : ∀ r ∈ lot, ld r ≠ w := fun r hr e => hc (List.mem_map.mpr ⟨r, hr, e⟩)
            walk_at "wpx"
            refine compL_ind (fun rest S3 acc => S3 = S2 ∧ ∃ (k : Nat) (m : List (List Int)), rest = m.map P ∧ acc = dI (List.replicate k 1) ∧ ((k = 0 ∧ ∀ r ∈ m, lwr r = r) ↔ ∀ r ∈ lot, lwr r = r) ∧ ∀ d ∈ m, d ∈ lot) ?_ ?_ _ _ _ ⟨rfl, 0, lot, rfl, rfl, by simp, fun d hd => hd⟩
            · rintro S3 acc ⟨rfl, k, m, e, rfl, hk, _⟩
              obtain rfl := map_nil' e.symm
              refine ⟨trivial, by decide, ?_⟩
              refine eqD_it (n := 1) (m := 1) (it_l _) (fun _ h => nomatch h) (by decide) (by decide) (fun z => ?_) (fun z => ?_)
              · have k0 : k = 0 := rep_nil (D.lst.inj z)
                have hlw := hk.mp ⟨k0, fun _ h => nomatch h⟩
                walk_at "wpx"
                rw [wpB]
                walk_at "wpc"
                refine forL_ind (fun rest ρ S4 => ∃ (m : List (List Int)) (x y : Option D), rest = m.map (fun r => D.int (ld r : Nat)) ∧ ρ = [some (Lt lot), some (.int w), x, some (.lst (dI (lot.map fun r => ((ld r : Nat) : Int)))), y] ∧ S4 = S3 ∧ (∀ d ∈ m, d ∈ lot) ∧
                  ((∀ r ∈ m, (lot.filter fun s => !decide (cf s (ld r) = 0)).length = 1) → ∀ r ∈ lot, (lot.filter fun s => !decide (cf s (ld r) = 0)).length = 1)) ?_ ?_ _ _ _ ⟨lot, _, _, (leads_dI lot).symm, rfl, rfl, fun _ h => h, fun h => h⟩
                · rintro ρ S4 ⟨m, x, y, e, rfl, rfl, _, hf⟩
                  have hm0 : m = [] := List.map_eq_nil_iff.mp e.symm
                  subst hm0
                  refine ⟨trivial, ?_⟩
                  walk_at "wpc"
                  exact rtq (q _ ⟨fun _ => ⟨lot, rfl, il.mpr ⟨m1, hc', hlw, hf fun _ h => nomatch h⟩⟩, fun _ => rfl⟩)
                · rintro d rest ρ S4 N ⟨m, x, y, e, rfl, rfl, hml, hf⟩ hN
                  cases m with
                  | nil => cases e
                  | cons o m =>
                    cases e
                    have ho := hml o List.mem_cons_self
                    have lo : ld o < w := by have := ld_le o; have := hl o ho; have := hc' o ho; omega
                    refine ⟨trivial, ?_⟩
                    walk_at "wpc"
                    refine compL_ind (fun rest S5 acc => S5 = S4 ∧ ∃ (k : Nat) (m : List (List Int)), rest = m.map P ∧ acc = dI (List.replicate k 1) ∧ k + (m.filter fun s => !decide (cf s (ld o) = 0)).length = (lot.filter fun s => !decide (cf s (ld o) = 0)).length ∧ ∀ d ∈ m, d ∈ lot) ?_ ?_ _ _ _ ⟨rfl, 0, lot, rfl, rfl, by omega, fun d hd => hd⟩
                    · rintro S5 acc ⟨rfl, k, m', e, rfl, hk, _⟩
                      obtain rfl := map_nil' e.symm
                      refine ⟨trivial, ?_⟩
                      try walk_at "wpx"
                      rw [dI_len, List.length_replicate]
                      have hk : k = (lot.filter fun s => !decide (cf s (ld o) = 0)).length := by simpa using hk
                      by_cases k1 : k = 1
                      · rw [decide_eq_true (show (k : Int) = 1 by omega)]
                        walk_at "wpx"
                        rw [wpB]
                        try dsimp only
                        rw [wpB]
                        refine hN _ _ ⟨m, _, _, rfl, rfl, rfl, fun s h => hml s (List.mem_cons_of_mem _ h), fun h => hf fun r hr => ?_⟩
                        rcases List.mem_cons.mp hr with e | e
                        · rw [e, ← hk]; exact k1
                        · exact h r e
                      · rw [decide_eq_false (show ¬ (k : Int) = 1 by omega)]
                        walk_at "wpx"
                        walk_at "wpc"
                        exact no' fun hI => k1 (hk.trans ((il.mp hI).2.2.2 o ho))
                    · rintro d rest S5 acc N' ⟨rfl, k, m', e, rfl, hk, hm'⟩ hN'
                      cases m' with
                      | nil => cases e
                      | cons s m' =>
                        cases e
                        have sl := hl s (hm' s List.mem_cons_self)
                        refine ⟨trivial, ?_⟩
                        walk_at "wpx"
                        refine ⟨_, dI_at (p := s) (i := ld o) (by omega), ?_⟩
                        walk_at "wpx"
                        by_cases hz : cf s (ld o) = 0
                        · rw [decide_eq_true hz]
                          walk_at "wpx"
                          rw [List.filter_cons_of_neg (by simpa using hz)] at hk
                          exact hN' _ _ ⟨rfl, k, m', rfl, rfl, hk, fun d h => hm' d (List.mem_cons_of_mem _ h)⟩
                        · rw [decide_eq_false hz]
                          walk_at "wpx"
                          rw [List.filter_cons_of_pos (by simpa using hz), List.length_cons] at hk
                          exact hN' _ _ ⟨rfl, k + 1, m', rfl, rep_one k, by omega, fun d h => hm' d (List.mem_cons_of_mem _ h)⟩
              · have k0 : k ≠ 0 := fun e => z (by rw [e]; rfl)
                walk_at "wpx"
                walk_at "wpc"
                exact no' fun hI => k0 (hk.mpr fun r hr => (hI.1 r hr).2.2).1
            · rintro d rest S3 acc N ⟨rfl, k, m, e, rfl, hk, hm⟩ hN
              cases m with
              | nil => cases e
              | cons o m =>
                cases e
                have ho := hm o List.mem_cons_self
                refine ⟨trivial, ?_⟩
                walk_at "wpx"
                refine ⟨o, rfl, (szd o ho).2, (szd o ho).1.mono (by decide), ?_⟩
                refine eqD_it (n := 1) (m := 1) (it_t _) (it_t _) (by decide) (by decide) (fun z => ?_) (fun z => ?_)
                · have c3 : lwr o = o := P_inj z
                  walk_at "wpx"
                  refine hN _ _ ⟨rfl, k, m, rfl, rfl, ?_, fun d h => hm d (List.mem_cons_of_mem _ h)⟩
                  rw [← hk]
                  refine ⟨fun ⟨a, b⟩ => ⟨a, fun r hr => ?_⟩, fun ⟨a, b⟩ => ⟨a, fun r hr => b r (List.mem_cons_of_mem _ hr)⟩⟩
                  rcases List.mem_cons.mp hr with e | e
                  · rw [e]; exact c3
                  · exact b r e
                · walk_at "wpx"
                  refine hN _ _ ⟨rfl, k + 1, m, rfl, rep_one k, ?_, fun d h => hm d (List.mem_cons_of_mem _ h)⟩
                  refine ⟨fun ⟨a, _⟩ => by omega, fun h => absurd (h o ho) fun e => z (by show P (lwr o) = P o; rw [e])⟩
        · walk_at "wpx"
          walk_at "wpc"
          refine no' fun hI => z ?_
          have := ints_one (il.mp hI).1 m1 fun k => (m2 k).symm
          show D.lst (dI _) = .lst (dI ms)
          rw [this]
      · have k0 : k ≠ 0 := fun e => z (by rw [e]; rfl)
        walk_at "wpx"
        walk_at "wpc"
        exact no fun ⟨lot, e, hI⟩ => by
          cases e
          exact k0 (hk.mpr (rows_all fun r hr => (hI.1 r hr).1)).1
    · rintro d rest S2 acc N ⟨rfl, k, rfl, hk, hr⟩ hN
      refine ⟨trivial, ?_⟩
      walk_at "wpx"
      refine ⟨d, w, rfl, hx xs rfl d (hr d List.mem_cons_self), fun b hb => ?_⟩
      rw [rowB_of hb]
      rw [List.all_cons] at hk
      cases hd : rowB w d with
      | true =>
        rw [hd, Bool.true_and] at hk
        simp only [Bool.not_true, Bool.false_eq_true, if_false]
        exact hN _ _ ⟨rfl, k, rfl, hk, fun d hd => hr d (List.mem_cons_of_mem _ hd)⟩
      | false =>
        rw [hd] at hk
        simp only [Bool.not_false, if_true]
        refine hN _ _ ⟨rfl, k + 1, rep_one k, ?_, fun d hd => hr d (List.mem_cons_of_mem _ hd)⟩
        constructor
        · intro z; omega
        · intro z; have := (hk.mpr z).2; simp at this
  | _ => cases ht <;> exact other (fun ⟨lot, e, _⟩ => nomatch e)

theorem sup_comm {S : Sto} {p r : Addr} {a b : DO} (h : p ≠ r) : sup (sup S r a) p b = sup (sup S p b) r a := by
  funext x
  unfold sup
  by_cases e1 : x = p <;> by_cases e2 : x = r
  · exact absurd (e1.symm.trans e2) h
  · rw [if_pos e1, if_neg e2, if_pos e1]
  · rw [if_neg e1, if_pos e2, if_pos e2]
  · rw [if_neg e1, if_neg e2, if_neg e2, if_neg e1]
theorem dice_in {S : Sto} {p r : Addr} {o : DO} {a b c x y z : Int} (h : p ≠ r) : Dice p x y z (sup (Dice p a b c S) r o) = sup (Dice p x y z S) r o := by
  show sup (sup (sup S p _) r o) p _ = _
  rw [sup_comm h, sup_sup]
theorem dice_has {S : Sto} {p r : Addr} {o : DO} {a b c : Int} (h : p ≠ r) : HasDice (sup (Dice p a b c S) r o) p := ⟨a, b, c, (sup_ne h).trans sup_same⟩
theorem bd_25 {k : Nat} {a b : Int} (ha : Bd k a) (hb : Bd k b) : Bd (k + 3) (2 * a - 5 * b) := by
  unfold Bd at *
  have e : 2 ^ (k + 3) = 2 ^ k * 8 := Nat.pow_add 2 k 3
  rw [e]
  generalize 2 ^ k = m at *
  omega
theorem it_lrows (l : List (List Int)) : IT 2 (.lst (l.map P)) := fun d hd => by obtain ⟨c, _, rfl⟩ := List.mem_map.mp hd; exact it_t c
theorem dI8 : ([D.int 0, .int 0, .int 1, .int (-1), .int 2, .int (-3), .int 4, .int (10 ^ 20)] : List D) = dI [0, 0, 1, -1, 2, -3, 4, 10 ^ 20] := rfl
theorem rg_dlen (n : Nat) : (rangeD 0 1 n).length = n := by rw [range_ints, List.length_map, List.length_range]
theorem sok__law_drawn_rows : SpecOk Gm d__law_drawn_rows := by
  rintro ds S R Q ⟨p, w, rfl, ⟨a, b, c, hS⟩, h1, h2, q⟩
  refine ⟨rfl, ?_⟩
  show wpB Gm b__law_drawn_rows _ _ [some (.ref p), some (.int w), none, none, none, none, none, none] S
  unfold b__law_drawn_rows
  walk_at "wpc"
  refine ⟨by decide, fun r hr => ?_⟩
  have hne : p ≠ r := fun e => by rw [e, hr] at hS; cases hS
  have e0 : sup S r (.lst []) = sup (Dice p a b c S) r (.lst []) := by
    show _ = sup (sup S p _) r _
    rw [sup_self hS]
  rw [e0]
  walk_at "wpc"
  refine ⟨p, _, rfl, dice_has hne, by decide, by decide, fun t x y z t0 t1 => ?_⟩
  rw [dice_in hne]
  refine ⟨t, rfl, by omega, by omega, ?_⟩
  refine forL_ind (fun rest ρ S' => ∃ (rws : List (List Int)) (x y z : Int) (u v o o1 o2 : Option D), rws.length + rest.length ≤ 5 ∧ ρ = [some (.ref p), some (.int w), some (.ref r), u, v, o, o1, o2] ∧ S' = sup (Dice p x y z S) r (.lst (rws.map P)) ∧ ∀ s ∈ rws, s.length = w ∧ BdP (67 + 3 * rws.length) s) ?_ ?_ _ _ _
    ⟨[], x, y, z, none, none, none, none, none, by rw [rg_dlen]; simp; omega, rfl, rfl, fun _ h => nomatch h⟩
  · rintro ρ S' ⟨rws, x, y, z, u, v, o, o1, o2, hl, rfl, rfl, hb⟩
    refine ⟨trivial, ?_⟩
    have hr5 : rws.length ≤ 5 := by simpa using hl
    walk_at "wpc"
    refine ⟨r, _, rfl, sup_same, ⟨Dice p x y z S, fun k o h => ?_, q rws x y z hr5 fun s hs => ⟨(hb s hs).1, (hb s hs).2.mono (by omega)⟩⟩⟩
    have hk : k ≠ r := fun e => by
      rw [e] at h
      have h : sup S p _ r = some o := h
      rw [sup_ne (fun z => hne z.symm), hr] at h; cases h
    rw [sdel_ne hk, sup_ne hk]; exact h
  · rintro d rest ρ S' N ⟨rws, x, y, z, u, v, o, o1, o2, hl, rfl, rfl, hb⟩ hN
    have hl5 : rws.length + 1 ≤ 5 := by rw [List.length_cons] at hl; omega
    refine ⟨trivial, ?_⟩
    have tail : ∀ (row : List Int) (x y z : Int) (u o o1 o2 : Option D) (E : DEnd) (X : XS), E.nx = N → row.length = w → BdP (70 + 3 * rws.length) row →
        wpB Gm (.cons (.ex (.app (.var 2) (.var 4))) .nil) E X [some (.ref p), some (.int w), some (.ref r), u, some (P row), o, o1, o2] (sup (Dice p x y z S) r (.lst (rws.map P))) := by
      intro row x y z u o o1 o2 E X hE hrow hbr
      walk_at "wpc"
      refine ⟨r, rfl, ⟨_, sup_same⟩, _, sup_same, by rw [List.length_map, sizeLine_eq]; omega, ?_⟩
      rw [wpB, hE]
      refine hN _ _ ⟨rws ++ [row], x, y, z, u, _, o, o1, o2, ?_, rfl, ?_, fun s hs => ?_⟩
      · rw [List.length_append, List.length_singleton]; rw [List.length_cons] at hl; omega
      · rw [sup_sup, List.map_append]; rfl
      · rw [List.length_append, List.length_singleton]
        rcases List.mem_append.mp hs with e | e
        · exact ⟨(hb s e).1, (hb s e).2.mono (by omega)⟩
        · rw [List.mem_singleton.mp e]; exact ⟨hrow, hbr.mono (by omega)⟩
    walk_at "wpc"
    refine ⟨w, rfl, by omega, by omega, ?_⟩
    rw [show ((w : Int).toNat) = w by omega]
    refine compL_ind (fun rest S2 acc => ∃ (x y z : Int) (l : List Int), S2 = sup (Dice p x y z S) r (.lst (rws.map P)) ∧ acc = dI l ∧ BdP 67 l ∧ l.length + rest.length = w) ?_ ?_ _ _ _ ⟨x, y, z, [], rfl, rfl, fun _ h => (nomatch h), by rw [rg_dlen]; simp⟩
    · rintro S2 acc ⟨x, y, z, l, rfl, rfl, hbl, hll⟩
      refine ⟨trivial, ?_⟩
      have hll : l.length = w := by simpa using hll
      try walk_at "wpx"
      walk_at "wpc"
      refine ⟨by decide, ?_⟩
      refine eqD_it (n := 2) (m := 1) (it_lrows rws) (fun _ h => nomatch h) (by decide) (by decide) (fun z1 => ?_) (fun z1 => ?_)
      · walk_at "wpx"
        rw [wpB]
        try dsimp only
        exact tail l x y z _ _ _ _ _ _ rfl hll (hbl.mono (by omega))
      · walk_at "wpx"
        refine ⟨p, _, rfl, dice_has hne, by decide, by decide, fun t x y z t0 t1 => ?_⟩
        rw [dice_in hne]
        walk_at "wpx"
        by_cases ht : t = 0
        · rw [decide_eq_true ht]
          walk_at "wpx"
          cases rws with
          | nil => exact absurd rfl z1
          | cons r0 rs =>
            have hr0 := hb r0 List.mem_cons_self
            obtain ⟨rl, hrl⟩ : ∃ rl, (r0 :: rs).getLast? = some rl := ⟨_, List.getLast?_eq_some_getLast (List.cons_ne_nil _ _)⟩
            have hrm := hb rl (List.mem_of_getLast? hrl)
            walk_at "wpc"
            refine ⟨_, at_nat (i := 0) rfl, P rl, at_last (by rw [List.getLast?_map, hrl]; rfl), ?_⟩
            walk_at "wpx"
            rw [zipD_map]
            refine compL_mapG (fun x : Int × Int => D.tup [D.int x.1, D.int x.2]) (fun x => D.int (2 * x.1 - 5 * x.2)) trivial _ [] (fun x hx N hN => ?_) ?_
            · walk_at "wpx"
              exact ⟨.of_left (by decide), .of_left (by decide), hN⟩
            · try walk_at "wpx"
              rw [List.nil_append, zip_with fun a b => 2 * a - 5 * b]
              rw [wpB]
              try dsimp only
              refine tail _ x y z _ _ _ _ _ _ rfl (by rw [List.length_zipWith, hr0.1, hrm.1, Nat.min_self]) fun k hk => ?_
              obtain ⟨i, ei⟩ := mem_cf hk
              rw [cf_zip 2 5 r0 rl (by rw [hr0.1, hrm.1])] at ei
              rw [← ei]
              exact (bd_25 (hr0.2.cf i) (hrm.2.cf i)).mono (by omega)
        · rw [decide_eq_false ht]
          walk_at "wpx"
          rw [wpB]
          try dsimp only
          exact tail l x y z _ _ _ _ _ _ rfl hll (hbl.mono (by omega))
    · rintro d' rest' S2 acc N' ⟨x, y, z, l, rfl, rfl, hbl, hll⟩ hN'
      refine ⟨trivial, ?_⟩
      walk_at "wpx"
      refine ⟨⟨by decide, by decide +kernel⟩, by decide, p, _, rfl, dice_has hne, List.cons_ne_nil _ _, by decide, fun e he a b c => ?_⟩
      rw [dice_in hne]
      have he : e ∈ dI [0, 0, 1, -1, 2, -3, 4, 10 ^ 20] := he
      obtain ⟨k, hk, rfl⟩ := List.mem_map.mp he
      have bk : Bd 67 k := by
        have : ∀ k ∈ [0, 0, 1, -1, 2, -3, 4, (10 : Int) ^ 20], Bd 67 k := by unfold Bd; decide
        exact this k hk
      refine hN' _ _ ⟨a, b, c, l ++ [k], rfl, by simp [dI], fun i hi => ?_, by rw [List.length_append, List.length_singleton]; rw [List.length_cons] at hll; omega⟩
      rcases List.mem_append.mp hi with e | e
      · exact hbl i e
      · rw [List.mem_singleton.mp e]; exact bk

/-- a value near rows and lots -/
def Nr (v : D) : Prop := Ty3 v ∧ Szd v ∧ ∀ xs, v = .tup xs → xs.length < 64
theorem nr_other {v : D} {t : String} (h : typD v = some t) (ht : t ≠ "tuple") : Nr v := by
  have no : ∀ xs, v ≠ .tup xs := fun xs e => by rw [e] at h; cases h; exact ht rfl
  exact ⟨⟨⟨t, h⟩, fun xs e => absurd e (no xs)⟩, fun lot e => absurd e (no _), fun xs e => absurd e (no xs)⟩
theorem nr_Lt {l : List (List Int)} (h : ∀ r ∈ l, BdP 4000000 r ∧ r.length ≤ 1000) (hl : l.length < 64) : Nr (Lt l) :=
  ⟨ty3_Lt l, fun lot e => by rw [← Lt_inj e]; exact h, fun xs e => by cases e; rw [List.length_map]; exact hl⟩
theorem nr_flat {xs : List D} (h : ∀ x ∈ xs, Ty x ∧ ∀ ys, x ≠ .tup ys) (hl : xs.length < 64) : Nr (.tup xs) :=
  ⟨⟨⟨_, rfl⟩, fun ys e x hx => by cases e; exact ⟨(h x hx).1, fun zs e => absurd e ((h x hx).2 zs)⟩⟩, fun lot e r hr => by
    cases e
    exact absurd rfl ((h (P r) (List.mem_map.mpr ⟨r, hr, rfl⟩)).2 _), fun ys e => by cases e; exact hl⟩
theorem nr_P {r : List Int} (hl : r.length < 64) : Nr (P r) := nr_flat (fun x hx => by obtain ⟨c, _, rfl⟩ := List.mem_map.mp hx; exact ⟨ty_i c, fun ys e => nomatch e⟩) (by rw [dI_len]; exact hl)
theorem nr_rep {n : Nat} {d : D} (h : Ty d) (hd : ∀ ys, d ≠ .tup ys) (hn : n < 64) : Nr (.tup (List.replicate n d)) := nr_flat (fun x hx => by rw [(List.mem_replicate.mp hx).2]; exact ⟨h, hd⟩) (by rw [List.length_replicate]; exact hn)
theorem flat_rep (n : Nat) (d : D) : (List.replicate n [d]).flatten = List.replicate n d := by
  induction n with
  | zero => rfl
  | succ n ih => rw [List.replicate_succ, List.flatten_cons, ih, List.replicate_succ]; rfl
theorem dI_rep (n : Nat) : List.replicate n (D.int 0) = dI (List.replicate n 0) := (List.map_replicate ..).symm
theorem cut_lt (l : List (List Int)) : cutD (l.map P) (some 1) none = (l.drop 1).map P := by
  cases l with
  | nil => rfl
  | cons a l =>
    have := cut_from (xs := (a :: l).map P) (m := 1) (by simp)
    exact this.trans (List.map_drop ..).symm
theorem cut_t1 (l : List (List Int)) : cutD (l.map P) none (some 1) = (l.take 1).map P := by
  cases l with
  | nil => rfl
  | cons a l =>
    have := cut_to (xs := (a :: l).map P) (m := 1) (by simp)
    exact this.trans (List.map_take ..).symm
theorem cut_r1 (r : List Int) : cutD (dI r) (some 1) none = dI (r.drop 1) := by
  cases r with
  | nil => rfl
  | cons a l =>
    have := cut_from (xs := dI (a :: l)) (m := 1) (by simp)
    exact this.trans (List.map_drop ..).symm
theorem sok__law_near : SpecOk Gm d__law_near := by
  rintro ds S R Q ⟨p, w, lot, row, rfl, h1, h2, hI, hB, hr, hb, q⟩
  refine ⟨rfl, ?_⟩
  show wpB Gm b__law_near _ _ [some (.ref p), some (.int w), some (Lt lot), some (P row), none, none, none, none] S
  unfold b__law_near
  have hll := hI.len
  have bl : ∀ r ∈ lot, BdP 4000000 r ∧ r.length ≤ 1000 := fun r h => ⟨(hB r h).mono (by decide), by rw [(hI.1 r h).1]; omega⟩
  have br : BdP 4000000 row ∧ row.length ≤ 1000 := ⟨hb.mono (by decide), by omega⟩
  walk_at "wpc"
  have lr : (dI row).length = w := by rw [dI_len, hr]
  have l1 : (lot.map P).length ≤ 5 := by rw [List.length_map]; omega
  have l2 : (cutD (lot.map P) none (some 1)).length ≤ 5 := by rw [cut_t1, List.length_map, List.length_take]; omega
  refine ⟨by decide, by decide, by decide, by rw [lr, sizeLine_eq]; omega, by decide, by decide, by rw [sizeLine_eq]; omega, by simp [sizeLine_eq], fun p1 hp1 => ?_⟩
  obtain ⟨ds1, e1, n1, ln1⟩ : ∃ ds1 : List D, ds1 = [D.non, D.int 0, D.tup [], D.str (Str.ofString "row"), D.lst [], D.lst (dI row), P row, D.tup (dI row ++ [D.int 0]), D.tup (cutD (dI row) (some 1) none), Lt lot, D.lst (List.map P lot),
      D.tup (List.map P lot).reverse, D.tup (List.map P lot ++ cutD (List.map P lot) none (some 1))] ∧ (∀ v ∈ ds1, Nr v) ∧ ds1.length ≤ 20 := by
    refine ⟨_, rfl, fun v hv => ?_, by simp⟩
    simp only [List.mem_cons, List.not_mem_nil, or_false] at hv
    rcases hv with rfl | rfl | rfl | rfl | rfl | rfl | rfl | rfl | rfl | rfl | rfl | rfl | rfl
    · exact nr_other (t := "NoneType") rfl (by decide)
    · exact nr_other (t := "int") rfl (by decide)
    · exact nr_flat (fun _ h => nomatch h) (by decide)
    · exact nr_other (t := "str") rfl (by decide)
    · exact nr_other (t := "list") rfl (by decide)
    · exact nr_other (t := "list") rfl (by decide)
    · exact nr_P (by omega)
    · have e : dI row ++ [D.int 0] = dI (row ++ [0]) := by simp [dI]
      rw [e]; exact nr_P (by rw [List.length_append, List.length_singleton]; omega)
    · rw [cut_r1]; exact nr_P (by rw [List.length_drop]; omega)
    · exact nr_Lt bl (by omega)
    · exact nr_other (t := "list") rfl (by decide)
    · rw [← List.map_reverse]; exact nr_Lt (fun r h => bl r (List.mem_reverse.mp h)) (by rw [List.length_reverse]; omega)
    · rw [cut_t1, ← List.map_append]
      exact nr_Lt (fun r h => by
        rcases List.mem_append.mp h with e | e
        · exact bl r e
        · exact bl r (List.mem_of_mem_take e)) (by rw [List.length_append, List.length_take]; omega)
  rw [← e1]
  clear e1
  have sz : ∀ n : Nat, n ≤ 100 → n ≤ sizeLine := fun n h => by rw [sizeLine_eq]; omega
  walk_at "wpc"
  simp only [Int.toNat_natCast]
  refine ⟨sz _ (by decide), sz _ (by decide), sz _ (by omega), sz _ (by decide), by omega, by omega, sz _ (by omega), sz _ (by decide), by omega, by omega, sz _ (by omega), sz _ (by decide), by omega, by omega, sz _ (by omega), sz _ (by decide), sz _ (by decide), sz _ (by simp; omega), fun p2 hp2 => ?_⟩
  have s1 : Sub S (sup S p1 (.lst ds1)) := sub_sup hp1
  have hp20 : S p2 = none := by
    cases h : S p2 with
    | none => rfl
    | some o => rw [s1 p2 o h] at hp2; cases hp2
  obtain ⟨ds2, e2, n2, ln2⟩ : ∃ ds2 : List D, ds2 = ds1 ++ [D.tup [P row], D.tup (List.map P lot ++ [P row]), D.tup (List.replicate w [D.bl true]).flatten, D.tup (List.replicate w [D.str (Str.ofString "1")]).flatten, D.tup [D.tup (List.replicate w [D.int 0]).flatten]] ∧ (∀ v ∈ ds2, Nr v) ∧ ds2.length ≤ 40 := by
    refine ⟨_, rfl, fun v hv => ?_, by simp; omega⟩
    rcases List.mem_append.mp hv with hv | hv
    · exact n1 v hv
    simp only [List.mem_cons, List.not_mem_nil, or_false] at hv
    rcases hv with rfl | rfl | rfl | rfl | rfl
    · exact nr_Lt (l := [row]) (fun r h => by rw [List.mem_singleton.mp h]; exact br) (by simp)
    · have e : lot.map P ++ [P row] = (lot ++ [row]).map P := by simp
      rw [e]
      exact nr_Lt (fun r h => by
        rcases List.mem_append.mp h with e | e
        · exact bl r e
        · rw [List.mem_singleton.mp e]; exact br) (by rw [List.length_append, List.length_singleton]; omega)
    · rw [flat_rep]; exact nr_rep ⟨_, rfl⟩ (fun ys e => nomatch e) (by omega)
    · rw [flat_rep]; exact nr_rep ⟨_, rfl⟩ (fun ys e => nomatch e) (by omega)
    · rw [flat_rep, dI_rep]
      exact nr_Lt (l := [List.replicate w 0]) (fun r h => by
        rw [List.mem_singleton.mp h]
        exact ⟨fun c hc => by rw [(List.mem_replicate.mp hc).2]; exact bd_zero, by rw [List.length_replicate]; omega⟩) (by simp)
  rw [← e2]
  clear e2
  obtain ⟨S2, eS, s2, hS2⟩ : ∃ S2, S2 = sup (sup S p1 (.lst ds1)) p2 (.lst ds2) ∧ Sub S S2 ∧ S2 p2 = some (.lst ds2) := ⟨_, rfl, s1.trans (sub_sup hp2), sup_same⟩
  rw [← eS]
  clear eS
  have fin : ∀ (S' : Sto) (ds : List D) (a b c : Option D) (E : DEnd) (X : XS), E.rt = RtQ Q → Sub S S' → S' p2 = some (.lst ds) → (∀ v ∈ ds, Nr v) → wpB Gm (.cons (.retF (.var 4)) .nil) E X [some (.ref p), some (.int w), some (Lt lot), some (P row), some (.ref p2), a, b, c] S' := by
    intro S' ds a b c E X hE hs hd hn
    walk_at "wpc"
    rw [hE]
    refine ⟨p2, ds, rfl, hd, ⟨S, fun k o h => ?_, q ds hn⟩⟩
    have hk : k ≠ p2 := fun e => by rw [e, hp20] at h; cases h
    rw [sdel_ne hk]; exact hs k o h
  have app_sub : ∀ (S' : Sto) (o : DO), Sub S S' → Sub S (sup S' p2 o) := fun S' o hs k u h => by
    have hk : k ≠ p2 := fun e => by rw [e, hp20] at h; cases h
    rw [sup_ne hk]; exact hs k u h
  walk_at "wpc"
  refine ⟨p2, rfl, ⟨_, hS2⟩, ?_⟩
  refine compL_mapG P (fun r => P (r.map (2 * ·))) trivial lot [] (fun r hr N hN => ?_) ?_
  · walk_at "wpx"
    refine compL_mapG D.int (fun c => D.int (2 * c)) trivial r [] (fun c hc N' hN' => ?_) ?_
    · walk_at "wpx"
      exact ⟨.of_left (by decide), hN'⟩
    · try walk_at "wpx"
      rw [List.nil_append, frow_map]
      exact hN
  try walk_at "wpx"
  rw [List.nil_append]
  refine ⟨_, hS2, by rw [sizeLine_eq]; omega, ?_⟩
  have em : (lot.map fun r => P (r.map (2 * ·))) = (lot.map fun r => r.map (2 * ·)).map P := by rw [List.map_map]; rfl
  rw [em]
  have b2 : ∀ {c : Int}, Bd 3000000 c → Bd 4000000 (2 * c) := fun {c} h => ((show Bd 2 2 by unfold Bd; decide).mul h).mono (by decide)
  have n3 : ∀ v ∈ ds2 ++ [D.tup ((lot.map fun r => r.map (2 * ·)).map P)], Nr v := fun v hv => by
    rcases List.mem_append.mp hv with e | e
    · exact n2 v e
    · rw [List.mem_singleton.mp e]
      refine nr_Lt (fun r h => ?_) (by rw [List.length_map]; omega)
      obtain ⟨r0, h0, rfl⟩ := List.mem_map.mp h
      refine ⟨fun c hc => ?_, by rw [List.length_map, (hI.1 r0 h0).1]; omega⟩
      obtain ⟨c0, hc0, rfl⟩ := List.mem_map.mp hc
      exact b2 (hB r0 h0 c0 hc0)
  generalize hds3 : ds2 ++ [D.tup ((lot.map fun r => r.map (2 * ·)).map P)] = ds3 at *
  have ln3 : ds3.length ≤ 41 := by rw [← hds3, List.length_append, List.length_singleton]; omega
  have s3 := app_sub S2 (.lst ds3) s2
  have hS3 : sup S2 p2 (.lst ds3) p2 = some (.lst ds3) := sup_same
  generalize sup S2 p2 (.lst ds3) = S3 at *
  walk_at "wpc"
  refine ⟨by decide, ?_⟩
  refine eqD_it (n := 2) (m := 1) (it_rows lot) (fun _ h => nomatch h) (by decide) (by decide) (fun z1 => ?_) (fun z1 => ?_)
  · walk_at "wpx"
    rw [wpB]
    try dsimp only
    exact fin S3 ds3 _ _ _ _ _ rfl s3 hS3 n3
  · walk_at "wpx"
    cases lot with
    | nil => exact absurd rfl z1
    | cons r0 rs =>
      have hr0 := hI.1 r0 List.mem_cons_self
      have hb0 := hB r0 List.mem_cons_self
      obtain ⟨rl, hrl⟩ : ∃ rl, (r0 :: rs).getLast? = some rl := ⟨_, List.getLast?_eq_some_getLast (List.cons_ne_nil _ _)⟩
      have hml := List.mem_of_getLast? hrl
      have hrm := hI.1 rl hml
      have hbm := hB rl hml
      have at0 : atD ((r0 :: rs).map P) 0 = some (P r0) := at_nat (i := 0) rfl
      have atl : atD ((r0 :: rs).map P) (-1) = some (P rl) := at_last (by rw [List.getLast?_map, hrl]; rfl)
      walk_at "wpc"
      refine ⟨p2, rfl, ⟨_, hS3⟩, _, at0, ?_⟩
      walk_at "wpx"
      refine compL_mapG D.int (fun c => D.int (0 - c)) trivial r0 [] (fun c hc N' hN' => ?_) ?_
      · walk_at "wpx"
        exact hN'
      try walk_at "wpx"
      rw [List.nil_append, frow_map, cut_lt]
      have hrs : rs.length ≤ 5 := by rw [List.length_cons] at hll; omega
      refine ⟨by decide, sz _ (by simp; omega), _, hS3, by rw [sizeLine_eq]; omega, ?_⟩
      have rest_ok : ∀ r ∈ rs, BdP 4000000 r ∧ r.length ≤ 1000 := fun r h => bl r (List.mem_cons_of_mem _ h)
      have n4 : ∀ v ∈ ds3 ++ [D.tup ([P (r0.map fun c => 0 - c)] ++ (List.drop 1 (r0 :: rs)).map P)], Nr v := fun v hv => by
        rcases List.mem_append.mp hv with e | e
        · exact n3 v e
        · rw [List.mem_singleton.mp e]
          refine nr_Lt (l := (r0.map fun c => 0 - c) :: rs) (fun r h => ?_) (by rw [List.length_cons]; omega)
          rcases List.mem_cons.mp h with e | e
          · rw [e]
            refine ⟨fun c hc => ?_, by rw [List.length_map, hr0.1]; omega⟩
            obtain ⟨c0, hc0, rfl⟩ := List.mem_map.mp hc
            rw [Int.zero_sub]
            exact (hb0 c0 hc0).neg.mono (by decide)
          · exact rest_ok r e
      generalize hds4 : ds3 ++ [D.tup ([P (r0.map fun c => 0 - c)] ++ (List.drop 1 (r0 :: rs)).map P)] = ds4 at *
      have ln4 : ds4.length ≤ 42 := by rw [← hds4, List.length_append, List.length_singleton]; omega
      have s4 := app_sub S3 (.lst ds4) s3
      have hS4 : sup S3 p2 (.lst ds4) p2 = some (.lst ds4) := sup_same
      generalize sup S3 p2 (.lst ds4) = S4 at *
      walk_at "wpc"
      refine ⟨p2, rfl, ⟨_, hS4⟩, _, at0, _, atl, ?_⟩
      walk_at "wpx"
      rw [zipD_map]
      refine compL_mapG (fun x : Int × Int => D.tup [D.int x.1, D.int x.2]) (fun x => D.int (x.1 + x.2)) trivial _ [] (fun x hx N hN => ?_) ?_
      · walk_at "wpx"
        exact hN
      try walk_at "wpx"
      rw [List.nil_append, zip_with fun a b => a + b, cut_lt]
      refine ⟨by decide, sz _ (by simp; omega), _, hS4, by rw [sizeLine_eq]; omega, ?_⟩
      rw [wpB]
      try dsimp only
      refine fin _ _ _ _ _ _ _ rfl (app_sub S4 _ s4) sup_same fun v hv => ?_
      rcases List.mem_append.mp hv with e | e
      · exact n4 v e
      · rw [List.mem_singleton.mp e]
        refine nr_Lt (l := List.zipWith (fun a b => a + b) r0 rl :: rs) (fun r h => ?_) (by rw [List.length_cons]; omega)
        rcases List.mem_cons.mp h with e | e
        · rw [e]
          refine ⟨fun c hc => ?_, by rw [List.length_zipWith, hr0.1]; omega⟩
          obtain ⟨a, b, h1, h2, rfl⟩ : ∃ a b, a ∈ r0 ∧ b ∈ rl ∧ a + b = c := by
            obtain ⟨i, hi, e⟩ := List.mem_iff_getElem.mp hc
            rw [List.getElem_zipWith] at e
            exact ⟨_, _, List.getElem_mem _, List.getElem_mem _, e⟩
          exact ((hb0 a h1).add (hbm b h2)).mono (by decide)
        · exact rest_ok r e

theorem eqD_str {x : Str} {k : Bool → Prop} (h : PyData.strOk x = true) (q : k true) : eqD (.str x) (.str x) k := by
  refine ⟨.str x, .str x, rfl, rfl, ?_, ?_, ?_⟩
  · show (PyData.canLay0 (.str x) && decide (PyData.depth (.str x) ≤ 64)) = true
    simp only [PyData.canLay0, h, PyData.depth, Bool.true_and]; rfl
  · show (PyData.canLay0 (.str x) && decide (PyData.depth (.str x) ≤ 64)) = true
    simp only [PyData.canLay0, h, PyData.depth, Bool.true_and]; rfl
  · have : PyData.eqv (.str x) (.str x) = true := by simp [PyData.eqv]
    rw [this]; exact q
theorem eqD_bl {x : Bool} {k : Bool → Prop} (q : k true) : eqD (.bl x) (.bl x) k := by
  refine ⟨.bool x, .bool x, rfl, rfl, by cases x <;> rfl, by cases x <;> rfl, ?_⟩
  have : PyData.eqv (.bool x) (.bool x) = true := by cases x <;> rfl
  rw [this]; exact q
theorem small_lot {w : Nat} {rows : List (List Int)} (hw : w ≤ 5) (h : ∀ r ∈ rows, r.length = w ∧ BdP 100 r) : ∀ r ∈ lotf rows, BdP 30000 r := fun r hr =>
  (lotf_bd (w := w) rows h r hr).mono (by
    have o := (lotf_ok (w := w) rows fun r hr => (h r hr).1).1.len
    have : bl 100 (lotf rows).length ≤ bl 100 5 := bl_mono 100 (by omega)
    have e : bl 100 5 = 20925 := by decide
    omega)
theorem bd_sum3 {l : List (List Int)} (hl : l.length ≤ 5) (h : ∀ r ∈ l, BdP 30000 r) (i : Nat) : Bd 30005 ((l.map fun r => 3 * cf r i).sum) := by
  have key : ∀ (l : List (List Int)), (∀ r ∈ l, BdP 30000 r) → ((l.map fun r => 3 * cf r i).sum).natAbs ≤ l.length * (3 * 2 ^ 30000) := fun l => by
    induction l with
    | nil => intro _; exact Nat.zero_le _
    | cons a l ih =>
      intro h
      have a1 := (h a List.mem_cons_self).cf i
      have a2 := ih fun r hr => h r (List.mem_cons_of_mem _ hr)
      rw [List.map_cons, List.sum_cons, List.length_cons, Nat.add_mul]
      unfold Bd at a1
      generalize 2 ^ 30000 = m at *
      omega
  have := key l h
  unfold Bd
  have e : 2 ^ 30005 = 2 ^ 30000 * 32 := Nat.pow_add 2 30000 5
  rw [e]
  have h5 : l.length * (3 * 2 ^ 30000) ≤ 5 * (3 * 2 ^ 30000) := Nat.mul_le_mul_right _ hl
  have p := Nat.two_pow_pos 30000
  generalize 2 ^ 30000 = m at *
  omega
/-- repr of two truth values that are judged by one word -/
theorem repr_same {w : Nat} {A : Prop} {b c : Bool} (h : b = true ↔ A) (h' : c = true ↔ A) : b = c := by
  cases b <;> cases c <;> simp_all
theorem sok__law_right : SpecOk Gm d__law_right := by
  rintro ds S R Q ⟨p, rfl, ⟨a0, b0, c0, hS⟩, q⟩
  refine ⟨rfl, ?_⟩
  show wpB Gm b__law_right _ _ [some (.ref p), none, none, none, none, none, none, none, none, none] S
  unfold b__law_right
  walk_at "wpc"
  refine ⟨p, _, rfl, ⟨a0, b0, c0, hS⟩, by decide, by decide, fun t x y z t0 t1 => ?_⟩
  obtain ⟨w, hw⟩ : ∃ w : Nat, 1 + t = w := ⟨(1 + t).toNat, by omega⟩
  have h1 : 1 ≤ w := by omega
  have h2 : w ≤ 5 := by omega
  walk_at "wpx"
  rw [hw]
  walk_at "wpc"
  refine ⟨p, w, rfl, ⟨x, y, z, sup_same⟩, h1, h2, fun rows x y z hl5 hr => ?_⟩
  simp only [sup_sup]
  obtain ⟨hI, hB, hT, hT2, eL, hTl, hIa, hBa, hTa, eA, eLen⟩ := drawn_all h2 hr
  have hsm := small_lot h2 hr
  have hll := hI.len
  walk_at "wpc"
  refine ⟨w, _, rows, rfl, .inr rfl, hT, ?_⟩
  walk_at "wpc"
  refine ⟨w, rows, rfl, h1, hT, ?_⟩
  refine eqD_same (it_rows _) (by decide) ?_
  walk_at "wpx"
  have e1 : (rows.map P).reverse ++ (lotf rows).map P = (rows.reverse ++ lotf rows).map P := by rw [List.map_append, List.map_reverse]
  refine ⟨by rw [List.length_reverse, List.length_map, List.length_map, sizeLine_eq]; omega, w, rows.reverse ++ lotf rows, by rw [e1], h1, hT2, ?_⟩
  rw [eL]
  refine eqD_same (it_rows _) (by decide) ?_
  walk_at "wpx"
  rw [wpB]
  walk_at "wpc"
  refine ⟨w, lotf rows, rfl, h1, h2, hI, hB, hTl, ?_⟩
  walk_at "wpc"
  refine ⟨w, lotf rows, rfl, h2, hI, hB, hTl, ?_⟩
  refine eqD_same (it_rows _) (by decide) ?_
  walk_at "wpx"
  have e2 : decide ((((apt w (lotf rows)).map P).length : Int) + (((lotf rows).map P).length : Int) = (w : Int)) = true := decide_eq_true (by rw [List.length_map, List.length_map]; omega)
  rw [e2]
  walk_at "wpx"
  refine ⟨w, apt w (lotf rows), rfl, h1, h2, hIa, hBa, hTa, ?_⟩
  rw [eA]
  refine eqD_same (it_rows _) (by decide) ?_
  walk_at "wpx"
  rw [wpB]
  walk_at "wpc"
  refine ⟨w, rfl, by omega, by omega, ?_⟩
  simp only [Int.toNat_natCast]
  generalize hlot : lotf rows = lot at *
  refine compL_ind (fun rest S2 acc => ∃ (x y z : Int) (l : List Int), S2 = Dice p x y z S ∧ acc = dI l ∧ BdP 3 l ∧ l.length + rest.length = w) ?_ ?_ _ _ _ ⟨x, y, z, [], rfl, rfl, fun _ h => (nomatch h), by rw [rg_dlen]; simp⟩
  · rintro S2 acc ⟨x, y, z, row, rfl, rfl, hbr, hlr⟩
    refine ⟨trivial, ?_⟩
    have hlr : row.length = w := by simpa using hlr
    try walk_at "wpx"
    walk_at "wpc"
    refine ⟨w, rfl, by omega, by omega, ?_⟩
    simp only [Int.toNat_natCast]
    rw [range_ints]
    refine compL_mapG (fun i : Nat => D.int (i : Nat)) (fun i => D.int ((lot.map fun r => 3 * cf r i).sum)) trivial (List.range w) [] (fun i hi N hN => ?_) ?_
    · have hi : i < w := List.mem_range.mp hi
      walk_at "wpx"
      refine compL_mapG P (fun r => D.int (3 * cf r i)) trivial lot [] (fun r hr' N' hN' => ?_) ?_
      · walk_at "wpx"
        refine ⟨_, dI_at (p := r) (i := i) (by rw [(hI.1 r hr').1]; exact hi), ?_⟩
        walk_at "wpx"
        exact ⟨.of_left (by decide), hN'⟩
      · try walk_at "wpx"
        exact ⟨lot.map fun r => 3 * cf r i, by rw [List.nil_append, List.map_map]; rfl, hN⟩
    try walk_at "wpx"
    obtain ⟨held, eh, hbh, hlh⟩ : ∃ held : List Int, ((List.range w).map fun i => D.int ((lot.map fun r => 3 * cf r i).sum)) = dI held ∧ BdP 3000000 held ∧ held.length = w := by
      refine ⟨(List.range w).map fun i => (lot.map fun r => 3 * cf r i).sum, by show _ = List.map D.int _; rw [List.map_map]; rfl, fun c hc => ?_, by rw [List.length_map, List.length_range]⟩
      obtain ⟨i, _, rfl⟩ := List.mem_map.mp hc
      exact (bd_sum3 (by omega) hsm i).mono (by decide)
    rw [List.nil_append, eh]
    walk_at "wpc"
    refine ⟨by decide, by omega, by omega, by rw [Int.toNat_natCast, sizeLine_eq]; omega, by decide, ?_⟩
    rw [Int.toNat_natCast, flat_rep, dI_rep]
    refine forL_ind (fun rest ρ S2 => ∃ (m : List (List Int)) (u v : Option D), rest = m.map P ∧ ρ = [some (.ref p), some (.int w), some (.lst (rows.map P)), some (Lt lot), some (Lt (apt w lot)), some (P row), u, some (P held), v, none] ∧ S2 = Dice p x y z S ∧ ∀ r ∈ m, r.length = w ∧ BdP 3000000 r) ?_ ?_ _ _ _
      ⟨[row, held, List.replicate w 0], _, _, rfl, rfl, rfl, fun r hr' => ?_⟩
    rotate_right
    · simp only [List.mem_cons, List.not_mem_nil, or_false] at hr'
      rcases hr' with rfl | rfl | rfl
      · exact ⟨hlr, hbr.mono (by decide)⟩
      · exact ⟨hlh, hbh⟩
      · exact ⟨List.length_replicate, fun c hc => by rw [(List.mem_replicate.mp hc).2]; exact bd_zero⟩
    · rintro ρ S2 ⟨m, u, v, e, rfl, rfl, _⟩
      refine ⟨trivial, ?_⟩
      walk_at "wpc"
      refine ⟨p, w, lot, row, rfl, h1, h2, hI, hB, hlr, hbr, fun vs hvs => ?_⟩
      walk_at "wpx"
      refine forL_ind (fun rest ρ S2 => ∃ (v2 : Option D), ρ = [some (.ref p), some (.int w), some (.lst (rows.map P)), some (Lt lot), some (Lt (apt w lot)), some (P row), u, some (P held), v, v2] ∧ S2 = Dice p x y z S ∧ ∀ d ∈ rest, Nr d) ?_ ?_ _ _ _ ⟨_, rfl, rfl, hvs⟩
      · rintro ρ S2 ⟨v2, rfl, rfl, _⟩
        refine ⟨trivial, ?_⟩
        walk_at "wpc"
        exact rtq (q x y z)
      · rintro d rest ρ S2 N ⟨v2, rfl, rfl, hd⟩ hN
        obtain ⟨t3, sz, ln⟩ := hd d List.mem_cons_self
        have t2 : Ty2 d := ⟨t3.1, fun xs e x hx => (t3.2 xs e x hx).1⟩
        refine ⟨trivial, ?_⟩
        walk_at "wpc"
        refine ⟨d, w, rfl, h1, by omega, t2, fun b hb => ?_⟩
        walk_at "wpx"
        refine ⟨d, w, rfl, t2, fun b' hb' => ?_⟩
        rw [repr_same (w := 0) hb' hb]
        walk_at "wpx"
        refine eqD_str (by cases b <;> decide +kernel) ?_
        walk_at "wpx"
        rw [wpB]
        walk_at "wpc"
        refine ⟨d, w, rfl, h1, by omega, t3, fun b hb => ?_⟩
        walk_at "wpx"
        refine ⟨d, w, rfl, by omega, t3, sz, ln, fun b' hb' => ?_⟩
        rw [repr_same (w := 0) hb' hb]
        walk_at "wpx"
        refine eqD_str (by cases b <;> decide +kernel) ?_
        walk_at "wpx"
        rw [wpB]
        try dsimp only
        rw [wpB]
        exact hN _ _ ⟨_, rfl, rfl, fun d h => hd d (List.mem_cons_of_mem _ h)⟩
    · rintro d rest ρ S2 N ⟨m, u, v, e, rfl, rfl, hm⟩ hN
      cases m with
      | nil => cases e
      | cons o m =>
        cases e
        obtain ⟨lo, bo⟩ := hm o List.mem_cons_self
        refine ⟨trivial, ?_⟩
        walk_at "wpc"
        refine ⟨w, lot, o, rfl, h1, h2, hI, hB, lo, bo, ?_⟩
        refine ⟨w, lot, o, rfl, h2, hI, hB, lo, bo, ?_⟩
        refine eqD_bl ?_
        walk_at "wpx"
        refine ⟨w, o, rfl, h1, by omega, lo, ?_⟩
        refine ⟨o, rfl, by omega, bo.mono (by decide), ?_⟩
        refine eqD_same (it_t _) (by decide) ?_
        walk_at "wpx"
        rw [wpB]
        walk_at "wpc"
        refine ⟨w, o, row, rfl, h1, by omega, lo, hlr, bo.mono (by decide), hbr.mono (by decide), ?_⟩
        refine ⟨o, row, rfl, bo.mono (by decide), hbr.mono (by decide), ?_⟩
        walk_at "wpx"
        try simp only [decide_true, Bool.not_true, Bool.false_eq_true, if_false]
        rw [wpB]
        try dsimp only
        rw [wpB]
        exact hN _ _ ⟨m, _, _, rfl, rfl, rfl, fun r h => hm r (List.mem_cons_of_mem _ h)⟩
  · rintro d rest S2 acc N ⟨x, y, z, l, rfl, rfl, hbl, hl⟩ hN
    refine ⟨trivial, ?_⟩
    try walk_at "wpx"
    refine ⟨p, _, rfl, ⟨x, y, z, sup_same⟩, by decide, by decide, fun t a b c t0 t1 => ?_⟩
    simp only [sup_sup]
    try walk_at "wpx"
    refine hN _ _ ⟨a, b, c, l ++ [t - 3], rfl, by simp [dI], fun k hk => ?_, by rw [List.length_append, List.length_singleton]; rw [List.length_cons] at hl; omega⟩
    rcases List.mem_append.mp hk with e | e
    · exact hbl k e
    · rw [List.mem_singleton.mp e]; unfold Bd; have : 2 ^ 3 = 8 := rfl; omega

theorem unit3 : lns 3 [] = [[1, 0, 0], [0, 1, 0], [0, 0, 1]] := by decide
theorem bits1 {r : List Int} (h : ∀ c ∈ r, c.natAbs < 2 ^ 1) : BdP 1 r := fun c hc => h c hc
theorem unit_rows : ∀ r ∈ lns 3 [], r.length = 3 ∧ BdP 1 r := by
  rw [unit3]
  intro r hr
  simp only [List.mem_cons, List.not_mem_nil, or_false] at hr
  rcases hr with rfl | rfl | rfl <;> exact ⟨rfl, bits1 (by decide)⟩
theorem unit_tame : Tame 3 (lns 3 []) := tame_of (by decide) unit_rows (by decide) (m := 3) (.inl (by decide)) (by decide)
theorem unit_lot : IsLot 3 [[1, 0, 0], [0, 1, 0], [0, 0, 1]] := by
  refine ⟨fun r hr => ?_, ?_⟩
  · simp only [List.mem_cons, List.not_mem_nil, or_false] at hr
    rcases hr with rfl | rfl | rfl <;> exact ⟨rfl, by decide, by decide +kernel⟩
  · decide
theorem unit_apt : apt 3 [] = [[1, 0, 0], [0, 1, 0], [0, 0, 1]] := lot_uniq apt_lot unit_lot fun x => by rw [apt_nul, unit3]
theorem sok_law : SpecOk Gm d_law := by
  rintro ds S R Q ⟨ns, rfl, q⟩
  refine ⟨rfl, ?_⟩
  show wpB Gm b_law _ _ [some (.scr ns), none, none, none] S
  unfold b_law
  walk_at "wpc"
  refine ⟨_, _, rfl, rfl, ?_⟩
  refine ⟨_, _, rfl, rfl, ?_⟩
  generalize hm : (if (if (ns.length : Int) < 8 then (ns.length : Int) else 8) > 1 then (if (ns.length : Int) < 8 then (ns.length : Int) else 8) else 1) = m
  have m1 : 1 ≤ m ∧ m ≤ 8 := by rw [← hm]; split <;> (try split) <;> omega
  refine ⟨m, rfl, by omega, by omega, ?_⟩
  refine forL_ind (fun rest ρ S' => ∃ x y z, ρ = [some (.scr ns), x, y, z] ∧ ∀ d ∈ rest, ∃ i : Nat, d = .int i) ?_ ?_ _ _ _ ⟨none, none, none, rfl, fun d hd => ?_⟩
  · rintro ρ S' ⟨x, y, z, rfl, _⟩
    refine ⟨trivial, ?_⟩
    walk_at "wpc"
    refine ⟨by decide, 3, [], rfl, by decide, by decide, isLot_nil 3, fun _ h => (nomatch h), unit_tame, ?_⟩
    rw [unit_apt]
    repeat (refine ⟨by decide, ?_⟩)
    exact eqD_same (it_rows [[1, 0, 0], [0, 1, 0], [0, 0, 1]]) (by decide) (rtq (q _))
  · rintro d rest ρ S' N ⟨x, y, z, rfl, hd⟩ hN
    obtain ⟨i, rfl⟩ := hd d List.mem_cons_self
    refine ⟨trivial, ?_⟩
    walk_at "wpc"
    refine ⟨ns, i, rfl, fun p a b c hp => ?_⟩
    walk_at "wpc"
    refine ⟨3, rfl, by decide, by decide, ?_⟩
    refine forL_ind (fun rest ρ S' => ∃ z, ρ = [some (.scr ns), some (.int i), some (.ref p), z] ∧ HasDice S' p) ?_ ?_ _ _ _ ⟨z, rfl, _, _, _, sup_same⟩
    · rintro ρ S2 ⟨z, rfl, hS⟩
      refine ⟨trivial, ?_⟩
      try dsimp only
      rw [wpB]
      exact hN _ _ ⟨_, _, _, rfl, fun d' h' => hd d' (List.mem_cons_of_mem _ h')⟩
    · rintro d rest ρ S2 N' ⟨z, rfl, hS⟩ hN'
      refine ⟨trivial, ?_⟩
      walk_at "wpc"
      refine ⟨p, rfl, hS, fun a b c => ?_⟩
      walk_at "wpx"
      rw [wpB]
      try dsimp only
      rw [wpB]
      exact hN' _ _ ⟨_, rfl, _, _, _, sup_same⟩
  · obtain ⟨j, _, rfl⟩ := List.mem_map.mp hd
    exact ⟨j, by congr 1; omega⟩
theorem law_fin (ns : List Int) : Gm.fn F.law [.scr ns] (fun _ => none) xNo fun d _ => d = .bl true := by
  rw [fn_law]
  exact ⟨ns, rfl, fun _ => rfl⟩

end LW
namespace LW
open PySem PySem.Spec PyProof.Rows L2 DL
/-! ### against the text -/
abbrev top (i : Nat) : Stmt := PySem.Challenge.pw_sumsclose_k11_whole_rows_and_lots.main.body.getD i (.Pass ⟨0, 0, 0, 0⟩)
theorem ok__law_dice : okD d__law_dice (defScope (top 32)) (defBody (top 32)) = true := by kernel_rfl
theorem bd__law_dice : BindOk (defArgs (top 32)) ["script", "spot"] := fun _ _ _ _ _ _ _ _ _ _ us hl => match us, hl with | [_, _], _ => rfl
theorem ok_is_integer : okD d_is_integer (defScope (top 7)) (defBody (top 7)) = true := by kernel_rfl
theorem bd_is_integer : BindOk (defArgs (top 7)) ["value"] := fun _ _ _ _ _ _ _ _ _ _ us hl => match us, hl with | [_], _ => rfl
theorem ok_require_width : okD d_require_width (defScope (top 8)) (defBody (top 8)) = true := by kernel_rfl
theorem bd_require_width : BindOk (defArgs (top 8)) ["width"] := fun _ _ _ _ _ _ _ _ _ _ us hl => match us, hl with | [_], _ => rfl
theorem ok_lead_in : okD d_lead_in (defScope (top 10)) (defBody (top 10)) = true := by kernel_rfl
theorem bd_lead_in : BindOk (defArgs (top 10)) ["row"] := fun _ _ _ _ _ _ _ _ _ _ us hl => match us, hl with | [_], _ => rfl
theorem ok_common_share : okD d_common_share (defScope (top 11)) (defBody (top 11)) = true := by kernel_rfl
theorem bd_common_share : BindOk (defArgs (top 11)) ["one", "other"] := fun _ _ _ _ _ _ _ _ _ _ us hl => match us, hl with | [_, _], _ => rfl
theorem ok_lowest_row : okD d_lowest_row (defScope (top 12)) (defBody (top 12)) = true := by kernel_rfl
theorem bd_lowest_row : BindOk (defArgs (top 12)) ["row"] := fun _ _ _ _ _ _ _ _ _ _ us hl => match us, hl with | [_], _ => rfl
theorem ok_is_plain_row : okD d_is_plain_row (defScope (top 9)) (defBody (top 9)) = true := by kernel_rfl
theorem bd_is_plain_row : BindOk (defArgs (top 9)) ["width", "value"] := fun _ _ _ _ _ _ _ _ _ _ us hl => match us, hl with | [_, _], _ => rfl
theorem ok_is_plain_lot : okD d_is_plain_lot (defScope (top 13)) (defBody (top 13)) = true := by kernel_rfl
theorem bd_is_plain_lot : BindOk (defArgs (top 13)) ["width", "value"] := fun _ _ _ _ _ _ _ _ _ _ us hl => match us, hl with | [_, _], _ => rfl
theorem ok_require_lot : okD d_require_lot (defScope (top 25)) (defBody (top 25)) = true := by kernel_rfl
theorem bd_require_lot : BindOk (defArgs (top 25)) ["width", "lot"] := fun _ _ _ _ _ _ _ _ _ _ us hl => match us, hl with | [_, _], _ => rfl
theorem ok_less_by : okD d_less_by (defScope (top 15)) (defBody (top 15)) = true := by kernel_rfl
theorem bd_less_by : BindOk (defArgs (top 15)) ["row", "other"] := fun _ _ _ _ _ _ _ _ _ _ us hl => match us, hl with | [_, _], _ => rfl
theorem ok_rest_by : okD d_rest_by (defScope (top 16)) (defBody (top 16)) = true := by kernel_rfl
theorem bd_rest_by : BindOk (defArgs (top 16)) ["lot", "row"] := fun _ _ _ _ _ _ _ _ _ _ us hl => match us, hl with | [_, _], _ => rfl
theorem ok_with_row : okD d_with_row (defScope (top 18)) (defBody (top 18)) = true := by kernel_rfl
theorem bd_with_row : BindOk (defArgs (top 18)) ["lot", "row"] := fun _ _ _ _ _ _ _ _ _ _ us hl => match us, hl with | [_, _], _ => rfl
theorem ok_lot_in : okD d_lot_in (defScope (top 19)) (defBody (top 19)) = true := by kernel_rfl
theorem bd_lot_in : BindOk (defArgs (top 19)) ["rows"] := fun _ _ _ _ _ _ _ _ _ _ us hl => match us, hl with | [_], _ => rfl
theorem ok_apart_in : okD d_apart_in (defScope (top 20)) (defBody (top 20)) = true := by kernel_rfl
theorem bd_apart_in : BindOk (defArgs (top 20)) ["width", "lot"] := fun _ _ _ _ _ _ _ _ _ _ us hl => match us, hl with | [_, _], _ => rfl
theorem ok_rows_apart : okD d_rows_apart (defScope (top 30)) (defBody (top 30)) = true := by kernel_rfl
theorem bd_rows_apart : BindOk (defArgs (top 30)) ["width", "lot"] := fun _ _ _ _ _ _ _ _ _ _ us hl => match us, hl with | [_, _], _ => rfl
theorem ok__law_roll : okD d__law_roll (defScope (top 33)) (defBody (top 33)) = true := by kernel_rfl
theorem bd__law_roll : BindOk (defArgs (top 33)) ["dice", "total"] := fun _ _ _ _ _ _ _ _ _ _ us hl => match us, hl with | [_, _], _ => rfl
theorem ok__law_pick : okD d__law_pick (defScope (top 34)) (defBody (top 34)) = true := by kernel_rfl
theorem bd__law_pick : BindOk (defArgs (top 34)) ["dice", "items"] := fun _ _ _ _ _ _ _ _ _ _ us hl => match us, hl with | [_, _], _ => rfl
theorem ok__law_drawn_rows : okD d__law_drawn_rows (defScope (top 47)) (defBody (top 47)) = true := by kernel_rfl
theorem bd__law_drawn_rows : BindOk (defArgs (top 47)) ["dice", "wide"] := fun _ _ _ _ _ _ _ _ _ _ us hl => match us, hl with | [_, _], _ => rfl
theorem ok__law_gcd : okD d__law_gcd (defScope (top 36)) (defBody (top 36)) = true := by kernel_rfl
theorem bd__law_gcd : BindOk (defArgs (top 36)) ["one", "other"] := fun _ _ _ _ _ _ _ _ _ _ us hl => match us, hl with | [_, _], _ => rfl
theorem ok__law_lead : okD d__law_lead (defScope (top 37)) (defBody (top 37)) = true := by kernel_rfl
theorem bd__law_lead : BindOk (defArgs (top 37)) ["row"] := fun _ _ _ _ _ _ _ _ _ _ us hl => match us, hl with | [_], _ => rfl
theorem ok__law_lowest : okD d__law_lowest (defScope (top 38)) (defBody (top 38)) = true := by kernel_rfl
theorem bd__law_lowest : BindOk (defArgs (top 38)) ["row"] := fun _ _ _ _ _ _ _ _ _ _ us hl => match us, hl with | [_], _ => rfl
theorem ok__law_less : okD d__law_less (defScope (top 46)) (defBody (top 46)) = true := by kernel_rfl
theorem bd__law_less : BindOk (defArgs (top 46)) ["row", "other"] := fun _ _ _ _ _ _ _ _ _ _ us hl => match us, hl with | [_, _], _ => rfl
theorem ok__law_with_row : okD d__law_with_row (defScope (top 39)) (defBody (top 39)) = true := by kernel_rfl
theorem bd__law_with_row : BindOk (defArgs (top 39)) ["lot", "row"] := fun _ _ _ _ _ _ _ _ _ _ us hl => match us, hl with | [_, _], _ => rfl
theorem ok__law_lot : okD d__law_lot (defScope (top 40)) (defBody (top 40)) = true := by kernel_rfl
theorem bd__law_lot : BindOk (defArgs (top 40)) ["rows"] := fun _ _ _ _ _ _ _ _ _ _ us hl => match us, hl with | [_], _ => rfl
theorem ok__law_near : okD d__law_near (defScope (top 48)) (defBody (top 48)) = true := by kernel_rfl
theorem bd__law_near : BindOk (defArgs (top 48)) ["dice", "wide", "lot", "row"] := fun _ _ _ _ _ _ _ _ _ _ us hl => match us, hl with | [_, _, _, _], _ => rfl
theorem ok_require_rows : okD d_require_rows (defScope (top 24)) (defBody (top 24)) = true := by kernel_rfl
theorem bd_require_rows : BindOk (defArgs (top 24)) ["width", "rows"] := fun _ _ _ _ _ _ _ _ _ _ us hl => match us, hl with | [_, _], _ => rfl
theorem ok_lot_of : okD d_lot_of (defScope (top 28)) (defBody (top 28)) = true := by kernel_rfl
theorem bd_lot_of : BindOk (defArgs (top 28)) ["width", "rows"] := fun _ _ _ _ _ _ _ _ _ _ us hl => match us, hl with | [_, _], _ => rfl
theorem ok__law_apart : okD d__law_apart (defScope (top 43)) (defBody (top 43)) = true := by kernel_rfl
theorem bd__law_apart : BindOk (defArgs (top 43)) ["lot", "wide"] := fun _ _ _ _ _ _ _ _ _ _ us hl => match us, hl with | [_, _], _ => rfl
theorem ok_require_row : okD d_require_row (defScope (top 23)) (defBody (top 23)) = true := by kernel_rfl
theorem bd_require_row : BindOk (defArgs (top 23)) ["width", "row"] := fun _ _ _ _ _ _ _ _ _ _ us hl => match us, hl with | [_, _], _ => rfl
theorem ok_dot : okD d_dot (defScope (top 14)) (defBody (top 14)) = true := by kernel_rfl
theorem bd_dot : BindOk (defArgs (top 14)) ["one", "other"] := fun _ _ _ _ _ _ _ _ _ _ us hl => match us, hl with | [_, _], _ => rfl
theorem ok_product : okD d_product (defScope (top 26)) (defBody (top 26)) = true := by kernel_rfl
theorem bd_product : BindOk (defArgs (top 26)) ["width", "one", "other"] := fun _ _ _ _ _ _ _ _ _ _ us hl => match us, hl with | [_, _, _], _ => rfl
theorem ok__law_dot : okD d__law_dot (defScope (top 41)) (defBody (top 41)) = true := by kernel_rfl
theorem bd__law_dot : BindOk (defArgs (top 41)) ["one", "other"] := fun _ _ _ _ _ _ _ _ _ _ us hl => match us, hl with | [_, _], _ => rfl
theorem ok_does_hold : okD d_does_hold (defScope (top 17)) (defBody (top 17)) = true := by kernel_rfl
theorem bd_does_hold : BindOk (defArgs (top 17)) ["lot", "row"] := fun _ _ _ _ _ _ _ _ _ _ us hl => match us, hl with | [_, _], _ => rfl
theorem ok_holds : okD d_holds (defScope (top 29)) (defBody (top 29)) = true := by kernel_rfl
theorem bd_holds : BindOk (defArgs (top 29)) ["width", "lot", "row"] := fun _ _ _ _ _ _ _ _ _ _ us hl => match us, hl with | [_, _, _], _ => rfl
theorem ok__law_holds : okD d__law_holds (defScope (top 42)) (defBody (top 42)) = true := by kernel_rfl
theorem bd__law_holds : BindOk (defArgs (top 42)) ["lot", "row"] := fun _ _ _ _ _ _ _ _ _ _ us hl => match us, hl with | [_, _], _ => rfl
theorem ok_lowest : okD d_lowest (defScope (top 27)) (defBody (top 27)) = true := by kernel_rfl
theorem bd_lowest : BindOk (defArgs (top 27)) ["width", "row"] := fun _ _ _ _ _ _ _ _ _ _ us hl => match us, hl with | [_, _], _ => rfl
theorem ok_is_row : okD d_is_row (defScope (top 21)) (defBody (top 21)) = true := by kernel_rfl
theorem bd_is_row : BindOk (defArgs (top 21)) ["width", "value"] := fun _ _ _ _ _ _ _ _ _ _ us hl => match us, hl with | [_, _], _ => rfl
theorem ok__law_is_int : okD d__law_is_int (defScope (top 35)) (defBody (top 35)) = true := by kernel_rfl
theorem bd__law_is_int : BindOk (defArgs (top 35)) ["value"] := fun _ _ _ _ _ _ _ _ _ _ us hl => match us, hl with | [_], _ => rfl
theorem ok__law_is_row : okD d__law_is_row (defScope (top 44)) (defBody (top 44)) = true := by kernel_rfl
theorem bd__law_is_row : BindOk (defArgs (top 44)) ["value", "wide"] := fun _ _ _ _ _ _ _ _ _ _ us hl => match us, hl with | [_, _], _ => rfl
theorem ok_is_lot : okD d_is_lot (defScope (top 22)) (defBody (top 22)) = true := by kernel_rfl
theorem bd_is_lot : BindOk (defArgs (top 22)) ["width", "value"] := fun _ _ _ _ _ _ _ _ _ _ us hl => match us, hl with | [_, _], _ => rfl
theorem ok__law_is_lot : okD d__law_is_lot (defScope (top 45)) (defBody (top 45)) = true := by kernel_rfl
theorem bd__law_is_lot : BindOk (defArgs (top 45)) ["value", "wide"] := fun _ _ _ _ _ _ _ _ _ _ us hl => match us, hl with | [_, _], _ => rfl
theorem ok__law_right : okD d__law_right (defScope (top 49)) (defBody (top 49)) = true := by kernel_rfl
theorem bd__law_right : BindOk (defArgs (top 49)) ["dice"] := fun _ _ _ _ _ _ _ _ _ _ us hl => match us, hl with | [_], _ => rfl
theorem ok_law : okD d_law (defScope (top 50)) (defBody (top 50)) = true := by kernel_rfl
theorem bd_law : BindOk (defArgs (top 50)) ["script"] := fun _ _ _ _ _ _ _ _ _ _ us hl => match us, hl with | [_], _ => rfl
def tb0 : List (Df × Stmt) := [(d__law_dice, top 32), (d_is_integer, top 7), (d_require_width, top 8), (d_lead_in, top 10), (d_common_share, top 11), (d_lowest_row, top 12), (d_is_plain_row, top 9), (d_is_plain_lot, top 13), (d_require_lot, top 25), (d_less_by, top 15), (d_rest_by, top 16), (d_with_row, top 18), (d_lot_in, top 19), (d_apart_in, top 20), (d_rows_apart, top 30), (d__law_roll, top 33), (d__law_pick, top 34), (d__law_drawn_rows, top 47), (d__law_gcd, top 36), (d__law_lead, top 37), (d__law_lowest, top 38), (d__law_less, top 46), (d__law_with_row, top 39), (d__law_lot, top 40), (d__law_near, top 48), (d_require_rows, top 24), (d_lot_of, top 28), (d__law_apart, top 43), (d_require_row, top 23), (d_dot, top 14), (d_product, top 26), (d__law_dot, top 41), (d_does_hold, top 17), (d_holds, top 29), (d__law_holds, top 42), (d_lowest, top 27), (d_is_row, top 21), (d__law_is_int, top 35), (d__law_is_row, top 44), (d_is_lot, top 22), (d__law_is_lot, top 45), (d__law_right, top 49), (d_law, top 50)]
def tab : List (Df × Stmt) := tb0
theorem calls_ok : callsAll [] (tab.map (·.1)) = true := by kernel_rfl
theorem ok_all_0 : ∀ p ∈ tb0, okD p.1 (defScope p.2) (defBody p.2) = true := List.forall_mem_cons.2 ⟨ok__law_dice, List.forall_mem_cons.2 ⟨ok_is_integer, List.forall_mem_cons.2 ⟨ok_require_width, List.forall_mem_cons.2 ⟨ok_lead_in, List.forall_mem_cons.2 ⟨ok_common_share, List.forall_mem_cons.2 ⟨ok_lowest_row, List.forall_mem_cons.2 ⟨ok_is_plain_row, List.forall_mem_cons.2 ⟨ok_is_plain_lot, List.forall_mem_cons.2 ⟨ok_require_lot, List.forall_mem_cons.2 ⟨ok_less_by, List.forall_mem_cons.2 ⟨ok_rest_by, List.forall_mem_cons.2 ⟨ok_with_row, List.forall_mem_cons.2 ⟨ok_lot_in, List.forall_mem_cons.2 ⟨ok_apart_in, List.forall_mem_cons.2 ⟨ok_rows_apart, List.forall_mem_cons.2 ⟨ok__law_roll, List.forall_mem_cons.2 ⟨ok__law_pick, List.forall_mem_cons.2 ⟨ok__law_drawn_rows, List.forall_mem_cons.2 ⟨ok__law_gcd, List.forall_mem_cons.2 ⟨ok__law_lead, List.forall_mem_cons.2 ⟨ok__law_lowest, List.forall_mem_cons.2 ⟨ok__law_less, List.forall_mem_cons.2 ⟨ok__law_with_row, List.forall_mem_cons.2 ⟨ok__law_lot, List.forall_mem_cons.2 ⟨ok__law_near, List.forall_mem_cons.2 ⟨ok_require_rows, List.forall_mem_cons.2 ⟨ok_lot_of, List.forall_mem_cons.2 ⟨ok__law_apart, List.forall_mem_cons.2 ⟨ok_require_row, List.forall_mem_cons.2 ⟨ok_dot, List.forall_mem_cons.2 ⟨ok_product, List.forall_mem_cons.2 ⟨ok__law_dot, List.forall_mem_cons.2 ⟨ok_does_hold, List.forall_mem_cons.2 ⟨ok_holds, List.forall_mem_cons.2 ⟨ok__law_holds, List.forall_mem_cons.2 ⟨ok_lowest, List.forall_mem_cons.2 ⟨ok_is_row, List.forall_mem_cons.2 ⟨ok__law_is_int, List.forall_mem_cons.2 ⟨ok__law_is_row, List.forall_mem_cons.2 ⟨ok_is_lot, List.forall_mem_cons.2 ⟨ok__law_is_lot, List.forall_mem_cons.2 ⟨ok__law_right, List.forall_mem_cons.2 ⟨ok_law, (fun _ h => nomatch h)⟩⟩⟩⟩⟩⟩⟩⟩⟩⟩⟩⟩⟩⟩⟩⟩⟩⟩⟩⟩⟩⟩⟩⟩⟩⟩⟩⟩⟩⟩⟩⟩⟩⟩⟩⟩⟩⟩⟩⟩⟩⟩⟩
theorem ok_all : ∀ p ∈ tab, okD p.1 (defScope p.2) (defBody p.2) = true := ok_all_0
theorem bd_all_0 : ∀ p ∈ tb0, BindOk (defArgs p.2) p.1.ps := List.forall_mem_cons.2 ⟨bd__law_dice, List.forall_mem_cons.2 ⟨bd_is_integer, List.forall_mem_cons.2 ⟨bd_require_width, List.forall_mem_cons.2 ⟨bd_lead_in, List.forall_mem_cons.2 ⟨bd_common_share, List.forall_mem_cons.2 ⟨bd_lowest_row, List.forall_mem_cons.2 ⟨bd_is_plain_row, List.forall_mem_cons.2 ⟨bd_is_plain_lot, List.forall_mem_cons.2 ⟨bd_require_lot, List.forall_mem_cons.2 ⟨bd_less_by, List.forall_mem_cons.2 ⟨bd_rest_by, List.forall_mem_cons.2 ⟨bd_with_row, List.forall_mem_cons.2 ⟨bd_lot_in, List.forall_mem_cons.2 ⟨bd_apart_in, List.forall_mem_cons.2 ⟨bd_rows_apart, List.forall_mem_cons.2 ⟨bd__law_roll, List.forall_mem_cons.2 ⟨bd__law_pick, List.forall_mem_cons.2 ⟨bd__law_drawn_rows, List.forall_mem_cons.2 ⟨bd__law_gcd, List.forall_mem_cons.2 ⟨bd__law_lead, List.forall_mem_cons.2 ⟨bd__law_lowest, List.forall_mem_cons.2 ⟨bd__law_less, List.forall_mem_cons.2 ⟨bd__law_with_row, List.forall_mem_cons.2 ⟨bd__law_lot, List.forall_mem_cons.2 ⟨bd__law_near, List.forall_mem_cons.2 ⟨bd_require_rows, List.forall_mem_cons.2 ⟨bd_lot_of, List.forall_mem_cons.2 ⟨bd__law_apart, List.forall_mem_cons.2 ⟨bd_require_row, List.forall_mem_cons.2 ⟨bd_dot, List.forall_mem_cons.2 ⟨bd_product, List.forall_mem_cons.2 ⟨bd__law_dot, List.forall_mem_cons.2 ⟨bd_does_hold, List.forall_mem_cons.2 ⟨bd_holds, List.forall_mem_cons.2 ⟨bd__law_holds, List.forall_mem_cons.2 ⟨bd_lowest, List.forall_mem_cons.2 ⟨bd_is_row, List.forall_mem_cons.2 ⟨bd__law_is_int, List.forall_mem_cons.2 ⟨bd__law_is_row, List.forall_mem_cons.2 ⟨bd_is_lot, List.forall_mem_cons.2 ⟨bd__law_is_lot, List.forall_mem_cons.2 ⟨bd__law_right, List.forall_mem_cons.2 ⟨bd_law, (fun _ h => nomatch h)⟩⟩⟩⟩⟩⟩⟩⟩⟩⟩⟩⟩⟩⟩⟩⟩⟩⟩⟩⟩⟩⟩⟩⟩⟩⟩⟩⟩⟩⟩⟩⟩⟩⟩⟩⟩⟩⟩⟩⟩⟩⟩⟩
theorem bd_all : ∀ p ∈ tab, BindOk (defArgs p.2) p.1.ps := bd_all_0
def gs : List (Str × D) := [("MAX_WIDTH", (.int 200))]
def ns0 : List Str := ["SeriesError", "InvalidRow", "InvalidLot", "InvalidCount", "MAX_WIDTH", "is_integer", "require_width", "is_plain_row", "lead_in", "common_share", "lowest_row", "is_plain_lot", "dot", "less_by", "rest_by", "does_hold", "with_row", "lot_in", "apart_in", "is_row"]
def ns1 : List Str := ["is_lot", "require_row", "require_rows", "require_lot", "product", "lowest", "lot_of", "holds", "rows_apart", "_law_dice", "_law_roll", "_law_pick", "_law_is_int", "_law_gcd", "_law_lead", "_law_lowest", "_law_with_row", "_law_lot", "_law_dot", "_law_holds"]
def ns2 : List Str := ["_law_apart", "_law_is_row", "_law_is_lot", "_law_less", "_law_drawn_rows", "_law_near", "_law_right"]
def names : List Str := ns0 ++ ns1 ++ ns2
abbrev HRw : PySem.W.OpenRow := PySem.W.OpenLaw.row PySem.Challenge.rw_sumsclose_k11_whole_rows_and_lots
abbrev hk : PySem.W.Hook := hookE 4 (faOf tab) (tab.map defOf) gs
def ob (s : PySem.W.SharedT) : He.AlD := obsEG 4 (faOf tab) (tab.map defOf) gs (HandSHeadRun.getT s)
theorem ob_eq (s : PySem.W.SharedT) : ob s = hk.obs s.abs := obsEG_eq (HandSHeadRun.getT_eq s)
section
open PySem PySem.W PySem.Calls PyProof.Rows
set_option maxHeartbeats 0 in
theorem runL (w : PySem.World) : ∀ os : PySem.OsState, ((HandSHeadRun.endF (HandSHeadRun.stepQ (HandSHeadRun.denQ HandSHeadRun.tabQ) HRw.prog w) 4000 HRw.prog w os).map fun s => HandSHeadRun.looksF HRw.prog (boot_heap w.params) s.abs) = some true := by
  intro os
  kernel_rfl
set_option maxHeartbeats 0 in
theorem runS (w : PySem.World) : ∀ os : PySem.OsState, ((HandSHeadRun.endF (HandSHeadRun.stepQ (HandSHeadRun.denQ HandSHeadRun.tabQ) HRw.prog w) 4000 HRw.prog w os).map fun s => HandSHeadRun.seenQ (PySem.W.view HRw.prog [50]) names (importedModules HRw.prog.main.body) (fun s => xlAt (PySem.W.view HRw.prog [50]) [] s && recOk HRw.toRowW.records s) s.abs) = some (openGood (PySem.W.view HRw.prog [50]) names) := by
  intro os
  kernel_rfl
set_option maxHeartbeats 0 in
theorem runO0 (w : PySem.World) : ∀ os : PySem.OsState, ((HandSHeadRun.endF (HandSHeadRun.stepQ (HandSHeadRun.denQ HandSHeadRun.tabQ) HRw.prog w) 4000 HRw.prog w os).map fun s => obsEG 4 (faOf tb0) (tb0.map defOf) gs (HandSHeadRun.getT s)) = some (He.valD (tb0.map defOf)) := by
  intro os
  kernel_rfl
end
theorem run (w : World) : HandSHeadRun.RunEq HRw (PySem.W.view HRw.prog [50]) hk ob 4000 names w := by
  intro os
  exact map3 (runL w os) (runS w os) (runO0 w os)
theorem sp_all_0 : ∀ p ∈ tb0, SpecOk Gm p.1 := List.forall_mem_cons.2 ⟨sok__law_dice, List.forall_mem_cons.2 ⟨sok_is_integer, List.forall_mem_cons.2 ⟨sok_require_width, List.forall_mem_cons.2 ⟨sok_lead_in, List.forall_mem_cons.2 ⟨sok_common_share, List.forall_mem_cons.2 ⟨sok_lowest_row, List.forall_mem_cons.2 ⟨sok_is_plain_row, List.forall_mem_cons.2 ⟨sok_is_plain_lot, List.forall_mem_cons.2 ⟨sok_require_lot, List.forall_mem_cons.2 ⟨sok_less_by, List.forall_mem_cons.2 ⟨sok_rest_by, List.forall_mem_cons.2 ⟨sok_with_row, List.forall_mem_cons.2 ⟨sok_lot_in, List.forall_mem_cons.2 ⟨sok_apart_in, List.forall_mem_cons.2 ⟨sok_rows_apart, List.forall_mem_cons.2 ⟨sok__law_roll, List.forall_mem_cons.2 ⟨sok__law_pick, List.forall_mem_cons.2 ⟨sok__law_drawn_rows, List.forall_mem_cons.2 ⟨sok__law_gcd, List.forall_mem_cons.2 ⟨sok__law_lead, List.forall_mem_cons.2 ⟨sok__law_lowest, List.forall_mem_cons.2 ⟨sok__law_less, List.forall_mem_cons.2 ⟨sok__law_with_row, List.forall_mem_cons.2 ⟨sok__law_lot, List.forall_mem_cons.2 ⟨sok__law_near, List.forall_mem_cons.2 ⟨sok_require_rows, List.forall_mem_cons.2 ⟨sok_lot_of, List.forall_mem_cons.2 ⟨sok__law_apart, List.forall_mem_cons.2 ⟨sok_require_row, List.forall_mem_cons.2 ⟨sok_dot, List.forall_mem_cons.2 ⟨sok_product, List.forall_mem_cons.2 ⟨sok__law_dot, List.forall_mem_cons.2 ⟨sok_does_hold, List.forall_mem_cons.2 ⟨sok_holds, List.forall_mem_cons.2 ⟨sok__law_holds, List.forall_mem_cons.2 ⟨sok_lowest, List.forall_mem_cons.2 ⟨sok_is_row, List.forall_mem_cons.2 ⟨sok__law_is_int, List.forall_mem_cons.2 ⟨sok__law_is_row, List.forall_mem_cons.2 ⟨sok_is_lot, List.forall_mem_cons.2 ⟨sok__law_is_lot, List.forall_mem_cons.2 ⟨sok__law_right, List.forall_mem_cons.2 ⟨sok_law, (fun _ h => nomatch h)⟩⟩⟩⟩⟩⟩⟩⟩⟩⟩⟩⟩⟩⟩⟩⟩⟩⟩⟩⟩⟩⟩⟩⟩⟩⟩⟩⟩⟩⟩⟩⟩⟩⟩⟩⟩⟩⟩⟩⟩⟩⟩⟩
theorem sp_all : ∀ p ∈ tab, SpecOk Gm p.1 := sp_all_0
def LL : Lnk := ⟨Gm, fun _ _ _ _ _ _ => False⟩
theorem gl_all {K : PySem.W.Frag} {mg : Str → Option Value} (h : ∀ g ∈ gs, ∃ (u : Value) (v : V), mg g.1 = some u ∧ RelV v u ∧ ∀ O H, Rp K O H v g.2) : ∀ p ∈ tab, ∀ g ∈ p.1.gls, GlG LL K mg g.1 g.2 := by
  have hg : ∀ k x, (k, x) ∈ [(G.MAX_WIDTH, ("MAX_WIDTH" : Str))] → GlG LL K mg k x := by
    intro k x hkx
    simp only [List.mem_cons, Prod.mk.injEq, List.not_mem_nil, or_false] at hkx
    rcases hkx with ⟨rfl, rfl⟩
    · exact h _ (List.mem_of_getElem? (i := 0) rfl)
  have hm : ∀ p ∈ tab, ∀ g ∈ p.1.gls, g ∈ [(G.MAX_WIDTH, ("MAX_WIDTH" : Str))] := by
    have e : (tab.all fun p => p.1.gls.all fun g => [(G.MAX_WIDTH, ("MAX_WIDTH" : Str))].contains g) = true := by kernel_rfl
    intro p hp g hq
    have := List.all_eq_true.mp (List.all_eq_true.mp e p hp) g hq
    simpa using this
  exact fun p hp g hq => hg g.1 g.2 (hm p hp g hq)
theorem facts {P : Program} {w : World} {K : PySem.W.Frag} {h : Heap} {mg : Str → Option Value} {f : Addr} (X : K.In h) (G : h.Ns mainGlobals mg) (N : h.NoSeer) (ht : P.given.tree = none) (hfa : mg ("law" : Str) = some (.ref f)) (c : SaysE (faOf tab) (tab.map defOf) gs K) :
    ∃ (K1 : PySem.W.Frag) (fd : FuncData), K1.In h ∧ (∀ (s : Shared) (v : Value), BindsTo s fd ⟨[v], []⟩ [("script", v)]) ∧ ∀ base : Heap, K1.In base → FnOk P w K1 mg base CX0 d_law.lvl f fd ["script"] (fun vs H Q _ => spOf LL K1 (Gm.fn F.law) vs H Q E0) := by
  obtain ⟨K2, i2, nS⟩ := seer_frag N
  obtain ⟨hT, hbl, hgs⟩ := told_ofM (tab := tab) (more_app X i2) X G c
  have hin : (d_law, top 50) ∈ tab := List.mem_of_getElem? (i := 42) rfl
  obtain ⟨f1, fd, FF, m1⟩ := hT _ hin
  have e1 : f1 = f := by
    have := m1.symm.trans hfa
    exact Value.ref.inj (Option.some.inj this)
  subst e1
  refine ⟨K2 ++ K, fd, in_app i2 X, fun s v => FF.bindsA (ps := ["script"]) (fun kV doc pm an cdv ct us hl => bd_law _ _ _ _ kV doc pm an cdv ct us hl) s [v] rfl, fun base hbs => ?_⟩
  obtain ⟨f2, fd2, hF, m2, _, _, oc, od, osl, lk⟩ := link_all (L := LL) (P := P) (w := w) (base := base) (nS base (of_app hbs)) ht hbl tab [] (fun _ h => nomatch h) calls_ok hT ok_all bd_all sp_all (gl_all hgs) _ hin
  have e2 : f2 = f1 := by
    have := m2.symm.trans hfa
    exact Value.ref.inj (Option.some.inj this)
  subst e2
  obtain ⟨oc2, od2, dV, kV, doc, pm, an, cdv, ct, osl2, _, lk2, _⟩ := FF.ex
  have e3 : fd2 = fd := by
    rw [lk] at lk2
    injection lk2 with z
    injection z with _ _ z2 _
    injection z2
  subst e3
  exact FnOk.to0 hF
end LW
open PySem PySem.W PySem.Calls PyProof.Rows
set_option maxHeartbeats 0 in
theorem PySem.Challenge.cw_sumsclose_k11_whole_rows_and_lots_holds : PySem.Challenge.rw_sumsclose_k11_whole_rows_and_lots.Holds := by
  w_on; o_law
  refine HandSHeadRun.head_any (r := OpenLaw.row PySem.Challenge.rw_sumsclose_k11_whole_rows_and_lots) (q := view (OpenLaw.row PySem.Challenge.rw_sumsclose_k11_whole_rows_and_lots).prog [50]) (H := LW.hk) (ob := LW.ob) (M := 4000) (loose := LW.names) (d := HandSHeadRun.topDef (OpenLaw.row PySem.Challenge.rw_sumsclose_k11_whole_rows_and_lots).prog 50) (kwd := []) LW.ob_eq
    (by kernel_rfl) (fun s => by kernel_rfl) LW.run (by kernel_rfl) (by kernel_rfl) (by kernel_rfl) (by rfl) (by first | assumption | decide +kernel) (by decide +kernel) ⟨rfl, rfl, rfl, rfl, rfl, by decide +kernel⟩ ?hw ?hc
  case hw => w_witness2
  case hc =>
    refine DL.walk_far (law' := PySem.Challenge.rw_sumsclose_k11_whole_rows_and_lots) (most := 63) (k := 57) (name := "script") rfl (by decide) (by kernel_rfl) ⟨rfl, by decide, by decide⟩ (by kernel_rfl) ?F (Nat.le_refl _)
    intro w mg fa h Y G N hmg0
    obtain ⟨K, KX, c⟩ := Y
    have hmg : mg ("law" : PySem.Str) = some (.ref fa) := by
      have e : (HandSHeadRun.topDef (OpenLaw.row PySem.Challenge.rw_sumsclose_k11_whole_rows_and_lots).prog 50).name = ("law" : PySem.Str) := by kernel_rfl
      rw [← e]
      exact hmg0
    obtain ⟨K1, fd, X1, hb, hF⟩ := LW.facts (P := (PySem.Challenge.rw_sumsclose_k11_whole_rows_and_lots).prog) (w := w) KX G N (by kernel_rfl) hmg c
    exact ⟨K1, fd, LW.Gm.fn LW.F.law, LW.LL, X1, hb, LW.law_fin, hF⟩
