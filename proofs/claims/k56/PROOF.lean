import PyProof.Rows.All
import Wide.All
import OpenK.AllK
import Wide.FinOn
import HandS.ForMost
import HandS.ForExc
import HandS.ExcCtx
import HandS.HotCalls
import PyProof.ReprReads
import PyProof.EqLayable
import HandS.Style
import HandS.Deep
import HandS.IsInst
import HandS.Wide
import HandS.WideBits
import HandS.Conv
import HandS.Star
import HandS.SortInts
import HandS.SetFor
import HandS.Ends
import HandS.Defaults
import HandS.TupLen
import PyProof.ReprRoads
import HandS.Small
import HandS.Iter
import KE.KDictPairs
import HandS.NoneIn
import PyProof.ReprBulk
import PySem.Challenge.RW_goesnext_k56_lives_and_ways_out
set_option linter.all false
set_option Elab.async false
set_option maxRecDepth 100000
/-! Vs: what a def of the text computes, as a plain function over trees of data. -/
namespace Vs
open PySem (Str PyData)

/-- data, as trees -/
inductive D where
  | non | bl (b : Bool) | int (i : Int) | str (s : Str)
  | lst (l : List D) | tup (l : List D) | dic (t : Bool) (l : List (D × D)) | ins (c : Str) (l : List (Str × D))

/-- nothing in it has a place in memory -/
def D.imm : D → Bool
  | .non => true | .bl _ => true | .int _ => true | .str _ => true | _ => false
@[simp] theorem imm_non : D.imm .non = true := (rfl)
@[simp] theorem imm_bl (b : Bool) : D.imm (.bl b) = true := (rfl)
@[simp] theorem imm_int (i : Int) : D.imm (.int i) = true := (rfl)
@[simp] theorem imm_str (s : Str) : D.imm (.str s) = true := (rfl)
@[simp] theorem imm_lst (l : List D) : D.imm (.lst l) = false := (rfl)
@[simp] theorem imm_tup (l : List D) : D.imm (.tup l) = false := (rfl)
@[simp] theorem imm_dic (t : Bool) (l : List (D × D)) : D.imm (.dic t l) = false := (rfl)
@[simp] theorem imm_ins (c : Str) (l : List (Str × D)) : D.imm (.ins c l) = false := (rfl)

def dints (l : List Int) : List D := l.map D.int
/-- the name of the own class that stands at C -/
def cOf (C : Nat) : Str := ⟨#[C, 0]⟩
/-- fields of an instance, not of an exception -/
def objD (c : Str) : List (Str × D) → Bool
  | [] => decide (c ≠ "?") | p :: _ => decide (p.1 ≠ "")
theorem cOf_inj {C C' : Nat} (h : cOf C = cOf C') : C = C' := by
  have := congrArg (fun z : Str => z.cps.toList) h
  simpa [cOf] using this

mutual
/-- as the kit's data (dicts and instances have none) -/
def D.py : D → PyData
  | .non => .none | .bl b => .bool b | .int i => .int i | .str s => .str s
  | .lst l => .list (pyAll l) | .tup l => .tuple (pyAll l)
  | .dic _ l => .dict (pyKv l) | .ins _ _ => .dict []
def pyAll : List D → List PyData
  | [] => [] | d :: ds => d.py :: pyAll ds
def pyKv : List (D × D) → List (PyData × PyData)
  | [] => [] | (k, d) :: ds => (k.py, d.py) :: pyKv ds
end
mutual
/-- no dict, no instance within -/
def D.flat : D → Bool
  | .lst l => flatAll l | .tup l => flatAll l | .dic _ _ => false | .ins _ _ => false
  | .non => true | .bl _ => true | .int _ => true | .str _ => true
def flatAll : List D → Bool
  | [] => true | d :: ds => d.flat && flatAll ds
end

/-- a slot: how deep it is its own, and its data -/
abbrev PV := Nat × D
abbrev Env := List (Option PV)
/-- a value on its way: borrowed; how deep its own; its data -/
structure VV where
  b : Bool
  m : Nat
  d : D
/-- its own or without a place -/
def VV.stable (v : VV) : Bool := !v.b || v.d.imm
@[simp] theorem stable_own (m : Nat) (d : D) : VV.stable ⟨false, m, d⟩ = true := (rfl)
@[simp] theorem stable_imm (b : Bool) (m : Nat) (d : D) (h : d.imm = true) : VV.stable ⟨b, m, d⟩ = true := by simp [VV.stable, h]
abbrev vi (i : Int) : VV := ⟨false, 0, .int i⟩
abbrev vb (b : Bool) : VV := ⟨false, 0, .bl b⟩
abbrev vs (s : Str) : VV := ⟨false, 0, .str s⟩
abbrev vn : VV := ⟨false, 0, .non⟩

/-- an exception: its class, its fields -/
structure Ex where
  cls : Str
  fs : List (Str × D)

/-- an exception that is held: where it stands, where its fields do -/
def exnD (a d : Nat) (e : Ex) : D := .ins e.cls (("", .int a) :: ("", .int d) :: e.fs)

/-- what an expression comes to: a value and the slots behind (none: nothing was changed); an exception; nothing known -/
inductive R (α : Type) where
  | ok (a : α) (o : Option Env) | ex (e : Ex) (ρ : Env) | no
/-- the slots -/
def now (o : Option Env) (ρ : Env) : Env := match o with | none => ρ | some ρ' => ρ'
@[simp] theorem now_none (ρ : Env) : now none ρ = ρ := (rfl)
@[simp] theorem now_some (ρ ρ' : Env) : now (some ρ') ρ = ρ' := (rfl)
def thn (o o' : Option Env) : Option Env := match o' with | none => o | some ρ => some ρ
@[simp] theorem thn_none (o : Option Env) : thn o none = o := (rfl)
@[simp] theorem thn_some (o : Option Env) (ρ : Env) : thn o (some ρ) = some ρ := (rfl)
@[simp] theorem none_thn (o : Option Env) : thn none o = o := by cases o <;> rfl
namespace R
variable {α β : Type}
abbrev pu (a : α) : R α := .ok a none
abbrev ef (a : α) (ρ : Env) : R α := .ok a (some ρ)
/-- behind an effect -/
def aft (r : R α) (o : Option Env) : R α := match r with
  | .ok a o' => .ok a (thn o o') | .ex e ρ' => .ex e ρ' | .no => .no
@[simp] theorem aft_ok (a : α) (o o' : Option Env) : (R.ok a o').aft o = .ok a (thn o o') := (rfl)
@[simp] theorem aft_ex (e : Ex) (o : Option Env) (ρ' : Env) : (R.ex e ρ' : R α).aft o = .ex e ρ' := (rfl)
@[simp] theorem aft_no (o : Option Env) : (R.no : R α).aft o = .no := (rfl)
@[simp] theorem aft_none (r : R α) : r.aft none = r := by cases r <;> simp
def bind (r : R α) (ρ : Env) (k : α → Env → R β) : R β := match r with
  | .ok a o => (k a (now o ρ)).aft o | .ex e ρ' => .ex e ρ' | .no => .no
@[simp] theorem bind_ok (a : α) (o : Option Env) (ρ : Env) (k : α → Env → R β) : (R.ok a o).bind ρ k = (k a (now o ρ)).aft o := (rfl)
@[simp] theorem bind_ex (e : Ex) (ρ ρ' : Env) (k : α → Env → R β) : (R.ex e ρ' : R α).bind ρ k = .ex e ρ' := (rfl)
@[simp] theorem bind_no (ρ : Env) (k : α → Env → R β) : (R.no : R α).bind ρ k = .no := (rfl)
/-- .. while a value waits: s says that it bears changes -/
def nxt (s : Bool) (r : R α) (k : α → R β) : R β := match r with
  | .ok a o => if (s || o.isNone) = true then (k a).aft o else .no | .ex e ρ' => .ex e ρ' | .no => .no
@[simp] theorem nxt_ok (s : Bool) (a : α) (o : Option Env) (k : α → R β) : (R.ok a o).nxt s k = if (s || o.isNone) = true then (k a).aft o else .no := (rfl)
@[simp] theorem nxt_ex (s : Bool) (e : Ex) (ρ' : Env) (k : α → R β) : (R.ex e ρ' : R α).nxt s k = .ex e ρ' := (rfl)
@[simp] theorem nxt_no (s : Bool) (k : α → R β) : (R.no : R α).nxt s k = .no := (rfl)
def ofO (o : Option α) : R α := match o with | some a => .pu a | none => .no
@[simp] theorem ofO_some (a : α) : ofO (some a) = .pu a := (rfl)
@[simp] theorem ofO_none : (ofO none : R α) = .no := (rfl)
end R

abbrev M := Env → R VV
abbrev MT := Env → R Bool
abbrev MA := Env → R (List VV)

/-! ### slots -/
def look : Env → Nat → Option PV
  | [], _ => none
  | x :: _, 0 => x
  | _ :: r, i + 1 => look r i
def put : Env → Nat → Option PV → Env
  | [], _, _ => []
  | _ :: r, 0, v => v :: r
  | x :: r, i + 1, v => x :: put r i v
@[simp] theorem look_z (x : Option PV) (r : Env) : look (x :: r) 0 = x := (rfl)
@[simp] theorem look_s (x : Option PV) (r : Env) (i : Nat) : look (x :: r) (i + 1) = look r i := (rfl)
@[simp] theorem put_z (x : Option PV) (r : Env) (v : Option PV) : put (x :: r) 0 v = v :: r := (rfl)
@[simp] theorem put_s (x : Option PV) (r : Env) (i : Nat) (v : Option PV) : put (x :: r) (i + 1) v = x :: put r i v := (rfl)

/-! ### expressions -/
def cst (v : VV) : M := fun _ => .pu v
/-- a name -/
def v (i : Nat) : M := fun ρ => match look ρ i with
  | some (m, d) => R.pu ⟨!(m == 0), m, d⟩ | none => R.no
/-- the slots that are named are known as deep as k only, from here on -/
def thin (k : Nat) : List Nat → Env → Env
  | [], ρ => ρ
  | i :: is, ρ => match look ρ i with
    | some (m, d) => thin k is (put ρ i (some (min m k, d)))
    | none => thin k is ρ
def isThin (k : Nat) (is : List Nat) (ρ : Env) : Bool := is.all fun i => match look ρ i with
  | some (m, d) => decide (m ≤ k) || d.imm | none => true
def fz (k : Nat) (is : List Nat) (e : M) : M := fun ρ => if isThin k is ρ = true then e ρ else ((e (thin k is ρ)).aft (some (thin k is ρ)))
/-- an item of what is borrowed or its own -/
def sub (x : VV) (d : D) : VV := ⟨x.b && !(x.m - 1 == 0), x.m - 1, d⟩
/-- a value in which nothing else can be reached -/
def VV.plain (x : VV) : Bool := !x.b && match x.d with
  | .lst ds => x.m == 1 && ds.all D.imm
  | .tup ds => ds.all D.imm
  | d => d.imm
/-- what e comes to, the slots that are named being read as they are -/
def peek (is : List Nat) (e : M) : M := fun ρ => match e (thin 0 is ρ) with
  | .ok x none => if x.plain = true then .pu x else .no
  | _ => .no
/-- .. where that is enough; else they are read as they are from here on -/
def soft (is : List Nat) (e : M) : M := fun ρ => match e (thin 0 is ρ) with
  | .no => .no
  | .ok x none => if x.plain = true then .pu x else fz 0 is e ρ
  | _ => fz 0 is e ρ
/-- two in a row -/
def two (a b : M) (k : VV → VV → Option VV) : M := fun ρ => (a ρ).bind ρ fun x ρ1 => (b ρ1).nxt x.stable fun y => .ofO (k x y)
def one (a : M) (k : VV → Option VV) : M := fun ρ => (a ρ).bind ρ fun x _ => .ofO (k x)
/-- an argument list -/
def args : List M → MA
  | [] => fun _ => .pu []
  | a :: as => fun ρ => (a ρ).bind ρ fun x ρ1 => (args as ρ1).nxt x.stable fun xs => .pu (x :: xs)
def argsk (as : MA) (k : List VV → Option VV) : M := fun ρ => (as ρ).bind ρ fun xs _ => .ofO (k xs)

/-! ### tests -/
def tst (e : M) (tru : D → Option Bool) : MT := fun ρ => (e ρ).bind ρ fun x _ => .ofO (tru x.d)
def blOf : D → Option Bool
  | .bl b => some b | _ => none
@[simp] theorem blOf_bl (b : Bool) : blOf (.bl b) = some b := (rfl)
def tand (a b : MT) : MT := fun ρ => (a ρ).bind ρ fun x ρ1 => if x = true then b ρ1 else .pu false
def tor (a b : MT) : MT := fun ρ => (a ρ).bind ρ fun x ρ1 => if x = true then .pu true else b ρ1
def tnot (a : MT) : MT := fun ρ => (a ρ).bind ρ fun x _ => .pu (!x)
/-- and, or, not as values (of bools) -/
def vand (a b : M) : M := fun ρ => (a ρ).bind ρ fun x ρ1 => match x.d with
  | .bl true => b ρ1 | .bl false => .pu (vb false) | _ => .no
def vor (a b : M) : M := fun ρ => (a ρ).bind ρ fun x ρ1 => match x.d with
  | .bl true => .pu (vb true) | .bl false => b ρ1 | _ => .no
def ift (c : MT) (a b : M) : M := fun ρ => (c ρ).bind ρ fun x ρ1 => if x = true then a ρ1 else b ρ1

/-! ### statements -/
inductive Fl where
  | nx (ρ : Env) | ret (v : PV) (ρ : Env) | brk (ρ : Env) | ct (ρ : Env) | ex (e : Ex) (ρ : Env) | no
abbrev MS := Env → Fl
/-- go on with a value -/
def R.go {α : Type} (r : R α) (ρ : Env) (k : α → Env → Fl) : Fl := match r with
  | .ok a o => k a (now o ρ) | .ex e ρ' => .ex e ρ' | .no => .no
@[simp] theorem go_ok {α : Type} (a : α) (o : Option Env) (ρ : Env) (k : α → Env → Fl) : (R.ok a o).go ρ k = k a (now o ρ) := (rfl)
@[simp] theorem go_ex {α : Type} (e : Ex) (ρ ρ' : Env) (k : α → Env → Fl) : (R.ex e ρ' : R α).go ρ k = .ex e ρ' := (rfl)
@[simp] theorem go_no {α : Type} (ρ : Env) (k : α → Env → Fl) : (R.no : R α).go ρ k = .no := (rfl)
def Fl.seq (f : Fl) (k : MS) : Fl := match f with
  | .nx ρ => k ρ | .ret v ρ => .ret v ρ | .brk ρ => .brk ρ | .ct ρ => .ct ρ | .ex e ρ => .ex e ρ | .no => .no
@[simp] theorem seq_nx (ρ : Env) (k : MS) : (Fl.nx ρ).seq k = k ρ := (rfl)
@[simp] theorem seq_ret (v : PV) (ρ : Env) (k : MS) : (Fl.ret v ρ).seq k = .ret v ρ := (rfl)
@[simp] theorem seq_brk (ρ : Env) (k : MS) : (Fl.brk ρ).seq k = .brk ρ := (rfl)
@[simp] theorem seq_ct (ρ : Env) (k : MS) : (Fl.ct ρ).seq k = .ct ρ := (rfl)
@[simp] theorem seq_ex (e : Ex) (ρ : Env) (k : MS) : (Fl.ex e ρ).seq k = .ex e ρ := (rfl)
@[simp] theorem seq_no (k : MS) : Fl.no.seq k = .no := (rfl)
def skip : MS := fun ρ => .nx ρ
def sq (a b : MS) : MS := fun ρ => (a ρ).seq b
/-- a value that may be kept -/
def VV.kept (x : VV) : Option PV := if x.stable then some (x.m, x.d) else none
@[simp] theorem kept_own (m : Nat) (d : D) : VV.kept ⟨false, m, d⟩ = some (m, d) := (rfl)
@[simp] theorem kept_bint (b : Bool) (m : Nat) (d : D) (h : d.imm = true) : VV.kept ⟨b, m, d⟩ = some (m, d) := by simp [VV.kept, h]
/-- what an assignment's target does with a value -/
abbrev MG := VV → Env → Fl
def gname (i : Nat) : MG := fun x ρ => match x.kept with | some pv => .nx (put ρ i (some pv)) | none => .no
def asg (e : M) (g : MG) : MS := fun ρ => (e ρ).go ρ fun x ρ1 => g x ρ1
def ex (e : M) : MS := fun ρ => (e ρ).go ρ fun _ ρ1 => .nx ρ1
def ret (e : M) : MS := fun ρ => (e ρ).go ρ fun x ρ1 => match x.kept with | some pv => .ret pv ρ1 | none => .no
/-- a local name is handed out -/
def retv (i : Nat) : MS := fun ρ => match look ρ i with
  | some pv => .ret pv (put ρ i none) | none => .no
def retN : MS := fun ρ => .ret (0, .non) ρ
def ifs (c : MT) (a b : MS) : MS := fun ρ => (c ρ).go ρ fun x ρ1 => if x = true then a ρ1 else b ρ1
/-- a target of names -/
def gall : List MG → List VV → Env → Fl
  | [], [], ρ => .nx ρ
  | g :: gs, x :: xs, ρ => (g x ρ).seq fun ρ1 => gall gs xs ρ1
  | _, _, _ => .no
def gtup (gs : List MG) : MG := fun x ρ => match x.d with
  | .tup ds => if x.b = false ∧ ds.length = gs.length then gall gs (ds.map fun d => ⟨false, x.m - 1, d⟩) ρ else .no
  | _ => .no
def par (i j : Nat) (as : MA) : MS := fun ρ => (as ρ).go ρ fun xs ρ1 => match xs with
  | [x, y] => (gname i x ρ1).seq fun ρ2 => gname j y ρ2
  | _ => .no
/-- a loop over what is written out -/
def forL (g : MG) (body : MS) : List D → Env → Fl
  | [], ρ => .nx ρ
  | d :: ds, ρ => match (g ⟨false, 0, d⟩ ρ).seq body with
    | .nx ρ1 => forL g body ds ρ1
    | .ct ρ1 => forL g body ds ρ1
    | .brk ρ1 => .nx ρ1
    | .ret x ρ1 => .ret x ρ1
    | .ex e ρ1 => .ex e ρ1
    | .no => .no
/-- what is walked -/
abbrev MI := Env → R (List D)
def fors (i : MI) (g : MG) (body : MS) : MS := fun ρ => (i ρ).go ρ fun ds ρ1 => forL g body ds ρ1
/-- so many turns of a loop at most -/
def whileN (c : MT) (body : MS) : Nat → Env → Fl
  | 0, _ => .no
  | n + 1, ρ => (c ρ).go ρ fun b ρ1 => if b = true then (match body ρ1 with
      | .nx ρ2 => whileN c body n ρ2 | .ct ρ2 => whileN c body n ρ2 | .brk ρ2 => .nx ρ2
      | .ret x ρ2 => .ret x ρ2 | .ex e ρ2 => .ex e ρ2 | .no => .no) else .nx ρ1
open Classical in
noncomputable def whiles (c : MT) (body : MS) : MS := fun ρ =>
  if h : ∃ n, whileN c body n ρ ≠ .no then whileN c body h.choose ρ else .no
/-! ### what is walked -/
def rng (a b : Int) : List D := (List.range (b - a).toNat).map fun (i : Nat) => D.int (a + (i : Int))
def enumD : Nat → List D → List D
  | _, [] => []
  | n, d :: ds => .tup [.int n, d] :: enumD (n + 1) ds
def zipD : List D → List D → List D
  | d :: ds, e :: es => .tup [d, e] :: zipD ds es
  | _, _ => []
def kL : VV → Option (List D)
  | ⟨b, m, .lst ds⟩ => if b = false ∨ m = 0 then some ds else none
  | _ => none
def kT : VV → Option (List D)
  | ⟨b, m, .tup ds⟩ => if b = false ∨ m ≤ 1 then some ds else none
  | _ => none
def kR1 : List VV → Option (List D)
  | [⟨_, _, .int j⟩] => if -(2 ^ 62) ≤ j ∧ j < 2 ^ 62 then some (rng 0 j) else none
  | _ => none
def kR2 : List VV → Option (List D)
  | [⟨_, _, .int i⟩, ⟨_, _, .int j⟩] => if -(2 ^ 62) ≤ i ∧ i < 2 ^ 62 ∧ -(2 ^ 62) ≤ j ∧ j < 2 ^ 62 then some (rng i j) else none
  | _ => none
def kE : List VV → Option (List D)
  | [⟨b, m, .lst ds⟩] => if b = false ∨ m = 0 then some (enumD 0 ds) else none
  | _ => none
def kZ : List VV → Option (List D)
  | [⟨b, m, .lst ds⟩, ⟨b', m', .lst es⟩] => if (b = false ∨ m = 0) ∧ (b' = false ∨ m' = 0) then some (zipD ds es) else none
  | _ => none
def it1 (k : VV → Option (List D)) (e : M) : MI := fun ρ => (e ρ).bind ρ fun x _ => .ofO (k x)
def itN (k : List VV → Option (List D)) (a : MA) : MI := fun ρ => (a ρ).bind ρ fun xs _ => .ofO (k xs)
/-! ### defs, calls -/
inductive RF where
  | ok (r : PV) (out : Env) | ex (e : Ex) (out : Env) | no
/-- of the slots behind a call: the parameters that were lent -/
def outs : List Bool → Env → Env
  | [], _ => []
  | _ :: bs, [] => none :: outs bs []
  | b :: bs, x :: r => (if b = true then x else none) :: outs bs r
def fnF (lent : List Bool) : Fl → RF
  | .nx ρ => .ok (0, .non) (outs lent ρ)
  | .ret r ρ => .ok r (outs lent ρ)
  | .ex e ρ => .ex e (outs lent ρ)
  | _ => .no
def fnM (n : Nat) (lent : List Bool) (body : MS) (pvs : List PV) : RF := fnF lent (body (pvs.map some ++ List.replicate (n - pvs.length) none))
/-- an argument: a slot that is lent, or a value -/
inductive AK where
  | lend (i : Nat) | val (e : M)
inductive AV where
  | l (i : Nat) | o (pv : PV)
def cargs : List AK → Env → R (List AV)
  | [] => fun _ => .pu []
  | .lend i :: as => fun ρ => match look ρ i with
    | some _ => (cargs as ρ).bind ρ fun xs _ => .pu (.l i :: xs)
    | none => .no
  | .val e :: as => fun ρ => (e ρ).bind ρ fun x ρ1 => match x.kept with
    | some pv => (cargs as ρ1).bind ρ1 fun xs _ => .pu (.o pv :: xs)
    | none => .no
def grab : List AV → Env → Option (List PV × Env)
  | [], ρ => some ([], ρ)
  | .l i :: as, ρ => match look ρ i with
    | some pv => (match grab as (put ρ i none) with | some (pvs, ρ') => some (pv :: pvs, ρ') | none => none)
    | none => none
  | .o pv :: as, ρ => match grab as ρ with | some (pvs, ρ') => some (pv :: pvs, ρ') | none => none
def back : List AV → Env → Env → Env
  | .l i :: as, x :: out, ρ => back as out (put ρ i x)
  | .o _ :: as, _ :: out, ρ => back as out ρ
  | _, _, ρ => ρ
def RF.fin (r : RF) (avs : List AV) (ρ : Env) : R VV := match r with
  | .ok r out => .ef ⟨false, r.1, r.2⟩ (back avs out ρ)
  | .ex e out => .ex e (back avs out ρ)
  | .no => .no
/-- nothing of its own -/
def PV.cold (pv : PV) : Bool := pv.1 == 0 || pv.2.imm
def RF.pure (r : RF) (ρ : Env) : R VV := match r with
  | .ok r _ => .pu ⟨false, r.1, r.2⟩
  | .ex e _ => .ex e ρ
  | .no => .no
/-- no slot's own is lent -/
def AV.quiet (ρ : Env) : AV → Bool
  | .o _ => true
  | .l i => match look ρ i with | some pv => pv.cold | none => false
def callG (f : List PV → RF) (avs : List AV) (ρ : Env) (g : Option (List PV × Env)) : R VV := match g with
  | none => .no
  | some (pvs, ρ2) => if avs.all (AV.quiet ρ) = true then (f pvs).pure ρ else (f pvs).fin avs ρ2
/-- the parameters' order: of what is evaluated, and their own values behind -/
def sel {α : Type} : List Nat → List α → List α
  | [], _ => []
  | i :: is, l => match l[i]? with
    | some x => x :: sel is l
    | none => sel is l
def RF.outBy (js : List Nat) (r : RF) : RF := match r with
  | .ok r out => .ok r (sel js out) | .ex e out => .ex e (sel js out) | .no => .no
/-- by keywords: is, the parameters among what is evaluated; js, the other way -/
def byK (is js : List Nat) (f : List PV → RF) : List PV → RF := fun pvs => (f (sel is pvs)).outBy js
/-- df: the parameters' own values, where no argument is given -/
def call (f : List PV → RF) (df : List PV) (as : List AK) : M := fun ρ => (cargs as ρ).bind ρ fun avs ρ1 => callG f (avs ++ df.map .o) ρ1 (grab (avs ++ df.map .o) ρ1)

/-! ### what operators do -/
def lim : Nat := 16777216
@[irreducible] def big : Nat := 2 ^ 4000
theorem big_eq : big = 2 ^ 4000 := by unfold big; rfl
theorem big_of {n k : Nat} (h : n < 2 ^ k) (hk : k ≤ 4000) : n < big := by rw [big_eq]; exact Nat.lt_of_lt_of_le h (Nat.pow_le_pow_right (by decide) hk)
/-- its items may be kept elsewhere -/
def VV.open (x : VV) : Prop := x.b = false ∨ x.m ≤ 1
instance (x : VV) : Decidable x.open := inferInstanceAs (Decidable (_ ∨ _))
def kAdd (x y : VV) : Option VV := match x.d, y.d with
  | .int i, .int j => some (vi (i + j))
  | .str a, .str b => if a.length + b.length ≤ lim then some (vs (a ++ b)) else none
  | .lst l, .lst k => if x.open ∧ y.open ∧ l.length + k.length ≤ lim then some ⟨false, 1, .lst (l ++ k)⟩ else none
  | _, _ => none
def kSub (x y : VV) : Option VV := match x.d, y.d with
  | .int i, .int j => some (vi (i - j))
  | _, _ => none
def kMul (x y : VV) : Option VV := match x.d, y.d with
  | .int i, .int j => if (i.natAbs < big ∧ j.natAbs < big) ∨ j.natAbs < 18446744073709551616 then some (vi (i * j)) else none
  | .lst l, .int k => if (x.b = false ∧ 0 < x.m) ∧ -(2 ^ 63) ≤ k ∧ k < 2 ^ 63 ∧ l.length * k.toNat ≤ lim then some ⟨false, 1, .lst (List.replicate k.toNat l).flatten⟩ else none
  | _, _ => none
def kMulS (x y : VV) : Option VV := match x.d, y.d with
  | .int i, .int j => if -(2 ^ 60) ≤ i ∧ i ≤ 2 ^ 60 then some (vi (i * j)) else none
  | _, _ => none
def kDiv (x y : VV) : Option VV := match x.d, y.d with
  | .int i, .int j => if 0 < j ∧ j.natAbs < big then some (vi (i / j)) else none
  | _, _ => none
def kMod (x y : VV) : Option VV := match x.d, y.d with
  | .int i, .int j => if 0 < j then some (vi (i % j)) else none
  | _, _ => none
def kPow (x y : VV) : Option VV := match x.d, y.d with
  | .int i, .int j => if i.natAbs < big ∧ 0 ≤ j ∧ j ≤ 100 then some (vi (i ^ j.toNat)) else none
  | _, _ => none
def kBit (φ : Int → Int → Int) (x y : VV) : Option VV := match x.d, y.d with
  | .int i, .int j => some (vi (φ i j))
  | _, _ => none
def kNot (x : VV) : Option VV := match x.d with
  | .bl b => some (vb (!b)) | _ => none
def kNeg (x : VV) : Option VV := match x.d with
  | .int i => some (vi (-i)) | _ => none
def kCmp (f : Int → Int → Bool) (x y : VV) : Option VV := match x.d, y.d with
  | .int i, .int j => some (vb (f i j))
  | _, _ => none
def kLt : VV → VV → Option VV := kCmp fun i j => decide (i < j)
def kLe : VV → VV → Option VV := kCmp fun i j => decide (i ≤ j)
def kGt : VV → VV → Option VV := kCmp fun i j => decide (j < i)
def kGe : VV → VV → Option VV := kCmp fun i j => decide (j ≤ i)
/-- may be compared -/
def D.shp (d : D) : Bool := d.flat && PySem.SeqAt.shaped d.py
def D.eqv (d e : D) : Bool := PyData.eqv d.py e.py
/-- texts are compared whatever they hold -/
def strs2 : D → D → Option Bool
  | .str a, .str b => some (decide (a = b))
  | _, _ => none
def kEq (x y : VV) : Option VV := match strs2 x.d y.d with
  | some b => some (vb b)
  | none => if x.d.shp = true ∧ y.d.shp = true then some (vb (x.d.eqv y.d)) else none
def kNe (x y : VV) : Option VV := match strs2 x.d y.d with
  | some b => some (vb (!b))
  | none => if x.d.shp = true ∧ y.d.shp = true then some (vb (!x.d.eqv y.d)) else none
def kIn (x y : VV) : Option VV := match y.d with
  | .tup l => if x.d.shp = true ∧ y.d.shp = true then some (vb (l.any fun z => z.eqv x.d)) else none
  | .lst l => if x.d.shp = true ∧ y.d.shp = true then some (vb (l.any fun z => z.eqv x.d)) else none
  | _ => none
def kNotIn (x y : VV) : Option VV := match y.d with
  | .tup l => if x.d.shp = true ∧ y.d.shp = true then some (vb (!l.any fun z => z.eqv x.d)) else none
  | .lst l => if x.d.shp = true ∧ y.d.shp = true then some (vb (!l.any fun z => z.eqv x.d)) else none
  | _ => none
def D.isNon : D → Bool
  | .non => true | _ => false
def kIs (x y : VV) : Option VV := match y.d with
  | .non => some (vb x.d.isNon)
  | .bl b => (match x.d with | .bl a => some (vb (decide (a = b))) | _ => none)
  | _ => none
def kIsNot (x y : VV) : Option VV := match y.d with
  | .non => some (vb (!x.d.isNon))
  | .bl b => (match x.d with | .bl a => some (vb (!decide (a = b))) | _ => none)
  | _ => none
def nix (n : Nat) (i : Int) : Option Nat := if 0 ≤ i then (if i < n then some i.toNat else none) else if -(n : Int) ≤ i then some (i + n).toNat else none
def atD (l : List D) (i : Int) : Option D := (nix l.length i).bind fun j => l[j]?
def kIx (x y : VV) : Option VV := match x.d, y.d with
  | .lst l, .int i => (atD l i).map (sub x)
  | .tup l, .int i => (atD l i).map (sub x)
  | .str z, .int i => if z.length ≤ lim then ((nix z.cps.toList.length i).bind fun j => z.cps.toList[j]?).map fun c => vs ⟨#[c]⟩ else none
  | _, _ => none
def six (n d : Nat) : Option Int → Nat
  | none => d
  | some v => if v < 0 then (v + (n : Int)).toNat else min v.toNat n
def cutD {α : Type} (l : List α) (lo hi : Option Int) : List α := (l.drop (six l.length 0 lo)).take (six l.length l.length hi - six l.length 0 lo)
/-- a slice: lower, upper place, where there is one -/
def kSl (x : VV) (lo hi : Option Int) : Option VV := match x.d with
  | .lst l => if x.open then some ⟨false, 1, .lst (cutD l lo hi)⟩ else none
  | _ => none
def kRev (x : VV) : Option VV := match x.d with
  | .lst l => if x.open then some ⟨false, 1, .lst l.reverse⟩ else none
  | _ => none
/-- xs[lo:hi] -/
def intOf (x : VV) : Option (Option Int) := match x.d with | .int i => some (some i) | _ => none
def part (o : Option M) : Env → R (Option Int) := match o with
  | none => fun _ => .pu none
  | some e => fun ρ => (e ρ).bind ρ fun y _ => .ofO (intOf y)
def slc (a : M) (lo hi : Option M) : M := fun ρ => (a ρ).bind ρ fun x ρ1 => (part lo ρ1).nxt false fun l => (part hi ρ1).nxt false fun u => .ofO (kSl x l u)
/-! ### displays -/
def minM : List VV → Option Nat
  | [] => none
  | x :: xs => if x.d.imm = true then minM xs else some (match minM xs with | none => x.m | some n => min x.m n)
def dmode (xs : List VV) : Nat := match minM xs with | none => 1 | some n => n + 1
def kLst (xs : List VV) : Option VV := if xs.all VV.stable = true ∧ xs.length ≤ lim then some ⟨false, dmode xs, .lst (xs.map VV.d)⟩ else none
def kTup (xs : List VV) : Option VV := if xs.all VV.stable = true ∧ xs.length ≤ lim then some ⟨false, dmode xs, .tup (xs.map VV.d)⟩ else none
/-! ### built-ins -/
def intsOf : List D → Option (List Int)
  | [] => some []
  | .int i :: r => (intsOf r).map (i :: ·)
  | _ :: _ => none
def blsOf : List D → Option (List Bool)
  | [] => some []
  | .bl i :: r => (blsOf r).map (i :: ·)
  | _ :: _ => none
def kLen : List VV → Option VV
  | [x] => (match x.d with
    | .lst l => some (vi l.length) | .tup l => some (vi l.length) | .str z => if z.length ≤ lim then some (vi z.length) else none | .dic _ l => some (vi l.length) | _ => none)
  | _ => none
def kAbs : List VV → Option VV
  | [x] => (match x.d with | .int i => some (vi (if i < 0 then -i else i)) | _ => none)
  | _ => none
def kInt : List VV → Option VV
  | [x] => (match x.d with | .int i => some (vi i) | .bl b => some (vi (if b = true then 1 else 0)) | _ => none)
  | _ => none
def kMax : List VV → Option VV
  | [x, y] => (match x.d, y.d with | .int i, .int j => some (vi (if j > i then j else i)) | _, _ => none)
  | _ => none
def kMin : List VV → Option VV
  | [x, y] => (match x.d, y.d with | .int i, .int j => some (vi (if j < i then j else i)) | _, _ => none)
  | _ => none
def kAll : List VV → Option VV
  | [x] => (match x.d with | .lst l => (blsOf l).map fun bs => vb (bs.all id) | _ => none)
  | _ => none
def kAny : List VV → Option VV
  | [x] => (match x.d with | .lst l => (blsOf l).map fun bs => vb (bs.any id) | _ => none)
  | _ => none
def kSum : List VV → Option VV
  | [x] => (match x.d with | .lst l => (intsOf l).map fun bs => vi bs.sum | _ => none)
  | _ => none
def sortI (l : List Int) : List Int := l.mergeSort fun a b => decide (a ≤ b)
def kSorted : List VV → Option VV
  | [x] => (match x.d with | .lst l => (intsOf l).bind fun bs => if bs.length < 64 then some ⟨false, 1, .lst (dints (sortI bs))⟩ else none | _ => none)
  | _ => none
def kList : List VV → Option VV
  | [x] => (match x.d with | .lst l => if x.open then some ⟨false, 1, .lst l⟩ else none | .tup l => if x.open then some ⟨false, 1, .lst l⟩ else none | _ => none)
  | _ => none
def kTuple : List VV → Option VV
  | [x] => (match x.d with | .lst l => if x.open then some ⟨false, 1, .tup l⟩ else none | _ => none)
  | _ => none
/-- list(range(a)) -/
def kRange : List VV → Option VV
  | [x] => (match x.d with | .int j => if -(2 ^ 62) ≤ j ∧ j ≤ 16777216 then some ⟨false, 1, .lst (rng 0 j)⟩ else none | _ => none)
  | _ => none
/-- may be written -/
def D.shw (d : D) : Bool := d.flat && d.py.showable && decide (d.py.shown.length ≤ lim) && decide (d.py.depth ≤ 60)
/-- a dict of plain things may be written -/
def D.shwK : D → Bool
  | .dic false l => (l.all fun p => (match p.1 with | .int _ => true | .str _ => true | _ => false) && p.2.imm) && (D.dic false l).py.showable && decide ((D.dic false l).py.shown.length ≤ lim) && decide ((D.dic false l).py.depth ≤ 60)
  | _ => false
def kRepr : List VV → Option VV
  | [x] => if x.d.shw = true then some (vs x.d.py.shown) else if x.d.shwK = true then some (vs x.d.py.shown) else none
  | _ => none
/-- the kinds that isinstance is asked for -/
inductive Ty where | int | bool | str | list | tuple | dict
def Ty.nm : Ty → String
  | .int => "int" | .bool => "bool" | .str => "str" | .list => "list" | .tuple => "tuple" | .dict => "dict"
def D.isTy (t : Ty) : D → Option Bool
  | .int _ => some (match t with | .int => true | _ => false)
  | .bl _ => some (match t with | .int => true | .bool => true | _ => false)
  | .str _ => some (match t with | .str => true | _ => false)
  | .non => some false
  | .lst _ => some (match t with | .list => true | _ => false)
  | .tup _ => some (match t with | .tuple => true | _ => false)
  | .dic _ _ => some (match t with | .dict => true | _ => false)
  | .ins _ _ => none
def kIsi (t : Ty) (x : VV) : Option VV := (x.d.isTy t).map vb
/-! ### a comprehension -/
def wipeE (own : List Nat) (ρ : Env) : Env := own.foldl (fun r j => put r j none) ρ
def compL (own : List Nat) (g : MG) (cs : MT) (e : M) : List D → Env → List VV → R (List VV)
  | [], _, acc => .pu acc
  | d :: ds, ρ, acc => match g ⟨false, 0, d⟩ ρ with
    | .nx ρ1 => (match cs ρ1 with
      | .ok false o1 => (compL own g cs e ds (now (o1.map (wipeE own)) ρ) acc).aft (o1.map (wipeE own))
      | .ok true o1 => (match e (now o1 ρ1) with
        | .ok x o2 => if x.stable = true then (compL own g cs e ds (now ((thn o1 o2).map (wipeE own)) ρ) (acc ++ [x])).aft ((thn o1 o2).map (wipeE own)) else .no
        | _ => .no)
      | _ => .no)
    | _ => .no
def compF (r : R (List VV)) : R VV := match r with
  | .ok xs o => (R.ofO (kLst xs)).aft o
  | _ => .no
/-! ### methods of lists in a slot -/
/-- a method's call: the arguments first, then what is done to the slot -/
def recv (i : Nat) (as : MA) (k : PV → List VV → Option (VV × PV)) : M := fun ρ => match look ρ i with
  | some (_, .lst _) => (as ρ).bind ρ fun xs ρ1 => (match look ρ1 i with
    | some pv => (match k pv xs with | some (r, pv') => .ef r (put ρ1 i (some pv')) | none => .no)
    | none => .no)
  | _ => .no
/-- .. of an item of a slot -/
def itemOf (b : R VV) (m : Nat) (l : List D) : Option (Nat × List D) := match b with
  | .ok ⟨_, _, .int j⟩ none => (match nix l.length j with
    | some j => (match l[j]? with | some (.lst l2) => some (j, l2) | _ => none)
    | none => none)
  | _ => none
def recvI (i : Nat) (b : M) (as : MA) (k : PV → List VV → Option (VV × PV)) : M := fun ρ => match look ρ i with
  | some (m + 1, .lst l) => (match itemOf (b ρ) m l with
    | some (j, l2) => (match as ρ with
      | .ok xs none => (match k (m, .lst l2) xs with
        | some (r, pv') => if pv'.1 ≤ m then .ef r (put ρ i (some (pv'.1 + 1, .lst (l.set j pv'.2)))) else .no
        | none => .no)
      | _ => .no)
    | none => .no)
  | _ => .no
def rAppend (pv : PV) (xs : List VV) : Option (VV × PV) := match pv, xs with
  | (m + 1, .lst l), [x] => if x.stable = true ∧ l.length < lim then some (vn, ((if x.d.imm = true then m else min m x.m) + 1, .lst (l ++ [x.d]))) else none
  | _, _ => none
def rPopAt (pv : PV) (xs : List VV) : Option (VV × PV) := match pv, xs with
  | (m + 1, .lst l), [⟨_, _, .int i⟩] => if l.length ≤ lim then (nix l.length i).bind fun j => l[j]?.map fun d => (⟨false, m, d⟩, (m + 1, .lst (l.eraseIdx j))) else none
  | _, _ => none
def rPop (pv : PV) (xs : List VV) : Option (VV × PV) := match pv, xs with
  | (m + 1, .lst l), [] => l[l.length - 1]?.map fun d => (⟨false, m, d⟩, (m + 1, .lst l.dropLast))
  | _, _ => none
/-- an item by a name's place, asked behind the index -/
def ixv (i : Nat) (b : M) : M := fun ρ => (b ρ).bind ρ fun y ρ1 => match look ρ1 i with
  | some (m, d) => .ofO (kIx ⟨true, m, d⟩ y)
  | none => .no
/-- x[i] = .. of a list in a slot -/
def gset (i : Nat) (b : M) : MG := fun x ρ => match look ρ i with
  | none => .no
  | some _ => (b ρ).go ρ fun y ρ1 => match look ρ1 i, y.d with
    | some (m + 1, .lst l), .int k => if x.stable = true then (match nix l.length k with
        | some j => .nx (put ρ1 i (some ((if x.d.imm = true then m else min m x.m) + 1, .lst (l.set j x.d))))
        | none => .no) else .no
    | _, _ => .no

/-- xs.count(i) of ints -/
def kCount (x : VV) (xs : List VV) : Option VV := match x.d, xs with
  | .lst l, [⟨_, _, .int i⟩] => (intsOf l).map fun ns => vi (ns.count i : Nat)
  | _, _ => none
/-- xs.index(y) -/
def kIndex (x : VV) (xs : List VV) : Option VV := match x.d, xs with
  | .lst l, [y] => if x.d.shp = true ∧ y.d.shp = true then (match l.findIdx? fun z => z.eqv y.d with
      | some j => some (vi (j : Nat)) | none => none) else none
  | _, _ => none
/-- o.m(a, ..) that changes nothing -/
def meth (ty : D → Bool) (o : M) (as : MA) (k : VV → List VV → Option VV) : M := fun ρ => (o ρ).bind ρ fun x ρ1 => if ty x.d = true then (as ρ1).nxt x.stable fun xs => .ofO (k x xs) else .no
def isL : D → Bool
  | .lst _ => true | _ => false
/-- a op b op' c -/
def chain (a b c : M) (φ ψ : Int → Int → Bool) : M := fun ρ => (a ρ).bind ρ fun x ρ1 => (b ρ1).bind ρ1 fun y ρ2 => match x.d, y.d with
  | .int i, .int j => if φ i j = true then (c ρ2).bind ρ2 fun w _ => (match w.d with | .int k => .pu (vb (ψ j k)) | _ => .no) else .pu (vb false)
  | _, _ => .no
def comp (i : MI) (g : MG) (cs : MT) (e : M) (own : List Nat) : M := fun ρ => (i ρ).bind ρ fun ds ρ1 => compF (compL own g cs e ds (wipeE own ρ1) [])
def yes : MT := fun _ => .pu true
end Vs
set_option maxHeartbeats 4000000
/-! Vs: how trees of data lie in memory. -/
namespace Vs
open PySem PySem.Spec PyProof.Rows L2

/-- a dict's key -/
def kD : Key → D
  | .inl i => .int i
  | .inr x => .str x
def tD (ks : List Key) : D := .tup (ks.map kD)
mutual
/-- v stands for d at the heap H: S are the addresses that stay as they are, the last list the ones that are its own, down to the depth told -/
inductive Rp (K : PySem.W.Frag) (S : Addr → Prop) (H : Hp) : Nat → V → D → List Addr → Prop
  | non (m : Nat) : Rp K S H m .non .non []
  | bl (m : Nat) (b : Bool) : Rp K S H m (.bl b) (.bl b) []
  | int (m : Nat) (i : Int) : Rp K S H m (.int i) (.int i) []
  | str (m : Nat) (x : Str) : Rp K S H m (.str x) (.str x) []
  | lst0 {a : Addr} {xs : List V} {ds : List D} : Rd H a (.lst xs) → S a → RpAll K S H 0 xs ds [] → Rp K S H 0 (.ref a) (.lst ds) []
  | lstK {a : Addr} {xs : List V} {ds : List D} : SqL K (fun _ => none) a xs → RpAll K S H 0 xs ds [] → Rp K S H 0 (.ref a) (.lst ds) []
  | lst1 {m : Nat} {a : Addr} {xs : List V} {ds : List D} {f : List Addr} : H a = some (.lst xs) → RpAll K S H m xs ds f → Rp K S H (m + 1) (.ref a) (.lst ds) (a :: f)
  | tup0 {a : Addr} {xs : List V} {ds : List D} : SqT K H a xs → RpAll K S H 0 xs ds [] → Rp K S H 0 (.ref a) (.tup ds) []
  | tup1 {m : Nat} {a : Addr} {xs : List V} {ds : List D} {f : List Addr} : H a = some (.tup xs) → RpAll K S H m xs ds f → Rp K S H (m + 1) (.ref a) (.tup ds) f
  | dk0 {a : Addr} {kvs : List (Key × V)} {ds : List D} : Rd H a (.dK kvs) → S a → RpAll K S H 0 (kvs.map (·.2)) ds [] → Rp K S H 0 (.ref a) (.dic false ((kvs.map fun p => kD p.1).zip ds)) []
  | dk1 {m : Nat} {a : Addr} {kvs : List (Key × V)} {ds : List D} {f : List Addr} : H a = some (.dK kvs) → RpAll K S H m (kvs.map (·.2)) ds f → Rp K S H (m + 1) (.ref a) (.dic false ((kvs.map fun p => kD p.1).zip ds)) (a :: f)
  | dt0 {a : Addr} {kvs : List (List Key × V)} {ds : List D} : H a = some (.dT kvs) → S a → RpAll K S H 0 (kvs.map (·.2)) ds [] → Rp K S H 0 (.ref a) (.dic true ((kvs.map fun p => tD p.1).zip ds)) []
  | dt1 {m : Nat} {a : Addr} {kvs : List (List Key × V)} {ds : List D} {f : List Addr} : H a = some (.dT kvs) → RpAll K S H m (kvs.map (·.2)) ds f → Rp K S H (m + 1) (.ref a) (.dic true ((kvs.map fun p => tD p.1).zip ds)) (a :: f)
  | ob0 {a dx C : Addr} {fs : List (Str × D)} {ws : List V} : H a = some (.ins C dx ((fs.map (·.1)).zip ws)) → S a → objD (cOf C) fs = true → RpAll K S H 0 ws (fs.map (·.2)) [] → Rp K S H 0 (.ref a) (.ins (cOf C) fs) []
  | ob1 {m : Nat} {a dx C : Addr} {fs : List (Str × D)} {ws : List V} {f : List Addr} : H a = some (.ins C dx ((fs.map (·.1)).zip ws)) → objD (cOf C) fs = true → RpAll K S H m ws (fs.map (·.2)) f → Rp K S H (m + 1) (.ref a) (.ins (cOf C) fs) (a :: f)
  | exn0 (m : Nat) (a d : Addr) (c : Str) : Rp K S H m (.ref a) (.ins c [("", .int a), ("", .int d)]) []
  | anyR (m : Nat) (a : Addr) : Rp K S H m (.ref a) (.ins "?" []) []
  | exn1 {m : Nat} {a d : Addr} {c : Str} {fs : List (Str × D)} {ws : List V} : H d = some (.xd ((fs.map (·.1)).zip ws)) → S d → RpAll K S H 0 ws (fs.map (·.2)) [] → Rp K S H m (.ref a) (.ins c (("", .int a) :: ("", .int d) :: fs)) []
inductive RpAll (K : PySem.W.Frag) (S : Addr → Prop) (H : Hp) : Nat → List V → List D → List Addr → Prop
  | nil (m : Nat) : RpAll K S H m [] [] []
  | cons {m : Nat} {v : V} {d : D} {f : List Addr} {vs : List V} {ds : List D} {g : List Addr} : Rp K S H m v d f → RpAll K S H m vs ds g → RpAll K S H m (v :: vs) (d :: ds) (f ++ g)
end

section
variable {K : PySem.W.Frag} {S S' : Addr → Prop} {H H' : Hp}

theorem sqT_keep {a : Addr} {xs : List V} (k : ∀ b o, H b = some o → ¬ Mut (some o) → H' b = some o) (h : SqT K H a xs) : SqT K H' a xs := by
  rcases h with (h | ⟨o, h⟩) | h
  · exact .inl (.inl (k _ _ h fun z => z))
  · exact .inl (.inr ⟨o, k _ _ h fun z => z⟩)
  · exact .inr h
theorem rd_keep {a : Addr} {u : HO} (k : ∀ b o, H b = some o → b = a → H' b = some o) (h : Rd H a u) : Rd H' a u := by
  rcases h with h | ⟨o, h⟩
  · exact .inl (k _ _ h rfl)
  · exact .inr ⟨o, k _ _ h rfl⟩

mutual
theorem Rp.keep (kS : ∀ b o, S b → H b = some o → H' b = some o) (kM : ∀ b o, H b = some o → ¬ Mut (some o) → H' b = some o) (s : ∀ b, S b → S' b) :
    ∀ {m : Nat} {v : V} {d : D} {f : List Addr}, (∀ b o, b ∈ f → H b = some o → H' b = some o) → Rp K S H m v d f → Rp K S' H' m v d f
  | _, _, _, _, _, .non m => .non m
  | _, _, _, _, _, .bl m b => .bl m b
  | _, _, _, _, _, .int m i => .int m i
  | _, _, _, _, _, .str m x => .str m x
  | _, _, _, _, kf, .lst0 h q r => .lst0 (rd_keep (fun b o e z => kS b o (z ▸ q) e) h) (s _ q) (RpAll.keep kS kM s kf r)
  | _, _, _, _, kf, .lstK h r => .lstK h (RpAll.keep kS kM s kf r)
  | _, _, _, _, kf, .lst1 h r => .lst1 (kf _ _ (List.mem_cons_self ..) h) (RpAll.keep kS kM s (fun b o hb => kf b o (List.mem_cons_of_mem _ hb)) r)
  | _, _, _, _, kf, .tup0 h r => .tup0 (sqT_keep kM h) (RpAll.keep kS kM s kf r)
  | _, _, _, _, kf, .tup1 h r => .tup1 (kM _ _ h fun z => z) (RpAll.keep kS kM s kf r)
  | _, _, _, _, kf, .dk0 h q r => .dk0 (rd_keep (fun b o e z => kS b o (z ▸ q) e) h) (s _ q) (RpAll.keep kS kM s kf r)
  | _, _, _, _, kf, .dk1 h r => .dk1 (kf _ _ (List.mem_cons_self ..) h) (RpAll.keep kS kM s (fun b o hb => kf b o (List.mem_cons_of_mem _ hb)) r)
  | _, _, _, _, kf, .dt0 h q r => .dt0 (kS _ _ q h) (s _ q) (RpAll.keep kS kM s kf r)
  | _, _, _, _, kf, .dt1 h r => .dt1 (kf _ _ (List.mem_cons_self ..) h) (RpAll.keep kS kM s (fun b o hb => kf b o (List.mem_cons_of_mem _ hb)) r)
  | _, _, _, _, kf, .ob0 h q oo r => .ob0 (kS _ _ q h) (s _ q) oo (RpAll.keep kS kM s kf r)
  | _, _, _, _, kf, .ob1 h oo r => .ob1 (kf _ _ (List.mem_cons_self ..) h) oo (RpAll.keep kS kM s (fun b o hb => kf b o (List.mem_cons_of_mem _ hb)) r)
  | _, _, _, _, _, .exn0 m a d c => .exn0 m a d c
  | _, _, _, _, _, .anyR m a => .anyR m a
  | _, _, _, _, kf, .exn1 h q r => .exn1 (kS _ _ q h) (s _ q) (RpAll.keep kS kM s kf r)
theorem RpAll.keep (kS : ∀ b o, S b → H b = some o → H' b = some o) (kM : ∀ b o, H b = some o → ¬ Mut (some o) → H' b = some o) (s : ∀ b, S b → S' b) :
    ∀ {m : Nat} {v : List V} {d : List D} {f : List Addr}, (∀ b o, b ∈ f → H b = some o → H' b = some o) → RpAll K S H m v d f → RpAll K S' H' m v d f
  | _, _, _, _, _, .nil m => .nil m
  | _, _, _, _, kf, .cons h r => .cons (Rp.keep kS kM s (fun b o hb => kf b o (List.mem_append_left _ hb)) h) (RpAll.keep kS kM s (fun b o hb => kf b o (List.mem_append_right _ hb)) r)
end
theorem Rp.same (e : Same H H') {m : Nat} {v : V} {d : D} {f : List Addr} (h : Rp K S H m v d f) : Rp K S H' m v d f :=
  h.keep (fun b o _ => e b o) (fun b o q _ => e b o q) (fun _ z => z) fun b o _ => e b o
theorem RpAll.same (e : Same H H') {m : Nat} {v : List V} {d : List D} {f : List Addr} (h : RpAll K S H m v d f) : RpAll K S H' m v d f :=
  h.keep (fun b o _ => e b o) (fun b o q _ => e b o q) (fun _ z => z) fun b o _ => e b o
theorem Rp.more (s : ∀ b, S b → S' b) {m : Nat} {v : V} {d : D} {f : List Addr} (h : Rp K S H m v d f) : Rp K S' H m v d f := h.keep (fun _ _ _ e => e) (fun _ _ e _ => e) s fun _ _ _ e => e
theorem RpAll.more (s : ∀ b, S b → S' b) {m : Nat} {v : List V} {d : List D} {f : List Addr} (h : RpAll K S H m v d f) : RpAll K S' H m v d f := h.keep (fun _ _ _ e => e) (fun _ _ e _ => e) s fun _ _ _ e => e
/-- without a place -/
theorem Rp.imm {m : Nat} {v : V} {d : D} {f : List Addr} (h : Rp K S H m v d f) (i : d.imm = true) : f = [] ∧ ∀ S' H' m', Rp K S' H' m' v d [] := by
  cases h <;> first
    | (cases i; done)
    | (refine ⟨rfl, fun S' H' m' => ?_⟩; constructor)
mutual
theorem RpAll.own0 : ∀ {v : List V} {d : List D} {f : List Addr}, RpAll K S H 0 v d f → f = []
  | _, _, _, .nil _ => rfl
  | _, _, _, .cons h r => by
    rw [Rp.own0 h, RpAll.own0 r]
    rfl
theorem Rp.own0 : ∀ {v : V} {d : D} {f : List Addr}, Rp K S H 0 v d f → f = []
  | _, _, _, .non _ => rfl
  | _, _, _, .bl _ _ => rfl
  | _, _, _, .int _ _ => rfl
  | _, _, _, .str _ _ => rfl
  | _, _, _, .lst0 .. => rfl
  | _, _, _, .lstK .. => rfl
  | _, _, _, .tup0 .. => rfl
  | _, _, _, .dk0 .. => rfl
  | _, _, _, .dt0 .. => rfl
  | _, _, _, .ob0 .. => rfl
  | _, _, _, .exn0 .. => rfl
  | _, _, _, .anyR .. => rfl
  | _, _, _, .exn1 .. => rfl
end
theorem thin_perm {a b a0 a1 b0 b1 : List Addr} (h : a.Perm (a0 ++ a1)) (g : b.Perm (b0 ++ b1)) : (a ++ b).Perm ((a0 ++ b0) ++ (a1 ++ b1)) := by
  refine (h.append g).trans ?_
  rw [List.append_assoc, List.append_assoc]
  refine List.Perm.append_left _ ?_
  rw [← List.append_assoc, ← List.append_assoc]
  exact List.Perm.append_right _ List.perm_append_comm
mutual
/-- known less deep: what was its own below stays as it is from here on -/
theorem Rp.thin : ∀ {m : Nat} {v : V} {d : D} {f : List Addr} (k : Nat), Rp K S H m v d f → ∃ f0 f1, f.Perm (f0 ++ f1) ∧ Rp K (fun x => S x ∨ x ∈ f1) H (min m k) v d f0
  | _, _, _, _, k, .non m => ⟨[], [], .nil, .non _⟩
  | _, _, _, _, k, .bl m b => ⟨[], [], .nil, .bl _ _⟩
  | _, _, _, _, k, .int m i => ⟨[], [], .nil, .int _ _⟩
  | _, _, _, _, k, .str m x => ⟨[], [], .nil, .str _ _⟩
  | _, _, _, _, k, .lst0 h q r => ⟨[], [], .nil, by rw [Nat.zero_min]; exact Rp.more (fun _ => Or.inl) (.lst0 h q r)⟩
  | _, _, _, _, k, .lstK h r => ⟨[], [], .nil, by rw [Nat.zero_min]; exact Rp.more (fun _ => Or.inl) (.lstK h r)⟩
  | _, _, _, _, 0, .lst1 (a := a) h r => by
    obtain ⟨f0, f1, p, q⟩ := RpAll.thin 0 r
    rw [Nat.min_zero] at q ⊢
    obtain ⟨rfl, _⟩ : f0 = [] ∧ True := ⟨RpAll.own0 q, trivial⟩
    refine ⟨[], a :: f1, List.Perm.cons a p, .lst0 (.inl h) (Or.inr (List.mem_cons_self ..)) (RpAll.more (fun b hb => ?_) q)⟩
    exact hb.imp id fun z => List.mem_cons_of_mem _ z
  | _, _, _, _, k + 1, .lst1 (m := m) (a := a) h r => by
    obtain ⟨f0, f1, p, q⟩ := RpAll.thin k r
    rw [Nat.add_min_add_right]
    exact ⟨a :: f0, f1, List.Perm.cons a p, .lst1 h q⟩
  | _, _, _, _, k, .tup0 h r => ⟨[], [], .nil, by rw [Nat.zero_min]; exact Rp.more (fun _ => Or.inl) (.tup0 h r)⟩
  | _, _, _, _, 0, .tup1 h r => by
    obtain ⟨f0, f1, p, q⟩ := RpAll.thin 0 r
    rw [Nat.min_zero] at q ⊢
    obtain ⟨rfl, _⟩ : f0 = [] ∧ True := ⟨RpAll.own0 q, trivial⟩
    exact ⟨[], f1, p, .tup0 (.inl (.inl h)) q⟩
  | _, _, _, _, k + 1, .tup1 h r => by
    obtain ⟨f0, f1, p, q⟩ := RpAll.thin k r
    rw [Nat.add_min_add_right]
    exact ⟨f0, f1, p, .tup1 h q⟩
  | _, _, _, _, k, .dk0 h q r => ⟨[], [], .nil, by rw [Nat.zero_min]; exact Rp.more (fun _ => Or.inl) (.dk0 h q r)⟩
  | _, _, _, _, 0, .dk1 (a := a) h r => by
    obtain ⟨f0, f1, p, q⟩ := RpAll.thin 0 r
    rw [Nat.min_zero] at q ⊢
    obtain ⟨rfl, _⟩ : f0 = [] ∧ True := ⟨RpAll.own0 q, trivial⟩
    refine ⟨[], a :: f1, List.Perm.cons a p, .dk0 (.inl h) (Or.inr (List.mem_cons_self ..)) (RpAll.more (fun b hb => ?_) q)⟩
    exact hb.imp id fun z => List.mem_cons_of_mem _ z
  | _, _, _, _, k + 1, .dk1 (m := m) (a := a) h r => by
    obtain ⟨f0, f1, p, q⟩ := RpAll.thin k r
    rw [Nat.add_min_add_right]
    exact ⟨a :: f0, f1, List.Perm.cons a p, .dk1 h q⟩
  | _, _, _, _, k, .dt0 h q r => ⟨[], [], .nil, by rw [Nat.zero_min]; exact Rp.more (fun _ => Or.inl) (.dt0 h q r)⟩
  | _, _, _, _, 0, .dt1 (a := a) h r => by
    obtain ⟨f0, f1, p, q⟩ := RpAll.thin 0 r
    rw [Nat.min_zero] at q ⊢
    obtain ⟨rfl, _⟩ : f0 = [] ∧ True := ⟨RpAll.own0 q, trivial⟩
    refine ⟨[], a :: f1, List.Perm.cons a p, .dt0 h (Or.inr (List.mem_cons_self ..)) (RpAll.more (fun b hb => ?_) q)⟩
    exact hb.imp id fun z => List.mem_cons_of_mem _ z
  | _, _, _, _, k + 1, .dt1 (m := m) (a := a) h r => by
    obtain ⟨f0, f1, p, q⟩ := RpAll.thin k r
    rw [Nat.add_min_add_right]
    exact ⟨a :: f0, f1, List.Perm.cons a p, .dt1 h q⟩
  | _, _, _, _, k, .ob0 h q oo r => ⟨[], [], .nil, by rw [Nat.zero_min]; exact Rp.more (fun _ => Or.inl) (.ob0 h q oo r)⟩
  | _, _, _, _, 0, .ob1 (a := a) h oo r => by
    obtain ⟨f0, f1, p, q⟩ := RpAll.thin 0 r
    rw [Nat.min_zero] at q ⊢
    obtain ⟨rfl, _⟩ : f0 = [] ∧ True := ⟨RpAll.own0 q, trivial⟩
    refine ⟨[], a :: f1, List.Perm.cons a p, .ob0 h (Or.inr (List.mem_cons_self ..)) oo (RpAll.more (fun b hb => ?_) q)⟩
    exact hb.imp id fun z => List.mem_cons_of_mem _ z
  | _, _, _, _, k + 1, .ob1 (m := m) (a := a) h oo r => by
    obtain ⟨f0, f1, p, q⟩ := RpAll.thin k r
    rw [Nat.add_min_add_right]
    exact ⟨a :: f0, f1, List.Perm.cons a p, .ob1 h oo q⟩
  | _, _, _, _, k, .exn0 m a d c => ⟨[], [], .nil, .exn0 _ a d c⟩
  | _, _, _, _, k, .anyR m a => ⟨[], [], .nil, .anyR _ a⟩
  | _, _, _, _, k, .exn1 h q r => ⟨[], [], .nil, .exn1 h (Or.inl q) (RpAll.more (fun _ => Or.inl) r)⟩
theorem RpAll.thin : ∀ {m : Nat} {v : List V} {d : List D} {f : List Addr} (k : Nat), RpAll K S H m v d f → ∃ f0 f1, f.Perm (f0 ++ f1) ∧ RpAll K (fun x => S x ∨ x ∈ f1) H (min m k) v d f0
  | _, _, _, _, k, .nil m => ⟨[], [], .nil, .nil _⟩
  | _, _, _, _, k, .cons h r => by
    obtain ⟨f0, f1, p, q⟩ := Rp.thin k h
    obtain ⟨g0, g1, p', q'⟩ := RpAll.thin k r
    refine ⟨f0 ++ g0, f1 ++ g1, thin_perm p p', .cons (Rp.more (fun b hb => hb.imp id fun z => List.mem_append_left _ z) q) (RpAll.more (fun b hb => hb.imp id fun z => List.mem_append_right _ z) q')⟩
end

/-! ### items -/
theorem RpAll.length : ∀ {m : Nat} {v : List V} {d : List D} {f : List Addr}, RpAll K S H m v d f → v.length = d.length
  | _, _, _, _, .nil _ => rfl
  | _, _, _, _, .cons _ r => congrArg (· + 1) (RpAll.length r)
/-- one of them, and the others: what they have of their own -/
theorem RpAll.at : ∀ {m : Nat} {v : List V} {d : List D} {f : List Addr} {i : Nat} {e : D}, RpAll K S H m v d f → d[i]? = some e →
    ∃ u g1 g g2, v[i]? = some u ∧ f = g1 ++ g ++ g2 ∧ Rp K S H m u e g ∧ (∀ u' e' g', Rp K S H m u' e' g' → RpAll K S H m (v.set i u') (d.set i e') (g1 ++ g' ++ g2)) ∧ RpAll K S H m (v.eraseIdx i) (d.eraseIdx i) (g1 ++ g2)
  | _, _, _, _, i, _, .nil _, h => by simp at h
  | m, _, _, _, 0, e, .cons (v := v) (d := d) (f := f) (vs := vs) (ds := ds) (g := g) h r, q => by
    have q' : d = e := by simpa using q
    subst q'
    exact ⟨v, [], f, g, rfl, by simp, h, fun u' e' g' z => by simpa using RpAll.cons z r, by simpa using r⟩
  | m, _, _, _, i + 1, e, .cons (v := v) (d := d) (f := f) (vs := vs) (ds := ds) (g := g) h r, q => by
    obtain ⟨u, g1, g0, g2, a1, a2, a3, a4, a5⟩ := RpAll.at (i := i) r (by simpa using q)
    refine ⟨u, f ++ g1, g0, g2, by simpa using a1, by rw [a2]; simp [List.append_assoc], a3, fun u' e' g' z => ?_, ?_⟩
    · have := RpAll.cons h (a4 u' e' g' z)
      simpa [List.append_assoc] using this
    · have := RpAll.cons h a5
      simpa [List.append_assoc] using this
theorem RpAll.append : ∀ {m : Nat} {v w : List V} {d e : List D} {f g : List Addr}, RpAll K S H m v d f → RpAll K S H m w e g → RpAll K S H m (v ++ w) (d ++ e) (f ++ g)
  | _, _, _, _, _, _, _, .nil _, h => h
  | _, _, _, _, _, _, _, .cons h r, q => by
    have := RpAll.cons h (RpAll.append r q)
    simpa [List.append_assoc] using this
theorem RpAll.get0 {v : List V} {d : List D} {i : Nat} {e : D} (h : RpAll K S H 0 v d []) (q : d[i]? = some e) : ∃ u, v[i]? = some u ∧ Rp K S H 0 u e [] := by
  obtain ⟨u, g1, g, g2, a1, a2, a3, _⟩ := h.at q
  have : g = [] := by
    cases g1 with
    | nil => cases g with
      | nil => rfl
      | cons => simp at a2
    | cons => simp at a2
  subst this
  exact ⟨u, a1, a3⟩
theorem RpAll.cut0 : ∀ {v : List V} {d : List D} {f : List Addr}, RpAll K S H 0 v d f → ∀ n, RpAll K S H 0 (v.take n) (d.take n) [] ∧ RpAll K S H 0 (v.drop n) (d.drop n) []
  | _, _, _, .nil _, n => by
    rw [List.take_nil, List.take_nil, List.drop_nil, List.drop_nil]
    exact ⟨.nil _, .nil _⟩
  | _, _, _, .cons h r, 0 => by
    have e1 := h.own0
    have e2 := r.own0
    subst e1 e2
    exact ⟨.nil _, .cons (f := []) (g := []) h r⟩
  | _, _, _, .cons h r, n + 1 => by
    have e1 := h.own0
    subst e1
    exact ⟨.cons (f := []) (g := []) h (RpAll.cut0 r n).1, (RpAll.cut0 r n).2⟩
/-- dints stand for themselves -/
theorem RpAll.dints : ∀ (m : Nat) (l : List Int), RpAll K S H m (l.map V.int) (dints l) []
  | m, [] => .nil m
  | m, i :: l => .cons (f := []) (g := []) (.int m i) (RpAll.dints m l)
theorem RpAll.of_ints : ∀ {m : Nat} {v : List V} {f : List Addr} {l : List Int}, RpAll K S H m v (Vs.dints l) f → v = l.map V.int ∧ f = []
  | _, _, _, [], h => by
    cases h
    exact ⟨rfl, rfl⟩
  | _, _, _, i :: l, h => by
    cases h with
    | cons h r =>
      cases h
      obtain ⟨e1, e2⟩ := RpAll.of_ints r
      subst e1 e2
      exact ⟨rfl, rfl⟩
/-- read: a list's place, its items -/
theorem Rp.lst {m : Nat} {v : V} {ds : List D} {f : List Addr} (h : Rp K S H m v (.lst ds) f) : ∃ a xs g, v = .ref a ∧ SqL K H a xs ∧ RpAll K S H (m - 1) xs ds g ∧ (m = 0 → g = []) ∧ (m ≠ 0 → H a = some (.lst xs) ∧ f = a :: g) := by
  cases h with
  | lst0 h q r => exact ⟨_, _, _, rfl, .inl h, r, fun _ => rfl, fun z => absurd rfl z⟩
  | lstK h r =>
    refine ⟨_, _, _, rfl, .inr ?_, r, fun _ => rfl, fun z => absurd rfl z⟩
    rcases h with (h | ⟨o, h⟩) | h
    · cases h
    · cases h
    · exact h
  | lst1 h r => exact ⟨_, _, _, rfl, .inl (.inl h), r, fun z => (nomatch z), fun _ => ⟨h, rfl⟩⟩
theorem Rp.tup {m : Nat} {v : V} {ds : List D} {f : List Addr} (h : Rp K S H m v (.tup ds) f) : ∃ a xs, v = .ref a ∧ SqT K H a xs ∧ RpAll K S H (m - 1) xs ds f := by
  cases h with
  | tup0 h r => exact ⟨_, _, rfl, h, r⟩
  | tup1 h r => exact ⟨_, _, rfl, .inl (.inl h), r⟩
theorem Rp.vint {m : Nat} {v : V} {i : Int} {f : List Addr} (h : Rp K S H m v (.int i) f) : v = .int i := by cases h; rfl
theorem Rp.vbl {m : Nat} {v : V} {i : Bool} {f : List Addr} (h : Rp K S H m v (.bl i) f) : v = .bl i := by cases h; rfl
theorem Rp.vstr {m : Nat} {v : V} {i : Str} {f : List Addr} (h : Rp K S H m v (.str i) f) : v = .str i := by cases h; rfl
theorem Rp.vnon {m : Nat} {v : V} {f : List Addr} (h : Rp K S H m v .non f) : v = .non := by cases h; rfl
mutual
/-- read as the kit's data -/
theorem Rp.dp : ∀ {m : Nat} {v : V} {d : D} {f : List Addr}, d.flat = true → Rp K S H m v d f → Dp K H v d.py
  | _, _, _, _, _, .non m => .non
  | _, _, _, _, _, .bl m b => .bl b
  | _, _, _, _, _, .int m i => .int i
  | _, _, _, _, _, .str m x => .str x
  | _, _, _, _, hf, .lst0 h q r => by rw [D.py]; exact .lst (.inl h) (RpAll.dp (by rwa [D.flat] at hf) r)
  | _, _, _, _, hf, .lstK h r => by
    rw [D.py]
    refine .lst (.inr ?_) (RpAll.dp (by rwa [D.flat] at hf) r)
    rcases h with (h | ⟨o, h⟩) | h
    · cases h
    · cases h
    · exact h
  | _, _, _, _, hf, .lst1 h r => by rw [D.py]; exact .lst (.inl (.inl h)) (RpAll.dp (by rwa [D.flat] at hf) r)
  | _, _, _, _, hf, .tup0 h r => by rw [D.py]; exact .tup h (RpAll.dp (by rwa [D.flat] at hf) r)
  | _, _, _, _, hf, .tup1 h r => by rw [D.py]; exact .tup (.inl (.inl h)) (RpAll.dp (by rwa [D.flat] at hf) r)
  | _, _, _, _, hf, .dk0 .. => by rw [D.flat] at hf; cases hf
  | _, _, _, _, hf, .dk1 .. => by rw [D.flat] at hf; cases hf
  | _, _, _, _, hf, .dt0 .. => by rw [D.flat] at hf; cases hf
  | _, _, _, _, hf, .dt1 .. => by rw [D.flat] at hf; cases hf
  | _, _, _, _, hf, .ob0 .. => by rw [D.flat] at hf; cases hf
  | _, _, _, _, hf, .ob1 .. => by rw [D.flat] at hf; cases hf
  | _, _, _, _, hf, .exn0 .. => by rw [D.flat] at hf; cases hf
  | _, _, _, _, hf, .anyR .. => by rw [D.flat] at hf; cases hf
  | _, _, _, _, hf, .exn1 .. => by rw [D.flat] at hf; cases hf
theorem RpAll.dp : ∀ {m : Nat} {v : List V} {d : List D} {f : List Addr}, flatAll d = true → RpAll K S H m v d f → DpAll K H v (pyAll d)
  | _, _, _, _, _, .nil m => by rw [pyAll]; exact .nil
  | _, _, _, _, hf, .cons h r => by
    rw [flatAll, Bool.and_eq_true] at hf
    rw [pyAll]
    exact .cons (Rp.dp hf.1 h) (RpAll.dp hf.2 r)
end
end

/-! ### slots -/
/-- the slots' values stand for the slots' data; what is their own, in some order -/
inductive EnvRp (K : PySem.W.Frag) (S : Addr → Prop) (H : Hp) : List (Option V) → Env → List Addr → Prop
  | nil : EnvRp K S H [] [] []
  | dead {x : Option V} {σ : List (Option V)} {ρ : Env} {F : List Addr} : EnvRp K S H σ ρ F → EnvRp K S H (x :: σ) (none :: ρ) F
  | live {v : V} {m : Nat} {d : D} {f : List Addr} {σ : List (Option V)} {ρ : Env} {F G : List Addr} : Rp K S H m v d f → EnvRp K S H σ ρ F → G.Perm (f ++ F) → EnvRp K S H (some v :: σ) (some (m, d) :: ρ) G
section
variable {K : PySem.W.Frag} {S S' : Addr → Prop} {H H' : Hp} {σ : List (Option V)} {ρ : Env} {F G : List Addr}
theorem EnvRp.perm (h : EnvRp K S H σ ρ F) (p : F.Perm G) : EnvRp K S H σ ρ G := by
  induction h generalizing G with
  | nil => rw [← List.Perm.nil_eq p]; exact .nil
  | dead _ ih => exact .dead (ih p)
  | live r e q _ => exact .live r e (p.symm.trans q)
theorem EnvRp.len (h : EnvRp K S H σ ρ F) : σ.length = ρ.length := by
  induction h with
  | nil => rfl
  | dead _ ih => exact congrArg (· + 1) ih
  | live _ _ _ ih => exact congrArg (· + 1) ih
theorem EnvRp.keep (kS : ∀ b o, S b → H b = some o → H' b = some o) (kM : ∀ b o, H b = some o → ¬ Mut (some o) → H' b = some o) (s : ∀ b, S b → S' b) (h : EnvRp K S H σ ρ F)
    (kf : ∀ b o, b ∈ F → H b = some o → H' b = some o) : EnvRp K S' H' σ ρ F := by
  induction h with
  | nil => exact .nil
  | dead _ ih => exact .dead (ih kf)
  | live r e q ih => exact .live (r.keep kS kM s fun b o hb => kf b o (q.mem_iff.mpr (List.mem_append_left _ hb))) (ih fun b o hb => kf b o (q.mem_iff.mpr (List.mem_append_right _ hb))) q
theorem EnvRp.same (e : Same H H') (h : EnvRp K S H σ ρ F) : EnvRp K S H' σ ρ F := h.keep (fun b o _ => e b o) (fun b o q _ => e b o q) (fun _ z => z) fun b o _ => e b o
theorem EnvRp.more (s : ∀ b, S b → S' b) (h : EnvRp K S H σ ρ F) : EnvRp K S' H σ ρ F := h.keep (fun _ _ _ e => e) (fun _ _ e _ => e) s fun _ _ _ e => e
/-- a slot taken out -/
theorem EnvRp.take {i : Nat} {m : Nat} {d : D} (h : EnvRp K S H σ ρ F) (l : look ρ i = some (m, d)) : ∃ v f G, σ[i]? = some (some v) ∧ Rp K S H m v d f ∧ F.Perm (f ++ G) ∧ EnvRp K S H σ (Vs.put ρ i none) G := by
  induction h generalizing i with
  | nil => cases l
  | dead e ih =>
    cases i with
    | zero => cases l
    | succ i =>
      obtain ⟨v, f, G, h1, h2, h3, h4⟩ := ih l
      exact ⟨v, f, G, by simpa using h1, h2, h3, .dead h4⟩
  | live r e q ih =>
    cases i with
    | zero =>
      obtain ⟨rfl, rfl⟩ : _ = m ∧ _ = d := by simpa using l
      exact ⟨_, _, _, rfl, r, q, .dead e⟩
    | succ i =>
      obtain ⟨v, f, G, h1, h2, h3, h4⟩ := ih l
      refine ⟨v, f, _, by simpa using h1, h2, q.trans ?_, .live r h4 (List.Perm.refl _)⟩
      refine (List.Perm.append_left _ h3).trans ?_
      rw [← List.append_assoc, ← List.append_assoc]
      exact List.Perm.append_right _ List.perm_append_comm
/-- a slot's value let go -/
theorem EnvRp.drop (i : Nat) (h : EnvRp K S H σ ρ F) : ∃ f G, F.Perm (f ++ G) ∧ EnvRp K S H σ (Vs.put ρ i none) G := by
  cases e : look ρ i with
  | none =>
    refine ⟨[], F, .refl _, ?_⟩
    have : Vs.put ρ i none = ρ := by
      clear h
      induction ρ generalizing i with
      | nil => rfl
      | cons x r ih =>
        cases i with
        | zero => have e' : x = none := e; subst e'; rfl
        | succ i => show x :: Vs.put r i none = x :: r; rw [ih i e]
    rw [this]
    exact h
  | some pv =>
    obtain ⟨m, d⟩ := pv
    obtain ⟨v, f, G, _, _, h3, h4⟩ := h.take e
    exact ⟨f, G, h3, h4⟩
theorem put_put (ρ : Env) (i : Nat) (x y : Option PV) : Vs.put (Vs.put ρ i x) i y = Vs.put ρ i y := by
  induction ρ generalizing i with
  | nil => rfl
  | cons z r ih => cases i with
    | zero => rfl
    | succ i => show z :: Vs.put (Vs.put r i x) i y = z :: Vs.put r i y; rw [ih]
/-- a slot filled, its value stored -/
theorem EnvRp.fill {i : Nat} {m : Nat} {v : V} {d : D} {f : List Addr} (h : EnvRp K S H σ (Vs.put ρ i none) F) (hi : i < σ.length) (r : Rp K S H m v d f) : EnvRp K S H (σ.set i (some v)) (Vs.put ρ i (some (m, d))) (f ++ F) := by
  generalize hp : Vs.put ρ i none = ρ' at h
  induction h generalizing i ρ with
  | nil => simp at hi
  | dead e ih =>
    cases ρ with
    | nil => cases hp
    | cons x ρ =>
      cases i with
      | zero =>
        obtain ⟨_, rfl⟩ := List.cons.inj hp
        exact .live r e (.refl _)
      | succ i =>
        obtain ⟨rfl, e2⟩ := List.cons.inj hp
        exact .dead (ih (by simpa using hi) e2)
  | live r' e q ih =>
    cases ρ with
    | nil => cases hp
    | cons x ρ =>
      cases i with
      | zero => cases hp
      | succ i =>
        obtain ⟨rfl, e2⟩ := List.cons.inj hp
        refine .live r' (ih (by simpa using hi) e2) ((List.Perm.append_left _ q).trans ?_)
        rw [← List.append_assoc, ← List.append_assoc]
        exact List.Perm.append_right _ List.perm_append_comm
/-- a slot filled whose value is there -/
theorem EnvRp.back {i : Nat} {m : Nat} {v : V} {d : D} {f : List Addr} (h : EnvRp K S H σ (Vs.put ρ i none) F) (hi : σ[i]? = some (some v)) (r : Rp K S H m v d f) : EnvRp K S H σ (Vs.put ρ i (some (m, d))) (f ++ F) := by
  have hl : i < σ.length := (List.getElem?_eq_some_iff.mp hi).1
  have := h.fill hl r
  rwa [show σ.set i (some v) = σ by
    refine List.ext_getElem? fun j => ?_
    by_cases e : i = j
    · subst e; rw [List.getElem?_set_self hl, hi]
    · rw [List.getElem?_set_ne e]] at this
end

/-! ### steps -/
/-- all but what is in F is as it was; what is new was F's or not there -/
structure Step (S : Addr → Prop) (F : List Addr) (H : Hp) (S' : Addr → Prop) (F' : List Addr) (H' : Hp) : Prop where
  keep : ∀ b o, H b = some o → b ∉ F → H' b = some o
  sub : ∀ b, S b → S' b
  newF : ∀ b, b ∈ F' → b ∈ F ∨ H b = none
  newS : ∀ b, S' b → S b ∨ b ∈ F ∨ H b = none
/-- F is whole: each once, each a thing that may change, none of them S's -/
structure Ok (S : Addr → Prop) (H : Hp) (F : List Addr) : Prop where
  nd : F.Nodup
  mu : ∀ b ∈ F, Mut (H b)
  ns : ∀ b ∈ F, ¬ S b
  tr : ∀ b, S b → H b ≠ none
section
variable {K : PySem.W.Frag} {S S' S'' : Addr → Prop} {H H' H'' : Hp} {F F' F'' G : List Addr}
theorem Step.refl : Step S F H S F H := ⟨fun _ _ e _ => e, fun _ z => z, fun _ z => .inl z, fun _ z => .inl z⟩
theorem Step.trans (a : Step S F H S' F' H') (b : Step S' F' H' S'' F'' H'') : Step S F H S'' F'' H'' := by
  have back : ∀ c, H' c = none → c ∈ F ∨ H c = none := fun c e => by
    by_cases hc : c ∈ F
    · exact .inl hc
    · cases q : H c with
      | none => exact .inr rfl
      | some o => rw [a.keep c o q hc] at e; cases e
  refine ⟨fun c o e hc => b.keep c o (a.keep c o e hc) fun z => ?_, fun c z => b.sub c (a.sub c z), fun c z => ?_, fun c z => ?_⟩
  · rcases a.newF c z with q | q
    · exact hc q
    · rw [e] at q; cases q
  · rcases b.newF c z with q | q
    · exact a.newF c q
    · exact back c q
  · rcases b.newS c z with q | q | q
    · exact a.newS c q
    · exact .inr (a.newF c q)
    · exact .inr (back c q)
theorem Step.of_same (e : Same H H') (h : ∀ b ∈ F', b ∈ F ∨ H b = none) : Step S F H S F' H' := ⟨fun b o q _ => e b o q, fun _ z => z, h, fun _ z => .inl z⟩
theorem Step.less (a : Step S F H S' F' H') (h : ∀ b ∈ F'', b ∈ F') : Step S F H S' F'' H' := ⟨a.keep, a.sub, fun b z => a.newF b (h b z), a.newS⟩
/-- with more around -/
theorem Step.wide (a : Step S F H S' F' H') (h : ∀ b ∈ F, b ∈ G) (hf : ∀ b ∈ F'', b ∈ F' ∨ b ∈ G) : Step S G H S' F'' H' :=
  ⟨fun b o e hb => a.keep b o e fun z => hb (h b z), a.sub, fun b z => (hf b z).elim (fun q => (a.newF b q).imp (h b) id) .inl, fun b z => (a.newS b z).imp id (.imp (h b) id)⟩
theorem Ok.perm (h : Ok S H F) (p : F.Perm G) : Ok S H G := ⟨p.nodup_iff.mp h.nd, fun b hb => h.mu b (p.mem_iff.mpr hb), fun b hb => h.ns b (p.mem_iff.mpr hb), h.tr⟩
theorem Ok.sub (h : Ok S H F) (s : G.Sublist F) : Ok S H G := ⟨h.nd.sublist s, fun b hb => h.mu b (s.subset hb), fun b hb => h.ns b (s.subset hb), h.tr⟩
theorem Ok.mem (h : Ok S H F) {b : Addr} (hb : b ∈ F) : H b ≠ none := fun e => by have := h.mu b hb; rw [e] at this; exact this
/-- what lies beside stays -/
theorem Rp.step (st : Step S F H S' F' H') (ok : Ok S H F) {m : Nat} {v : V} {d : D} {f : List Addr} (hf : ∀ b ∈ f, b ∉ F) (h : Rp K S H m v d f) : Rp K S' H' m v d f :=
  h.keep (fun b o hb e => st.keep b o e fun z => ok.ns b z hb) (fun b o e nm => st.keep b o e fun z => nm (e ▸ ok.mu b z)) st.sub fun b o hb e => st.keep b o e (hf b hb)
theorem EnvRp.step (st : Step S F H S' F' H') (ok : Ok S H F) {σ : List (Option V)} {ρ : Env} {f : List Addr} (hf : ∀ b ∈ f, b ∉ F) (h : EnvRp K S H σ ρ f) : EnvRp K S' H' σ ρ f :=
  h.keep (fun b o hb e => st.keep b o e fun z => ok.ns b z hb) (fun b o e nm => st.keep b o e fun z => nm (e ▸ ok.mu b z)) st.sub fun b o hb e => st.keep b o e (hf b hb)
/-- both parts again whole -/
theorem Ok.join (st : Step S F H S' F' H') (ok : Ok S H (G ++ F)) (ok' : Ok S' H' F') : Ok S' H' (G ++ F') := by
  obtain ⟨n1, n2, n3⟩ := List.nodup_append.mp ok.nd
  have kG : ∀ b ∈ G, ∃ o, H b = some o ∧ H' b = some o := fun b hb => by
    cases q : H b with
    | none => exact absurd q (ok.mem (List.mem_append_left _ hb))
    | some o => exact ⟨o, rfl, st.keep b o q fun z => n3 b hb b z rfl⟩
  refine ⟨List.nodup_append.mpr ⟨n1, ok'.nd, fun a ha b hb e => ?_⟩, fun b hb => ?_, fun b hb => ?_, ok'.tr⟩
  · subst e
    rcases st.newF a hb with z | z
    · exact n3 a ha a z rfl
    · exact ok.mem (List.mem_append_left _ ha) z
  · rcases List.mem_append.mp hb with z | z
    · obtain ⟨o, e1, e2⟩ := kG b z
      have := ok.mu b (List.mem_append_left _ z)
      rw [e2]
      rw [e1] at this
      exact this
    · exact ok'.mu b z
  · rcases List.mem_append.mp hb with z | z
    · intro hs
      rcases st.newS b hs with q | q | q
      · exact ok.ns b (List.mem_append_left _ z) q
      · exact n3 b z b q rfl
      · exact ok.mem (List.mem_append_left _ z) q
    · exact ok'.ns b z
end
end Vs
set_option maxHeartbeats 4000000
/-! Vs: the judgements. -/
namespace Vs
open PySem PySem.Spec PyProof.Rows L2
/-- what leaves: its own context is None -/
abbrev Takes (X : Cx) (W : WX) : Prop := L2N.Takes X W
theorem takes0 {X : Cx} : Takes X fun _ _ _ _ => False := fun u s' ⟨_, _, _, _, _, _, _, _, _, _, _, _, _, _, _, _, w⟩ => w.elim

/-- a value on its way, what it has of its own -/
def VOk (K : PySem.W.Frag) (S : Addr → Prop) (H : Hp) (x : VV) (v : V) (f : List Addr) : Prop :=
  if x.b = true then f = [] ∧ ∃ g, Rp K S H x.m v x.d g else Rp K S H x.m v x.d f
def BOk (S : Addr → Prop) (H : Hp) (x b : Bool) (f : List Addr) : Prop := x = b ∧ f = []
inductive VsOk (K : PySem.W.Frag) (S : Addr → Prop) (H : Hp) : List VV → List V → List Addr → Prop
  | nil : VsOk K S H [] [] []
  | cons {x : VV} {v : V} {f : List Addr} {xs : List VV} {vs : List V} {g : List Addr} : VOk K S H x v f → VsOk K S H xs vs g → VsOk K S H (x :: xs) (v :: vs) (f ++ g)
/-- an exception: its class stands at ct of its name; its fields -/
def ExOk (K : PySem.W.Frag) (ct : Str → Addr) (S : Addr → Prop) (H : Hp) (e : Ex) (C : Value) (d : Option Addr) : Prop :=
  C = .ref (ct e.cls) ∧ ((e.fs = [] ∧ d = none) ∨ ∃ dx ws, e.fs ≠ [] ∧ d = some dx ∧ S dx ∧ H dx = some (.xd ((e.fs.map (·.1)).zip ws)) ∧ RpAll K S H 0 ws (e.fs.map (·.2)) [])

section
variable {K : PySem.W.Frag} {S S' : Addr → Prop} {H H' : Hp}
theorem VOk.own {m : Nat} {d : D} {v : V} {f : List Addr} : VOk K S H ⟨false, m, d⟩ v f = Rp K S H m v d f := by
  unfold VOk
  exact if_neg Bool.false_ne_true
theorem VOk.bor {m : Nat} {d : D} {v : V} {f : List Addr} : VOk K S H ⟨true, m, d⟩ v f = (f = [] ∧ ∃ g, Rp K S H m v d g) := by
  unfold VOk
  exact if_pos rfl
theorem VOk.rp {x : VV} {v : V} {f : List Addr} (h : VOk K S H x v f) : ∃ g, Rp K S H x.m v x.d g := by
  unfold VOk at h
  split at h
  · exact h.2
  · exact ⟨_, h⟩
theorem VOk.same (e : Same H H') {x : VV} {v : V} {f : List Addr} (h : VOk K S H x v f) : VOk K S H' x v f := by
  unfold VOk at h ⊢
  split at h
  · rename_i hb
    rw [if_pos hb]
    obtain ⟨h1, g, h2⟩ := h
    exact ⟨h1, g, h2.same e⟩
  · rename_i hb
    rw [if_neg hb]
    exact h.same e
theorem VOk.more (s : ∀ b, S b → S' b) {x : VV} {v : V} {f : List Addr} (h : VOk K S H x v f) : VOk K S' H x v f := by
  unfold VOk at h ⊢
  split at h
  · rename_i hb
    rw [if_pos hb]
    obtain ⟨h1, g, h2⟩ := h
    exact ⟨h1, g, h2.more s⟩
  · rename_i hb
    rw [if_neg hb]
    exact h.more s
theorem VOk.stab {x : VV} {v : V} {f : List Addr} (s : x.stable = true) (h : VOk K S H x v f) : Rp K S H x.m v x.d f := by
  unfold VOk at h
  split at h
  · rename_i hb
    obtain ⟨h1, g, h2⟩ := h
    have hi : x.d.imm = true := by simpa [VV.stable, hb] using s
    subst h1
    exact (h2.imm hi).2 _ _ _
  · exact h
theorem VOk.of_rp {x : VV} {v : V} {f : List Addr} (s : x.stable = true) (h : Rp K S H x.m v x.d f) : VOk K S H x v f := by
  unfold VOk
  split
  · rename_i hb
    have hi : x.d.imm = true := by simpa [VV.stable, hb] using s
    exact ⟨(h.imm hi).1, _, h⟩
  · exact h
theorem VOk.step {F F' : List Addr} (st : Step S F H S' F' H') (ok : Ok S H F) {x : VV} {v : V} {f : List Addr} (hf : ∀ b ∈ f, b ∉ F) (s : x.stable = true) (h : VOk K S H x v f) : VOk K S' H' x v f :=
  .of_rp s ((h.stab s).step st ok hf)
theorem VsOk.same (e : Same H H') {x : List VV} {v : List V} {f : List Addr} (h : VsOk K S H x v f) : VsOk K S H' x v f := by
  induction h with
  | nil => exact .nil
  | cons h _ ih => exact .cons (h.same e) ih
theorem Ok.same (e : Same H H') {F : List Addr} (h : Ok S H F) : Ok S H' F :=
  ⟨h.nd, fun b hb => by
    have := h.mu b hb
    cases q : H b with
    | none => rw [q] at this; exact this.elim
    | some o => rw [e b o q]; rw [q] at this; exact this, h.ns, fun b hb q => by
    cases z : H b with
    | none => exact h.tr b hb z
    | some o => rw [e b o z] at q; cases q⟩
theorem Ok.tail {f F : List Addr} (h : Ok S H (f ++ F)) : Ok S H F := h.sub (List.sublist_append_right _ _)
theorem Ok.head {f F : List Addr} (h : Ok S H (f ++ F)) : Ok S H f := h.sub (List.sublist_append_left _ _)
theorem Ok.apart {f F : List Addr} (h : Ok S H (f ++ F)) : ∀ b ∈ f, b ∉ F := fun b hb z => (List.nodup_append.mp h.nd).2.2 b hb b z rfl
theorem Ok.two {f F : List Addr} (h : Ok S H f) (g : Ok S H F) (d : ∀ b ∈ f, b ∉ F) : Ok S H (f ++ F) :=
  ⟨List.nodup_append.mpr ⟨h.nd, g.nd, fun a ha b hb e => d a ha (e ▸ hb)⟩, fun b hb => (List.mem_append.mp hb).elim (h.mu b) (g.mu b), fun b hb => (List.mem_append.mp hb).elim (h.ns b) (g.ns b), g.tr⟩
end

/-- how far an expression has gone -/
def Fit (o : Option Env) (S : Addr → Prop) (F : List Addr) (H : Hp) (S' : Addr → Prop) (F' f : List Addr) (H' : Hp) : Prop :=
  match o with
  | none => Same H H' ∧ (∀ b, S b → S' b) ∧ (∀ b, S' b → S b ∨ H b = none) ∧ F' = F ∧ ∀ b ∈ f, H b = none
  | some _ => Step S F H S' (f ++ F') H'
/-- what is wanted where an expression comes to r -/
def Good {α β : Type} (K : PySem.W.Frag) (ct : Str → Addr) (Rel : (Addr → Prop) → Hp → α → β → List Addr → Prop) (W : WX) (S : Addr → Prop) (F : List Addr) (H : Hp) (σ : L2.St) (ρ : Env) (r : R α) (Q : β → Hp → Prop) : Prop :=
  match r with
  | .ok a o => ∀ y S' F' H' f, Fit o S F H S' F' f H' → Rel S' H' a y f → EnvRp K S' H' σ (now o ρ) F' → Ok S' H' (f ++ F') → Q y H'
  | .ex e ρ' => ∀ C d S' F' H', Step S F H S' F' H' → EnvRp K S' H' σ ρ' F' → Ok S' H' F' → ExOk K ct S' H' e C d → W C d σ H'
  | .no => False
section
variable {S S1 S2 : Addr → Prop} {F F1 F2 f g h : List Addr} {H H1 H2 : Hp} {o o' : Option Env}
theorem Fit.step (a : Fit o S F H S1 F1 f H1) : Step S F H S1 (f ++ F1) H1 := by
  cases o with
  | none =>
    obtain ⟨e, u1, u2, rfl, n⟩ := a
    exact ⟨fun b o q _ => e b o q, u1, fun b hb => (List.mem_append.mp hb).elim (fun z => .inr (n b z)) .inl, fun b hb => (u2 b hb).imp id .inr⟩
  | some _ => exact a
theorem Fit.nil : Fit none S F H S F [] H := ⟨Same.refl _, fun _ z => z, fun _ z => .inl z, rfl, by simp⟩
/-- one behind the other; f waits, h is left -/
theorem Fit.thn (a : Fit o S F H S1 F1 f H1) (ok : Ok S1 H1 (f ++ F1)) (b : Fit o' S1 F1 H1 S2 F2 g H2) (hh : ∀ b ∈ h, b ∈ f ∨ b ∈ g ∨ H2 b = none) (e : Same H2 H') : Fit (Vs.thn o o') S F H S2 F2 h H' := by
  cases o' with
  | none =>
    obtain ⟨e2, w1, w2, rfl, n2⟩ := b
    cases o with
    | none =>
      obtain ⟨e1, u1, u2, rfl, n1⟩ := a
      refine ⟨(e1.trans e2).trans e, fun b hb => w1 b (u1 b hb), fun b hb => (w2 b hb).elim (u2 b) fun z => .inr (e1.free z), rfl, fun b hb => ?_⟩
      rcases hh b hb with z | z | z
      · exact n1 b z
      · exact e1.free (n2 b z)
      · exact e1.free (e2.free z)
    | some ρ =>
      refine Step.trans a ⟨fun b o q _ => (e2.trans e) b o q, w1, fun b hb => ?_, fun b hb => (w2 b hb).imp id .inr⟩
      rcases List.mem_append.mp hb with z | z
      · rcases hh b z with z | z | z
        · exact .inl (List.mem_append_left _ z)
        · exact .inr (n2 b z)
        · exact .inr (e2.free z)
      · exact .inl (List.mem_append_right _ z)
  | some ρ =>
    refine a.step.trans (Step.trans (F' := g ++ (f ++ F2)) (H' := H2) (S' := S2) (b.wide (fun b hb => List.mem_append_right _ hb) fun b hb => ?_) (Step.of_same e fun b hb => ?_))
    · simp only [List.mem_append] at hb ⊢
      rcases hb with z | z | z
      · exact .inl (.inl z)
      · exact .inr (.inl z)
      · exact .inl (.inr z)
    · rcases List.mem_append.mp hb with z | z
      · rcases hh b z with z | z | z
        · exact .inl (List.mem_append_right _ (List.mem_append_left _ z))
        · exact .inl (List.mem_append_left _ z)
        · exact .inr z
      · exact .inl (List.mem_append_right _ (List.mem_append_right _ z))
/-- what waits and what has come -/
theorem Fit.both (ok : Ok S1 H1 (f ++ F1)) (b : Fit o' S1 F1 H1 S2 F2 g H2) (ok2 : Ok S2 H2 (g ++ F2)) : Ok S2 H2 ((f ++ g) ++ F2) := by
  rw [List.append_assoc]
  exact Ok.join b.step ok ok2
theorem Ok.cut {S : Addr → Prop} {F g h : List Addr} {H H' : Hp} (ok : Ok S H (g ++ F)) (oh : Ok S H' h) (e : Same H H') (hh : ∀ b ∈ h, b ∈ g ∨ H b = none) : Ok S H' (h ++ F) :=
  oh.two (ok.tail.same e) fun b hb z => (hh b hb).elim (fun q => ok.apart b q z) fun q => ok.mem (List.mem_append_right _ z) q
end

/-- an expression comes to what g says -/
structure SE (ct : Str → Addr) (X : Cx) (e : Expr) (g : M) : Prop where
  run : ∀ W, Takes X W → ∃ t, PE X e t ∧ ∀ S F H σ ρ Q, EnvRp X.K S H σ ρ F → Ok S H F → Good X.K ct (VOk X.K) W S F H σ ρ (g ρ) Q → t σ H Q
structure ST (ct : Str → Addr) (X : Cx) (e : Expr) (g : MT) : Prop where
  run : ∀ W, Takes X W → ∃ t, PT X e t ∧ ∀ S F H σ ρ Q, EnvRp X.K S H σ ρ F → Ok S H F → Good X.K ct BOk W S F H σ ρ (g ρ) Q → t σ H Q
structure SW (ct : Str → Addr) (X : Cx) (e : Expr) (g : MT) : Prop where
  run : ∀ W, Takes X W → ∃ t, PW X e t ∧ ∀ S F H σ ρ Q, EnvRp X.K S H σ ρ F → Ok S H F → Good X.K ct BOk W S F H σ ρ (g ρ) Q → t σ H Q
structure SA (ct : Str → Addr) (X : Cx) (es : List Expr) (g : MA) : Prop where
  run : ∀ W, Takes X W → ∃ t, PA X es t ∧ ∀ S F H σ ρ Q, EnvRp X.K S H σ ρ F → Ok S H F → Good X.K ct (VsOk X.K) W S F H σ ρ (g ρ) Q → t σ H Q

/-- nothing that stood was changed: more stays as it is from here on, h is new or was f's -/
structure Grow (S : Addr → Prop) (H : Hp) (f : List Addr) (S' : Addr → Prop) (h : List Addr) (H' : Hp) : Prop where
  same : Same H H'
  sub : ∀ b, S b → S' b
  newS : ∀ b, S' b → S b ∨ b ∈ f ∨ H b = none
  newF : ∀ b ∈ h, b ∈ f ∨ H b = none
theorem Grow.refl {S : Addr → Prop} {H : Hp} {f : List Addr} : Grow S H f S [] H := ⟨Same.refl _, fun _ z => z, fun _ => .inl, by simp⟩
theorem Fit.grow {o : Option Env} {S S2 S' : Addr → Prop} {F F2 g h : List Addr} {H H2 H' : Hp} (t : Fit o S F H S2 F2 g H2) (k : Ok S2 H2 (g ++ F2)) (gr : Grow S2 H2 g S' h H') : Fit o S F H S' F2 h H' := by
  cases o with
  | none =>
    obtain ⟨e, u1, u2, rfl, n⟩ := t
    refine ⟨e.trans gr.same, fun b hb => gr.sub b (u1 b hb), fun b hb => ?_, rfl, fun b hb => ?_⟩
    · rcases gr.newS b hb with z | z | z
      · exact u2 b z
      · exact .inr (n b z)
      · exact .inr (e.free z)
    · rcases gr.newF b hb with z | z
      · exact n b z
      · exact e.free z
  | some _ =>
    have t : Step S F H S2 (g ++ F2) H2 := t
    have bk : ∀ c, H2 c = none → c ∈ F ∨ H c = none := fun c e => by
      by_cases hc : c ∈ F
      · exact .inl hc
      · cases q : H c with
        | none => exact .inr rfl
        | some o => rw [t.keep c o q hc] at e; cases e
    refine ⟨fun b o e hb => gr.same b o (t.keep b o e hb), fun b hb => gr.sub b (t.sub b hb), fun b hb => ?_, fun b hb => ?_⟩
    · rcases List.mem_append.mp hb with z | z
      · rcases gr.newF b z with q | q
        · exact t.newF b (List.mem_append_left _ q)
        · exact bk b q
      · exact t.newF b (List.mem_append_right _ z)
    · rcases gr.newS b hb with z | z | z
      · exact t.newS b z
      · exact .inr (t.newF b (List.mem_append_left _ z))
      · exact .inr (bk b z)
theorem Grow.ok {S2 S' : Addr → Prop} {F2 g h : List Addr} {H2 H' : Hp} (k : Ok S2 H2 (g ++ F2)) (gr : Grow S2 H2 g S' h H') (oh : Ok S' H' h) : Ok S' H' (h ++ F2) := by
  have kt : Ok S2 H' F2 := k.tail.same gr.same
  refine oh.two ⟨kt.nd, kt.mu, fun b hb z => ?_, oh.tr⟩ fun b hb z => ?_
  · rcases gr.newS b z with q | q | q
    · exact k.tail.ns b hb q
    · exact k.apart b q hb
    · exact k.tail.mem hb q
  · rcases gr.newF b hb with q | q
    · exact k.apart b q z
    · exact k.tail.mem z q
/-- a rule of two values does what k says -/
def Op2 (K : PySem.W.Frag) (r : R2) (k : VV → VV → Option VV) : Prop :=
  ∀ S H x v f y u g z Q, VOk K S H x v f → VOk K S H y u g → Ok S H (f ++ g) → k x y = some z →
    (∀ w H' S' h, Grow S H (f ++ g) S' h H' → VOk K S' H' z w h → Ok S' H' h → Q w H') → r v u H Q
def Op1 (K : PySem.W.Frag) (r : V → Hp → VK → Prop) (k : VV → Option VV) : Prop :=
  ∀ S H x v f z Q, VOk K S H x v f → Ok S H f → k x = some z →
    (∀ w H' S' h, Grow S H f S' h H' → VOk K S' H' z w h → Ok S' H' h → Q w H') → r v H Q
def OpN (K : PySem.W.Frag) (r : List V → Hp → VK → Prop) (k : List VV → Option VV) : Prop :=
  ∀ S H xs vs f z Q, VsOk K S H xs vs f → Ok S H f → k xs = some z →
    (∀ w H' S' h, Grow S H f S' h H' → VOk K S' H' z w h → Ok S' H' h → Q w H') → r vs H Q
section
variable {ct : Str → Addr} {X : Cx} {a b e : Expr} {ga gb : M} {r : R2} {k : VV → VV → Option VV}
/-- the end of a rule -/
theorem fin_rule {S S2 : Addr → Prop} {F F2 g : List Addr} {H H2 : Hp} {W : WX} {σ : L2.St} {ρ : Env} {o2 : Option Env} {Q : VK} {o : Option VV} {t : VK → Prop}
    (st : Fit o2 S F H S2 F2 g H2) (E : EnvRp X.K S2 H2 σ (now o2 ρ) F2) (k : Ok S2 H2 (g ++ F2))
    (ho : ∀ z, o = some z → ∀ Q, (∀ w H' S' h, Grow S2 H2 g S' h H' → VOk X.K S' H' z w h → Ok S' H' h → Q w H') → t Q)
    (gd : Good X.K ct (VOk X.K) W S F H σ ρ ((R.ofO o).aft o2) Q) : t Q := by
  cases q : o with
  | none => rw [q] at gd; exact gd.elim
  | some z =>
    rw [q] at gd
    exact ho z q Q fun w H' S' h gr hw oh => gd w S' F2 H' h (st.grow k gr) hw ((E.same gr.same).more gr.sub) (gr.ok k oh)
theorem run_twoG {Pe : TE → Prop} (ha : SE ct X a ga) (hb : SE ct X b gb) (mk : ∀ {ta tb}, PE X a ta → PE X b tb → Pe (tOp r ta tb)) (ho : Op2 X.K r k) :
    ∀ W, Takes X W → ∃ t, Pe t ∧ ∀ S F H σ ρ Q, EnvRp X.K S H σ ρ F → Ok S H F → Good X.K ct (VOk X.K) W S F H σ ρ (two ga gb k ρ) Q → t σ H Q := by
  intro W tk
  obtain ⟨ta, pa, ra⟩ := ha.run W tk
  obtain ⟨tb, pb, rb⟩ := hb.run W tk
  refine ⟨_, mk pa pb, fun S F H σ ρ Q E ok G => ?_⟩
  show ta σ H fun v H1 => tb σ H1 fun u H2 => r v u H2 Q
  refine ra S F H σ ρ _ E ok ?_
  unfold two at G
  cases qa : ga ρ with
  | no => rw [qa] at G; exact G
  | ex x ρ1 => rw [qa] at G; exact G
  | ok x o1 =>
    rw [qa, R.bind_ok] at G
    intro v S1 F1 H1 f t1 h1 E1 k1
    refine rb S1 F1 H1 σ _ _ E1 k1.tail ?_
    cases qb : gb (now o1 ρ) with
    | no => rw [qb] at G; exact G
    | ex x ρ1 =>
      rw [qb] at G
      intro C d S2 F2 H2 st E2 k2 hx
      exact G C d S2 F2 H2 ((t1.step.less fun b hb => List.mem_append_right _ hb).trans st) E2 k2 hx
    | ok y o2 =>
      rw [qb, R.nxt_ok] at G
      intro u S2 F2 H2 g t2 h2 E2 k2
      split at G
      · rename_i hs
        have k3 : Ok S2 H2 ((f ++ g) ++ F2) := Fit.both k1 t2 k2
        have h1' : VOk X.K S2 H2 x v f := by
          cases o2 with
          | none =>
            obtain ⟨e, w1, _, rfl, _⟩ := t2
            exact (h1.same e).more w1
          | some _ => exact h1.step (t2.step.less fun b hb => hb) k1.tail k1.apart (by simpa using hs)
        have ea : ((R.ofO (k x y)).aft o2).aft o1 = (R.ofO (k x y)).aft (Vs.thn o1 o2) := by
          cases k x y with
          | none => rfl
          | some z => cases o2 <;> rfl
        rw [ea] at G
        refine fin_rule (g := f ++ g) (F2 := F2) (S2 := S2) (t := fun Q => r v u H2 Q) (t1.thn k1 t2 (fun b hb => by rw [List.mem_append] at hb; exact hb.imp id .inl) (Same.refl _)) ?_ k3 (fun z hz Q hq => ?_) G
        · have : now (Vs.thn o1 o2) ρ = now o2 (now o1 ρ) := by cases o2 <;> rfl
          rw [this]
          exact E2
        · exact ho S2 H2 x v f y u g z Q h1' h2 k3.head hz hq
      · exact G.elim
theorem run_two (ha : SE ct X a ga) (hb : SE ct X b gb) (mk : ∀ {ta tb}, PE X a ta → PE X b tb → PE X e (tOp r ta tb)) (ho : Op2 X.K r k) : SE ct X e (two ga gb k) := ⟨run_twoG ha hb mk ho⟩
end
section
variable {α β α2 β2 : Type} {K : PySem.W.Frag} {ct : Str → Addr} {Rel : (Addr → Prop) → Hp → α → β → List Addr → Prop} {Rel2 : (Addr → Prop) → Hp → α2 → β2 → List Addr → Prop} {W : WX} {S S1 : Addr → Prop} {F F1 f : List Addr} {H H1 : Hp} {σ : L2.St} {ρ : Env} {r : R α} {Q : β2 → Hp → Prop} {P : β → Hp → Prop} {o : Option Env}
theorem good_bind {k : α → Env → R α2} (G : Good K ct Rel2 W S F H σ ρ (r.bind ρ k) Q)
    (cont : ∀ a o y S1 F1 H1 f, r = .ok a o → Fit o S F H S1 F1 f H1 → Rel S1 H1 a y f → EnvRp K S1 H1 σ (now o ρ) F1 → Ok S1 H1 (f ++ F1) → Good K ct Rel2 W S F H σ ρ ((k a (now o ρ)).aft o) Q → P y H1) : Good K ct Rel W S F H σ ρ r P := by
  cases r with
  | no => exact G
  | ex x ρ1 => exact G
  | ok a o => exact fun y S1 F1 H1 f t h E ok => cont a o y S1 F1 H1 f rfl t h E ok G
theorem good_after {r : R α2} (t : Fit o S F H S1 F1 f H1) (k : Ok S1 H1 (f ++ F1)) (G : Good K ct Rel2 W S F H σ ρ (r.aft o) Q) : Good K ct Rel2 W S1 F1 H1 σ (now o ρ) r Q := by
  cases r with
  | no => exact G
  | ex x ρ1 => exact fun C d S2 F2 H2 st E2 k2 hx => G C d S2 F2 H2 ((t.step.less fun b hb => List.mem_append_right _ hb).trans st) E2 k2 hx
  | ok a o' =>
    intro y S2 F2 H2 g t2 h E2 k2
    refine G y S2 F2 H2 g (t.thn k t2 (fun b hb => .inr (.inl hb)) (Same.refl _)) h ?_ k2
    have : now (Vs.thn o o') ρ = now o' (now o ρ) := by cases o' <;> rfl
    rw [this]
    exact E2
end
theorem aft_aft {α : Type} (r : R α) (o o' : Option Env) : (r.aft o').aft o = r.aft (Vs.thn o o') := by
  cases r with
  | no => rfl
  | ex _ _ => rfl
  | ok a o2 => cases o2 <;> rfl
theorem now_thn (o o' : Option Env) (ρ : Env) : now (Vs.thn o o') ρ = now o' (now o ρ) := by cases o' <;> rfl

section
variable {ct : Str → Addr} {X : Cx} {a b e : Expr} {es : List Expr} {ga gb : M} {gs : MA}
theorem run_one {r : V → Hp → VK → Prop} {k : VV → Option VV} (ha : SE ct X a ga) (mk : ∀ {ta}, PE X a ta → PE X e (fun σ H Q => ta σ H fun x H1 => r x H1 Q)) (ho : Op1 X.K r k) : SE ct X e (one ga k) := by
  refine ⟨fun W tk => ?_⟩
  obtain ⟨ta, pa, ra⟩ := ha.run W tk
  refine ⟨_, mk pa, fun S F H σ ρ Q E ok G => ra S F H σ ρ _ E ok ?_⟩
  refine good_bind G fun x o v S1 F1 H1 f _ t1 h1 E1 k1 G => ?_
  exact fin_rule (g := f) (t := fun Q => r v H1 Q) t1 E1 k1 (fun z hz Q hq => ho S1 H1 x v f z Q h1 k1.head hz hq) G
theorem sa_nil : SA ct X [] (args []) := ⟨fun W tk => ⟨_, pa_nil, fun S F H σ ρ Q E ok G => G [] S F H [] Fit.nil .nil E ok⟩⟩
theorem sa_cons (ha : SE ct X a ga) {as : List M} (hb : SA ct X es (args as)) (hs : starEach (a :: es) X.env = (false, eval a X.env) :: starEach es X.env := by rfl) : SA ct X (a :: es) (args (ga :: as)) := by
  refine ⟨fun W tk => ?_⟩
  obtain ⟨ta, pa, ra⟩ := ha.run W tk
  obtain ⟨tb, pb, rb⟩ := hb.run W tk
  refine ⟨_, pa_cons pa pb hs, fun S F H σ ρ Q E ok G => ra S F H σ ρ _ E ok ?_⟩
  unfold args at G
  refine good_bind G fun x o1 v S1 F1 H1 f _ t1 h1 E1 k1 G => ?_
  refine rb S1 F1 H1 σ _ _ E1 k1.tail ?_
  cases qb : args as (now o1 ρ) with
  | no => rw [qb] at G; exact G
  | ex x ρ1 =>
    rw [qb] at G
    intro C d S2 F2 H2 st E2 k2 hx
    exact G C d S2 F2 H2 ((t1.step.less fun b hb => List.mem_append_right _ hb).trans st) E2 k2 hx
  | ok y o2 =>
    rw [qb, R.nxt_ok] at G
    intro u S2 F2 H2 g t2 h2 E2 k2
    split at G
    · rename_i hs
      have k3 : Ok S2 H2 ((f ++ g) ++ F2) := Fit.both k1 t2 k2
      have h1' : VOk X.K S2 H2 x v f := by
        cases o2 with
        | none =>
          obtain ⟨e, w1, _, rfl, _⟩ := t2
          exact (h1.same e).more w1
        | some _ => exact h1.step (t2.step.less fun b hb => hb) k1.tail k1.apart (by simpa using hs)
      rw [aft_aft] at G
      refine G (v :: u) S2 F2 H2 (f ++ g) ?_ (.cons h1' h2) ?_ k3
      · exact t1.thn k1 t2 (fun b hb => by rw [List.mem_append] at hb; exact hb.imp id .inl) (Same.refl _)
      · rw [thn_none, now_thn]
        exact E2
    · exact G.elim
theorem run_args {r : List V → Hp → VK → Prop} {k : List VV → Option VV} (ha : SA ct X es gs) (mk : ∀ {t}, PA X es t → PE X e (fun σ H Q => t σ H fun vs H1 => r vs H1 Q)) (ho : OpN X.K r k) : SE ct X e (argsk gs k) := by
  refine ⟨fun W tk => ?_⟩
  obtain ⟨ta, pa, ra⟩ := ha.run W tk
  refine ⟨_, mk pa, fun S F H σ ρ Q E ok G => ra S F H σ ρ _ E ok ?_⟩
  refine good_bind G fun x o v S1 F1 H1 f _ t1 h1 E1 k1 G => ?_
  exact fin_rule (g := f) (t := fun Q => r v H1 Q) t1 E1 k1 (fun z hz Q hq => ho S1 H1 x v f z Q h1 k1.head hz hq) G

/-! ### constants, names -/
theorem run_imm {z : VV} (i : z.d.imm = true) {v : V} (hv : ∀ S H, Rp X.K S H z.m v z.d []) (mk : PE X e (tC v)) : SE ct X e (cst z) :=
  ⟨fun W tk => ⟨_, mk, fun S F H σ ρ Q E ok G => G v S F H [] Fit.nil (.of_rp (by simp [VV.stable, i]) (hv S H)) E ok⟩⟩
theorem s_int {i : Int} {j : Nat} {pos : Pos} : SE ct X (.Constant (.int i) j pos) (cst (vi i)) := run_imm rfl (fun _ _ => .int _ _) pe_int
theorem s_bl {i : Bool} {j : Nat} {pos : Pos} : SE ct X (.Constant (.bool i) j pos) (cst (vb i)) := run_imm rfl (fun _ _ => .bl _ _) pe_bl
theorem s_non {j : Nat} {pos : Pos} : SE ct X (.Constant .none j pos) (cst vn) := run_imm rfl (fun _ _ => .non _) pe_non
theorem s_str {x : Str} {j : Nat} {pos : Pos} : SE ct X (.Constant (.str x) j pos) (cst (vs x)) := run_imm rfl (fun _ _ => .str _ _) pe_str
theorem s_glob {z : VV} {x : Str} {pos : Pos} {u : Value} {w : V} (i : z.d.imm = true) (hv : ∀ S H, Rp X.K S H z.m w z.d []) (hg : Gl X x) (hm : X.mg x = some u) (r : RelV w u) (hdb : (x == ("__debug__" : Str)) = false := by decide) : SE ct X (.Name x pos) (cst z) := run_imm i hv (pe_glob hg hm r (hd := hdb))
theorem s_v (i : Nat) {x : Str} {pos : Pos} (hN : X.N[i]? = some x := by rfl) (hv : Vis X.env.scope x := by first | exact Or.inl rfl | exact Or.inr (Or.inl rfl) | exact Or.inr (Or.inr rfl)) (hd : (x == ("__debug__" : Str)) = false := by decide)
    (hcd : (x == ("__classdict__" : Str)) = false := by decide) : SE ct X (.Name x pos) (v i) := by
  refine ⟨fun W tk => ⟨_, pv i hN hv hd hcd, fun S F H σ ρ Q E ok G => ?_⟩⟩
  unfold v at G
  cases q : look ρ i with
  | none => rw [q] at G; exact G.elim
  | some pv =>
    obtain ⟨m, d⟩ := pv
    rw [q] at G
    obtain ⟨v, f, G', h1, h2, _⟩ := E.take q
    refine ⟨v, h1, G v S F H [] Fit.nil ?_ E ok⟩
    cases m with
    | zero =>
      obtain rfl := h2.own0
      show VOk X.K S H ⟨false, 0, d⟩ v []
      rw [VOk.own]
      exact h2
    | succ m =>
      show VOk X.K S H ⟨true, m + 1, d⟩ v []
      rw [VOk.bor]
      exact ⟨rfl, f, h2⟩
/-- slots known less deep -/
theorem thin_env {K : PySem.W.Frag} {S : Addr → Prop} {H : Hp} {σ : L2.St} (k : Nat) : ∀ (is : List Nat) {ρ : Env} {F : List Addr}, EnvRp K S H σ ρ F → Ok S H F →
    ∃ S' F', Step S F H S' F' H ∧ EnvRp K S' H σ (thin k is ρ) F' ∧ Ok S' H F' := by
  intro is
  induction is generalizing S with
  | nil => exact fun E ok => ⟨S, _, Step.refl, E, ok⟩
  | cons i is ih =>
    intro ρ F E ok
    unfold thin
    cases q : look ρ i with
    | none => exact ih E ok
    | some pv =>
      obtain ⟨m, d⟩ := pv
      obtain ⟨v, f, G', h1, h2, p, E'⟩ := E.take q
      obtain ⟨f0, f1, p2, h3⟩ := h2.thin k
      have okp : Ok S H (f ++ G') := ok.perm p
      have p3 : (f ++ G').Perm (f1 ++ (f0 ++ G')) := by
        refine (List.Perm.append_right _ (p2.trans List.perm_append_comm)).trans ?_
        rw [List.append_assoc]
      have okq : Ok S H (f1 ++ (f0 ++ G')) := okp.perm p3
      let S1 : Addr → Prop := fun x => S x ∨ x ∈ f1
      have E1 : EnvRp K S1 H σ (Vs.put ρ i (some (min m k, d))) (f0 ++ G') := EnvRp.back (E'.more fun _ => Or.inl) h1 h3
      have ok1 : Ok S1 H (f0 ++ G') := ⟨okq.tail.nd, okq.tail.mu, fun b hb z => z.elim (okq.tail.ns b hb) fun z => okq.apart b z hb, fun b hb => hb.elim (okq.tr b) fun z => okq.mem (List.mem_append_left _ z)⟩
      have st1 : Step S F H S1 (f0 ++ G') H := ⟨fun _ _ e _ => e, fun _ => Or.inl, fun b hb => .inl ((p.trans p3).mem_iff.mpr (List.mem_append_right _ hb)), fun b hb => hb.imp id fun z => .inl ((p.trans p3).mem_iff.mpr (List.mem_append_left _ z))⟩
      obtain ⟨S', F', st2, E2, ok2⟩ := ih E1 ok1
      exact ⟨S', F', st1.trans st2, E2, ok2⟩
theorem s_fz {k : Nat} {is : List Nat} (ha : SE ct X a ga) : SE ct X a (fz k is ga) := by
  refine ⟨fun W tk => ?_⟩
  obtain ⟨ta, pa, ra⟩ := ha.run W tk
  refine ⟨ta, pa, fun S F H σ ρ Q E ok G => ?_⟩
  unfold fz at G
  by_cases hk : isThin k is ρ = true
  · rw [if_pos hk] at G
    exact ra S F H σ ρ Q E ok G
  · rw [if_neg hk] at G
    obtain ⟨S', F', st, E', ok'⟩ := thin_env k is E ok
    exact ra S' F' H σ _ Q E' ok' (good_after (o := some (thin k is ρ)) (f := []) st ok' G)

/-! ### tests -/
theorem run_tst {tru : D → Option Bool} (ha : SE ct X a ga) {r : V → Hp → (Bool → Hp → Prop) → Prop} (mk : ∀ {ta}, PE X a ta → PT X a (fun σ H Q => ta σ H fun x H1 => r x H1 Q))
    (ho : ∀ S H x v f b Q, VOk X.K S H x v f → tru x.d = some b → Q b H → r v H Q) : ST ct X a (tst ga tru) := by
  refine ⟨fun W tk => ?_⟩
  obtain ⟨ta, pa, ra⟩ := ha.run W tk
  refine ⟨_, mk pa, fun S F H σ ρ Q E ok G => ra S F H σ ρ _ E ok ?_⟩
  refine good_bind G fun x o v S1 F1 H1 f _ t1 h1 E1 k1 G => ?_
  cases q : tru x.d with
  | none => rw [q] at G; exact G.elim
  | some b =>
    rw [q] at G
    exact ho S1 H1 x v f b Q h1 q (G b S1 F1 H1 [] (t1.thn (f := f) (g := []) (o' := none) k1 Fit.nil (fun b hb => absurd hb (by simp)) (Same.refl _)) ⟨rfl, rfl⟩ E1 k1.tail)
theorem t_val (ha : SE ct X a ga) (he : ∀ whole, isTrue a X.env whole = (do let v ← whole; standAt a.pos; holding [v] (truthy v)) := by intro _; rfl) : ST ct X a (tst ga blOf) := by
  refine run_tst (r := fun x H Q => ∃ c, x = .bl c ∧ Q c H) ha (fun pa => pt_val pa he) fun S H x v f b Q h hb q => ?_
  obtain ⟨g, h⟩ := h.rp
  have : x.d = .bl b := by
    cases e : x.d <;> rw [e] at hb <;> simp [blOf] at hb
    rw [hb]
  rw [this] at h
  exact ⟨b, h.vbl, q⟩
variable {ta' tb' : MT} {rest : List Expr} {pos : Pos}
theorem t_not (ha : ST ct X a ta') : ST ct X (.UnaryOp .Not a pos) (tnot ta') := by
  refine ⟨fun W tk => ?_⟩
  obtain ⟨ta, pa, ra⟩ := ha.run W tk
  refine ⟨_, pt_not pa, fun S F H σ ρ Q E ok G => ra S F H σ ρ _ E ok ?_⟩
  refine good_bind G fun x o v S1 F1 H1 f _ t1 h1 E1 k1 G => ?_
  obtain ⟨rfl, rfl⟩ := h1
  exact G _ S1 F1 H1 [] (by rw [thn_none]; exact t1) ⟨rfl, rfl⟩ E1 k1
theorem w_and1 (ha : ST ct X a ta') : SW ct X (.BoolOp .And [a] pos) ta' := ⟨fun W tk => let ⟨_, p, r⟩ := ha.run W tk; ⟨_, pw_and1 p, r⟩⟩
theorem w_or1 (ha : ST ct X a ta') : SW ct X (.BoolOp .Or [a] pos) ta' := ⟨fun W tk => let ⟨_, p, r⟩ := ha.run W tk; ⟨_, pw_or1 p, r⟩⟩
theorem w_pt (ha : SW ct X a ta') : ST ct X a ta' := ⟨fun W tk => let ⟨_, p, r⟩ := ha.run W tk; ⟨_, p.pt, r⟩⟩
theorem w_and (ha : ST ct X a ta') (hb : SW ct X (.BoolOp .And (b :: rest) pos) tb') : SW ct X (.BoolOp .And (a :: b :: rest) pos) (tand ta' tb') := by
  refine ⟨fun W tk => ?_⟩
  obtain ⟨ta, pa, ra⟩ := ha.run W tk
  obtain ⟨tb, pb, rb⟩ := hb.run W tk
  refine ⟨_, pw_and pa pb, fun S F H σ ρ Q E ok G => ra S F H σ ρ _ E ok ?_⟩
  refine good_bind G fun x o v S1 F1 H1 f _ t1 h1 E1 k1 G => ?_
  obtain ⟨rfl, rfl⟩ := h1
  cases x with
  | false =>
    rw [if_neg Bool.false_ne_true] at G ⊢
    exact G _ S1 F1 H1 [] (by rw [thn_none]; exact t1) ⟨rfl, rfl⟩ E1 k1
  | true =>
    rw [if_pos rfl] at G ⊢
    exact rb S1 F1 H1 σ _ Q E1 k1 (good_after t1 k1 G)
theorem w_or (ha : ST ct X a ta') (hb : SW ct X (.BoolOp .Or (b :: rest) pos) tb') : SW ct X (.BoolOp .Or (a :: b :: rest) pos) (tor ta' tb') := by
  refine ⟨fun W tk => ?_⟩
  obtain ⟨ta, pa, ra⟩ := ha.run W tk
  obtain ⟨tb, pb, rb⟩ := hb.run W tk
  refine ⟨_, pw_or pa pb, fun S F H σ ρ Q E ok G => ra S F H σ ρ _ E ok ?_⟩
  refine good_bind G fun x o v S1 F1 H1 f _ t1 h1 E1 k1 G => ?_
  obtain ⟨rfl, rfl⟩ := h1
  cases x with
  | true =>
    rw [if_pos rfl] at G ⊢
    exact G _ S1 F1 H1 [] (by rw [thn_none]; exact t1) ⟨rfl, rfl⟩ E1 k1
  | false =>
    rw [if_neg Bool.false_ne_true] at G ⊢
    exact rb S1 F1 H1 σ _ Q E1 k1 (good_after t1 k1 G)
theorem s_one {op} (h : SE ct X a ga) : SE ct X (.BoolOp op [a] pos) ga := ⟨fun W tk => let ⟨_, p, r⟩ := h.run W tk; ⟨_, pe_one p, r⟩⟩
theorem s_and (ha : SE ct X a ga) (hb : SE ct X (.BoolOp .And (b :: rest) pos) gb) : SE ct X (.BoolOp .And (a :: b :: rest) pos) (vand ga gb) := by
  refine ⟨fun W tk => ?_⟩
  obtain ⟨ta, pa, ra⟩ := ha.run W tk
  obtain ⟨tb, pb, rb⟩ := hb.run W tk
  refine ⟨_, pe_and pa pb, fun S F H σ ρ Q E ok G => ra S F H σ ρ _ E ok ?_⟩
  refine good_bind G fun x o v S1 F1 H1 f _ t1 h1 E1 k1 G => ?_
  obtain ⟨g, h⟩ := h1.rp
  cases q : x.d with
  | bl c =>
    rw [q] at G h
    obtain rfl := h.vbl
    refine ⟨c, rfl, ?_⟩
    cases c with
    | false =>
      rw [if_neg Bool.false_ne_true]
      exact G _ S1 F1 H1 [] (t1.thn (f := f) (g := []) (o' := none) k1 Fit.nil (fun b hb => absurd hb (by simp)) (Same.refl _)) (by rw [VOk.own]; exact .bl _ _) E1 k1.tail
    | true =>
      rw [if_pos rfl]
      exact rb S1 F1 H1 σ _ Q E1 k1.tail (good_after t1 k1 G)
  | _ => rw [q] at G; exact G.elim
theorem s_or (ha : SE ct X a ga) (hb : SE ct X (.BoolOp .Or (b :: rest) pos) gb) : SE ct X (.BoolOp .Or (a :: b :: rest) pos) (vor ga gb) := by
  refine ⟨fun W tk => ?_⟩
  obtain ⟨ta, pa, ra⟩ := ha.run W tk
  obtain ⟨tb, pb, rb⟩ := hb.run W tk
  refine ⟨_, pe_or pa pb, fun S F H σ ρ Q E ok G => ra S F H σ ρ _ E ok ?_⟩
  refine good_bind G fun x o v S1 F1 H1 f _ t1 h1 E1 k1 G => ?_
  obtain ⟨g, h⟩ := h1.rp
  cases q : x.d with
  | bl c =>
    rw [q] at G h
    obtain rfl := h.vbl
    refine ⟨c, rfl, ?_⟩
    cases c with
    | true =>
      rw [if_pos rfl]
      exact G _ S1 F1 H1 [] (t1.thn (f := f) (g := []) (o' := none) k1 Fit.nil (fun b hb => absurd hb (by simp)) (Same.refl _)) (by rw [VOk.own]; exact .bl _ _) E1 k1.tail
    | false =>
      rw [if_neg Bool.false_ne_true]
      exact rb S1 F1 H1 σ _ Q E1 k1.tail (good_after t1 k1 G)
  | _ => rw [q] at G; exact G.elim
theorem s_ift {c : Expr} (hc : ST ct X c ta') (ha : SE ct X a ga) (hb : SE ct X b gb) : SE ct X (.IfExp c a b pos) (ift ta' ga gb) := by
  refine ⟨fun W tk => ?_⟩
  obtain ⟨tc, pc, rc⟩ := hc.run W tk
  obtain ⟨ta, pa, ra⟩ := ha.run W tk
  obtain ⟨tb, pb, rb⟩ := hb.run W tk
  refine ⟨_, pe_ifExp pc pa pb, fun S F H σ ρ Q E ok G => rc S F H σ ρ _ E ok ?_⟩
  refine good_bind G fun x o v S1 F1 H1 f _ t1 h1 E1 k1 G => ?_
  obtain ⟨rfl, rfl⟩ := h1
  cases x with
  | true =>
    rw [if_pos rfl] at G ⊢
    exact ra S1 F1 H1 σ _ Q E1 k1 (good_after t1 k1 G)
  | false =>
    rw [if_neg Bool.false_ne_true] at G ⊢
    exact rb S1 F1 H1 σ _ Q E1 k1 (good_after t1 k1 G)
end
end Vs
set_option maxHeartbeats 4000000
/-! Vs: statements. -/
namespace Vs
open PySem PySem.Spec PyProof.Rows L2

/-- the parameters that are lent are never assigned -/
def Kp (lent : List Bool) (σ σ' : List (Option V)) : Prop := σ'.length = σ.length ∧ ∀ i : Nat, lent[i]? = some true → σ'[i]? = σ[i]?
theorem Kp.refl {lent : List Bool} {σ : List (Option V)} : Kp lent σ σ := ⟨rfl, fun _ _ => rfl⟩
theorem Kp.trans {lent : List Bool} {σ σ1 σ2 : List (Option V)} (a : Kp lent σ σ1) (b : Kp lent σ1 σ2) : Kp lent σ σ2 := ⟨b.1.trans a.1, fun i h => (b.2 i h).trans (a.2 i h)⟩
theorem Kp.set {lent : List Bool} {σ : List (Option V)} {i : Nat} {x : Option V} (h : lent[i]? ≠ some true) : Kp lent σ (σ.set i x) := ⟨List.length_set, fun j hj => List.getElem?_set_ne fun e => h (by rw [e]; exact hj)⟩

/-- what is wanted where a statement comes to fl -/
def GoodS (K : PySem.W.Frag) (ct : Str → Addr) (lent : List Bool) (W : WX) (D : Ends) (S : Addr → Prop) (F : List Addr) (H : Hp) (σ : L2.St) (fl : Fl) : Prop :=
  match fl with
  | .nx ρ' => ∀ σ' S' F' H', Step S F H S' F' H' → EnvRp K S' H' σ' ρ' F' → Ok S' H' F' → Kp lent σ σ' → D.nx σ' H'
  | .brk ρ' => ∀ σ' S' F' H', Step S F H S' F' H' → EnvRp K S' H' σ' ρ' F' → Ok S' H' F' → Kp lent σ σ' → D.bk σ' H'
  | .ct ρ' => ∀ σ' S' F' H', Step S F H S' F' H' → EnvRp K S' H' σ' ρ' F' → Ok S' H' F' → Kp lent σ σ' → D.ct σ' H'
  | .ret pv ρ' => ∀ v f σ' S' F' H', Step S F H S' (f ++ F') H' → Rp K S' H' pv.1 v pv.2 f → EnvRp K S' H' σ' ρ' F' → Ok S' H' (f ++ F') → Kp lent σ σ' → D.rt v H'
  | .ex e ρ' => ∀ C d σ' S' F' H', Step S F H S' F' H' → EnvRp K S' H' σ' ρ' F' → Ok S' H' F' → Kp lent σ σ' → ExOk K ct S' H' e C d → W C d σ' H'
  | .no => False
section
variable {K : PySem.W.Frag} {ct : Str → Addr} {lent : List Bool} {W : WX} {D D' : Ends} {S S1 : Addr → Prop} {F F1 : List Addr} {H H1 : Hp} {σ σ1 : L2.St} {fl : Fl}
theorem GoodS.from (st : Step S F H S1 F1 H1) (kp : Kp lent σ σ1) (g : GoodS K ct lent W D S F H σ fl) : GoodS K ct lent W D S1 F1 H1 σ1 fl := by
  cases fl with
  | nx ρ' => exact fun σ' S' F' H' t E o k => g σ' S' F' H' (st.trans t) E o (kp.trans k)
  | brk ρ' => exact fun σ' S' F' H' t E o k => g σ' S' F' H' (st.trans t) E o (kp.trans k)
  | ct ρ' => exact fun σ' S' F' H' t E o k => g σ' S' F' H' (st.trans t) E o (kp.trans k)
  | ret pv ρ' => exact fun v f σ' S' F' H' t h E o k => g v f σ' S' F' H' (st.trans t) h E o (kp.trans k)
  | ex e ρ' => exact fun C d σ' S' F' H' t E o k x => g C d σ' S' F' H' (st.trans t) E o (kp.trans k) x
  | no => exact g
theorem GoodS.narrow (s : ∀ b ∈ F1, b ∈ F) (g : GoodS K ct lent W D S F H σ fl) : GoodS K ct lent W D S F1 H σ fl := by
  have w : ∀ {S' : Addr → Prop} {F' : List Addr} {H' : Hp}, Step S F1 H S' F' H' → Step S F H S' F' H' := fun st => st.wide s fun b hb => .inl hb
  cases fl with
  | nx ρ' => exact fun σ' S' F' H' t E o k => g σ' S' F' H' (w t) E o k
  | brk ρ' => exact fun σ' S' F' H' t E o k => g σ' S' F' H' (w t) E o k
  | ct ρ' => exact fun σ' S' F' H' t E o k => g σ' S' F' H' (w t) E o k
  | ret pv ρ' => exact fun v f σ' S' F' H' t h E o k => g v f σ' S' F' H' (w t) h E o k
  | ex e ρ' => exact fun C d σ' S' F' H' t E o k x => g C d σ' S' F' H' (w t) E o k x
  | no => exact g
/-- an expression ahead of what follows -/
theorem good_go {α β : Type} {Rel : (Addr → Prop) → Hp → α → β → List Addr → Prop} {ρ : Env} {r : R α} {k : α → Env → Fl} {P : β → Hp → Prop} (G : GoodS K ct lent W D S F H σ (r.go ρ k))
    (cont : ∀ a o y S1 F1 H1 f, Step S F H S1 (f ++ F1) H1 → Rel S1 H1 a y f → EnvRp K S1 H1 σ (now o ρ) F1 → Ok S1 H1 (f ++ F1) → GoodS K ct lent W D S F H σ (k a (now o ρ)) → P y H1) : Good K ct Rel W S F H σ ρ r P := by
  cases r with
  | no => exact G
  | ex x ρ1 => exact fun C d S' F' H' st E o hx => G C d σ S' F' H' st E o Kp.refl hx
  | ok a o => exact fun y S1 F1 H1 f t h E ok => cont a o y S1 F1 H1 f t.step h E ok G
end

structure SS (ct : Str → Addr) (lent : List Bool) (X : Cx) (st : Stmt) (g : MS) : Prop where
  run : ∀ W, Takes X W → PassesOwn (model X.prog X.w) X.A X.env X.xe → ∃ t, PS X st t ∧ ∀ S F H σ ρ D, EnvRp X.K S H σ ρ F → Ok S H F → GoodS X.K ct lent W D S F H σ (g ρ) → t D σ H
structure SSs (ct : Str → Addr) (lent : List Bool) (X : Cx) (st : List Stmt) (g : MS) : Prop where
  run : ∀ W, Takes X W → PassesOwn (model X.prog X.w) X.A X.env X.xe → ∃ t, PSs X st t ∧ ∀ S F H σ ρ D, EnvRp X.K S H σ ρ F → Ok S H F → GoodS X.K ct lent W D S F H σ (g ρ) → t D σ H
/-- a target -/
structure SG (ct : Str → Addr) (lent : List Bool) (X : Cx) (tg : Expr) (g : MG) : Prop where
  run : ∀ W, Takes X W → ∃ t, PG X tg t ∧ ∀ S F H σ ρ x v f D Q, VOk X.K S H x v f → EnvRp X.K S H σ ρ F → Ok S H (f ++ F) → (∀ σ' H', D.nx σ' H' → Q σ' H') → GoodS X.K ct lent W D S (f ++ F) H σ (g x ρ) → t v σ H Q
structure SGs (ct : Str → Addr) (lent : List Bool) (X : Cx) (tg : List Expr) (gs : List MG) : Prop where
  run : ∀ W, Takes X W → ∃ t, PGs X tg t ∧ ∀ S F H σ ρ xs vs f D Q, VsOk X.K S H xs vs f → (∀ x ∈ xs, x.stable = true) → EnvRp X.K S H σ ρ F → Ok S H (f ++ F) → (∀ σ' H', D.nx σ' H' → Q σ' H') → GoodS X.K ct lent W D S (f ++ F) H σ (gall gs xs ρ) → t vs σ H Q

section
variable {ct : Str → Addr} {lent : List Bool} {X : Cx} {st : Stmt} {rest : List Stmt} {g h : MS} {e : Expr} {ge : M} {pos : Pos}
theorem ss_nil : SSs ct lent X [] skip := ⟨fun W tk po => ⟨_, pss_nil, fun S F H σ ρ D E ok G => G σ S F H Step.refl E ok Kp.refl⟩⟩
theorem ss_one (h1 : SS ct lent X st g) : SSs ct lent X [st] g := ⟨fun W tk po => let ⟨_, p, r⟩ := h1.run W tk po; ⟨_, pss_one p, r⟩⟩
theorem ss_cons (h1 : SS ct lent X st g) (h2 : SSs ct lent X rest h) : SSs ct lent X (st :: rest) (sq g h) := by
  refine ⟨fun W tk po => ?_⟩
  obtain ⟨t1, p1, r1⟩ := h1.run W tk po
  obtain ⟨t2, p2, r2⟩ := h2.run W tk po
  refine ⟨_, pss_cons p1 p2, fun S F H σ ρ D E ok G => ?_⟩
  show t1 { D with nx := t2 D } σ H
  refine r1 S F H σ ρ _ E ok ?_
  unfold sq at G
  cases q : g ρ with
  | nx ρ1 =>
    rw [q] at G
    exact fun σ1 S1 F1 H1 st1 E1 ok1 kp => r2 S1 F1 H1 σ1 ρ1 D E1 ok1 (GoodS.from st1 kp G)
  | _ => rw [q] at G; exact G
theorem ss_expr (he : SE ct X e ge) (hs : swapsWith e none pos.line X.env = pure false := by rfl) : SS ct lent X (.Expr e pos) (ex ge) := by
  refine ⟨fun W tk po => ?_⟩
  obtain ⟨ta, pa, ra⟩ := he.run W tk
  refine ⟨_, ps_expr pa hs, fun S F H σ ρ D E ok G => ra S F H σ ρ _ E ok ?_⟩
  exact good_go G fun a o y S1 F1 H1 f st h E1 ok1 G => G σ S1 F1 H1 (st.less fun b hb => List.mem_append_right _ hb) E1 ok1.tail Kp.refl
theorem kept_some {x : VV} {pv : PV} (h : x.kept = some pv) : x.stable = true ∧ pv = (x.m, x.d) := by
  unfold VV.kept at h
  split at h
  · rename_i hs
    exact ⟨hs, (Option.some.inj h).symm⟩
  · cases h
theorem ss_ret (he : SE ct X e ge) : SS ct lent X (.Return (some e) pos) (ret ge) := by
  refine ⟨fun W tk po => ?_⟩
  obtain ⟨ta, pa, ra⟩ := he.run W tk
  refine ⟨_, ps_ret pa, fun S F H σ ρ D E ok G => ra S F H σ ρ _ E ok ?_⟩
  refine good_go G fun a o y S1 F1 H1 f st h E1 ok1 G => ?_
  cases q : a.kept with
  | none => rw [q] at G; exact G.elim
  | some pv =>
    rw [q] at G
    obtain ⟨hs, rfl⟩ := kept_some q
    exact G y f σ S1 F1 H1 st (h.stab hs) E1 ok1 Kp.refl
theorem ss_retN : SS ct lent X (.Return none pos) retN := ⟨fun W tk po => ⟨_, ps_retN, fun S F H σ ρ D E ok G => G .non [] σ S F H Step.refl (.non _) E ok Kp.refl⟩⟩
theorem ss_pass : SS ct lent X (.Pass pos) skip := ⟨fun W tk po => ⟨_, ps_pass, fun S F H σ ρ D E ok G => G σ S F H Step.refl E ok Kp.refl⟩⟩
theorem ss_doc {x j pos pos'} : SS ct lent X (.Expr (.Constant (.str x) j pos) pos') skip := ⟨fun W tk po => ⟨_, ps_doc, fun S F H σ ρ D E ok G => G σ S F H Step.refl E ok Kp.refl⟩⟩
def brk : MS := fun ρ => .brk ρ
def cont : MS := fun ρ => .ct ρ
theorem ss_break : SS ct lent X (.Break pos) brk := ⟨fun W tk po => ⟨_, ps_break, fun S F H σ ρ D E ok G => G σ S F H Step.refl E ok Kp.refl⟩⟩
theorem ss_cont : SS ct lent X (.Continue pos) cont := ⟨fun W tk po => ⟨_, ps_continue, fun S F H σ ρ D E ok G => G σ S F H Step.refl E ok Kp.refl⟩⟩
theorem ss_if {c : Expr} {gc : MT} {a b : List Stmt} (hc : ST ct X c gc) (ha : SSs ct lent X a g) (hb : SSs ct lent X b h) : SS ct lent X (.If c a b pos) (ifs gc g h) := by
  refine ⟨fun W tk po => ?_⟩
  obtain ⟨tc, pc, rc⟩ := hc.run W tk
  obtain ⟨ta, pa, ra⟩ := ha.run W tk po
  obtain ⟨tb, pb, rb⟩ := hb.run W tk po
  refine ⟨_, ps_if pc pa pb, fun S F H σ ρ D E ok G => rc S F H σ ρ _ E ok ?_⟩
  refine good_go G fun a o y S1 F1 H1 f st h E1 ok1 G => ?_
  obtain ⟨rfl, rfl⟩ := h
  cases a with
  | true =>
    rw [if_pos rfl] at G ⊢
    exact ra S1 F1 H1 σ _ D E1 ok1 (GoodS.from st Kp.refl G)
  | false =>
    rw [if_neg Bool.false_ne_true] at G ⊢
    exact rb S1 F1 H1 σ _ D E1 ok1 (GoodS.from st Kp.refl G)
/-! ### targets -/
theorem put_over : ∀ (ρ : Env) (i : Nat) (x : Option PV), ρ.length ≤ i → Vs.put ρ i x = ρ
  | [], _, _, _ => rfl
  | _ :: _, 0, _, h => by simp at h
  | y :: r, i + 1, x, h => by show y :: Vs.put r i x = y :: r; rw [put_over r i x (by simpa using h)]
theorem sg_name {i : Nat} {x : Str} (hN : X.N.Nodup) (hi : X.N[i]? = some x) (hx : Loc X.env.scope x) (hl : lent[i]? ≠ some true) (hf : X.fn x = true ∨ X.env.scope.names.lookup x = some .local := by first | exact .inl rfl | exact .inr rfl | assumption) :
    SG ct lent X (.Name x pos) (gname i) := by
  refine ⟨fun W tk => ⟨_, pg_name hN hi hx hf, fun S F H σ ρ x v f D Q h E ok q G => ?_⟩⟩
  show Q (σ.set i (some v)) H
  refine q _ _ ?_
  unfold gname at G
  cases e : x.kept with
  | none => rw [e] at G; exact G.elim
  | some pv =>
    rw [e] at G
    obtain ⟨hs, rfl⟩ := kept_some e
    obtain ⟨f0, G0, p, E0⟩ := E.drop i
    have p2 : (f ++ F).Perm (f0 ++ (f ++ G0)) := by
      refine (List.Perm.append_left _ p).trans ?_
      rw [← List.append_assoc, ← List.append_assoc]
      exact List.Perm.append_right _ List.perm_append_comm
    have ok2 : Ok S H (f ++ G0) := (ok.perm p2).tail
    by_cases hl2 : i < σ.length
    · exact G _ S (f ++ G0) H (Step.refl.less fun b hb => p2.mem_iff.mpr (List.mem_append_right _ hb)) (E0.fill hl2 (h.stab hs)) ok2 (Kp.set hl)
    · have e1 : σ.set i (some v) = σ := List.set_eq_of_length_le (by omega)
      have e2 : Vs.put ρ i (some (x.m, x.d)) = ρ := put_over _ _ _ (by rw [← E.len]; omega)
      replace G : GoodS X.K ct lent W D S (f ++ F) H σ (.nx (Vs.put ρ i (some (x.m, x.d)))) := G
      rw [e2] at G
      rw [e1]
      exact G σ S F H (Step.refl.less fun b hb => List.mem_append_right _ hb) E ok.tail Kp.refl
theorem sgs_nil : SGs ct lent X [] [] := by
  refine ⟨fun W tk => ⟨_, pgs_nil, fun S F H σ ρ xs vs f D Q h hs E ok q G => ?_⟩⟩
  cases h with
  | nil => exact ⟨rfl, q _ _ (G σ S F H Step.refl E ok Kp.refl)⟩
  | cons _ _ => exact G.elim
theorem VsOk.step {K : PySem.W.Frag} {S S' : Addr → Prop} {H H' : Hp} {F F' : List Addr} (st : Step S F H S' F' H') (ok : Ok S H F) {xs : List VV} {vs : List V} {f : List Addr} (hf : ∀ b ∈ f, b ∉ F) (s : ∀ x ∈ xs, x.stable = true) (h : VsOk K S H xs vs f) : VsOk K S' H' xs vs f := by
  induction h with
  | nil => exact .nil
  | cons a b ih => exact .cons (a.step st ok (fun b hb => hf b (List.mem_append_left _ hb)) (s _ (List.mem_cons_self ..))) (ih (fun b hb => hf b (List.mem_append_right _ hb)) fun x hx => s x (List.mem_cons_of_mem _ hx))
theorem sgs_cons {t : Expr} {ts : List Expr} {g : MG} {gs : List MG} (h1 : SG ct lent X t g) (h2 : SGs ct lent X ts gs)
    (mk : ∀ {a b}, PG X t a → PGs X ts b → PGs X (t :: ts) (gCons a b)) : SGs ct lent X (t :: ts) (g :: gs) := by
  refine ⟨fun W tk => ?_⟩
  obtain ⟨t1, p1, r1⟩ := h1.run W tk
  obtain ⟨t2, p2, r2⟩ := h2.run W tk
  refine ⟨_, mk p1 p2, fun S F H σ ρ xs vs f D Q h hs E ok q G => ?_⟩
  cases h with
  | nil => exact G.elim
  | cons a b =>
    rename_i x v f xs vs g'
    refine ⟨v, vs, rfl, ?_⟩
    unfold gall at G
    have ok1 : Ok S H (g' ++ (f ++ F)) := ok.perm (by
      rw [← List.append_assoc]
      exact List.Perm.append_right _ List.perm_append_comm)
    have sb : ∀ b ∈ f ++ F, b ∈ f ++ g' ++ F := fun b hb => by
      simp only [List.mem_append] at hb ⊢
      exact hb.elim (fun z => .inl (.inl z)) .inr
    refine r1 S F H σ ρ x v f { D with nx := fun σ1 H1 => t2 vs σ1 H1 Q } _ a E ok1.tail (fun _ _ z => z) ?_
    cases q1 : g x ρ with
    | nx ρ1 =>
      rw [q1] at G
      intro σ1 S1 F1 H1 st E1 k1 kp
      have st' : Step S (f ++ g' ++ F) H S1 (g' ++ F1) H1 := st.wide sb fun b hb => by
        rcases List.mem_append.mp hb with z | z
        · exact .inr (List.mem_append_left _ (List.mem_append_right _ z))
        · exact .inl z
      exact r2 S1 F1 H1 σ1 ρ1 xs vs g' D Q (b.step st ok1.tail ok1.apart fun x hx => hs x (List.mem_cons_of_mem _ hx)) (fun x hx => hs x (List.mem_cons_of_mem _ hx)) E1 (Ok.join st ok1 k1) q (GoodS.from st' kp G)
    | ret pv ρ1 => rw [q1] at G; exact GoodS.narrow sb G
    | brk ρ1 => rw [q1] at G; exact GoodS.narrow sb G
    | ct ρ1 => rw [q1] at G; exact GoodS.narrow sb G
    | ex e ρ1 => rw [q1] at G; exact GoodS.narrow sb G
    | no => rw [q1] at G; exact G.elim
theorem VsOk.of_all {K : PySem.W.Frag} {S : Addr → Prop} {H : Hp} {m : Nat} : ∀ {vs : List V} {ds : List D} {f : List Addr}, RpAll K S H m vs ds f → VsOk K S H (ds.map fun d => ⟨false, m, d⟩) vs f
  | _, _, _, .nil _ => .nil
  | _, _, _, .cons h r => .cons (by rw [VOk.own]; exact h) (VsOk.of_all r)
theorem sg_tup {es : List Expr} {kk : Nat} {gs : List MG} {n : Nat} (h : SGs ct lent X es gs) (mk : ∀ {t}, PGs X es t → PG X (.Tuple es kk pos) (gTup X.K n t)) (hn : gs.length = n) : SG ct lent X (.Tuple es kk pos) (gtup gs) := by
  refine ⟨fun W tk => ?_⟩
  obtain ⟨t, p, r⟩ := h.run W tk
  refine ⟨_, mk p, fun S F H σ ρ x v f D Q h E ok q G => ?_⟩
  unfold gtup at G
  obtain ⟨b, m, d⟩ := x
  cases d with
  | tup ds =>
    cases b with
    | true => exact G.elim
    | false =>
      replace G : GoodS X.K ct lent W D S (f ++ F) H σ (if false = false ∧ ds.length = gs.length then gall gs (ds.map fun d => ⟨false, m - 1, d⟩) ρ else .no) := G
      by_cases hl : ds.length = gs.length
      · rw [if_pos ⟨rfl, hl⟩] at G
        rw [VOk.own] at h
        obtain ⟨a, xs, rfl, h1, h2⟩ := h.tup
        exact ⟨a, xs, rfl, h1, h2.length.trans (hl.trans hn), r S F H σ ρ _ xs f D Q (VsOk.of_all h2) (fun x hx => by obtain ⟨d, _, rfl⟩ := List.mem_map.mp hx; rfl) E ok q G⟩
      · rw [if_neg fun z => hl z.2] at G
        exact G.elim
  | _ => exact G.elim
end
end Vs
set_option maxHeartbeats 4000000
/-! Vs: loops. -/
namespace Vs
open PySem PySem.Spec PyProof.Rows L2

/-- some time later: what stays has stayed -/
structure Later (S : Addr → Prop) (H : Hp) (S' : Addr → Prop) (H' : Hp) : Prop where
  s : ∀ b, S b → S' b
  kS : ∀ b o, S b → H b = some o → H' b = some o
  kM : ∀ b o, H b = some o → ¬ Mut (some o) → H' b = some o
/-- the walked thing gives these, one after another -/
def ItOk (K : PySem.W.Frag) (S : Addr → Prop) (H : Hp) (ds : List D) (J : It) (f : List Addr) : Prop :=
  f = [] ∧ ∀ S2 H2, Later S H S2 H2 → ∀ i : Nat, (∀ d, ds[i]? = some d → J.go i H2 ∧ ∀ x H3, J.yld i H2 x H3 → Same H2 H3 ∧ Rp K S2 H3 0 x d []) ∧ (ds.length ≤ i → J.stop i H2)
structure SI (ct : Str → Addr) (X : Cx) (tg e : Expr) (g : MI) : Prop where
  run : ∀ W, Takes X W → ∃ wi, PI X tg e wi ∧ ∀ S F H σ ρ R, EnvRp X.K S H σ ρ F → Ok S H F → Good X.K ct (ItOk X.K) W S F H σ ρ (g ρ) R → wi σ H R
section
variable {S S1 : Addr → Prop} {F F1 : List Addr} {H H1 : Hp}
theorem Step.later (st : Step S F H S1 F1 H1) (ok : Ok S H F) : Later S H S1 H1 :=
  ⟨st.sub, fun b o hb e => st.keep b o e fun z => ok.ns b z hb, fun b o e nm => st.keep b o e fun z => nm (e ▸ ok.mu b z)⟩
theorem Later.refl : Later S H S H := ⟨fun _ z => z, fun _ _ _ e => e, fun _ _ e _ => e⟩
end
theorem whiles_good {K : PySem.W.Frag} {ct : Str → Addr} {lent : List Bool} {W : WX} {D : Ends} {S : Addr → Prop} {F : List Addr} {H : Hp} {σ : L2.St} {ρ : Env} {c : MT} {b : MS} (g : GoodS K ct lent W D S F H σ (whiles c b ρ)) : ∃ n, GoodS K ct lent W D S F H σ (whileN c b n ρ) := by
  unfold whiles at g
  split at g
  · rename_i h
    exact ⟨_, g⟩
  · exact g.elim
section
variable {ct : Str → Addr} {lent : List Bool} {X : Cx} {body : List Stmt} {gb : MS} {pos : Pos}
theorem ss_for {tg iter : Expr} {gi : MI} {gg : MG} (hc : X.calm = true) (hi : SI ct X tg iter gi) (hg : SG ct lent X tg gg) (hb : SSs ct lent X body gb) (hs : ∀ x, foldedSetIterable iter X.env x = pure x := by intro _; rfl) :
    SS ct lent X (.For tg iter body [] pos) (fors gi gg gb) := by
  refine ⟨fun W tk po => ?_⟩
  obtain ⟨wi, pi, ri⟩ := hi.run W tk
  obtain ⟨tg', pg, rg⟩ := hg.run W tk
  obtain ⟨tb, pb, rb⟩ := hb.run W tk po
  refine ⟨_, ps_for po hc pi pg pb hs, fun S F H σ ρ D E ok G => ri S F H σ ρ _ E ok ?_⟩
  refine good_go G fun ds o J S1 F1 H1 f st hJ E1 ok1 G => ?_
  obtain ⟨rfl, hJ⟩ := hJ
  replace ok1 : Ok S1 H1 F1 := ok1
  replace st : Step S F H S1 F1 H1 := st
  refine ⟨fun i m σ' H' => ∃ ρ' S' F', i + m = ds.length ∧ Step S1 F1 H1 S' F' H' ∧ EnvRp X.K S' H' σ' ρ' F' ∧ Ok S' H' F' ∧ Kp lent σ σ' ∧ GoodS X.K ct lent W D S' F' H' σ' (forL gg gb (ds.drop i) ρ'),
    ⟨ds.length, _, S1, F1, by omega, Step.refl, E1, ok1, Kp.refl, GoodS.from st Kp.refl G⟩, fun i m σ' H' hW => ?_⟩
  obtain ⟨ρ', S', F', em, st', E', ok', kp', G'⟩ := hW
  obtain ⟨j1, j2⟩ := hJ S' H' (st'.later ok1) i
  by_cases hi : i < ds.length
  · obtain ⟨d, hd⟩ : ∃ d, ds[i]? = some d := ⟨ds[i], List.getElem?_eq_getElem hi⟩
    obtain ⟨g1, g2⟩ := j1 d hd
    have ed : ds.drop i = d :: ds.drop (i + 1) := by
      have := List.drop_eq_getElem_cons hi
      rw [List.getElem?_eq_getElem hi] at hd
      rw [this, Option.some.inj hd]
    rw [ed] at G'
    refine .inr ⟨g1, fun σ2 H2 => ∃ ρ2 S2 F2, Step S1 F1 H1 S2 F2 H2 ∧ EnvRp X.K S2 H2 σ2 ρ2 F2 ∧ Ok S2 H2 F2 ∧ Kp lent σ σ2 ∧ GoodS X.K ct lent W D S2 F2 H2 σ2 (forL gg gb (ds.drop (i + 1)) ρ2), fun σ2 H2 hN => ?_, fun x H3 hy => ?_⟩
    · obtain ⟨ρ2, S2, F2, a1, a2, a3, a4, a5⟩ := hN
      exact ⟨m - 1, by omega, ρ2, S2, F2, by omega, a1, a2, a3, a4, a5⟩
    · obtain ⟨sm, rx⟩ := g2 x H3 hy
      have st3 : Step S' F' H' S' F' H3 := Step.of_same sm fun _ => .inl
      have G3 := GoodS.from st3 Kp.refl G'
      unfold forL at G3
      -- one turn
      let N : L2.St → Hp → Prop := fun σ2 H2 => ∃ ρ2 S2 F2, Step S1 F1 H1 S2 F2 H2 ∧ EnvRp X.K S2 H2 σ2 ρ2 F2 ∧ Ok S2 H2 F2 ∧ Kp lent σ σ2 ∧ GoodS X.K ct lent W D S2 F2 H2 σ2 (forL gg gb (ds.drop (i + 1)) ρ2)
      have turn : GoodS X.K ct lent W { D with nx := N, ct := N, bk := D.nx } S' F' H3 σ' ((gg ⟨false, 0, d⟩ ρ').seq gb) := by
        cases q : (gg ⟨false, 0, d⟩ ρ').seq gb with
        | nx ρ1 =>
          rw [q] at G3
          exact fun σ2 S2 F2 H2 t E2 o2 k2 => ⟨ρ1, S2, F2, (st'.trans st3).trans t, E2, o2, kp'.trans k2, GoodS.from t k2 G3⟩
        | ct ρ1 =>
          rw [q] at G3
          exact fun σ2 S2 F2 H2 t E2 o2 k2 => ⟨ρ1, S2, F2, (st'.trans st3).trans t, E2, o2, kp'.trans k2, GoodS.from t k2 G3⟩
        | brk ρ1 => rw [q] at G3; exact G3
        | ret pv ρ1 => rw [q] at G3; exact G3
        | ex e ρ1 => rw [q] at G3; exact G3
        | no => rw [q] at G3; exact G3
      refine rg S' F' H3 σ' ρ' ⟨false, 0, d⟩ x [] { D with nx := fun σ2 H2 => tb { D with nx := N, ct := N, bk := D.nx } σ2 H2, ct := N, bk := D.nx } _ (by rw [VOk.own]; exact rx) (E'.same sm) (ok'.same sm) (fun _ _ z => z) ?_
      cases q : gg ⟨false, 0, d⟩ ρ' with
      | nx ρ1 =>
        rw [q] at turn
        exact fun σ2 S2 F2 H2 t E2 o2 k2 => rb S2 F2 H2 σ2 ρ1 _ E2 o2 (GoodS.from t k2 turn)
      | _ => rw [q] at turn; exact turn
  · refine .inl ⟨j2 (by omega), ?_⟩
    rw [List.drop_eq_nil_of_le (by omega)] at G'
    exact G' σ' S' F' H' Step.refl E' ok' Kp.refl
theorem ss_while {c : Expr} {gc : MT} (hc : ST ct X c gc) (hb : SSs ct lent X body gb) : SS ct lent X (.While c body [] pos) (whiles gc gb) := by
  refine ⟨fun W tk po => ?_⟩
  obtain ⟨tc, pc, rc⟩ := hc.run W tk
  obtain ⟨tb, pb, rb⟩ := hb.run W tk po
  refine ⟨_, ps_while po pc pb, fun S F H σ ρ D E ok G => ?_⟩
  obtain ⟨n, G⟩ := whiles_good G
  refine ⟨fun m σ' H' => ∃ ρ' S' F', Step S F H S' F' H' ∧ EnvRp X.K S' H' σ' ρ' F' ∧ Ok S' H' F' ∧ Kp lent σ σ' ∧ GoodS X.K ct lent W D S' F' H' σ' (whileN gc gb m ρ'), ⟨n, ρ, S, F, Step.refl, E, ok, Kp.refl, G⟩, fun m σ' H' hW => ?_⟩
  obtain ⟨ρ', S', F', st', E', ok', kp', G'⟩ := hW
  cases m with
  | zero => exact G'.elim
  | succ m =>
    unfold whileN at G'
    refine rc S' F' H' σ' ρ' _ E' ok' ?_
    refine good_go G' fun b o y S1 F1 H1 f st h E1 ok1 G => ?_
    obtain ⟨rfl, rfl⟩ := h
    replace ok1 : Ok S1 H1 F1 := ok1
    replace st : Step S' F' H' S1 F1 H1 := st
    cases b with
    | false =>
      rw [if_neg Bool.false_ne_true] at G ⊢
      exact G σ' S1 F1 H1 st E1 ok1 Kp.refl
    | true =>
      rw [if_pos rfl] at G ⊢
      let N : L2.St → Hp → Prop := fun σ2 H2 => ∃ ρ2 S2 F2, Step S F H S2 F2 H2 ∧ EnvRp X.K S2 H2 σ2 ρ2 F2 ∧ Ok S2 H2 F2 ∧ Kp lent σ σ2 ∧ GoodS X.K ct lent W D S2 F2 H2 σ2 (whileN gc gb m ρ2)
      refine ⟨N, fun σ2 H2 hN => ⟨m, Nat.lt_succ_self m, hN⟩, rb S1 F1 H1 σ' _ _ E1 ok1 ?_⟩
      have G1 := GoodS.from st Kp.refl G
      cases q : gb (now o ρ') with
      | nx ρ1 =>
        rw [q] at G1
        exact fun σ2 S2 F2 H2 t E2 o2 k2 => ⟨ρ1, S2, F2, (st'.trans st).trans t, E2, o2, kp'.trans k2, GoodS.from t k2 G1⟩
      | ct ρ1 =>
        rw [q] at G1
        exact fun σ2 S2 F2 H2 t E2 o2 k2 => ⟨ρ1, S2, F2, (st'.trans st).trans t, E2, o2, kp'.trans k2, GoodS.from t k2 G1⟩
      | brk ρ1 => rw [q] at G1; exact G1
      | ret pv ρ1 => rw [q] at G1; exact G1
      | ex e ρ1 => rw [q] at G1; exact G1
      | no => rw [q] at G1; exact G1
end
end Vs
set_option maxHeartbeats 4000000
/-! Vs: what is walked. -/
namespace Vs
open PySem PySem.Spec PyProof.Rows L2
section
variable {K : PySem.W.Frag} {S S' : Addr → Prop} {H H' : Hp}
theorem RpAll.later (l : Later S H S' H') {v : List V} {d : List D} (h : RpAll K S H 0 v d []) : RpAll K S' H' 0 v d [] := h.keep l.kS l.kM l.s fun _ _ z => by cases z
theorem Rp.later (l : Later S H S' H') {v : V} {d : D} (h : Rp K S H 0 v d []) : Rp K S' H' 0 v d [] := h.keep l.kS l.kM l.s fun _ _ z => by cases z
/-- a list that stays: its place, its items -/
theorem Rp.lst0' {v : V} {ds : List D} (h : Rp K S H 0 v (.lst ds) []) : ∃ a xs, v = .ref a ∧ RpAll K S H 0 xs ds [] ∧ ∀ S2 H2, Later S H S2 H2 → SqL K H2 a xs := by
  cases h with
  | lst0 r s q =>
    refine ⟨_, _, rfl, q, fun S2 H2 l => ?_⟩
    rcases r with z | ⟨o, z⟩
    · exact .inl (.inl (l.kS _ _ s z))
    · exact .inl (.inr ⟨o, l.kS _ _ s z⟩)
  | lstK r q =>
    refine ⟨_, _, rfl, q, fun S2 H2 l => ?_⟩
    rcases r with (r | ⟨o, r⟩) | r
    · cases r
    · cases r
    · exact .inr r
theorem Rp.tup0' {v : V} {ds : List D} (h : Rp K S H 0 v (.tup ds) []) : ∃ a xs, v = .ref a ∧ RpAll K S H 0 xs ds [] ∧ ∀ S2 H2, Later S H S2 H2 → SqT K H2 a xs := by
  cases h with
  | tup0 r q => exact ⟨_, _, rfl, q, fun S2 H2 l => sqT_keep l.kM r⟩
/-- what is kept from now on as it is -/
theorem froze {F : List Addr} {m : Nat} {d : D} {v : V} {f : List Addr} (h : Rp K S H m v d f) (ok : Ok S H (f ++ F)) : ∃ S', (∀ b, S b → S' b) ∧ (∀ b, S' b → S b ∨ b ∈ f) ∧ Rp K S' H 0 v d [] ∧ Ok S' H F := by
  obtain ⟨f0, f1, p, r⟩ := h.thin 0
  rw [Nat.min_zero] at r
  have e := r.own0
  subst e
  rw [List.nil_append] at p
  refine ⟨_, fun b => Or.inl, fun b hb => hb.imp id fun z => p.mem_iff.mpr z, r, ok.tail.nd, ok.tail.mu, fun b hb z => z.elim (ok.tail.ns b hb) fun z => ok.apart b (p.mem_iff.mpr z) hb, fun b hb => hb.elim (ok.tr b) fun z => ok.mem (List.mem_append_left _ (p.mem_iff.mpr z))⟩
theorem froze' {F : List Addr} {b : Bool} {m : Nat} {d : D} {v : V} {f : List Addr} (h : VOk K S H ⟨b, m, d⟩ v f) (ok : Ok S H (f ++ F)) (hb : b = false ∨ m = 0) :
    ∃ S', (∀ b, S b → S' b) ∧ (∀ b, S' b → S b ∨ b ∈ f) ∧ Rp K S' H 0 v d [] ∧ Ok S' H F := by
  cases b with
  | false => rw [VOk.own] at h; exact froze h ok
  | true =>
    obtain rfl : m = 0 := hb.resolve_left (by simp)
    rw [VOk.bor] at h
    obtain ⟨rfl, g, h⟩ := h
    obtain rfl := h.own0
    exact ⟨S, fun _ z => z, fun _ => Or.inl, h, ok⟩
theorem Fit.froze {o : Option Vs.Env} {S1 : Addr → Prop} {F F1 f : List Addr} {H1 : Hp} (t : Fit o S F H S1 F1 f H1) (k : Ok S1 H1 (f ++ F1)) (a : ∀ b, S1 b → S' b) (b : ∀ b, S' b → S1 b ∨ b ∈ f) : Fit o S F H S' F1 [] H1 := by
  cases o with
  | none =>
    obtain ⟨e, u1, u2, rfl, n⟩ := t
    exact ⟨e, fun x hx => a x (u1 x hx), fun x hx => (b x hx).elim (u2 x) fun z => .inr (n x z), rfl, by simp⟩
  | some _ =>
    have t : Step S F H S1 (f ++ F1) H1 := t
    exact ⟨t.keep, fun x hx => a x (t.sub x hx), fun x hx => t.newF x (List.mem_append_right _ hx), fun x hx => (b x hx).elim (t.newS x) fun z => .inr (t.newF x (List.mem_append_left _ z))⟩
theorem it_list {a : Addr} {xs : List V} {ds : List D} (h : RpAll K S H 0 xs ds []) (l : ∀ S2 H2, Later S H S2 H2 → SqL K H2 a xs) : ItOk K S H ds (Itl K a) [] := by
  refine ⟨rfl, fun S2 H2 t i => ⟨fun d hd => ?_, fun hi => ⟨xs, l _ _ t, by rw [h.length]; exact hi⟩⟩⟩
  obtain ⟨u, hu, ru⟩ := (h.later t).get0 hd
  refine ⟨⟨xs, u, l _ _ t, hu⟩, fun x H3 hy => ?_⟩
  obtain ⟨rfl, hx⟩ := hy
  have := (hx xs (l _ _ t)).symm.trans hu
  cases this
  exact ⟨Same.refl _, ru⟩
theorem it_tup {a : Addr} {xs : List V} {ds : List D} (h : RpAll K S H 0 xs ds []) (l : ∀ S2 H2, Later S H S2 H2 → SqT K H2 a xs) : ItOk K S H ds (Itt K a) [] := by
  refine ⟨rfl, fun S2 H2 t i => ⟨fun d hd => ?_, fun hi => ⟨xs, l _ _ t, by rw [h.length]; exact hi⟩⟩⟩
  obtain ⟨u, hu, ru⟩ := (h.later t).get0 hd
  refine ⟨⟨xs, u, l _ _ t, hu⟩, fun x H3 hy => ?_⟩
  obtain ⟨rfl, hx⟩ := hy
  have := (hx xs (l _ _ t)).symm.trans hu
  cases this
  exact ⟨Same.refl _, ru⟩
theorem it_rng {a b : Int} {n : Nat} (hn : n = (b - a).toNat) : ItOk K S H (rng a b) (Itr a n) [] := by
  subst hn
  refine ⟨rfl, fun S2 H2 t i => ⟨fun d hd => ?_, fun hi => ?_⟩⟩
  · unfold rng at hd
    rw [List.getElem?_map] at hd
    by_cases h : i < (b - a).toNat
    · rw [List.getElem?_range h] at hd
      obtain rfl := Option.some.inj hd
      refine ⟨h, fun x H3 hy => ?_⟩
      obtain ⟨rfl, rfl⟩ := hy
      exact ⟨Same.refl _, .int _ _⟩
    · rw [List.getElem?_eq_none (by rw [List.length_range]; omega)] at hd
      cases hd
  · unfold rng at hi
    rw [List.length_map, List.length_range] at hi
    exact hi
theorem same_upd {p : Addr} {o : HO} (h : H p = none) : Same H (upd H p o) := fun b x e => by
  rw [upd_ne (ne_of_none e h)]
  exact e
theorem enumD_get : ∀ (ds : List D) (n i : Nat), (enumD n ds)[i]? = ds[i]?.map fun d => .tup [.int ((n + i : Nat) : Int), d]
  | [], _, _ => rfl
  | d :: ds, n, 0 => rfl
  | d :: ds, n, i + 1 => by
    show (enumD (n + 1) ds)[i]? = ds[i]?.map _
    rw [enumD_get ds (n + 1) i]
    congr 1
    funext d
    congr 4
    omega
theorem enumD_len : ∀ (ds : List D) (n : Nat), (enumD n ds).length = ds.length
  | [], _ => rfl
  | d :: ds, n => congrArg (· + 1) (enumD_len ds (n + 1))
theorem it_enum {a : Addr} {xs : List V} {ds : List D} (h : RpAll K S H 0 xs ds []) (l : ∀ S2 H2, Later S H S2 H2 → SqL K H2 a xs) : ItOk K S H (enumD 0 ds) (Ite K a) [] := by
  refine ⟨rfl, fun S2 H2 t i => ⟨fun d hd => ?_, fun hi => ⟨xs, l _ _ t, by rw [h.length, ← enumD_len ds 0]; exact hi⟩⟩⟩
  rw [enumD_get] at hd
  cases q : ds[i]? with
  | none => rw [q] at hd; cases hd
  | some e =>
    rw [q] at hd
    obtain rfl := Option.some.inj hd
    obtain ⟨u, hu, ru⟩ := (h.later t).get0 q
    refine ⟨⟨xs, u, l _ _ t, hu⟩, fun x H3 hy => ?_⟩
    obtain ⟨T, y, rfl, nT, rfl, hx⟩ := hy
    have := (hx xs (l _ _ t)).symm.trans hu
    cases this
    refine ⟨same_upd nT, .tup0 (.inl (.inl upd_same)) ?_⟩
    rw [Nat.zero_add]
    exact .cons (f := []) (g := []) (.int _ _) (.cons (f := []) (g := []) (ru.same (same_upd nT)) (.nil _))
theorem zipD_get : ∀ (ds es : List D) (i : Nat), (zipD ds es)[i]? = ds[i]?.bind fun d => es[i]?.map fun e => .tup [d, e]
  | [], _, _ => by simp [zipD]
  | _ :: _, [], i => by cases i <;> simp [zipD]
  | d :: ds, e :: es, 0 => rfl
  | d :: ds, e :: es, i + 1 => zipD_get ds es i
theorem zipD_len : ∀ (ds es : List D), (zipD ds es).length = min ds.length es.length
  | [], es => by simp [zipD]
  | _ :: _, [] => by simp [zipD]
  | d :: ds, e :: es => by
    show (zipD ds es).length + 1 = min (ds.length + 1) (es.length + 1)
    rw [zipD_len ds es]
    omega
theorem it_zip {a b : Addr} {xs ys : List V} {ds es : List D} (h : RpAll K S H 0 xs ds []) (l : ∀ S2 H2, Later S H S2 H2 → SqL K H2 a xs) (h' : RpAll K S H 0 ys es []) (l' : ∀ S2 H2, Later S H S2 H2 → SqL K H2 b ys) :
    ItOk K S H (zipD ds es) (Itz K a b) [] := by
  refine ⟨rfl, fun S2 H2 t i => ⟨fun d hd => ?_, fun hi => ⟨xs, ys, l _ _ t, l' _ _ t, by rw [h.length, h'.length]; rw [zipD_len] at hi; omega⟩⟩⟩
  rw [zipD_get] at hd
  cases q : ds[i]? with
  | none => rw [q] at hd; cases hd
  | some e =>
    cases q' : es[i]? with
    | none => rw [q, q'] at hd; cases hd
    | some e' =>
      rw [q, q'] at hd
      obtain rfl := Option.some.inj hd
      obtain ⟨u, hu, ru⟩ := (h.later t).get0 q
      obtain ⟨u', hu', ru'⟩ := (h'.later t).get0 q'
      refine ⟨⟨xs, ys, u, u', l _ _ t, l' _ _ t, hu, hu'⟩, fun x H3 hy => ?_⟩
      obtain ⟨T, y, z, rfl, nT, rfl, hx, hx'⟩ := hy
      have e1 := (hx xs (l _ _ t)).symm.trans hu
      have e2 := (hx' ys (l' _ _ t)).symm.trans hu'
      cases e1
      cases e2
      exact ⟨same_upd nT, .tup0 (.inl (.inl upd_same)) (.cons (f := []) (g := []) (ru.same (same_upd nT)) (.cons (f := []) (g := []) (ru'.same (same_upd nT)) (.nil _)))⟩
end
section
variable {ct : Str → Addr} {X : Cx} {tg e : Expr} {ge : M} {ga : MA}
theorem Fit.rid {o : Option Vs.Env} {S S1 : Addr → Prop} {F F1 f : List Addr} {H H1 : Hp} (t : Fit o S F H S1 F1 f H1) (k : Ok S1 H1 (f ++ F1)) : Fit o S F H S1 F1 [] H1 := t.froze k (fun _ z => z) fun _ => Or.inl
/-- the walked thing's rule gives these -/
def It1 (K : PySem.W.Frag) (r : V → Hp → (It → Hp → Prop) → Prop) (k : VV → Option (List D)) : Prop :=
  ∀ S H F x v f ds RR, VOk K S H x v f → Ok S H (f ++ F) → k x = some ds → (∀ J S', (∀ b, S b → S' b) → (∀ b, S' b → S b ∨ b ∈ f) → Ok S' H F → ItOk K S' H ds J [] → RR J H) → r v H RR
def ItN (K : PySem.W.Frag) (r : List V → Hp → (It → Hp → Prop) → Prop) (k : List VV → Option (List D)) : Prop :=
  ∀ S H F xs vs f ds RR, VsOk K S H xs vs f → Ok S H (f ++ F) → k xs = some ds → (∀ J S', (∀ b, S b → S' b) → (∀ b, S' b → S b ∨ b ∈ f) → Ok S' H F → ItOk K S' H ds J [] → RR J H) → r vs H RR
theorem run_it1 {r : V → Hp → (It → Hp → Prop) → Prop} {k : VV → Option (List D)} {a : Expr} (ha : SE ct X a ge) (mk : ∀ {t}, PE X a t → PI X tg e (fun σ H RR => t σ H fun v H1 => r v H1 RR)) (ho : It1 X.K r k) : SI ct X tg e (it1 k ge) := by
  refine ⟨fun W tk => ?_⟩
  obtain ⟨ta, pa, ra⟩ := ha.run W tk
  refine ⟨_, mk pa, fun S F H σ ρ RR E ok G => ra S F H σ ρ _ E ok ?_⟩
  refine good_bind G fun x o v S1 F1 H1 f _ t1 h1 E1 k1 G => ?_
  cases q : k x with
  | none => rw [q] at G; exact G.elim
  | some ds =>
    rw [q] at G
    exact ho S1 H1 F1 x v f ds RR h1 k1 q fun J S' u1 u2 k2 it => G J S' F1 H1 [] (t1.froze k1 u1 u2) it (E1.more u1) k2
theorem run_itN {r : List V → Hp → (It → Hp → Prop) → Prop} {k : List VV → Option (List D)} {as : List Expr} (ha : SA ct X as ga) (mk : ∀ {t}, PA X as t → PI X tg e (fun σ H RR => t σ H fun v H1 => r v H1 RR)) (ho : ItN X.K r k) : SI ct X tg e (itN k ga) := by
  refine ⟨fun W tk => ?_⟩
  obtain ⟨ta, pa, ra⟩ := ha.run W tk
  refine ⟨_, mk pa, fun S F H σ ρ RR E ok G => ra S F H σ ρ _ E ok ?_⟩
  refine good_bind G fun x o v S1 F1 H1 f _ t1 h1 E1 k1 G => ?_
  cases q : k x with
  | none => rw [q] at G; exact G.elim
  | some ds =>
    rw [q] at G
    exact ho S1 H1 F1 x v f ds RR h1 k1 q fun J S' u1 u2 k2 it => G J S' F1 H1 [] (t1.froze k1 u1 u2) it (E1.more u1) k2
theorem kL_some {x : VV} {ds : List D} (h : kL x = some ds) : (x.b = false ∨ x.m = 0) ∧ x.d = .lst ds := by
  unfold kL at h
  split at h
  · split at h
    · rename_i q
      exact ⟨q, by rw [Option.some.inj h]⟩
    · cases h
  · cases h
theorem i_list (he : SE ct X e ge) : SI ct X tg e (it1 kL ge) := by
  refine run_it1 (r := fun x H1 RR => ∃ a, x = .ref a ∧ (∃ xs, SqL X.K H1 a xs) ∧ RR (Itl X.K a) H1) he pi_list fun S H F x v f ds RR h1 k1 q hR => ?_
  obtain ⟨b, m, d⟩ := x
  obtain ⟨hb, rfl⟩ := kL_some q
  obtain ⟨S', u1, u2, r, k2⟩ := froze' h1 k1 hb
  obtain ⟨a, xs, rfl, q1, q2⟩ := r.lst0'
  exact ⟨a, rfl, ⟨xs, q2 _ _ Later.refl⟩, hR _ S' u1 u2 k2 (it_list q1 q2)⟩
theorem kT_some {x : VV} {ds : List D} (h : kT x = some ds) : (x.b = false ∨ x.m ≤ 1) ∧ x.d = .tup ds := by
  unfold kT at h
  split at h
  · split at h
    · rename_i q
      exact ⟨q, by rw [Option.some.inj h]⟩
    · cases h
  · cases h
theorem i_tup (he : SE ct X e ge) : SI ct X tg e (it1 kT ge) := by
  refine run_it1 (r := fun x H1 RR => ∃ a, x = .ref a ∧ (∃ xs, SqT X.K H1 a xs) ∧ RR (Itt X.K a) H1) he pi_tup fun S H F x v f ds RR h1 k1 q hR => ?_
  obtain ⟨b, m, d⟩ := x
  obtain ⟨hb, rfl⟩ := kT_some q
  by_cases hb2 : b = false ∨ m = 0
  · obtain ⟨S', u1, u2, r, k2⟩ := froze' h1 k1 hb2
    obtain ⟨a, xs, rfl, q1, q2⟩ := r.tup0'
    exact ⟨a, rfl, ⟨xs, q2 _ _ Later.refl⟩, hR _ S' u1 u2 k2 (it_tup q1 q2)⟩
  · obtain ⟨rfl, rfl⟩ : b = true ∧ m = 1 := by
      cases b with
      | false => exact absurd (.inl rfl) hb2
      | true => exact ⟨rfl, by
          have hb : true = false ∨ m ≤ 1 := hb
          have : ¬ m = 0 := fun z => hb2 (.inr z)
          rcases hb with z | z
          · cases z
          · omega⟩
    rw [VOk.bor] at h1
    obtain ⟨rfl, g, h⟩ := h1
    obtain ⟨a, xs, rfl, r1, r2⟩ := h.tup
    obtain rfl := r2.own0
    exact ⟨a, rfl, ⟨xs, r1⟩, hR _ S (fun _ z => z) (fun _ => Or.inl) k1 (it_tup r2 fun S2 H2 l => sqT_keep l.kM r1)⟩
theorem VsOk.one {K : PySem.W.Frag} {S : Addr → Prop} {H : Hp} {x : VV} {vs : List V} {f : List Addr} (h : VsOk K S H [x] vs f) : ∃ v, vs = [v] ∧ VOk K S H x v f := by
  cases h with
  | cons a b =>
    cases b
    rw [List.append_nil]
    exact ⟨_, rfl, a⟩
theorem VsOk.two {K : PySem.W.Frag} {S : Addr → Prop} {H : Hp} {x y : VV} {vs : List V} {f : List Addr} (h : VsOk K S H [x, y] vs f) : ∃ v w f1 f2, vs = [v, w] ∧ f = f1 ++ f2 ∧ VOk K S H x v f1 ∧ VOk K S H y w f2 := by
  cases h with
  | cons a b =>
    obtain ⟨w, e, c⟩ := VsOk.one b
    subst e
    exact ⟨_, w, _, _, rfl, rfl, a, c⟩
theorem VOk.int' {K : PySem.W.Frag} {S : Addr → Prop} {H : Hp} {b : Bool} {m : Nat} {i : Int} {v : V} {f : List Addr} (h : VOk K S H ⟨b, m, .int i⟩ v f) : v = .int i := by
  obtain ⟨g, h⟩ := h.rp
  exact h.vint
theorem kR1_some {xs : List VV} {ds : List D} (h : kR1 xs = some ds) : ∃ b m j, xs = [⟨b, m, .int j⟩] ∧ (-(2 ^ 62) ≤ j ∧ j < 2 ^ 62) ∧ ds = rng 0 j := by
  unfold kR1 at h
  split at h
  · split at h
    · rename_i q
      exact ⟨_, _, _, rfl, q, (Option.some.inj h).symm⟩
    · cases h
  · cases h
theorem kR2_some {xs : List VV} {ds : List D} (h : kR2 xs = some ds) : ∃ b m i b' m' j, xs = [⟨b, m, .int i⟩, ⟨b', m', .int j⟩] ∧ (-(2 ^ 62) ≤ i ∧ i < 2 ^ 62 ∧ -(2 ^ 62) ≤ j ∧ j < 2 ^ 62) ∧ ds = rng i j := by
  unfold kR2 at h
  split at h
  · split at h
    · rename_i q
      exact ⟨_, _, _, _, _, _, rfl, q, (Option.some.inj h).symm⟩
    · cases h
  · cases h
theorem i_range1 {a : Expr} {p pos : Pos} (hg : Gl X "range") (hm : X.mg "range" = none) (ha : SA ct X [a] ga) (hs : starEach [a] X.env = [(false, eval a X.env)] := by rfl) : SI ct X tg (.Call (.Name "range" p) [a] [] pos) (itN kR1 ga) := by
  refine run_itN (r := fun vs H1 RR => ∃ j : Int, vs = [.int j] ∧ -(2 ^ 62) ≤ j ∧ j < 2 ^ 62 ∧ RR (Itr 0 j.toNat) H1) ha (fun pa => pi_range1 hg hm pa hs) fun S H F xs vs f ds RR h1 k1 q hR => ?_
  obtain ⟨b, m, j, rfl, hb, rfl⟩ := kR1_some q
  obtain ⟨v, rfl, h⟩ := h1.one
  obtain rfl := h.int'
  exact ⟨j, rfl, hb.1, hb.2, hR _ S (fun _ z => z) (fun _ => Or.inl) k1.tail (it_rng (by rw [Int.sub_zero]))⟩
theorem i_range2 {a a' : Expr} {p pos : Pos} (hg : Gl X "range") (hm : X.mg "range" = none) (ha : SA ct X [a, a'] ga) (hs : starEach [a, a'] X.env = [(false, eval a X.env), (false, eval a' X.env)] := by rfl) (hs2 : starEach [a'] X.env = [(false, eval a' X.env)] := by rfl) :
    SI ct X tg (.Call (.Name "range" p) [a, a'] [] pos) (itN kR2 ga) := by
  refine run_itN (r := fun vs H1 RR => ∃ i j : Int, vs = [.int i, .int j] ∧ (-(2 ^ 62) ≤ i ∧ i < 2 ^ 62 ∧ -(2 ^ 62) ≤ j ∧ j < 2 ^ 62) ∧ RR (Itr i (j - i).toNat) H1) ha (fun pa => pi_range2 hg hm pa hs hs2) fun S H F xs vs f ds RR h1 k1 q hR => ?_
  obtain ⟨b, m, i, b', m', j, rfl, hb, rfl⟩ := kR2_some q
  obtain ⟨v, w, f1, f2, rfl, rfl, h, h'⟩ := h1.two
  obtain rfl := h.int'
  obtain rfl := h'.int'
  exact ⟨i, j, rfl, hb, hR _ S (fun _ z => z) (fun _ => Or.inl) k1.tail (it_rng rfl)⟩
theorem kE_some {xs : List VV} {ds : List D} (h : kE xs = some ds) : ∃ b m es, xs = [⟨b, m, .lst es⟩] ∧ (b = false ∨ m = 0) ∧ ds = enumD 0 es := by
  unfold kE at h
  split at h
  · split at h
    · rename_i q
      exact ⟨_, _, _, rfl, q, (Option.some.inj h).symm⟩
    · cases h
  · cases h
theorem i_enum {a : Expr} {p pos tpos : Pos} {elts : List Expr} {kk : Nat} (hg : Gl X "enumerate") (hm : X.mg "enumerate" = none) (ha : SA ct X [a] ga) (hs : starEach [a] X.env = [(false, eval a X.env)] := by rfl) :
    SI ct X (.Tuple elts kk tpos) (.Call (.Name "enumerate" p) [a] [] pos) (itN kE ga) := by
  refine run_itN (r := fun vs H1 RR => ∃ a xs, vs = [.ref a] ∧ SqL X.K H1 a xs ∧ RR (Ite X.K a) H1) ha (fun pa => pi_enum hg hm pa hs) fun S H F xs vs f ds RR h1 k1 q hR => ?_
  obtain ⟨b, m, es, rfl, hb, rfl⟩ := kE_some q
  obtain ⟨v, rfl, h⟩ := h1.one
  obtain ⟨S', u1, u2, r, k2⟩ := froze' h k1 hb
  obtain ⟨a, xs, rfl, q1, q2⟩ := r.lst0'
  exact ⟨a, xs, rfl, q2 _ _ Later.refl, hR _ S' u1 u2 k2 (it_enum q1 q2)⟩
theorem kZ_some {xs : List VV} {ds : List D} (h : kZ xs = some ds) : ∃ b m es b' m' es', xs = [⟨b, m, .lst es⟩, ⟨b', m', .lst es'⟩] ∧ ((b = false ∨ m = 0) ∧ (b' = false ∨ m' = 0)) ∧ ds = zipD es es' := by
  unfold kZ at h
  split at h
  · split at h
    · rename_i q
      exact ⟨_, _, _, _, _, _, rfl, q, (Option.some.inj h).symm⟩
    · cases h
  · cases h
theorem i_zip {a e2 : Expr} {p pos tpos : Pos} {elts : List Expr} {kk : Nat} (hg : Gl X "zip") (hm : X.mg "zip" = none) (ha : SA ct X [a, e2] ga)
    (hs : starEach [a, e2] X.env = (false, eval a X.env) :: starEach [e2] X.env := by rfl) (hpl : (backTo pos (starEach [e2] X.env)).any (·.1) = false := by rfl) :
    SI ct X (.Tuple elts kk tpos) (.Call (.Name "zip" p) [a, e2] [] pos) (itN kZ ga) := by
  refine run_itN (r := fun vs H1 RR => ∃ a b xs ys, vs = [.ref a, .ref b] ∧ SqL X.K H1 a xs ∧ SqL X.K H1 b ys ∧ RR (Itz X.K a b) H1) ha (fun pa => pi_zip hg hm pa hs hpl) fun S H F xs vs f ds RR h1 k1 q hR => ?_
  obtain ⟨b, m, es, b', m', es', rfl, hb, rfl⟩ := kZ_some q
  obtain ⟨v, w, f1, f2, rfl, rfl, h, h'⟩ := h1.two
  rw [List.append_assoc] at k1
  obtain ⟨S', u1, u2, r, k2⟩ := froze' h k1 hb.1
  obtain ⟨S'', w1, w2, r', k3⟩ := froze' (h'.more u1) k2 hb.2
  obtain ⟨a, xs, rfl, q1, q2⟩ := (r.more w1).lst0'
  obtain ⟨a', xs', rfl, q1', q2'⟩ := r'.lst0'
  refine ⟨a, a', xs, xs', rfl, q2 _ _ Later.refl, q2' _ _ Later.refl, hR _ S'' (fun b hb => w1 b (u1 b hb)) (fun b hb => ?_) k3 (it_zip q1 q2 q1' q2')⟩
  rcases w2 b hb with z | z
  · exact (u2 b z).imp id (List.mem_append_left _)
  · exact .inr (List.mem_append_right _ z)
end
end Vs
set_option maxHeartbeats 4000000
/-! Vs: defs and their calls. -/
namespace Vs
open PySem PySem.Spec PyProof.Rows L2

/-- what a def promises: it does what m says -/
def SpF (K : PySem.W.Frag) (ct : Str → Addr) (n : Nat) (m : List PV → RF) : Sp := fun vs H Q E =>
  ∃ S F pvs, EnvRp K S H (vs.map some) (pvs.map some) F ∧ Ok S H F ∧ vs.length = n ∧ match m pvs with
    | .ok r out => ∀ v S' H' F' f, Step S F H S' (f ++ F') H' → Rp K S' H' r.1 v r.2 f → EnvRp K S' H' (vs.map some) out F' → Ok S' H' (f ++ F') → Q v H'
    | .ex e out => ∀ C d S' H' F', Step S F H S' F' H' → EnvRp K S' H' (vs.map some) out F' → Ok S' H' F' → ExOk K ct S' H' e C d → E C d H'
    | .no => False
/-- a def of the text that does what m says; no text of a value is being written ahead of it -/
structure Fn (P : Program) (w : World) (K : PySem.W.Frag) (mg : Str → Option Value) (base : Heap) (ct : Str → Addr) (k : Nat) (f : Addr) (fd : FuncData) (ps : List Str) (m : List PV → RF) : Prop where
  run : ∀ (A : Around) (outer : List PySem.Env) (s : Shared) (H : Hp) (args : Args) (us : List Value) (vs : List V) (Q : VK) (E : XK), A.guards = some [] → Room k A → Env0 P w K mg base A outer s H →
    BindsTo s fd args (ps.zip us) → Vals vs us → SpF K ct ps.length m vs H Q E → codeAny (model P w) A (.call (.ref f) args) (CR (L2N.CX P w) outer P w H s Q E) s

section
variable {K : PySem.W.Frag} {S : Addr → Prop} {H : Hp}
theorem EnvRp.deads {σ : List (Option V)} {ρ : Env} {F : List Addr} (h : EnvRp K S H σ ρ F) (n : Nat) : EnvRp K S H (σ ++ List.replicate n none) (ρ ++ List.replicate n none) F := by
  induction h with
  | nil =>
    simp only [List.nil_append]
    induction n with
    | zero => exact .nil
    | succ n ih => exact .dead ih
  | dead _ ih => exact .dead ih
  | live r _ p ih => exact .live r ih p
/-- the lent parameters behind a body -/
theorem EnvRp.outs : ∀ {lent : List Bool} {σ : List (Option V)} {ρ : Env} {F : List Addr} {vs : List V}, EnvRp K S H σ ρ F → vs.length = lent.length →
    (∀ i : Nat, lent[i]? = some true → σ[i]? = (vs.map some)[i]?) → ∃ F1 G, F.Perm (G ++ F1) ∧ EnvRp K S H (vs.map some) (Vs.outs lent ρ) F1
  | [], _, _, F, vs, _, hl, _ => by
    obtain rfl : vs = [] := List.length_eq_zero_iff.mp hl
    exact ⟨[], F, by simp, .nil⟩
  | b :: bs, _, _, F, [], _, hl, _ => by cases hl
  | b :: bs, _, _, F, v :: vs, h, hl, hk => by
    cases h with
    | nil =>
      obtain ⟨F1, G, p, q⟩ := EnvRp.outs (lent := bs) (vs := vs) (EnvRp.nil (K := K) (S := S) (H := H)) (by simpa using hl) fun i hi => by simpa using hk (i + 1) (by simpa using hi)
      exact ⟨F1, G, p, .dead q⟩
    | dead h =>
      obtain ⟨F1, G, p, q⟩ := EnvRp.outs (lent := bs) (vs := vs) h (by simpa using hl) fun i hi => by simpa using hk (i + 1) (by simpa using hi)
      refine ⟨F1, G, p, ?_⟩
      show EnvRp K S H (some v :: vs.map some) ((if b = true then none else none) :: _) F1
      rw [ite_self]
      exact .dead q
    | live r h p0 =>
      rename_i x m d f σ ρ F0
      obtain ⟨F1, G, p, q⟩ := EnvRp.outs (lent := bs) (vs := vs) h (by simpa using hl) fun i hi => by simpa using hk (i + 1) (by simpa using hi)
      show ∃ F1 G, F.Perm (G ++ F1) ∧ EnvRp K S H (some v :: vs.map some) ((if b = true then some (m, d) else none) :: _) F1
      cases b with
      | true =>
        have e : some (some x) = some (some v) := by simpa using hk 0 rfl
        cases e
        rw [if_pos rfl]
        refine ⟨f ++ F1, G, (p0.trans (List.Perm.append_left _ p)).trans ?_, .live r q (.refl _)⟩
        rw [← List.append_assoc, ← List.append_assoc]
        exact List.Perm.append_right _ List.perm_append_comm
      | false =>
        rw [if_neg Bool.false_ne_true]
        refine ⟨F1, f ++ G, (p0.trans (List.Perm.append_left _ p)).trans ?_, .dead q⟩
        rw [List.append_assoc]
end

/-- a body's end, for its caller -/
theorem body_ends {K : PySem.W.Frag} {ct : Str → Addr} {lent : List Bool} {N ps : List Str} {g : MS} {vs : List V} {H : Hp} {Q : VK} {E : XK} {t : TS} (hn : ps.length ≤ N.length) (hl : lent.length = ps.length)
    (ht : ∀ S F H σ ρ D, EnvRp K S H σ ρ F → Ok S H F → GoodS K ct lent (fun cls d _ H => E cls d H) D S F H σ (g ρ) → t D σ H) (h : SpF K ct ps.length (fnM N.length lent g) vs H Q E) :
    t { nx := fun _ H' => Q .non H', rt := Q } (L2.start N vs) H := by
  obtain ⟨S, F, pvs, EV, ok, hv, q⟩ := h
  have hp : pvs.length = vs.length := by simpa using EV.len.symm
  have e1 : EnvRp K S H (L2.start N vs) (pvs.map some ++ List.replicate (N.length - pvs.length) none) F := by
    unfold L2.start
    rw [hp]
    exact EV.deads _
  have at0 : ∀ i : Nat, lent[i]? = some true → (L2.start N vs)[i]? = (vs.map some)[i]? := fun i hi => by
    have : i < lent.length := (List.getElem?_eq_some_iff.mp hi).1
    unfold L2.start
    exact List.getElem?_append_left (by rw [List.length_map]; omega)
  -- the parameters
  have out : ∀ {S' : Addr → Prop} {H' : Hp} {σ' : List (Option V)} {ρ' : Env} {f F' : List Addr}, EnvRp K S' H' σ' ρ' F' → Kp lent (L2.start N vs) σ' → Ok S' H' (f ++ F') → ∃ F1, EnvRp K S' H' (vs.map some) (outs lent ρ') F1 ∧ Ok S' H' (f ++ F1) ∧ ∀ b ∈ f ++ F1, b ∈ f ++ F' :=
    fun {S' H' σ' ρ' f F'} e kp o => by
      obtain ⟨F1, G, p, r⟩ := e.outs (lent := lent) (vs := vs) (by omega) fun i hi => (kp.2 i hi).trans (at0 i hi)
      have p2 : (f ++ F').Perm (G ++ (f ++ F1)) := by
        refine (List.Perm.append_left _ p).trans ?_
        rw [← List.append_assoc, ← List.append_assoc]
        exact List.Perm.append_right _ List.perm_append_comm
      exact ⟨F1, r, (o.perm p2).tail, fun b hb => p2.mem_iff.mpr (List.mem_append_right _ hb)⟩
  refine ht S F H _ _ _ e1 ok ?_
  unfold fnM at q
  cases r : g (pvs.map some ++ List.replicate (N.length - pvs.length) none) with
  | no => rw [r] at q; exact q
  | brk ρ' => rw [r] at q; exact False.elim q
  | ct ρ' => rw [r] at q; exact False.elim q
  | nx ρ' =>
    rw [r] at q
    intro σ' S' F' H' st E' ok' kp
    obtain ⟨F1, a, b, c⟩ := out (f := []) E' kp ok'
    exact q .non S' H' F1 [] (st.less c) (.non _) a b
  | ret pv ρ' =>
    rw [r] at q
    intro v f σ' S' F' H' st hr E' ok' kp
    obtain ⟨F1, a, b, c⟩ := out E' kp ok'
    exact q v S' H' F1 f (st.less c) hr a b
  | ex e ρ' =>
    rw [r] at q
    intro C d σ' S' F' H' st E' ok' kp hx
    obtain ⟨F1, a, b, c⟩ := out (f := []) E' kp ok'
    exact q C d S' H' F1 (st.less c) a b hx

section
variable {P : Program} {w : World} {K : PySem.W.Frag} {mg : Str → Option Value} {base : Heap} {ct : Str → Addr}
/-- a def's body's context -/
abbrev bodyX (P : Program) (w : World) (K : PySem.W.Frag) (mg : Str → Option Value) (base : Heap) (N : List Str) (qual : Str) (st : Stmt) (f : Addr) (cdv : Value) (A : Around) (outer : List PySem.Env) (s : Shared) (H : Hp) (E : XK) : Cx :=
  cxOf (L2N.CX P w) P w K mg base N qual (defScope st) f cdv A outer s H E
/-- the rule for a def -/
theorem fn_of {x qual : Str} {st : Stmt} {f : Addr} {fd : FuncData} {N ps : List Str} {k : Nat} {lent : List Bool} {g : MS} (F : Fun K x qual st f fd) (Sc : FnScope N ps (defScope st)) (hn : ps.length ≤ N.length) (hl : lent.length = ps.length)
    (hbody : ∀ (cdv : Value) (A : Around) (outer : List PySem.Env) (s : Shared) (H : Hp) (E : XK), Room k (bodyX P w K mg base N qual st f cdv A outer s H E).A → (bodyX P w K mg base N qual st f cdv A outer s H E).A.guards = some [] →
      SSs ct lent (bodyX P w K mg base N qual st f cdv A outer s H E) (defBody st) g) : Fn P w K mg base ct (k + 1) f fd ps (fnM N.length lent g) := by
  obtain ⟨oc, od, kV, doc, pm, an, cdv, cv, osl, rfl, lk, hcd⟩ := F.ex
  refine ⟨fun A outer s H args us vs Q E hgd hr e0 hb r hsp => ?_⟩
  have hlen : vs.length = ps.length := by
    obtain ⟨_, _, _, _, _, z, _⟩ := hsp
    exact z
  have inn : K.In s.heap := e0.mod.kin.keeps fun b o e => (e0.bs b o e).1
  have lim : s.heap.NoLimit := e0.mod.nolimit.keeps fun b o e => (e0.bs b o e).1
  refine codeAny_call_function hr.depth (inn _ _ lk) rfl Sc.co Sc.gen rfl (PySem.W.codeRec_of inn hcd) (hb _ _ _ _ ?_)
  refine wpAny_newFunctionEnv_cells Sc.kind (fun ⟨n, u⟩ hm => ?_) fun env henv s1 made => ?_
  · rcases Sc.par n (List.of_mem_zip hm).1 with z | z
    · exact .inl z
    · exact .inr ⟨z, PySem.W.cellsFrom_some _ _ _ (.inl z)⟩
  · subst henv
    refine ⟨lim.keeps made.toInCall.keep, codeAny_func ?_⟩
    have I : Inv (bodyX P w K mg base N qual st f cdv A outer s H E) [] (L2.start N vs) H s1 := inv_start Sc hr.hd e0 hlen r made
    obtain ⟨t, ht, run⟩ := (hbody cdv A outer s H E (hr.deeper _) hgd).run (fun cls d _ H => E cls d H) (L2N.takes_of rfl rfl rfl rfl) (passes_of rfl)
    refine wpAny_mono (ht.run [] s1 (L2.start N vs) H _ I (body_ends hn hl run hsp)) (fun fl s2 hs => ?_) fun _ _ z => z
    have ends : ∀ {σ' : L2.St} {H' : Hp} {v : V} {u : Value}, Inv (bodyX P w K mg base N qual st f cdv A outer s H E) [] σ' H' s2 → RelV v u → Q v H' → CE outer P w H s Q u s2 :=
      fun {σ' H' v u} J rv q => ⟨v, H', J.os, J.bare, J.base, J.hok, rv, q⟩
    cases fl with
    | ret u =>
      obtain ⟨v, σ', H', J, rv, q⟩ := hs
      exact ends J rv q
    | next =>
      obtain ⟨σ', H', J, q⟩ := hs
      exact ends (v := .non) (u := .none) J rfl q
    | brk =>
      obtain ⟨_, _, _, q⟩ := hs
      exact q.elim
    | cont =>
      obtain ⟨_, _, _, q⟩ := hs
      exact q.elim
end

/-! ### calls -/
/-- arguments: slots that are lent; values -/
inductive AvOk (K : PySem.W.Frag) (σ : List (Option V)) (S : Addr → Prop) (H : Hp) : List AV → List V → List Addr → Prop
  | nil : AvOk K σ S H [] [] []
  | l {i : Nat} {v : V} {as : List AV} {vs : List V} {f : List Addr} : σ[i]? = some (some v) → AvOk K σ S H as vs f → AvOk K σ S H (.l i :: as) (v :: vs) f
  | o {m : Nat} {d : D} {v : V} {f : List Addr} {as : List AV} {vs : List V} {g : List Addr} : Rp K S H m v d f → AvOk K σ S H as vs g → AvOk K σ S H (.o (m, d) :: as) (v :: vs) (f ++ g)
structure SC (ct : Str → Addr) (X : Cx) (es : List Expr) (g : Vs.Env → R (List AV)) : Prop where
  run : ∀ W, Takes X W → ∃ t, PA X es t ∧ ∀ S F H σ ρ Q, EnvRp X.K S H σ ρ F → Ok S H F → Good X.K ct (AvOk X.K σ) W S F H σ ρ (g ρ) Q → t σ H Q
section
variable {K : PySem.W.Frag} {S S' : Addr → Prop} {H H' : Hp} {σ : List (Option V)}
theorem AvOk.len {as : List AV} {vs : List V} {f : List Addr} (h : AvOk K σ S H as vs f) : as.length = vs.length := by
  induction h with
  | nil => rfl
  | l _ _ ih => exact congrArg (· + 1) ih
  | o _ _ ih => exact congrArg (· + 1) ih
theorem perm_mid {a b c : List Addr} : (a ++ (b ++ c)).Perm (b ++ (a ++ c)) := by
  rw [← List.append_assoc, ← List.append_assoc]
  exact List.Perm.append_right _ List.perm_append_comm
theorem grab_ok : ∀ {as : List AV} {vs : List V} {f F : List Addr} {ρ ρ' : Vs.Env} {pvs : List PV}, AvOk K σ S H as vs f → EnvRp K S H σ ρ F → grab as ρ = some (pvs, ρ') →
    ∃ Fa F', EnvRp K S H (vs.map some) (pvs.map some) Fa ∧ EnvRp K S H σ ρ' F' ∧ (f ++ F).Perm (Fa ++ F')
  | _, _, _, F, ρ, ρ', pvs, .nil, E, h => by
    obtain ⟨rfl, rfl⟩ := Prod.mk.inj (Option.some.inj h)
    exact ⟨[], F, .nil, E, .refl _⟩
  | _, _, _, F, ρ, ρ', pvs, .l (i := i) (as := as) (f := f) hv a, E, h => by
    unfold grab at h
    cases q : look ρ i with
    | none => rw [q] at h; cases h
    | some pv =>
      obtain ⟨m, d⟩ := pv
      rw [q] at h
      obtain ⟨v', f', G, h1, h2, p, E'⟩ := E.take q
      rw [hv] at h1
      cases h1
      cases q2 : grab as (Vs.put ρ i none) with
      | none => rw [q2] at h; cases h
      | some z =>
        obtain ⟨pvs', ρ2⟩ := z
        rw [q2] at h
        obtain ⟨rfl, rfl⟩ := Prod.mk.inj (Option.some.inj h)
        obtain ⟨Fa, F', b1, b2, b3⟩ := grab_ok a E' q2
        refine ⟨f' ++ Fa, F', .live h2 b1 (.refl _), b2, ?_⟩
        refine (List.Perm.append_left _ p).trans (perm_mid.trans ?_)
        rw [List.append_assoc]
        exact List.Perm.append_left _ b3
  | _, _, _, F, ρ, ρ', pvs, .o (f := f) (as := as) (g := g) r a, E, h => by
    unfold grab at h
    cases q2 : grab as ρ with
    | none => rw [q2] at h; cases h
    | some z =>
      obtain ⟨pvs', ρ2⟩ := z
      rw [q2] at h
      obtain ⟨rfl, rfl⟩ := Prod.mk.inj (Option.some.inj h)
      obtain ⟨Fa, F', b1, b2, b3⟩ := grab_ok a E q2
      refine ⟨f ++ Fa, F', .live r b1 (.refl _), b2, ?_⟩
      rw [List.append_assoc, List.append_assoc]
      exact List.Perm.append_left _ b3
theorem back_ok : ∀ {as : List AV} {vs : List V} {f Fo F : List Addr} {ρ out : Vs.Env} {S0 : Addr → Prop} {H0 : Hp}, AvOk K σ S0 H0 as vs f → EnvRp K S H (vs.map some) out Fo → EnvRp K S H σ ρ F →
    ∃ G F', (Fo ++ F).Perm (G ++ F') ∧ EnvRp K S H σ (back as out ρ) F'
  | _, _, _, _, F, ρ, out, _, _, .nil, EO, E => by
    cases EO
    exact ⟨[], F, .refl _, E⟩
  | _, _, _, _, F, ρ, out, _, _, .l (i := i) (as := as) hv a, EO, E => by
    cases EO with
    | dead EO =>
      obtain ⟨f0, G0, p0, E0⟩ := E.drop i
      obtain ⟨G, F', p, E'⟩ := back_ok a EO E0
      refine ⟨f0 ++ G, F', (List.Perm.append_left _ p0).trans (perm_mid.trans ?_), E'⟩
      rw [List.append_assoc]
      exact List.Perm.append_left _ p
    | live r EO q =>
      rename_i m d f1 ρ1 F1
      obtain ⟨f0, G0, p0, E0⟩ := E.drop i
      obtain ⟨G, F', p, E'⟩ := back_ok a EO (E0.back hv r)
      refine ⟨f0 ++ G, F', ((q.append p0).trans ?_), E'⟩
      rw [List.append_assoc f0, List.append_assoc]
      exact (((List.Perm.append_left _ perm_mid).trans perm_mid).trans (List.Perm.append_left _ perm_mid)).trans (List.Perm.append_left _ p)
  | _, _, _, _, F, ρ, out, _, _, .o a0 a, EO, E => by
    cases EO with
    | dead EO =>
      obtain ⟨G, F', p, E'⟩ := back_ok a EO E
      exact ⟨G, F', p, E'⟩
    | live r EO q =>
      rename_i m d f1 ρ1 F1
      obtain ⟨G, F', p, E'⟩ := back_ok a EO E
      refine ⟨f1 ++ G, F', (List.Perm.append_right _ q).trans ?_, E'⟩
      rw [List.append_assoc, List.append_assoc]
      exact List.Perm.append_left _ p
end
section
variable {ct : Str → Addr} {X : Cx} {e : Expr} {es : List Expr} {ge : M} {as : List AK}
theorem sc_nil : SC ct X [] (cargs []) := ⟨fun W tk => ⟨_, pa_nil, fun S F H σ ρ Q E ok G => G [] S F H [] Fit.nil .nil E ok⟩⟩
theorem sc_lend (i : Nat) {x : Str} {pos : Pos} (h : SC ct X es (cargs as)) (hN : X.N[i]? = some x := by rfl) (hv : Vis X.env.scope x := by first | exact Or.inl rfl | exact Or.inr (Or.inl rfl) | exact Or.inr (Or.inr rfl)) (hd : (x == ("__debug__" : Str)) = false := by decide)
    (hcd : (x == ("__classdict__" : Str)) = false := by decide) : SC ct X (.Name x pos :: es) (cargs (.lend i :: as)) := by
  refine ⟨fun W tk => ?_⟩
  obtain ⟨t, p, r⟩ := h.run W tk
  refine ⟨_, pa_cons (pv i hN hv hd hcd) p, fun S F H σ ρ Q E ok G => ?_⟩
  unfold cargs at G
  cases q : look ρ i with
  | none => rw [q] at G; exact G.elim
  | some pv =>
    obtain ⟨m, d⟩ := pv
    rw [q] at G
    obtain ⟨v, f, G', h1, _⟩ := E.take q
    refine ⟨v, h1, r S F H σ ρ _ E ok ?_⟩
    refine good_bind G fun a o y S1 F1 H1 f _ t1 hr E1 k1 G => ?_
    exact G (v :: y) S1 F1 H1 f (by rw [thn_none]; exact t1) (.l h1 hr) E1 k1
theorem AvOk.step {K : PySem.W.Frag} {S S' : Addr → Prop} {H H' : Hp} {σ : List (Option V)} {F F' : List Addr} (st : Step S F H S' F' H') (ok : Ok S H F) {xs : List AV} {vs : List V} {f : List Addr} (hf : ∀ b ∈ f, b ∉ F) (h : AvOk K σ S H xs vs f) : AvOk K σ S' H' xs vs f := by
  induction h with
  | nil => exact .nil
  | l a _ ih => exact .l a (ih hf)
  | o a b ih => exact .o (a.step st ok fun b hb => hf b (List.mem_append_left _ hb)) (ih fun b hb => hf b (List.mem_append_right _ hb))
theorem sc_val (ha : SE ct X e ge) (h : SC ct X es (cargs as)) (hs : starEach (e :: es) X.env = (false, eval e X.env) :: starEach es X.env := by rfl) : SC ct X (e :: es) (cargs (.val ge :: as)) := by
  refine ⟨fun W tk => ?_⟩
  obtain ⟨ta, pa, ra⟩ := ha.run W tk
  obtain ⟨t, p, r⟩ := h.run W tk
  refine ⟨_, pa_cons pa p hs, fun S F H σ ρ Q E ok G => ra S F H σ ρ _ E ok ?_⟩
  unfold cargs at G
  refine good_bind G fun x o v S1 F1 H1 f _ t1 h1 E1 k1 G => ?_
  cases q : x.kept with
  | none => rw [q] at G; exact G.elim
  | some pv =>
    rw [q] at G
    obtain ⟨hs, rfl⟩ := kept_some q
    refine r S1 F1 H1 σ _ _ E1 k1.tail ?_
    cases qb : cargs as (now o ρ) with
    | no => rw [qb] at G; exact G
    | ex x ρ1 =>
      rw [qb] at G
      intro C d S2 F2 H2 st E2 k2 hx
      exact G C d S2 F2 H2 ((t1.step.less fun b hb => List.mem_append_right _ hb).trans st) E2 k2 hx
    | ok y o2 =>
      rw [qb] at G
      intro u S2 F2 H2 g t2 h2 E2 k2
      have k3 : Ok S2 H2 ((f ++ g) ++ F2) := Fit.both k1 t2 k2
      refine G (v :: u) S2 F2 H2 (f ++ g) ?_ (.o ((h1.stab hs).step t2.step k1.tail k1.apart) h2) ?_ k3
      · exact t1.thn k1 t2 (fun b hb => by rw [List.mem_append] at hb; exact hb.imp id .inl) (Same.refl _)
      · rw [thn_none, now_thn]
        exact E2
theorem cargs_len {as : List AK} {ρ : Vs.Env} {avs : List AV} {o : Option Vs.Env} (hr : cargs as ρ = .ok avs o) : avs.length = as.length := by
  induction as generalizing ρ avs o with
  | nil =>
    unfold cargs at hr
    cases hr
    rfl
  | cons a as ih =>
    cases a with
    | lend i =>
      unfold cargs at hr
      cases q : look ρ i with
      | none => rw [q] at hr; cases hr
      | some pv =>
        rw [q] at hr
        cases q2 : cargs as ρ with
        | no => rw [q2] at hr; cases hr
        | ex _ _ => rw [q2] at hr; cases hr
        | ok y o2 =>
          rw [q2] at hr
          cases hr
          exact congrArg (· + 1) (ih q2)
    | val e =>
      unfold cargs at hr
      cases q : e ρ with
      | no => rw [q] at hr; cases hr
      | ex _ _ => rw [q] at hr; cases hr
      | ok x o1 =>
        rw [q, R.bind_ok] at hr
        cases q3 : x.kept with
        | none => rw [q3] at hr; cases hr
        | some pv =>
          rw [q3] at hr
          cases q2 : cargs as (now o1 ρ) with
          | no => rw [q2] at hr; cases hr
          | ex _ _ => rw [q2] at hr; cases hr
          | ok y o2 =>
            rw [q2] at hr
            cases hr
            exact congrArg (· + 1) (ih q2)
/-- the parameters' own values -/
def DfOk (K : PySem.W.Frag) : List PV → List V → Prop := Paired fun (pv : PV) (v : V) => pv.2.imm = true ∧ ∀ S H, Rp K S H pv.1 v pv.2 []
theorem AvOk.nils {K : PySem.W.Frag} {S : Addr → Prop} {H : Hp} {σ : List (Option V)} : ∀ {df : List PV} {dvs : List V}, DfOk K df dvs → AvOk K σ S H (df.map .o) dvs []
  | _, _, .nil => .nil
  | _, _, .cons a b => .o (f := []) (g := []) (a.2 _ _) (AvOk.nils b)
theorem AvOk.append {K : PySem.W.Frag} {S : Addr → Prop} {H : Hp} {σ : List (Option V)} {as bs : List AV} {vs ws : List V} {f : List Addr} (h : AvOk K σ S H as vs f) (g : AvOk K σ S H bs ws []) : AvOk K σ S H (as ++ bs) (vs ++ ws) f := by
  induction h with
  | nil => exact g
  | l a _ ih => exact .l a ih
  | o a _ ih => exact .o a ih
theorem EnvRp.cold {K : PySem.W.Frag} {S : Addr → Prop} {H : Hp} : ∀ {vs : List V} {pvs : List PV} {F : List Addr}, EnvRp K S H (vs.map some) (pvs.map some) F → pvs.all PV.cold = true → F = []
  | [], [], _, .nil, _ => rfl
  | v :: vs, (m, d) :: pvs, F, .live r h p, hc => by
    rw [List.all_cons, Bool.and_eq_true] at hc
    obtain rfl := EnvRp.cold h hc.2
    rename_i f
    have : f = [] := by
      have c := hc.1
      unfold PV.cold at c
      rw [Bool.or_eq_true] at c
      rcases c with c | c
      · have : m = 0 := by simpa using c
        subst this
        exact r.own0
      · exact (r.imm c).1
    subst this
    exact List.Perm.eq_nil p
theorem look_putF : ∀ {ρ : Vs.Env} {i j : Nat} {pv : PV}, look (Vs.put ρ i none) j = some pv → look ρ j = some pv
  | [], _, _, _, h => h
  | x :: r, 0, 0, _, h => by cases h
  | x :: r, 0, j + 1, _, h => h
  | x :: r, i + 1, 0, _, h => h
  | x :: r, i + 1, j + 1, _, h => look_putF (ρ := r) h
theorem grab_quiet {K : PySem.W.Frag} {σ : L2.St} {S : Addr → Prop} {H : Hp} {ρ0 : Vs.Env} : ∀ {as : List AV} {vs : List V} {f F : List Addr} {ρ ρ' : Vs.Env} {pvs : List PV}, AvOk K σ S H as vs f → EnvRp K S H σ ρ F → grab as ρ = some (pvs, ρ') → as.all (AV.quiet ρ0) = true → (∀ j pv, look ρ j = some pv → look ρ0 j = some pv) →
    ∃ Fa, EnvRp K S H (vs.map some) (pvs.map some) Fa ∧ Fa.Perm f
  | _, _, _, F, ρ, ρ', pvs, .nil, E, h, _, _ => by
    obtain ⟨rfl, rfl⟩ := Prod.mk.inj (Option.some.inj h)
    exact ⟨[], .nil, .refl _⟩
  | _, _, _, F, ρ, ρ', pvs, .l (i := i) (as := as) (f := f) hv a, E, h, hq, hs => by
    rw [List.all_cons, Bool.and_eq_true] at hq
    unfold grab at h
    cases q : look ρ i with
    | none => rw [q] at h; cases h
    | some pv =>
      obtain ⟨m, d⟩ := pv
      rw [q] at h
      obtain ⟨v', f', G, h1, h2, p, E'⟩ := E.take q
      rw [hv] at h1
      cases h1
      cases q2 : grab as (Vs.put ρ i none) with
      | none => rw [q2] at h; cases h
      | some z =>
        obtain ⟨pvs', ρ2⟩ := z
        rw [q2] at h
        obtain ⟨rfl, rfl⟩ := Prod.mk.inj (Option.some.inj h)
        have hc : PV.cold (m, d) = true := by
          have := hq.1
          replace this : (match look ρ0 i with | some pv => pv.cold | none => false) = true := this
          rw [hs i _ q] at this
          exact this
        have hf : f' = [] := by
          unfold PV.cold at hc
          rw [Bool.or_eq_true] at hc
          rcases hc with c | c
          · have : m = 0 := by simpa using c
            subst this
            exact h2.own0
          · exact (h2.imm c).1
        subst hf
        obtain ⟨Fa, b1, b3⟩ := grab_quiet a E' q2 hq.2 fun j pv hj => hs j pv (look_putF hj)
        exact ⟨Fa, .live h2 b1 (.refl _), b3⟩
  | _, _, _, F, ρ, ρ', pvs, .o (f := f) (as := as) (g := g) r a, E, h, hq, hs => by
    rw [List.all_cons, Bool.and_eq_true] at hq
    unfold grab at h
    cases q2 : grab as ρ with
    | none => rw [q2] at h; cases h
    | some z =>
      obtain ⟨pvs', ρ2⟩ := z
      rw [q2] at h
      obtain ⟨rfl, rfl⟩ := Prod.mk.inj (Option.some.inj h)
      obtain ⟨Fa, b1, b3⟩ := grab_quiet a E q2 hq.2 hs
      exact ⟨f ++ Fa, .live r b1 (.refl _), List.Perm.append_left _ b3⟩
/-- what waits is used up -/
theorem Fit.use {o : Option Vs.Env} {S S1 S2 : Addr → Prop} {F F1 f Fa fr Fo : List Addr} {H H1 H2 : Hp} (t1 : Fit o S F H S1 F1 f H1) (p : Fa.Perm f) (st2 : Step S1 Fa H1 S2 (fr ++ Fo) H2) : Fit o S F H S2 F1 fr H2 := by
  cases o with
  | none =>
    obtain ⟨e, u1, u2, rfl, n⟩ := t1
    have hn : ∀ b, b ∈ Fa ∨ H1 b = none → H b = none := fun b hb => by
      rcases hb with z | z
      · exact n b (p.mem_iff.mp z)
      · cases q : H b with
        | none => rfl
        | some o => rw [e b o q] at z; cases z
    refine ⟨fun b o q => st2.keep b o (e b o q) fun z => ?_, fun b hb => st2.sub b (u1 b hb), fun b hb => (st2.newS b hb).elim (u2 b) fun z => .inr (hn b z), rfl, fun b hb => hn b (st2.newF b (List.mem_append_left _ hb))⟩
    rw [hn b (.inl z)] at q
    cases q
  | some _ =>
    have t1 : Step S F H S1 (f ++ F1) H1 := t1
    exact t1.trans (st2.wide (fun b hb => List.mem_append_left _ (p.mem_iff.mp hb)) fun b hb => (List.mem_append.mp hb).elim (fun z => .inl (List.mem_append_left _ z)) fun z => .inr (List.mem_append_right _ z))
/-- what a call does, once its arguments are there -/
theorem run_call {x : V} {n : Nat} {W : WX} {m : List PV → RF} {df : List PV} {dvs : List V} {t : TA} {S : Addr → Prop} {F : List Addr} {H : Hp} {σ : L2.St} {ρ : Vs.Env} {Q : VK} (hd : DfOk X.K df dvs) (hn : as.length + dvs.length = n)
    (r : ∀ S F H σ ρ Q, EnvRp X.K S H σ ρ F → Ok S H F → Good X.K ct (AvOk X.K σ) W S F H σ ρ (cargs as ρ) Q → t σ H Q) (E : EnvRp X.K S H σ ρ F) (ok : Ok S H F) (G : Good X.K ct (VOk X.K) W S F H σ ρ (call m df as ρ) Q) :
    t σ H fun vs H1 => SpF X.K ct n m (vs ++ dvs) H1 Q fun C d H' => W C d σ H' := by
  refine r S F H σ ρ _ E ok ?_
  unfold call at G
  refine good_bind G fun avs0 o vs0 S1 F1 H1 f hr t1 h0 E1 k1 G => ?_
  have hlen : avs0.length = as.length := cargs_len hr
  have h1 : AvOk X.K σ S1 H1 (avs0 ++ df.map .o) (vs0 ++ dvs) f := h0.append (AvOk.nils hd)
  have hlen2 : (vs0 ++ dvs).length = n := by
    rw [List.length_append, ← h0.len, hlen]
    exact hn
  generalize avs0 ++ df.map .o = avs at h1 G
  generalize vs0 ++ dvs = vs at h1 hlen2 ⊢
  cases q : grab avs (now o ρ) with
  | none => rw [q] at G; exact G.elim
  | some z =>
    obtain ⟨pvs, ρ2⟩ := z
    rw [q] at G
    obtain ⟨Fa, F', b1, b2, b3⟩ := grab_ok h1 E1 q
    by_cases hc : avs.all (AV.quiet (now o ρ)) = true
    · have G : Good X.K ct (VOk X.K) W S F H σ ρ ((if avs.all (AV.quiet (now o ρ)) = true then (m pvs).pure (now o ρ) else (m pvs).fin avs ρ2).aft o) Q := G
      rw [if_pos hc] at G
      obtain ⟨Fq, c1, c2⟩ := grab_quiet h1 E1 q hc fun _ _ z => z
      have kq : Ok S1 H1 (Fq ++ F1) := k1.perm (List.Perm.append_right _ c2.symm)
      have kq' : Ok S1 H1 (F1 ++ Fq) := kq.perm List.perm_append_comm
      refine ⟨S1, Fq, pvs, c1, kq.head, hlen2, ?_⟩
      cases qm : m pvs with
      | no => rw [qm] at G; exact G.elim
      | ok rv out =>
        rw [qm] at G
        intro v S2 H2 Fo fr st2 hv EO k4
        have k5 : Ok S2 H2 (F1 ++ (fr ++ Fo)) := Ok.join st2 kq' k4
        have k6 : Ok S2 H2 (fr ++ F1) := (k5.perm (List.perm_iff_count.mpr fun b => (by simp only [List.count_append]; omega) : (F1 ++ (fr ++ Fo)).Perm (Fo ++ (fr ++ F1)))).tail
        exact G v S2 F1 H2 fr (t1.use c2 st2) (by rw [VOk.own]; exact hv) (E1.step st2 kq.head fun b hb z => kq.apart b z hb) k6
      | ex ee out =>
        rw [qm] at G
        intro C d S2 H2 Fo st2 EO k4 hx
        have k5 : Ok S2 H2 (F1 ++ Fo) := Ok.join st2 kq' k4
        have st3 : Step S1 (f ++ F1) H1 S2 F1 H2 := st2.wide (fun b hb => List.mem_append_left _ (c2.mem_iff.mp hb)) fun b hb => .inr (List.mem_append_right _ hb)
        exact G C d S2 F1 H2 (t1.step.trans st3) (E1.step st2 kq.head fun b hb z => kq.apart b z hb) k5.head hx
    replace G : Good X.K ct (VOk X.K) W S F H σ ρ ((if avs.all (AV.quiet (now o ρ)) = true then (m pvs).pure (now o ρ) else (m pvs).fin avs ρ2).aft o) Q := G
    rw [if_neg hc] at G
    have k2 : Ok S1 H1 (Fa ++ F') := k1.perm b3
    have k2' : Ok S1 H1 (F' ++ Fa) := k2.perm List.perm_append_comm
    refine ⟨S1, Fa, pvs, b1, k2.head, hlen2, ?_⟩
    have st0 : Step S F H S1 (Fa ++ F') H1 := t1.step.less fun b hb => b3.mem_iff.mpr hb
    cases qm : m pvs with
    | no => rw [qm] at G; exact G.elim
    | ok rv out =>
      rw [qm] at G
      intro v S2 H2 Fo fr st2 hv EO k4
      have E3 : EnvRp X.K S2 H2 σ ρ2 F' := b2.step st2 k2.head fun b hb z => k2.apart b z hb
      obtain ⟨G2, F2, p, E4⟩ := back_ok h1 EO E3
      have k5 : Ok S2 H2 (F' ++ (fr ++ Fo)) := Ok.join st2 k2' k4
      have p6 : (F' ++ (fr ++ Fo)).Perm (G2 ++ (fr ++ F2)) := by
        refine List.perm_append_comm.trans ?_
        rw [List.append_assoc]
        exact (List.Perm.append_left _ p).trans perm_mid
      have st3 : Step S1 (Fa ++ F') H1 S2 (fr ++ F2) H2 := st2.wide (fun b hb => List.mem_append_left _ hb) fun b hb => by
        have := p6.mem_iff.mpr (List.mem_append_right G2 hb)
        rcases List.mem_append.mp this with z | z
        · exact .inr (List.mem_append_right _ z)
        · exact .inl z
      exact G v S2 F2 H2 fr (st0.trans st3) (by rw [VOk.own]; exact hv) E4 (k5.perm p6).tail
    | ex ee out =>
      rw [qm] at G
      intro C d S2 H2 Fo st2 EO k4 hx
      have E3 : EnvRp X.K S2 H2 σ ρ2 F' := b2.step st2 k2.head fun b hb z => k2.apart b z hb
      obtain ⟨G2, F2, p, E4⟩ := back_ok h1 EO E3
      have k5 : Ok S2 H2 (F' ++ Fo) := Ok.join st2 k2' k4
      have p6 : (F' ++ Fo).Perm (G2 ++ F2) := List.perm_append_comm.trans p
      have st3 : Step S1 (Fa ++ F') H1 S2 F2 H2 := st2.wide (fun b hb => List.mem_append_left _ hb) fun b hb => by
        have := p6.mem_iff.mpr (List.mem_append_right G2 hb)
        rcases List.mem_append.mp this with z | z
        · exact .inr (List.mem_append_right _ z)
        · exact .inl z
      exact G C d S2 F2 H2 (st0.trans st3) E4 (k5.perm p6).tail hx
end
section
variable {ct : Str → Addr} {X : Cx} {W : WX} {k : Nat} {f : Addr} {fd : FuncData} {ps : List Str} {m : List PV → RF} {as : List AK} {df : List PV} {dvs : List V} {ds : List Value}
theorem s_call {x : Str} {p pos : Pos} {e : Expr} {es : List Expr} (F : Fn X.prog X.w X.K X.mg X.base ct k f fd ps m) (hgd : X.A.guards = some []) (hr : Room k X.A) (hg : Gl X x) (hm : X.mg x = some (.ref f)) (hk : PySem.W.keepIn X.K (.ref f) = true) (hb : Binds X.K fd ps ds) (hdv : Vals dvs ds) (hd : DfOk X.K df dvs)
    (ha : SC ct X (e :: es) (cargs as)) (hn : as.length + dvs.length = ps.length) (hdb : (x == ("__debug__" : Str)) = false := by decide) (he : starEach (e :: es) X.env = (false, eval e X.env) :: starEach es X.env := by rfl) (hpl : (backTo pos (starEach es X.env)).any (·.1) = false := by rfl) :
    SE ct X (.Call (.Name x p) (e :: es) [] pos) (call m df as) := by
  refine ⟨fun W tk => ?_⟩
  obtain ⟨t, pa, r⟩ := ha.run W tk
  refine ⟨fun σ H Q => t σ H fun vs H1 => SpF X.K ct ps.length m (vs ++ dvs) H1 Q fun C d H' => W C d σ H', ⟨fun pins s σ H Q I h => ?_⟩, fun S F H σ ρ Q E ok G => run_call (x := .non) hd hn r E ok G⟩
  refine wpAny_Call_Name_kw (ld_glob I hg hm ?_ hdb)
  refine PySem.W.callWith_K (h₀ := X.base) I.ok.mod.kin hk (L2.thn (pa.run pos pins s σ H _ I h) fun us s1 ⟨vs, H1, I1, rv, q⟩ => ⟨I1.kIn, ?_⟩) he hpl
  have hl : (us ++ ds).length = ps.length := by
    obtain ⟨_, _, _, _, _, z, _⟩ := q
    rw [List.length_append, ← rv.length, ← hdv.length, ← List.length_append, z]
  refine wpAny_call (codeAny_mono (F.run X.A X.stack s1 H1 ⟨us, []⟩ (us ++ ds) (vs ++ dvs) Q _ hgd hr I1.env0 (hb s1 us I1.kIn hl) (rv.append hdv) q) fun rr s' hq => ?_)
  cases rr with
  | error e => exact L2N.passAt tk σ pins H1 s1 e s' I1 hq
  | ok fl =>
    cases fl with
    | ret u => exact I1.after hq
    | next => exact False.elim hq
    | brk => exact False.elim hq
    | cont => exact False.elim hq
end
end Vs
set_option maxHeartbeats 4000000
/-! Vs: operators. -/
namespace Vs
open PySem PySem.Spec PyProof.Rows L2
theorem lim_eq : lim = sizeLine := by rw [sizeLine_eq]; rfl
/-- either rule -/
theorem OpR.or {X : Cx} {f : Value → Value → Sem Value} {r r' : R2} (h : OpR X f r) (h' : OpR X f r') : OpR X f (fun x y H Q => r x y H Q ∨ r' x y H Q) :=
  fun pins s σ H x y v u Q I rx ry q => q.elim (h pins s σ H x y v u Q I rx ry) (h' pins s σ H x y v u Q I rx ry)
section
variable {K : PySem.W.Frag} {S S' : Addr → Prop} {H : Hp} {f g : List Addr} {Q : VK}
theorem Ok.nil (ok : Ok S H f) : Ok S H [] := ok.sub (List.nil_sublist _)
/-- a value without a place is handed back -/
theorem ret_imm {b : Bool} {m : Nat} {d : D} {v : V} (ok : Ok S H f) (i : d.imm = true) (r : Rp K S H m v d []) (hQ : ∀ w H' S' h, Grow S H f S' h H' → VOk K S' H' ⟨b, m, d⟩ w h → Ok S' H' h → Q w H') : Q v H :=
  hQ v H S [] Grow.refl (.of_rp (by simp [VV.stable, i]) r) ok.nil
/-- a new list, a new tuple -/
theorem new_grow {p : Addr} {o : HO} {h : List Addr} (ok : Ok S H f) (hp : H p = none) (u1 : ∀ b, S b → S' b) (u2 : ∀ b, S' b → S b ∨ b ∈ f) (hh : ∀ b ∈ h, b ∈ f ∨ b = p) : Grow S H f S' h (upd H p o) :=
  ⟨same_upd hp, u1, fun b hb => (u2 b hb).imp id .inl, fun b hb => (hh b hb).imp id fun z => by rw [z]; exact hp⟩
theorem new_ok {p : Addr} {o : HO} (ok' : Ok S' H g) (hp : H p = none) : Ok S' (upd H p o) g := ok'.same (same_upd hp)
theorem new_okp {p : Addr} {o : HO} (ok' : Ok S' H g) (hp : H p = none) (hm : Mut (some o)) : Ok S' (upd H p o) (p :: g) := by
  have k := new_ok (o := o) ok' hp
  refine ⟨List.nodup_cons.mpr ⟨fun z => ok'.mem z hp, k.nd⟩, fun b hb => ?_, fun b hb => ?_, k.tr⟩
  · rcases List.mem_cons.mp hb with rfl | z
    · rw [upd_same]; exact hm
    · exact k.mu b z
  · rcases List.mem_cons.mp hb with rfl | z
    · exact fun q => ok'.tr b q hp
    · exact k.ns b z
theorem ret_lst {m : Nat} {xs : List V} {ds : List D} (ok : Ok S H f) (u1 : ∀ b, S b → S' b) (u2 : ∀ b, S' b → S b ∨ b ∈ f) (ok' : Ok S' H g) (hg : ∀ b ∈ g, b ∈ f) (r : RpAll K S' H m xs ds g)
    (hQ : ∀ w H' S' h, Grow S H f S' h H' → VOk K S' H' ⟨false, m + 1, .lst ds⟩ w h → Ok S' H' h → Q w H') (p : Addr) (hp : H p = none) : Q (.ref p) (upd H p (.lst xs)) :=
  hQ _ _ S' (p :: g) (new_grow ok hp u1 u2 fun b hb => (List.mem_cons.mp hb).elim .inr fun z => .inl (hg b z)) (by rw [VOk.own]; exact .lst1 upd_same (r.same (same_upd hp))) (new_okp ok' hp trivial)
theorem ret_tup {m : Nat} {xs : List V} {ds : List D} (ok : Ok S H f) (u1 : ∀ b, S b → S' b) (u2 : ∀ b, S' b → S b ∨ b ∈ f) (ok' : Ok S' H g) (hg : ∀ b ∈ g, b ∈ f) (r : RpAll K S' H m xs ds g)
    (hQ : ∀ w H' S' h, Grow S H f S' h H' → VOk K S' H' ⟨false, m + 1, .tup ds⟩ w h → Ok S' H' h → Q w H') (p : Addr) (hp : H p = none) : Q (.ref p) (upd H p (.tup xs)) :=
  hQ _ _ S' g (new_grow ok hp u1 u2 fun b hb => .inl (hg b hb)) (by rw [VOk.own]; exact .tup1 upd_same (r.same (same_upd hp))) (new_ok ok' hp)
/-- a list whose items may be kept elsewhere -/
theorem opn {F : List Addr} {b : Bool} {m : Nat} {ds : List D} {v : V} (h : VOk K S H ⟨b, m, .lst ds⟩ v f) (ok : Ok S H (f ++ F)) (ho : VV.open ⟨b, m, .lst ds⟩) :
    ∃ a xs S', v = .ref a ∧ SqL K H a xs ∧ (∀ b, S b → S' b) ∧ (∀ b, S' b → S b ∨ b ∈ f) ∧ RpAll K S' H 0 xs ds [] ∧ Ok S' H F := by
  by_cases hb : b = false ∨ m = 0
  · obtain ⟨S', u1, u2, r, k⟩ := froze' h ok hb
    obtain ⟨a, xs, rfl, q1, q2⟩ := r.lst0'
    exact ⟨a, xs, S', rfl, q2 _ _ Later.refl, u1, u2, q1, k⟩
  · obtain ⟨rfl, rfl⟩ : b = true ∧ m = 1 := by
      have ho : b = false ∨ m ≤ 1 := ho
      cases b with
      | false => exact absurd (.inl rfl) hb
      | true =>
        have : ¬ m = 0 := fun z => hb (.inr z)
        rcases ho with z | z
        · cases z
        · exact ⟨rfl, by omega⟩
    rw [VOk.bor] at h
    obtain ⟨rfl, g, h⟩ := h
    obtain ⟨a, xs, g', rfl, r1, r2, _⟩ := h.lst
    obtain rfl := r2.own0
    exact ⟨a, xs, S, rfl, r1, fun _ z => z, fun _ => .inl, r2, ok⟩
theorem opnT {F : List Addr} {b : Bool} {m : Nat} {ds : List D} {v : V} (h : VOk K S H ⟨b, m, .tup ds⟩ v f) (ok : Ok S H (f ++ F)) (ho : VV.open ⟨b, m, .tup ds⟩) :
    ∃ a xs S', v = .ref a ∧ SqT K H a xs ∧ (∀ b, S b → S' b) ∧ (∀ b, S' b → S b ∨ b ∈ f) ∧ RpAll K S' H 0 xs ds [] ∧ Ok S' H F := by
  by_cases hb : b = false ∨ m = 0
  · obtain ⟨S', u1, u2, r, k⟩ := froze' h ok hb
    obtain ⟨a, xs, rfl, q1, q2⟩ := r.tup0'
    exact ⟨a, xs, S', rfl, q2 _ _ Later.refl, u1, u2, q1, k⟩
  · obtain ⟨rfl, rfl⟩ : b = true ∧ m = 1 := by
      have ho : b = false ∨ m ≤ 1 := ho
      cases b with
      | false => exact absurd (.inl rfl) hb
      | true =>
        have : ¬ m = 0 := fun z => hb (.inr z)
        rcases ho with z | z
        · cases z
        · exact ⟨rfl, by omega⟩
    rw [VOk.bor] at h
    obtain ⟨rfl, g, h⟩ := h
    obtain ⟨a, xs, rfl, r1, r2⟩ := h.tup
    obtain rfl := r2.own0
    exact ⟨a, xs, S, rfl, r1, fun _ z => z, fun _ => .inl, r2, ok⟩
theorem VOk.int {x : VV} {i : Int} {v : V} (h : VOk K S H x v f) (e : x.d = .int i) : v = .int i := by
  obtain ⟨g, h⟩ := h.rp
  rw [e] at h
  exact h.vint
theorem VOk.str {x : VV} {i : Str} {v : V} (h : VOk K S H x v f) (e : x.d = .str i) : v = .str i := by
  obtain ⟨g, h⟩ := h.rp
  rw [e] at h
  exact h.vstr
theorem VOk.bl {x : VV} {i : Bool} {v : V} (h : VOk K S H x v f) (e : x.d = .bl i) : v = .bl i := by
  obtain ⟨g, h⟩ := h.rp
  rw [e] at h
  exact h.vbl
end

/-! ### ints -/
section
variable {X : Cx} {K : PySem.W.Frag}
/-- a rule of two ints -/
theorem op2_int {C : Int → Int → Prop} {φ : Int → Int → V} {k : VV → VV → Option VV} (hk : ∀ x y z, k x y = some z → ∃ i j, x.d = .int i ∧ y.d = .int j ∧ C i j ∧ z.d.imm = true ∧ ∀ S H, Rp K S H z.m (φ i j) z.d []) :
    Op2 K (rI C φ) k := fun S H x v f y u g z Q h1 h2 ok e hQ => by
  obtain ⟨i, j, e1, e2, c, im, r⟩ := hk x y z e
  exact ⟨i, j, h1.int e1, h2.int e2, c, ret_imm ok im (r S H) hQ⟩
theorem op2_int0 {φ : Int → Int → V} {k : VV → VV → Option VV} (hk : ∀ x y z, k x y = some z → ∃ i j, x.d = .int i ∧ y.d = .int j ∧ z.d.imm = true ∧ ∀ S H, Rp K S H z.m (φ i j) z.d []) :
    Op2 K (rI0 φ) k := fun S H x v f y u g z Q h1 h2 ok e hQ => by
  obtain ⟨i, j, e1, e2, im, r⟩ := hk x y z e
  exact ⟨i, j, h1.int e1, h2.int e2, ret_imm ok im (r S H) hQ⟩
theorem kCmp_op {φ : Int → Int → Bool} : Op2 K (rI0 fun i j => .bl (φ i j)) (kCmp φ) := op2_int0 fun x y z e => by
  unfold kCmp at e
  split at e
  · rename_i i j h1 h2
    obtain rfl := Option.some.inj e
    exact ⟨i, j, h1, h2, rfl, fun _ _ => .bl _ _⟩
  · cases e
theorem kSub_op : Op2 K (rI0 fun i j => .int (i - j)) kSub := op2_int0 fun x y z e => by
  unfold kSub at e
  split at e
  · rename_i i j h1 h2
    obtain rfl := Option.some.inj e
    exact ⟨i, j, h1, h2, rfl, fun _ _ => .int _ _⟩
  · cases e
theorem kMod_op : Op2 K (rI (fun _ j => 0 < j) fun i j => .int (i % j)) kMod := op2_int fun x y z e => by
  unfold kMod at e
  split at e
  · rename_i i j h1 h2
    split at e
    · rename_i c
      obtain rfl := Option.some.inj e
      exact ⟨i, j, h1, h2, c, rfl, fun _ _ => .int _ _⟩
    · cases e
  · cases e
theorem big_pos : (0 : Nat) < 4000 := by decide
theorem kDiv_op : Op2 K (rI CDivW fun i j => .int (i / j)) kDiv := op2_int fun x y z e => by
  unfold kDiv at e
  split at e
  · rename_i i j h1 h2
    split at e
    · rename_i c
      obtain rfl := Option.some.inj e
      exact ⟨i, j, h1, h2, wide_div c.1 (by have := c.2; rw [big_eq] at this; exact this) big_pos (by decide), rfl, fun _ _ => .int _ _⟩
    · cases e
  · cases e
/-- a power of great ints -/
theorem bits_big {i : Int} (h : i.natAbs < big) : Builtin.Int.intBits i ≤ 4000 := by
  unfold Builtin.Int.intBits
  split
  · omega
  · exact PySem.Flt.log2_lt_of big_pos (by rw [big_eq] at h; exact h)
theorem op_powB : OpR X (binaryOp .Pow) (rI (fun i j => i.natAbs < big ∧ 0 ≤ j ∧ j ≤ 100) fun i j => .int (i ^ j.toNat)) := opI fun i j t u s Q E hc q => by
  have hb := bits_big hc.1
  refine pow_int hc.2.1 ?_ q
  have h1 : (Builtin.Int.intBits i : Int) * j ≤ 4000 * j := Int.mul_le_mul_of_nonneg_right (by omega) hc.2.1
  have := hc.2.2
  omega
theorem kPow_op : Op2 K (rI (fun i j => i.natAbs < big ∧ 0 ≤ j ∧ j ≤ 100) fun i j => .int (i ^ j.toNat)) kPow := op2_int fun x y z e => by
  unfold kPow at e
  split at e
  · rename_i i j h1 h2
    split at e
    · rename_i c
      obtain rfl := Option.some.inj e
      exact ⟨i, j, h1, h2, c, rfl, fun _ _ => .int _ _⟩
    · cases e
  · cases e
end

/-! ### +, *, lists -/
section
variable {X : Cx} {K : PySem.W.Frag}
/-- list + list, whatever lists -/
def rCatL (K : PySem.W.Frag) : R2 := fun x y H Q => ∃ a b xs ys, x = .ref a ∧ y = .ref b ∧ SqL K H a xs ∧ SqL K H b ys ∧ xs.length + ys.length ≤ sizeLine ∧ ∀ p, H p = none → Q (.ref p) (upd H p (.lst (xs ++ ys)))
theorem op_catL : OpR X (binaryOp .Add) (rCatL X.K) := by
  intro pins s σ H x y v u Q I rx ry h
  obtain ⟨a, b, xs, ys, rfl, rfl, h1, h2, hz, q⟩ := h
  cases rx
  cases ry
  obtain ⟨as, ra, pa, _⟩ := I.list h1
  obtain ⟨bs, rb, pb, _⟩ := I.list h2
  obtain ⟨⟨c1, d1, t1, l1⟩, g1, m1, n1, e1⟩ := pa.isList
  obtain ⟨⟨c2, d2, t2, l2⟩, g2, m2, n2, e2⟩ := pb.isList
  simp only at m1 e1 m2 e2
  subst m1 e1 m2 e2
  have hs : as.length + bs.length ≤ sizeLine := by rw [← ra.length, ← rb.length]; exact hz
  refine concat_meets ⟨_, g1, rfl⟩ ⟨_, g2, rfl⟩ noFill_list_add seq_list_add PySem.F.slot_list_add PySem.F.entry_list_add (PySem.F.args_list_add_2 _ _) (list_addW a b as.toArray bs.toArray n1 n2 d1 d2 l1 l2 (by simpa using hs)) ⟨g1, g2, ?_⟩
  rw [show as.toArray ++ bs.toArray = (as ++ bs).toArray by simp]
  exact ⟨.ref _, _, I.lnew (t' := s.toks) (ra.append rb) (by rw [List.length_append]; omega), rfl, q _ I.fresh⟩
def rAdd3 (K : PySem.W.Frag) : R2 := fun x y H Q => rI0 (fun i j => .int (i + j)) x y H Q ∨ (∃ i j, x = .str i ∧ y = .str j ∧ i.length + j.length ≤ sizeLine ∧ Q (.str (i ++ j)) H) ∨ rCatL K x y H Q
theorem op_add3 : OpR X (binaryOp .Add) (rAdd3 X.K) := OpR.or op_add (OpR.or op_add_str op_catL)
theorem kAdd_op : Op2 K (rAdd3 K) kAdd := fun S H x v f y u g z Q h1 h2 ok e hQ => by
  unfold kAdd at e
  split at e
  · rename_i i j e1 e2
    obtain rfl := Option.some.inj e
    exact .inl ⟨i, j, h1.int e1, h2.int e2, ret_imm ok rfl (.int _ _) hQ⟩
  · rename_i i j e1 e2
    split at e
    · rename_i c
      obtain rfl := Option.some.inj e
      rw [lim_eq] at c
      exact .inr (.inl ⟨i, j, h1.str e1, h2.str e2, c, ret_imm ok rfl (.str _ _) hQ⟩)
    · cases e
  · rename_i l k e1 e2
    split at e
    · rename_i c
      obtain rfl := Option.some.inj e
      obtain ⟨b1, m1, d1⟩ := x
      obtain ⟨b2, m2, d2⟩ := y
      obtain rfl : d1 = .lst l := e1
      obtain rfl : d2 = .lst k := e2
      obtain ⟨a, xs, S1, rfl, q1, u1, u2, r1, k1⟩ := opn h1 ok c.1
      have k1' : Ok S1 H (g ++ []) := by rw [List.append_nil]; exact k1
      obtain ⟨a', ys, S2, rfl, q2, w1, w2, r2, k2⟩ := opn (h2.more u1) k1' c.2.1
      refine .inr (.inr ⟨a, a', xs, ys, rfl, rfl, q1, q2, ?_, fun p hp => ?_⟩)
      · rw [r1.length, r2.length, ← lim_eq]
        exact c.2.2
      · refine ret_lst ok (fun b hb => w1 b (u1 b hb)) (fun b hb => ?_) k2 (by simp) (RpAll.append (r1.more w1) r2) hQ p hp
        rcases w2 b hb with z | z
        · exact (u2 b z).imp id (List.mem_append_left _)
        · exact .inr (List.mem_append_right _ z)
    · cases e
  · cases e
/-- list * int, whatever list -/
def rRepL' (K : PySem.W.Frag) : R2 := fun x y H Q => ∃ a k xs, x = .ref a ∧ y = .int k ∧ H a = some (.lst xs) ∧ -(2 ^ 63) ≤ k ∧ k < 2 ^ 63 ∧ xs.length * k.toNat ≤ sizeLine ∧ ∀ p, H p = none → Q (.ref p) (upd H p (.lst (List.replicate k.toNat xs).flatten))
def rMul2 : R2 := fun x y H Q => rI CMulX (fun i j => .int (i * j)) x y H Q ∨ (rI CMul (fun i j => .int (i * j)) x y H Q ∨ rRep x y H Q)
theorem op_mul2 : OpR X (binaryOp .Mult) rMul2 := OpR.or op_mulX (OpR.or op_mul op_rep)
theorem RpAll.rep {S : Addr → Prop} {H : Hp} {xs : List V} {ds : List D} (h : RpAll K S H 0 xs ds []) : ∀ n, RpAll K S H 0 (List.replicate n xs).flatten (List.replicate n ds).flatten []
  | 0 => .nil _
  | n + 1 => by
    rw [List.replicate_succ, List.replicate_succ, List.flatten_cons, List.flatten_cons]
    exact RpAll.append (f := []) (g := []) h (RpAll.rep h n)
theorem kMul_op : Op2 K rMul2 kMul := fun S H x v f y u g z Q h1 h2 ok e hQ => by
  unfold kMul at e
  split at e
  · rename_i i j e1 e2
    split at e
    · rename_i c
      obtain rfl := Option.some.inj e
      rw [big_eq] at c
      rcases c with c | c
      · exact .inl ⟨i, j, h1.int e1, h2.int e2, mulx_ok c.1 c.2 (by decide), ret_imm ok rfl (.int _ _) hQ⟩
      · exact .inr (.inl ⟨i, j, h1.int e1, h2.int e2, .inr ⟨by omega, by omega⟩, ret_imm ok rfl (.int _ _) hQ⟩)
    · cases e
  · rename_i l k e1 e2
    split at e
    · rename_i c
      obtain rfl := Option.some.inj e
      obtain ⟨b1, m1, d1⟩ := x
      obtain rfl : d1 = .lst l := e1
      have hk := h2.int e2
      obtain ⟨hb, c⟩ := c
      obtain rfl : b1 = false := hb.1
      rw [VOk.own] at h1
      obtain ⟨a, xs, g', rfl, q1, r1, q2, q3⟩ := h1.lst
      have hm : m1 ≠ 0 := fun z => by
        have h0 : 0 < m1 := hb.2
        omega
      obtain ⟨q4, rfl⟩ := q3 hm
      obtain ⟨f0, f1, p, r2⟩ := r1.thin 0
      rw [Nat.min_zero] at r2
      obtain rfl := r2.own0
      rw [List.nil_append] at p
      have okf : Ok S H (f1 ++ g) := by
        have : Ok S H (a :: (g' ++ g)) := ok
        have : Ok S H (g' ++ g) := this.sub (List.sublist_cons_self _ _)
        exact this.perm (List.Perm.append_right _ p)
      refine .inr (.inr ⟨a, k, xs, rfl, hk, q4, c.1, c.2.1, by rw [r1.length, ← lim_eq]; exact c.2.2, fun pp hp => ?_⟩)
      refine ret_lst (S' := fun b => S b ∨ b ∈ f1) (g := []) ok (fun b => Or.inl) (fun b hb => hb.imp id fun z => ?_) ⟨.nil, by simp, by simp, fun b hb => hb.elim (ok.tr b) fun z => okf.mem (List.mem_append_left _ z)⟩ (by simp) (RpAll.rep r2 _) hQ pp hp
      exact List.mem_append_left _ (List.mem_cons_of_mem _ (p.mem_iff.mpr z))
    · cases e
  · cases e

/-! ### ==, in, is -/
theorem shp_flat {d : D} (h : d.shp = true) : d.flat = true ∧ SeqAt.shaped d.py = true := by
  unfold D.shp at h
  rwa [Bool.and_eq_true] at h
theorem VOk.dp {S : Addr → Prop} {H : Hp} {x : VV} {v : V} {f : List Addr} (h : VOk K S H x v f) (s : x.d.shp = true) : Dp K H v x.d.py := by
  obtain ⟨g, h⟩ := h.rp
  exact h.dp (shp_flat s).1
def rEqS (K : PySem.W.Frag) : R2 := fun x y H Q => (∃ a b : Str, x = .str a ∧ y = .str b ∧ Q (.bl (decide (a = b))) H) ∨ rEqD K x y H Q
def rNeS (K : PySem.W.Frag) : R2 := fun x y H Q => (∃ a b : Str, x = .str a ∧ y = .str b ∧ Q (.bl (!decide (a = b))) H) ∨ rNeD K x y H Q
theorem dec_strV {a b : Str} : decide (V.str a = V.str b) = decide (a = b) := by
  rw [Bool.eq_iff_iff]
  simp
theorem op_eqS {X : Cx} (hu : X.A.units + 65 < cLine) : OpR X (compareOp .Eq) (rEqS X.K) := OpR.or (fun pins s σ H x y v u Q I rx ry h => by
  obtain ⟨a, b, rfl, rfl, q⟩ := h
  exact op_eq pins s σ H _ _ v u Q I rx ry ⟨rfl, by rw [dec_strV]; exact q⟩) (op_eqD (by omega))
theorem op_neS {X : Cx} (hu : X.A.units + 65 < cLine) : OpR X (compareOp .NotEq) (rNeS X.K) := OpR.or (fun pins s σ H x y v u Q I rx ry h => by
  obtain ⟨a, b, rfl, rfl, q⟩ := h
  exact op_ne pins s σ H _ _ v u Q I rx ry ⟨rfl, by rw [dec_strV]; exact q⟩) (op_neD (by omega))
theorem strs2_some {x y : D} {b : Bool} (h : strs2 x y = some b) : ∃ s t : Str, x = .str s ∧ y = .str t ∧ b = decide (s = t) := by
  unfold strs2 at h
  split at h
  · exact ⟨_, _, rfl, rfl, (Option.some.inj h).symm⟩
  · cases h
theorem kEq_op : Op2 K (rEqS K) kEq := fun S H x v f y u g z Q h1 h2 ok e hQ => by
  unfold kEq at e
  split at e
  · rename_i b q
    obtain ⟨s, t, e1, e2, rfl⟩ := strs2_some q
    obtain rfl := Option.some.inj e
    exact .inl ⟨s, t, h1.str e1, h2.str e2, ret_imm ok rfl (.bl _ _) hQ⟩
  · split at e
    · rename_i c
      obtain rfl := Option.some.inj e
      exact .inr ⟨_, _, h1.dp c.1, h2.dp c.2, (shp_flat c.1).2, (shp_flat c.2).2, ret_imm ok rfl (.bl _ _) hQ⟩
    · cases e
theorem kNe_op : Op2 K (rNeS K) kNe := fun S H x v f y u g z Q h1 h2 ok e hQ => by
  unfold kNe at e
  split at e
  · rename_i b q
    obtain ⟨s, t, e1, e2, rfl⟩ := strs2_some q
    obtain rfl := Option.some.inj e
    exact .inl ⟨s, t, h1.str e1, h2.str e2, ret_imm ok rfl (.bl _ _) hQ⟩
  · split at e
    · rename_i c
      obtain rfl := Option.some.inj e
      exact .inr ⟨_, _, h1.dp c.1, h2.dp c.2, (shp_flat c.1).2, (shp_flat c.2).2, ret_imm ok rfl (.bl _ _) hQ⟩
    · cases e
theorem pyAll_eq : ∀ l : List D, pyAll l = l.map D.py
  | [] => rfl
  | d :: ds => by rw [pyAll, pyAll_eq ds, List.map_cons]
/-- in, a tuple -/
def rInT (K : PySem.W.Frag) : R2 := fun x y H Q => ∃ d ds, Dp K H x d ∧ Dp K H y (.tuple ds) ∧ SeqAt.shaped d = true ∧ SeqAt.shaped (.tuple ds) = true ∧ Q (.bl (ds.any fun z => PyData.eqv z d)) H
def rNotInT (K : PySem.W.Frag) : R2 := fun x y H Q => ∃ d ds, Dp K H x d ∧ Dp K H y (.tuple ds) ∧ SeqAt.shaped d = true ∧ SeqAt.shaped (.tuple ds) = true ∧ Q (.bl (!ds.any fun z => PyData.eqv z d)) H
theorem room_in' {A : Around} {d : PyData} {k : Nat} (hd : SeqAt.shaped d = true) (hu : A.units + 65 < cLine) : A.units + 1 + min k d.depth < cLine := by
  have := SeqAt.depth_of_shaped hd
  omega
theorem op_inT (hu : X.A.units + 65 < cLine) : OpR X (compareOp .In) (rInT X.K) := fun pins s σ H x y v u Q I rx ry h => by
  obtain ⟨d, ds, hd, he, sd, se, q⟩ := h
  obtain ⟨as, r1⟩ := Dp.reads I d x v hd rx
  obtain ⟨bs, r2⟩ := Dp.reads I (.tuple ds) y u he ry
  exact SeqAt.in_tuple_reads r2 r1 (SeqAt.canLay_of_shaped se) (SeqAt.canLay_of_shaped sd) (room_in' sd hu) ⟨.bl _, H, I, rfl, q⟩
theorem op_notInT (hu : X.A.units + 65 < cLine) : OpR X (compareOp .NotIn) (rNotInT X.K) := fun pins s σ H x y v u Q I rx ry h => by
  obtain ⟨d, ds, hd, he, sd, se, q⟩ := h
  obtain ⟨as, r1⟩ := Dp.reads I d x v hd rx
  obtain ⟨bs, r2⟩ := Dp.reads I (.tuple ds) y u he ry
  exact SeqAt.notIn_tuple_reads r2 r1 (SeqAt.canLay_of_shaped se) (SeqAt.canLay_of_shaped sd) (room_in' sd hu) ⟨.bl _, H, I, rfl, q⟩
def rIn2 (K : PySem.W.Frag) : R2 := fun x y H Q => rInD K x y H Q ∨ rInT K x y H Q
def rNotIn2 (K : PySem.W.Frag) : R2 := fun x y H Q => rNotInD K x y H Q ∨ rNotInT K x y H Q
theorem op_in2 (hu : X.A.units + 65 < cLine) : OpR X (compareOp .In) (rIn2 X.K) := OpR.or (op_inD hu) (op_inT hu)
theorem op_notIn2 (hu : X.A.units + 65 < cLine) : OpR X (compareOp .NotIn) (rNotIn2 X.K) := OpR.or (op_notInD hu) (op_notInT hu)
theorem kIn_op : Op2 K (rIn2 K) kIn := fun S H x v f y u g z Q h1 h2 ok e hQ => by
  unfold kIn at e
  split at e
  · rename_i l el
    split at e
    · rename_i c
      obtain rfl := Option.some.inj e
      have q := h2.dp c.2
      have s := (shp_flat c.2).2
      rw [el, D.py, pyAll_eq] at q s
      refine .inr ⟨_, _, h1.dp c.1, q, (shp_flat c.1).2, s, ?_⟩
      rw [List.any_map]
      exact ret_imm ok rfl (.bl _ _) hQ
    · cases e
  · rename_i l el
    split at e
    · rename_i c
      obtain rfl := Option.some.inj e
      have q := h2.dp c.2
      have s := (shp_flat c.2).2
      rw [el, D.py, pyAll_eq] at q s
      refine .inl ⟨_, _, h1.dp c.1, q, (shp_flat c.1).2, s, ?_⟩
      rw [List.any_map]
      exact ret_imm ok rfl (.bl _ _) hQ
    · cases e
  · cases e
theorem kNotIn_op : Op2 K (rNotIn2 K) kNotIn := fun S H x v f y u g z Q h1 h2 ok e hQ => by
  unfold kNotIn at e
  split at e
  · rename_i l el
    split at e
    · rename_i c
      obtain rfl := Option.some.inj e
      have q := h2.dp c.2
      have s := (shp_flat c.2).2
      rw [el, D.py, pyAll_eq] at q s
      refine .inr ⟨_, _, h1.dp c.1, q, (shp_flat c.1).2, s, ?_⟩
      rw [List.any_map]
      exact ret_imm ok rfl (.bl _ _) hQ
    · cases e
  · rename_i l el
    split at e
    · rename_i c
      obtain rfl := Option.some.inj e
      have q := h2.dp c.2
      have s := (shp_flat c.2).2
      rw [el, D.py, pyAll_eq] at q s
      refine .inl ⟨_, _, h1.dp c.1, q, (shp_flat c.1).2, s, ?_⟩
      rw [List.any_map]
      exact ret_imm ok rfl (.bl _ _) hQ
    · cases e
  · cases e
def rIs2 : R2 := fun x y H Q => (y = .non ∧ Q (.bl (decide (x = .non))) H) ∨ rIsB x y H Q
def rIsNot2 : R2 := fun x y H Q => (y = .non ∧ Q (.bl (!decide (x = .non))) H) ∨ rNotB x y H Q
theorem op_is2 : OpR X (compareOp .Is) rIs2 := OpR.or op_isN op_isBl
theorem op_isNot2 : OpR X (compareOp .IsNot) rIsNot2 := OpR.or op_notN op_notBl
theorem isNon_ok {S : Addr → Prop} {H : Hp} {x : VV} {v : V} {f : List Addr} (h : VOk K S H x v f) : decide (v = .non) = x.d.isNon := by
  obtain ⟨g, h⟩ := h.rp
  generalize x.d = d at h ⊢
  generalize x.m = m at h
  cases h <;> rfl
theorem VOk.non {S : Addr → Prop} {H : Hp} {x : VV} {v : V} {f : List Addr} (h : VOk K S H x v f) (e : x.d = .non) : v = .non := by
  obtain ⟨g, h⟩ := h.rp
  rw [e] at h
  exact h.vnon
theorem kIs_op : Op2 K rIs2 kIs := fun S H x v f y u g z Q h1 h2 ok e hQ => by
  unfold kIs at e
  split at e
  · rename_i ey
    obtain rfl := Option.some.inj e
    refine .inl ⟨h2.non ey, ?_⟩
    rw [isNon_ok h1]
    exact ret_imm ok rfl (.bl _ _) hQ
  · rename_i b ey
    split at e
    · rename_i a ex
      obtain rfl := Option.some.inj e
      exact .inr ⟨a, b, h1.bl ex, h2.bl ey, ret_imm ok rfl (.bl _ _) hQ⟩
    · cases e
  · cases e
theorem kIsNot_op : Op2 K rIsNot2 kIsNot := fun S H x v f y u g z Q h1 h2 ok e hQ => by
  unfold kIsNot at e
  split at e
  · rename_i ey
    obtain rfl := Option.some.inj e
    refine .inl ⟨h2.non ey, ?_⟩
    rw [isNon_ok h1]
    exact ret_imm ok rfl (.bl _ _) hQ
  · rename_i b ey
    split at e
    · rename_i a ex
      obtain rfl := Option.some.inj e
      exact .inr ⟨a, b, h1.bl ex, h2.bl ey, ret_imm ok rfl (.bl _ _) hQ⟩
    · cases e
  · cases e

/-! ### items -/
theorem RpAll.atI {S : Addr → Prop} {H : Hp} {m : Nat} {xs : List V} {ds : List D} {f : List Addr} {i : Int} {e : D} (h : RpAll K S H m xs ds f) (q : atD ds i = some e) : ∃ u g1 g g2, L2.atI xs i = some u ∧ f = g1 ++ g ++ g2 ∧ Rp K S H m u e g := by
  unfold atD at q
  have en : nix ds.length i = ixN xs.length i := by rw [h.length]; rfl
  rw [en] at q
  unfold L2.atI
  cases z : ixN xs.length i with
  | none => rw [z] at q; cases q
  | some j =>
    rw [z] at q
    obtain ⟨u, g1, g, g2, a1, a2, a3, _⟩ := h.at (i := j) q
    exact ⟨u, g1, g, g2, a1, a2, a3⟩
/-- an item of a value, as it is handed on -/
theorem sub_ok {S : Addr → Prop} {H : Hp} {x : VV} {u : V} {e : D} {f g1 g g2 : List Addr} (ok : Ok S H f) (hb : x.b = false → f = g1 ++ g ++ g2 ∨ f.tail = g1 ++ g ++ g2) (h : Rp K S H (x.m - 1) u e g) :
    ∃ g', VOk K S H (sub x e) u g' ∧ Ok S H g' ∧ ∀ b ∈ g', b ∈ f := by
  unfold sub
  cases q : x.b with
  | true =>
    cases q2 : (x.m - 1 == 0) with
    | true =>
      have e0 : x.m - 1 = 0 := by simpa using q2
      rw [e0] at h ⊢
      obtain rfl := h.own0
      exact ⟨[], by show VOk K S H ⟨false, 0, e⟩ u []; rw [VOk.own]; exact h, ok.nil, by simp⟩
    | false => exact ⟨[], by show VOk K S H ⟨true, x.m - 1, e⟩ u []; rw [VOk.bor]; exact ⟨rfl, _, h⟩, ok.nil, by simp⟩
  | false =>
    have sl : g.Sublist f := by
      have s1 : g.Sublist (g1 ++ g ++ g2) := (List.sublist_append_right g1 g).trans (List.sublist_append_left _ _)
      rcases hb q with z | z
      · rw [z]; exact s1
      · rw [← z] at s1; exact s1.trans (List.tail_sublist f)
    exact ⟨g, by show VOk K S H ⟨false, x.m - 1, e⟩ u g; rw [VOk.own]; exact h, ok.sub sl, fun b hb => sl.subset hb⟩
theorem kIx_op : Op2 K (rIx K) kIx := fun S H x v f y u g z Q h1 h2 ok e hQ => by
  have okf : Ok S H f := ok.head
  unfold kIx at e
  split at e
  · rename_i l i e1 e2
    cases q : atD l i with
    | none => rw [q] at e; cases e
    | some d =>
      rw [q] at e
      obtain rfl := Option.some.inj e
      unfold VOk at h1
      split at h1
      · rename_i hb
        obtain ⟨rfl, f0, h⟩ := h1
        rw [e1] at h
        obtain ⟨a, xs, g', rfl, q1, r1, _, _⟩ := h.lst
        obtain ⟨w, g1, gg, g2, p1, p2, p3⟩ := r1.atI q
        obtain ⟨g'', w1, w2, w3⟩ := sub_ok (x := x) (f := []) (g1 := []) (g2 := []) okf (fun z => by rw [hb] at z; cases z) p3
        exact .inl ⟨a, xs, i, w, rfl, h2.int e2, q1, p1, hQ w H S g'' ⟨Same.refl _, fun _ z => z, fun _ => .inl, fun b hb => absurd (w3 b hb) (by simp)⟩ w1 w2⟩
      · rw [e1] at h1
        obtain ⟨a, xs, g', rfl, q1, r1, q2, q3⟩ := h1.lst
        obtain ⟨w, g1, gg, g2, p1, p2, p3⟩ := r1.atI q
        obtain ⟨g'', w1, w2, w3⟩ := sub_ok (x := x) (g1 := g1) (g2 := g2) okf (fun z => by
          by_cases hm : x.m = 0
          · have := q2 hm
            subst this
            rw [hm] at h1
            have := h1.own0
            subst this
            left; exact p2
          · right; rw [(q3 hm).2]; exact p2) p3
        exact .inl ⟨a, xs, i, w, rfl, h2.int e2, q1, p1, hQ w H S g'' ⟨Same.refl _, fun _ z => z, fun _ => .inl, fun b hb => .inl (List.mem_append_left _ (w3 b hb))⟩ w1 w2⟩
  · rename_i l i e1 e2
    cases q : atD l i with
    | none => rw [q] at e; cases e
    | some d =>
      rw [q] at e
      obtain rfl := Option.some.inj e
      unfold VOk at h1
      split at h1
      · rename_i hb
        obtain ⟨rfl, f0, h⟩ := h1
        rw [e1] at h
        obtain ⟨a, xs, rfl, q1, r1⟩ := h.tup
        obtain ⟨w, g1, gg, g2, p1, p2, p3⟩ := r1.atI q
        obtain ⟨g'', w1, w2, w3⟩ := sub_ok (x := x) (f := []) (g1 := []) (g2 := []) okf (fun z => by rw [hb] at z; cases z) p3
        exact .inr (.inl ⟨a, xs, i, w, rfl, h2.int e2, q1, p1, hQ w H S g'' ⟨Same.refl _, fun _ z => z, fun _ => .inl, fun b hb => absurd (w3 b hb) (by simp)⟩ w1 w2⟩)
      · rw [e1] at h1
        obtain ⟨a, xs, rfl, q1, r1⟩ := h1.tup
        obtain ⟨w, g1, gg, g2, p1, p2, p3⟩ := r1.atI q
        obtain ⟨g'', w1, w2, w3⟩ := sub_ok (x := x) (g1 := g1) (g2 := g2) okf (fun z => .inl p2) p3
        exact .inr (.inl ⟨a, xs, i, w, rfl, h2.int e2, q1, p1, hQ w H S g'' ⟨Same.refl _, fun _ z => z, fun _ => .inl, fun b hb => .inl (List.mem_append_left _ (w3 b hb))⟩ w1 w2⟩)
  · rename_i z' i e1 e2
    split at e
    · rename_i c
      cases q : (nix z'.cps.toList.length i).bind fun j => z'.cps.toList[j]? with
      | none => rw [q] at e; cases e
      | some d =>
        rw [q] at e
        obtain rfl := Option.some.inj e
        exact .inr (.inr ⟨z', i, d, h1.str e1, h2.int e2, by rw [← lim_eq]; exact c, q, ret_imm ok rfl (.str _ _) hQ⟩)
    · cases e
  · cases e
end
end Vs
set_option maxHeartbeats 4000000
/-! Vs: displays, slices, built-ins. -/
namespace Vs
open PySem PySem.Spec PyProof.Rows L2
section
variable {K : PySem.W.Frag} {S S' : Addr → Prop} {H : Hp}
theorem minM_none : ∀ {xs : List VV}, minM xs = none → ∀ x ∈ xs, x.d.imm = true
  | [], _, _, hx => by cases hx
  | z :: zs, q, x, hx => by
    unfold minM at q
    by_cases hz : z.d.imm = true
    · rw [if_pos hz] at q
      rcases List.mem_cons.mp hx with rfl | hx
      · exact hz
      · exact minM_none q x hx
    · rw [if_neg hz] at q
      cases q
theorem minM_le : ∀ {xs : List VV} {n : Nat}, minM xs = some n → ∀ x ∈ xs, x.d.imm = true ∨ n ≤ x.m
  | [], _, h, _, _ => by cases h
  | y :: ys, n, h, x, hx => by
    unfold minM at h
    by_cases hy : y.d.imm = true
    · rw [if_pos hy] at h
      rcases List.mem_cons.mp hx with rfl | hx
      · exact .inl hy
      · exact minM_le h x hx
    · rw [if_neg hy] at h
      have h := Option.some.inj h
      cases q : minM ys with
      | none =>
        rw [q] at h
        rcases List.mem_cons.mp hx with rfl | hx
        · exact .inr (Nat.le_of_eq h.symm)
        · left
          exact minM_none q x hx
      | some k =>
        rw [q] at h
        have h : min y.m k = n := h
        rcases List.mem_cons.mp hx with rfl | hx
        · exact .inr (by omega)
        · rcases minM_le q x hx with z | z
          · exact .inl z
          · exact .inr (by omega)
/-- values put together, as deep as all bear -/
theorem VsOk.all (n : Nat) : ∀ {xs : List VV} {vs : List V} {f : List Addr}, VsOk K S H xs vs f → xs.all VV.stable = true → (∀ x ∈ xs, x.d.imm = true ∨ n ≤ x.m) →
    ∃ g f1, f.Perm (g ++ f1) ∧ RpAll K (fun b => S b ∨ b ∈ f1) H n vs (xs.map VV.d) g
  | _, _, _, .nil, _, _ => ⟨[], [], .nil, .nil _⟩
  | _, _, _, .cons (x := x) (v := v) (f := f) (xs := xs) (vs := vs) (g := g) h r, hs, hn => by
    rw [List.all_cons, Bool.and_eq_true] at hs
    obtain ⟨g2, f2, p2, r2⟩ := VsOk.all n r hs.2 fun x hx => hn x (List.mem_cons_of_mem _ hx)
    have hx := h.stab hs.1
    have one : ∃ g1 f1, f.Perm (g1 ++ f1) ∧ Rp K (fun b => S b ∨ b ∈ f1) H n v x.d g1 := by
      rcases hn x (List.mem_cons_self ..) with z | z
      · obtain ⟨rfl, q⟩ := hx.imm z
        exact ⟨[], [], .nil, q _ _ _⟩
      · obtain ⟨g1, f1, p, q⟩ := hx.thin n
        rw [Nat.min_eq_right z] at q
        exact ⟨g1, f1, p, q⟩
    obtain ⟨g1, f1, p1, r1⟩ := one
    refine ⟨g1 ++ g2, f1 ++ f2, thin_perm p1 p2, .cons (r1.more fun b hb => hb.imp id (List.mem_append_left _)) (r2.more fun b hb => hb.imp id (List.mem_append_right _))⟩
theorem split_ok {f g f1 : List Addr} (ok : Ok S H f) (p : f.Perm (g ++ f1)) : Ok (fun b => S b ∨ b ∈ f1) H g := by
  have k := ok.perm p
  have k2 := k.perm List.perm_append_comm
  exact ⟨k.head.nd, k.head.mu, fun b hb z => z.elim (k.head.ns b hb) fun z => k2.apart b z hb, fun b hb => hb.elim (ok.tr b) fun z => ok.mem (p.mem_iff.mpr (List.mem_append_right _ z))⟩
theorem dmode_pos (xs : List VV) : ∃ n, dmode xs = n + 1 ∧ ∀ x ∈ xs, x.d.imm = true ∨ n ≤ x.m := by
  unfold dmode
  cases q : minM xs with
  | none => exact ⟨0, rfl, fun x _ => .inr (Nat.zero_le _)⟩
  | some n => exact ⟨n, rfl, minM_le q⟩
theorem kLst_op : OpN K (fun xs H Q => xs.length ≤ sizeLine ∧ ∀ p, H p = none → Q (.ref p) (upd H p (.lst xs))) kLst := fun S H xs vs f z Q h ok e hQ => by
  unfold kLst at e
  split at e
  · rename_i c
    obtain rfl := Option.some.inj e
    obtain ⟨n, hn, hle⟩ := dmode_pos xs
    rw [hn] at hQ
    obtain ⟨g, f1, p, r⟩ := h.all n c.1 hle
    refine ⟨?_, fun q hq => ret_lst ok (fun b => Or.inl) (fun b hb => hb.imp id fun z => p.mem_iff.mpr (List.mem_append_right _ z)) (split_ok ok p) (fun b hb => p.mem_iff.mpr (List.mem_append_left _ hb)) r hQ q hq⟩
    have := r.length
    rw [List.length_map] at this
    rw [this, ← lim_eq]
    exact c.2
  · cases e
theorem kTup_op : OpN K (fun xs H Q => xs.length ≤ sizeLine ∧ ∀ p, H p = none → Q (.ref p) (upd H p (.tup xs))) kTup := fun S H xs vs f z Q h ok e hQ => by
  unfold kTup at e
  split at e
  · rename_i c
    obtain rfl := Option.some.inj e
    obtain ⟨n, hn, hle⟩ := dmode_pos xs
    rw [hn] at hQ
    obtain ⟨g, f1, p, r⟩ := h.all n c.1 hle
    refine ⟨?_, fun q hq => ret_tup ok (fun b => Or.inl) (fun b hb => hb.imp id fun z => p.mem_iff.mpr (List.mem_append_right _ z)) (split_ok ok p) (fun b hb => p.mem_iff.mpr (List.mem_append_left _ hb)) r hQ q hq⟩
    have := r.length
    rw [List.length_map] at this
    rw [this, ← lim_eq]
    exact c.2
  · cases e

/-! ### built-ins of one value -/
theorem RpAll.of_intsOf : ∀ {m : Nat} {xs : List V} {ds : List D} {f : List Addr} {l : List Int}, RpAll K S H m xs ds f → intsOf ds = some l → xs = l.map V.int ∧ ds = Vs.dints l
  | _, _, _, _, l, .nil _, e => by
    obtain rfl := Option.some.inj e
    exact ⟨rfl, rfl⟩
  | _, _, _, _, l, .cons h r, e => by
    cases h with
    | int m i =>
      unfold intsOf at e
      rename_i ds _
      cases q : intsOf ds with
      | none => rw [q] at e; cases e
      | some k =>
        rw [q] at e
        obtain rfl := Option.some.inj e
        obtain ⟨h1, h2⟩ := RpAll.of_intsOf r q
        exact ⟨by rw [h1]; rfl, by rw [h2]; rfl⟩
    | _ => cases e
theorem RpAll.of_blsOf : ∀ {m : Nat} {xs : List V} {ds : List D} {f : List Addr} {l : List Bool}, RpAll K S H m xs ds f → blsOf ds = some l → xs = l.map V.bl
  | _, _, _, _, l, .nil _, e => by
    obtain rfl := Option.some.inj e
    rfl
  | _, _, _, _, l, .cons h r, e => by
    cases h with
    | bl m i =>
      unfold blsOf at e
      rename_i ds _
      cases q : blsOf ds with
      | none => rw [q] at e; cases e
      | some k =>
        rw [q] at e
        obtain rfl := Option.some.inj e
        rw [RpAll.of_blsOf r q]
        rfl
    | _ => cases e
theorem VOk.seqL {x : VV} {v : V} {f : List Addr} {ds : List D} (h : VOk K S H x v f) (e : x.d = .lst ds) : ∃ a xs m g, v = .ref a ∧ SqL K H a xs ∧ RpAll K S H m xs ds g := by
  obtain ⟨g, h⟩ := h.rp
  rw [e] at h
  obtain ⟨a, xs, g', h1, h2, h3, _⟩ := h.lst
  exact ⟨a, xs, _, g', h1, h2, h3⟩
theorem VOk.seqT {x : VV} {v : V} {f : List Addr} {ds : List D} (h : VOk K S H x v f) (e : x.d = .tup ds) : ∃ a xs m g, v = .ref a ∧ SqT K H a xs ∧ RpAll K S H m xs ds g := by
  obtain ⟨g, h⟩ := h.rp
  rw [e] at h
  obtain ⟨a, xs, h1, h2, h3⟩ := h.tup
  exact ⟨a, xs, _, _, h1, h2, h3⟩
/-- one argument -/
theorem opn_one {r : List V → Hp → VK → Prop} {k : List VV → Option VV} (h1 : ∀ xs z, k xs = some z → ∃ x, xs = [x])
    (h2 : ∀ S H x v f z Q, VOk K S H x v f → Ok S H f → k [x] = some z → (∀ w H' S' h, Grow S H f S' h H' → VOk K S' H' z w h → Ok S' H' h → Q w H') → r [v] H Q) : OpN K r k := fun S H xs vs f z Q h ok e hQ => by
  obtain ⟨x, rfl⟩ := h1 xs z e
  obtain ⟨v, rfl, h'⟩ := h.one
  exact h2 S H x v f z Q h' ok e hQ
theorem kLen_op : OpN K (fun xs H Q => (∃ p ys, xs = [.ref p] ∧ (SqL K H p ys ∨ SqT K H p ys) ∧ Q (.int ys.length) H) ∨ (∃ z, xs = [.str z] ∧ z.length ≤ sizeLine ∧ Q (.int z.length) H) ∨ (∃ d kvs, xs = [.ref d] ∧ Rd H d (.dK kvs) ∧ Q (.int kvs.length) H) ∨ (∃ d kvs, xs = [.ref d] ∧ H d = some (.dT kvs) ∧ Q (.int kvs.length) H)) kLen := by
  refine opn_one (fun xs z e => ?_) fun S H x v f z Q h ok e hQ => ?_
  · unfold kLen at e
    split at e
    · exact ⟨_, rfl⟩
    · cases e
  · unfold kLen at e
    simp only at e
    split at e
    · rename_i l el
      obtain rfl := Option.some.inj e
      obtain ⟨a, xs, m, g, rfl, q1, q2⟩ := h.seqL el
      refine .inl ⟨a, xs, rfl, .inl q1, ?_⟩
      rw [q2.length]
      exact ret_imm ok rfl (.int _ _) hQ
    · rename_i l el
      obtain rfl := Option.some.inj e
      obtain ⟨a, xs, m, g, rfl, q1, q2⟩ := h.seqT el
      refine .inl ⟨a, xs, rfl, .inr q1, ?_⟩
      rw [q2.length]
      exact ret_imm ok rfl (.int _ _) hQ
    · rename_i s el
      split at e
      · rename_i c
        obtain rfl := Option.some.inj e
        exact .inr (.inl ⟨s, by rw [h.str el], by rw [← lim_eq]; exact c, ret_imm ok rfl (.int _ _) hQ⟩)
      · cases e
    · rename_i l el
      obtain rfl := Option.some.inj e
      obtain ⟨g, h⟩ := h.rp
      rw [el] at h
      generalize hm : x.m = m at h
      generalize hd : D.dic _ l = d at h
      cases h with
      | dk0 q _ r =>
        obtain ⟨_, rfl⟩ := D.dic.inj hd
        have hl := r.length
        rw [List.length_map] at hl
        refine .inr (.inr (.inl ⟨_, _, rfl, q, ?_⟩))
        rw [List.length_zip, List.length_map, ← hl, Nat.min_self] at hQ
        exact ret_imm ok rfl (.int _ _) hQ
      | dk1 q r =>
        obtain ⟨_, rfl⟩ := D.dic.inj hd
        have hl := r.length
        rw [List.length_map] at hl
        refine .inr (.inr (.inl ⟨_, _, rfl, .inl q, ?_⟩))
        rw [List.length_zip, List.length_map, ← hl, Nat.min_self] at hQ
        exact ret_imm ok rfl (.int _ _) hQ
      | dt0 q _ r =>
        obtain ⟨_, rfl⟩ := D.dic.inj hd
        have hl := r.length
        rw [List.length_map] at hl
        refine .inr (.inr (.inr ⟨_, _, rfl, q, ?_⟩))
        rw [List.length_zip, List.length_map, ← hl, Nat.min_self] at hQ
        exact ret_imm ok rfl (.int _ _) hQ
      | dt1 q r =>
        obtain ⟨_, rfl⟩ := D.dic.inj hd
        have hl := r.length
        rw [List.length_map] at hl
        refine .inr (.inr (.inr ⟨_, _, rfl, q, ?_⟩))
        rw [List.length_zip, List.length_map, ← hl, Nat.min_self] at hQ
        exact ret_imm ok rfl (.int _ _) hQ
      | _ => cases hd
    · cases e
theorem kAbs_op : OpN K (fun xs H Q => ∃ i, xs = [.int i] ∧ Q (.int (if i < 0 then -i else i)) H) kAbs := by
  refine opn_one (fun xs z e => ?_) fun S H x v f z Q h ok e hQ => ?_
  · unfold kAbs at e
    split at e
    · exact ⟨_, rfl⟩
    · cases e
  · unfold kAbs at e
    simp only at e
    split at e
    · rename_i i el
      obtain rfl := Option.some.inj e
      exact ⟨i, by rw [h.int el], ret_imm ok rfl (.int _ _) hQ⟩
    · cases e
theorem kInt_op : OpN K (fun xs H Q => (∃ i, xs = [.int i] ∧ Q (.int i) H) ∨ ∃ k : Bool, xs = [.bl k] ∧ Q (.int (if k then 1 else 0)) H) kInt := by
  refine opn_one (fun xs z e => ?_) fun S H x v f z Q h ok e hQ => ?_
  · unfold kInt at e
    split at e
    · exact ⟨_, rfl⟩
    · cases e
  · unfold kInt at e
    simp only at e
    split at e
    · rename_i i el
      obtain rfl := Option.some.inj e
      exact .inl ⟨i, by rw [h.int el], ret_imm ok rfl (.int _ _) hQ⟩
    · rename_i i el
      obtain rfl := Option.some.inj e
      exact .inr ⟨i, by rw [h.bl el], ret_imm ok rfl (.int _ _) hQ⟩
    · cases e
theorem kAll_op : OpN K (rAll K) kAll := by
  refine opn_one (fun xs z e => ?_) fun S H x v f z Q h ok e hQ => ?_
  · unfold kAll at e
    split at e
    · exact ⟨_, rfl⟩
    · cases e
  · unfold kAll at e
    simp only at e
    split at e
    · rename_i l el
      cases q : blsOf l with
      | none => rw [q] at e; cases e
      | some bs =>
        rw [q] at e
        obtain rfl := Option.some.inj e
        obtain ⟨a, xs, m, g, rfl, q1, q2⟩ := h.seqL el
        exact ⟨a, bs, rfl, by rw [← q2.of_blsOf q]; exact q1, ret_imm ok rfl (.bl _ _) hQ⟩
    · cases e
theorem kAny_op : OpN K (rAny K) kAny := by
  refine opn_one (fun xs z e => ?_) fun S H x v f z Q h ok e hQ => ?_
  · unfold kAny at e
    split at e
    · exact ⟨_, rfl⟩
    · cases e
  · unfold kAny at e
    simp only at e
    split at e
    · rename_i l el
      cases q : blsOf l with
      | none => rw [q] at e; cases e
      | some bs =>
        rw [q] at e
        obtain rfl := Option.some.inj e
        obtain ⟨a, xs, m, g, rfl, q1, q2⟩ := h.seqL el
        exact ⟨a, bs, rfl, by rw [← q2.of_blsOf q]; exact q1, ret_imm ok rfl (.bl _ _) hQ⟩
    · cases e
theorem kSum_op : OpN K (rSum K) kSum := by
  refine opn_one (fun xs z e => ?_) fun S H x v f z Q h ok e hQ => ?_
  · unfold kSum at e
    split at e
    · exact ⟨_, rfl⟩
    · cases e
  · unfold kSum at e
    simp only at e
    split at e
    · rename_i l el
      cases q : intsOf l with
      | none => rw [q] at e; cases e
      | some bs =>
        rw [q] at e
        obtain rfl := Option.some.inj e
        obtain ⟨a, xs, m, g, rfl, q1, q2⟩ := h.seqL el
        exact ⟨a, bs, rfl, by have z := (RpAll.of_intsOf q2 q).1; rw [← z]; exact q1, ret_imm ok rfl (.int _ _) hQ⟩
    · cases e
theorem sortI_eq {l l' : List Int} (p : l'.Perm l) (s : l'.Pairwise (· ≤ ·)) : l' = sortI l := by
  unfold sortI
  have p2 : (l.mergeSort fun a b => decide (a ≤ b)).Perm l := List.mergeSort_perm l _
  have s2 : (l.mergeSort fun a b => decide (a ≤ b)).Pairwise fun a b => decide (a ≤ b) = true := List.pairwise_mergeSort (le := fun a b => decide (a ≤ b)) (fun a b c h1 h2 => by simp at *; omega) (fun a b => by simp; omega) l
  refine List.Perm.eq_of_pairwise (le := (· ≤ ·)) (fun a b _ _ h1 h2 => by omega) s (s2.imp fun h => by simpa using h) (p.trans p2.symm)
theorem kSorted_op : OpN K (rSorted K) kSorted := by
  refine opn_one (fun xs z e => ?_) fun S H x v f z Q h ok e hQ => ?_
  · unfold kSorted at e
    split at e
    · exact ⟨_, rfl⟩
    · cases e
  · unfold kSorted at e
    simp only at e
    split at e
    · rename_i l el
      cases q : intsOf l with
      | none => rw [q] at e; cases e
      | some bs =>
        rw [q] at e
        replace e : (if bs.length < 64 then some (⟨false, 1, .lst (dints (sortI bs))⟩ : VV) else none) = some z := e
        split at e
        · rename_i c
          obtain rfl := Option.some.inj e
          obtain ⟨a, xs, m, g, rfl, q1, q2⟩ := h.seqL el
          refine ⟨a, bs, rfl, by have z := (RpAll.of_intsOf q2 q).1; rw [← z]; exact q1, c, fun ns p hp hs hn => ?_⟩
          rw [← sortI_eq hp hs] at hQ
          exact ret_lst (S' := S) (g := []) ok (fun _ z => z) (fun _ => .inl) ok.nil (by simp) (RpAll.dints 0 ns) hQ p hn
        · cases e
    · cases e
theorem kList_op : OpN K (fun xs H Q => ∃ p ys, xs = [.ref p] ∧ (SqL K H p ys ∨ SqT K H p ys) ∧ ∀ l, H l = none → Q (.ref l) (upd H l (.lst ys))) kList := by
  refine opn_one (fun xs z e => ?_) fun S H x v f z Q h ok e hQ => ?_
  · unfold kList at e
    split at e
    · exact ⟨_, rfl⟩
    · cases e
  · unfold kList at e
    simp only at e
    obtain ⟨b, m, d⟩ := x
    have ok' : Ok S H (f ++ []) := by rw [List.append_nil]; exact ok
    split at e
    · rename_i l el
      obtain rfl : d = .lst l := el
      split at e
      · rename_i c
        obtain rfl := Option.some.inj e
        obtain ⟨a, xs, S1, rfl, q1, u1, u2, r1, k1⟩ := opn h ok' c
        exact ⟨a, xs, rfl, .inl q1, fun p hp => ret_lst ok u1 u2 k1 (by simp) r1 hQ p hp⟩
      · cases e
    · rename_i l el
      obtain rfl : d = .tup l := el
      split at e
      · rename_i c
        obtain rfl := Option.some.inj e
        obtain ⟨a, xs, S1, rfl, q1, u1, u2, r1, k1⟩ := opnT h ok' c
        exact ⟨a, xs, rfl, .inr q1, fun p hp => ret_lst ok u1 u2 k1 (by simp) r1 hQ p hp⟩
      · cases e
    · cases e
theorem kTuple_op : OpN K (fun xs H Q => ∃ p ys, xs = [.ref p] ∧ ((SqL K H p ys ∧ ∀ l, H l = none → Q (.ref l) (upd H l (.tup ys))) ∨ (SqT K H p ys ∧ Q (.ref p) H))) kTuple := by
  refine opn_one (fun xs z e => ?_) fun S H x v f z Q h ok e hQ => ?_
  · unfold kTuple at e
    split at e
    · exact ⟨_, rfl⟩
    · cases e
  · unfold kTuple at e
    simp only at e
    obtain ⟨b, m, d⟩ := x
    have ok' : Ok S H (f ++ []) := by rw [List.append_nil]; exact ok
    split at e
    · rename_i l el
      obtain rfl : d = .lst l := el
      split at e
      · rename_i c
        obtain rfl := Option.some.inj e
        obtain ⟨a, xs, S1, rfl, q1, u1, u2, r1, k1⟩ := opn h ok' c
        exact ⟨a, xs, rfl, .inl ⟨q1, fun p hp => ret_tup ok u1 u2 k1 (by simp) r1 hQ p hp⟩⟩
      · cases e
    · cases e
theorem kMax_op : OpN K (fun xs H Q => ∃ i j, xs = [.int i, .int j] ∧ Q (.int (if j > i then j else i)) H) kMax := fun S H xs vs f z Q h ok e hQ => by
  unfold kMax at e
  split at e
  · obtain ⟨v, w, f1, f2, rfl, rfl, h1, h2⟩ := h.two
    split at e
    · rename_i i j e1 e2
      obtain rfl := Option.some.inj e
      exact ⟨i, j, by rw [h1.int e1, h2.int e2], ret_imm ok rfl (.int _ _) hQ⟩
    · cases e
  · cases e
theorem kMin_op : OpN K (fun xs H Q => ∃ i j, xs = [.int i, .int j] ∧ Q (.int (if j < i then j else i)) H) kMin := fun S H xs vs f z Q h ok e hQ => by
  unfold kMin at e
  split at e
  · obtain ⟨v, w, f1, f2, rfl, rfl, h1, h2⟩ := h.two
    split at e
    · rename_i i j e1 e2
      obtain rfl := Option.some.inj e
      exact ⟨i, j, by rw [h1.int e1, h2.int e2], ret_imm ok rfl (.int _ _) hQ⟩
    · cases e
  · cases e
end
end Vs
set_option maxHeartbeats 4000000
/-! Vs: comprehensions. -/
namespace Vs
open PySem PySem.Spec PyProof.Rows L2

theorem compL_len {own : List Nat} {g : MG} {cs : MT} {e : M} : ∀ {ds : List D} {ρ : Vs.Env} {acc xs : List VV} {o : Option Vs.Env}, compL own g cs e ds ρ acc = .ok xs o → acc.length ≤ xs.length
  | [], ρ, acc, xs, o, h => by
    unfold compL at h
    injection h with h1 _
    rw [h1]
    exact Nat.le_refl _
  | d :: ds, ρ, acc, xs, o, h => by
    unfold compL at h
    cases q1 : g ⟨false, 0, d⟩ ρ with
    | nx ρ1 =>
      rw [q1] at h
      simp only at h
      cases q2 : cs ρ1 with
      | ok b o1 =>
        rw [q2] at h
        cases b with
        | false =>
          simp only at h
          cases q3 : compL own g cs e ds (now (o1.map (wipeE own)) ρ) acc with
          | ok ys o2 =>
            rw [q3] at h
            injection h with h1 _
            rw [← h1]
            exact compL_len q3
          | ex _ _ => rw [q3] at h; cases h
          | no => rw [q3] at h; cases h
        | true =>
          simp only at h
          cases q4 : e (now o1 ρ1) with
          | ok x o2 =>
            rw [q4] at h
            simp only at h
            split at h
            · cases q3 : compL own g cs e ds (now ((thn o1 o2).map (wipeE own)) ρ) (acc ++ [x]) with
              | ok ys o3 =>
                rw [q3] at h
                injection h with h1 _
                rw [← h1]
                have := compL_len q3
                rw [List.length_append] at this
                exact Nat.le_trans (Nat.le_add_right _ _) this
              | ex _ _ => rw [q3] at h; cases h
              | no => rw [q3] at h; cases h
            · cases h
          | ex _ _ => rw [q4] at h; cases h
          | no => rw [q4] at h; cases h
      | ex _ _ => rw [q2] at h; cases h
      | no => rw [q2] at h; cases h
    | _ => rw [q1] at h; cases h

section
variable {K : PySem.W.Frag} {S S' : Addr → Prop} {H H' : Hp}
theorem EnvRp.wipe {σ : L2.St} {ρ : Vs.Env} {F : List Addr} (own : List Nat) (h : EnvRp K S H σ ρ F) : ∃ f G, F.Perm (f ++ G) ∧ EnvRp K S H σ (wipeE own ρ) G := by
  induction own generalizing ρ F with
  | nil => exact ⟨[], F, .refl _, h⟩
  | cons j own ih =>
    obtain ⟨f, G, p, h1⟩ := h.drop j
    obtain ⟨f2, G2, p2, h2⟩ := ih h1
    refine ⟨f ++ f2, G2, p.trans ?_, h2⟩
    rw [List.append_assoc]
    exact List.Perm.append_left _ p2
theorem look_put_ne : ∀ (ρ : Vs.Env) {i j : Nat} (x : Option PV), i ≠ j → look (Vs.put ρ i x) j = look ρ j
  | [], _, _, _, _ => rfl
  | _ :: _, 0, 0, _, h => absurd rfl h
  | _ :: _, 0, _ + 1, _, _ => rfl
  | _ :: _, _ + 1, 0, _, _ => rfl
  | _ :: r, i + 1, j + 1, x, h => look_put_ne r x fun e => h (congrArg (· + 1) e)
theorem look_put_none : ∀ (ρ : Vs.Env) (i : Nat), look (Vs.put ρ i none) i = none
  | [], _ => rfl
  | _ :: _, 0 => rfl
  | _ :: r, i + 1 => look_put_none r i
theorem look_wipe {own : List Nat} {ρ : Vs.Env} {i : Nat} (h : look ρ i = none ∨ i ∈ own) : look (wipeE own ρ) i = none := by
  induction own generalizing ρ with
  | nil => exact h.resolve_right (by simp)
  | cons j own ih =>
    refine ih (ρ := Vs.put ρ j none) ?_
    by_cases e : j = i
    · subst e; exact .inl (look_put_none _ _)
    · rw [look_put_ne _ _ e]
      exact h.imp id fun z => (List.mem_cons.mp z).resolve_left (Ne.symm e)
/-- what dead slots hold is of no matter -/
theorem EnvRp.other : ∀ {σ σ' : List (Option V)} {ρ : Vs.Env} {F : List Addr}, EnvRp K S H σ ρ F → σ'.length = σ.length → (∀ i : Nat, look ρ i ≠ none → σ'[i]? = σ[i]?) → EnvRp K S H σ' ρ F
  | _, σ', _, _, .nil, hl, _ => by
    obtain rfl : σ' = [] := List.length_eq_zero_iff.mp hl
    exact .nil
  | _, [], _, _, .dead _, hl, _ => by cases hl
  | _, x :: σ', _, _, .dead h, hl, hs => .dead (EnvRp.other h (by simpa using hl) fun i hi => by simpa using hs (i + 1) hi)
  | _, [], _, _, .live _ _ _, hl, _ => by cases hl
  | _, x :: σ', _, _, .live (v := v) r h p, hl, hs => by
    have e : x = some v := by simpa using hs 0 (by simp)
    subst e
    exact .live r (EnvRp.other h (by simpa using hl) fun i hi => by simpa using hs (i + 1) hi) p
theorem wipe_get {σ : L2.St} {own : List Nat} {i : Nat} (h : i ∉ own) : (L2.wipe σ own)[i]? = (σ[i]? : Option (Option V)) := by
  induction own with
  | nil => rfl
  | cons j own ih =>
    show ((L2.wipe σ own).set j none)[i]? = _
    rw [List.getElem?_set_ne (fun e => h (by rw [e]; exact List.mem_cons_self ..))]
    exact ih fun z => h (List.mem_cons_of_mem _ z)
theorem VsOk.snoc {x : VV} {v : V} {f : List Addr} : ∀ {xs : List VV} {vs : List V} {g : List Addr}, VsOk K S H xs vs g → VOk K S H x v f → VsOk K S H (xs ++ [x]) (vs ++ [v]) (g ++ f)
  | _, _, _, .nil, h => by
    have := VsOk.cons h .nil
    rwa [List.append_nil] at this
  | _, _, _, .cons a b, h => by
    have := VsOk.cons a (b.snoc h)
    rwa [← List.append_assoc] at this
theorem VsOk.more (s : ∀ b, S b → S' b) {xs : List VV} {vs : List V} {f : List Addr} (h : VsOk K S H xs vs f) : VsOk K S' H xs vs f := by
  induction h with
  | nil => exact .nil
  | cons a _ ih => exact .cons (a.more s) ih
theorem VsOk.len {xs : List VV} {vs : List V} {f : List Addr} (h : VsOk K S H xs vs f) : xs.length = vs.length := by
  induction h with
  | nil => rfl
  | cons _ _ ih => exact congrArg (· + 1) ih
end
/-- the slots but the block's own -/
def others (n : Nat) (own : List Nat) : List Bool := (List.range n).map fun i => !own.contains i
theorem others_get {n : Nat} {own : List Nat} {i : Nat} (hi : i < n) (h : i ∉ own) : (others n own)[i]? = some true := by
  unfold others
  rw [List.getElem?_map, List.getElem?_range hi]
  simp [h]
theorem Fit.map {o : Option Vs.Env} {S S1 : Addr → Prop} {F F1 f : List Addr} {H H1 : Hp} (φ : Vs.Env → Vs.Env) (t : Fit o S F H S1 F1 f H1) : Fit (o.map φ) S F H S1 F1 f H1 := by cases o <;> exact t

/-- a target of names: the heap stays as it is -/
structure SN (ct : Str → Addr) (lent : List Bool) (X : Cx) (tg : Expr) (g : MG) : Prop where
  run : ∃ t, PG X tg t ∧ ∀ S F H σ ρ x v f ρ' Q, VOk X.K S H x v f → EnvRp X.K S H σ ρ F → Ok S H (f ++ F) → g x ρ = .nx ρ' →
    (∀ σ' F', (∀ b ∈ F', b ∈ f ++ F) → EnvRp X.K S H σ' ρ' F' → Ok S H F' → Kp lent σ σ' → Q σ' H) → t v σ H Q
structure SNs (ct : Str → Addr) (lent : List Bool) (X : Cx) (tg : List Expr) (gs : List MG) : Prop where
  run : ∃ t, PGs X tg t ∧ ∀ S F H σ ρ xs vs f ρ' Q, VsOk X.K S H xs vs f → EnvRp X.K S H σ ρ F → Ok S H (f ++ F) → gall gs xs ρ = .nx ρ' →
    (∀ σ' F', (∀ b ∈ F', b ∈ f ++ F) → EnvRp X.K S H σ' ρ' F' → Ok S H F' → Kp lent σ σ' → Q σ' H) → t vs σ H Q
section
variable {ct : Str → Addr} {lent : List Bool} {X : Cx} {pos : Pos}
theorem sn_name {i : Nat} {x : Str} (hN : X.N.Nodup) (hi : X.N[i]? = some x) (hx : Loc X.env.scope x) (hl : lent[i]? ≠ some true) (hf : X.fn x = true ∨ X.env.scope.names.lookup x = some .local := by first | exact .inl rfl | exact .inr rfl | assumption) :
    SN ct lent X (.Name x pos) (gname i) := by
  refine ⟨_, pg_name hN hi hx hf, fun S F H σ ρ x v f ρ' Q h E ok e q => ?_⟩
  show Q (σ.set i (some v)) H
  unfold gname at e
  cases ek : x.kept with
  | none => rw [ek] at e; cases e
  | some pv =>
    rw [ek] at e
    obtain ⟨hs, rfl⟩ := kept_some ek
    have e : Fl.nx (Vs.put ρ i (some (x.m, x.d))) = .nx ρ' := e
    injection e with e
    subst e
    obtain ⟨f0, G0, p, E0⟩ := E.drop i
    have p2 : (f ++ F).Perm (f0 ++ (f ++ G0)) := (List.Perm.append_left _ p).trans perm_mid
    have ok2 : Ok S H (f ++ G0) := (ok.perm p2).tail
    by_cases hl2 : i < σ.length
    · exact q _ (f ++ G0) (fun b hb => p2.mem_iff.mpr (List.mem_append_right _ hb)) (E0.fill hl2 (h.stab hs)) ok2 (Kp.set hl)
    · rw [List.set_eq_of_length_le (by omega)]
      rw [put_over _ _ _ (by rw [← E.len]; omega)] at q
      exact q σ F (fun b hb => List.mem_append_right _ hb) E ok.tail Kp.refl
theorem sns_nil : SNs ct lent X [] [] := by
  refine ⟨_, pgs_nil, fun S F H σ ρ xs vs f ρ' Q h E ok e q => ?_⟩
  cases h with
  | nil =>
    have e : Fl.nx ρ = .nx ρ' := e
    injection e with e
    subst e
    exact ⟨rfl, q σ F (fun b hb => hb) E ok Kp.refl⟩
  | cons _ _ => cases e
theorem sns_cons {t : Expr} {ts : List Expr} {g : MG} {gs : List MG} (h1 : SN ct lent X t g) (h2 : SNs ct lent X ts gs)
    (mk : ∀ {a b}, PG X t a → PGs X ts b → PGs X (t :: ts) (gCons a b)) : SNs ct lent X (t :: ts) (g :: gs) := by
  obtain ⟨t1, p1, r1⟩ := h1.run
  obtain ⟨t2, p2, r2⟩ := h2.run
  refine ⟨_, mk p1 p2, fun S F H σ ρ xs vs f ρ' Q h E ok e q => ?_⟩
  cases h with
  | nil => cases e
  | cons a b =>
    rename_i x v f xs vs g'
    refine ⟨v, vs, rfl, ?_⟩
    unfold gall at e
    cases q1 : g x ρ with
    | nx ρ1 =>
      rw [q1] at e
      have ok1 : Ok S H (g' ++ (f ++ F)) := ok.perm (by rw [List.append_assoc]; exact perm_mid)
      refine r1 S F H σ ρ x v f ρ1 _ a E ok1.tail q1 fun σ1 F1 s1 E1 k1 kp1 => ?_
      refine r2 S F1 H σ1 ρ1 xs vs g' ρ' Q b E1 (ok1.head.two k1 fun b hb z => ok1.apart b hb (s1 b z)) e fun σ2 F2 s2 E2 k2 kp2 => q σ2 F2 (fun b hb => ?_) E2 k2 (kp1.trans kp2)
      rcases List.mem_append.mp (s2 b hb) with z | z
      · exact List.mem_append_left _ (List.mem_append_right _ z)
      · rcases List.mem_append.mp (s1 b z) with z | z
        · exact List.mem_append_left _ (List.mem_append_left _ z)
        · exact List.mem_append_right _ z
    | _ => rw [q1] at e; cases e
theorem sn_tup {es : List Expr} {kk : Nat} {gs : List MG} {n : Nat} (h : SNs ct lent X es gs) (mk : ∀ {t}, PGs X es t → PG X (.Tuple es kk pos) (gTup X.K n t)) (hn : gs.length = n) : SN ct lent X (.Tuple es kk pos) (gtup gs) := by
  obtain ⟨t, p, r⟩ := h.run
  refine ⟨_, mk p, fun S F H σ ρ x v f ρ' Q h E ok e q => ?_⟩
  unfold gtup at e
  obtain ⟨b, m, d⟩ := x
  cases d with
  | tup ds =>
    cases b with
    | true => cases e
    | false =>
      replace e : (if false = false ∧ ds.length = gs.length then gall gs (ds.map fun d => ⟨false, m - 1, d⟩) ρ else .no) = .nx ρ' := e
      by_cases hl : ds.length = gs.length
      · rw [if_pos ⟨rfl, hl⟩] at e
        rw [VOk.own] at h
        obtain ⟨a, xs, rfl, h1, h2⟩ := h.tup
        exact ⟨a, xs, rfl, h1, h2.length.trans (hl.trans hn), r S F H σ ρ _ xs f ρ' Q (VsOk.of_all h2) E ok e q⟩
      · rw [if_neg fun z => hl z.2] at e
        cases e
  | _ => cases e
end
/-- a clause's tests -/
structure STs (ct : Str → Addr) (X : Cx) (ifs : List Expr) (g : MT) : Prop where
  run : ∀ W, Takes X W → ∃ t, PTs X ifs t ∧ ∀ S F H σ ρ Q, EnvRp X.K S H σ ρ F → Ok S H F → Good X.K ct BOk W S F H σ ρ (g ρ) Q → t σ H Q
section
variable {ct : Str → Addr} {X : Cx}
theorem sts_nil : STs ct X [] yes := ⟨fun W tk => ⟨_, pts_nil, fun S F H σ ρ Q E ok G => G true S F H [] Fit.nil ⟨rfl, rfl⟩ E ok⟩⟩
theorem sts_one {c : Expr} {g : MT} (h : ST ct X c g) : STs ct X [c] g := ⟨fun W tk => let ⟨_, p, r⟩ := h.run W tk; ⟨_, pts_one p, r⟩⟩
end
theorem others_own {n : Nat} {own : List Nat} {i : Nat} (h : i ∈ own) : (others n own)[i]? ≠ some true := by
  unfold others
  rw [List.getElem?_map]
  by_cases hi : i < n
  · rw [List.getElem?_range hi]
    simp [h]
  · rw [List.getElem?_eq_none (by rw [List.length_range]; omega)]
    simp
theorem compF_some {r : R (List VV)} {o : Option Vs.Env} (h : compF (r.aft o) ≠ .no) : ∃ xs o', r = .ok xs o' ∧ xs.length ≤ lim := by
  cases r with
  | ok xs o' =>
    refine ⟨xs, o', rfl, ?_⟩
    have h : (R.ofO (kLst xs)).aft (thn o o') ≠ .no := h
    unfold kLst at h
    split at h
    · rename_i c
      exact c.2
    · exact absurd rfl h
  | ex _ _ => exact absurd rfl h
  | no => exact absurd rfl h
theorem Fit.over {o : Option Vs.Env} {S S2 : Addr → Prop} {F F2 h : List Addr} {H H2 : Hp} {D : Addr} {u : HO} (t : Fit o S F H S2 F2 h H2) (n : H D = none) : Fit o S F H S2 F2 h (upd H2 D u) := by
  have k : ∀ b o, H b = some o → b ≠ D := fun b o e z => by rw [z, n] at e; cases e
  cases o with
  | none =>
    obtain ⟨e, u1, u2, f, m⟩ := t
    exact ⟨fun b o q => by rw [upd_ne (k b o q)]; exact e b o q, u1, u2, f, m⟩
  | some _ =>
    have t : Step S F H S2 (h ++ F2) H2 := t
    exact ⟨fun b o q hb => by rw [upd_ne (k b o q)]; exact t.keep b o q hb, t.sub, t.newF, t.newS⟩
theorem Ok.dead {S : Addr → Prop} {F : List Addr} {H : Hp} (ok : Ok S H F) : ∀ b, H b = none → b ∉ F ∧ ¬ S b := fun b e => ⟨fun z => ok.mem z e, fun z => ok.tr b z e⟩
section
variable {ct : Str → Addr} {X : Cx} {elt tg iter : Expr} {ifs : List Expr} {scope : Scope} {own : List (Str × Nat)} {pos : Pos} {gi : MI} {gg : MG} {gt : MT} {ge : M}
abbrev BI := Shared × Hp × Addr × List (Str × Addr) × List Addr
abbrev blkX (X : Cx) (scope : Scope) (i : BI) : Cx := X.blk i.1 i.2.1 scope (compEnvC scope i.2.2.2.1 i.2.2.1 X.env) i.2.2.2.2
/-- between two turns -/
structure Turn' (K : PySem.W.Frag) (own : List Nat) (σ : L2.St) (ρw : Vs.Env) (S1 : Addr → Prop) (F1 : List Addr) (H1 : Hp) (Dd : Addr) (o : Option Vs.Env) (acc : List VV) (ws : List V) (fa : List Addr) (S' : Addr → Prop) (F' : List Addr) (H' : Hp) : Prop where
  fit : Fit o S1 F1 H1 S' F' (Dd :: fa) H'
  env : EnvRp K S' H' (L2.wipe σ own) (now o ρw) F'
  ok : Ok S' H' ((Dd :: fa) ++ F')
  vs : VsOk K S' H' acc ws fa
  st : ∀ x ∈ acc, x.stable = true
  at_ : H' Dd = some (.lst ws)
  dead : ∀ j ∈ own, look (now o ρw) j = none
/-- what an expression within has done, for the next turn -/
theorem Turn'.next {K : PySem.W.Frag} {own : List Nat} {σ σ2 : L2.St} {ρw ρ1 : Vs.Env} {S1 S' S3 : Addr → Prop} {F1 F' F2 F3 fa f : List Addr} {H1 H' H3 H4 : Hp} {Dd : Addr} {o o1 : Option Vs.Env} {acc : List VV} {ws : List V}
    (T : Turn' K own σ ρw S1 F1 H1 Dd o acc ws fa S' F' H') (sm : Same H' H3) (sub : ∀ b ∈ F2, b ∈ F') (t : Fit o1 S' F2 H3 S3 F3 f H4) (E3 : EnvRp K S3 H4 σ2 (now o1 ρ1) F3) (k3 : Ok S3 H4 (f ++ F3))
    (hl : σ2.length = (L2.wipe σ own).length) (hk : ∀ i : Nat, i ∉ own → σ2[i]? = (L2.wipe σ own)[i]?) :
    ∃ F4, Turn' K own σ ρw S1 F1 H1 Dd (thn o (o1.map (wipeE own))) acc ws fa S3 F4 H4 ∧ Fit (o1.map (wipeE own)) S' F' H' S3 F4 f H4 ∧ (f ≠ [] → True) ∧ Ok S3 H4 (f ++ ((Dd :: fa) ++ F4)) := by
  have kF' : Ok S' H' F' := T.ok.tail
  have apart : ∀ b ∈ Dd :: fa, b ∉ F' := T.ok.apart
  -- the slots behind
  have slots : ∃ F4, Fit (o1.map (wipeE own)) S' F' H' S3 F4 f H4 ∧ EnvRp K S3 H4 (L2.wipe σ own) (now (o1.map (wipeE own)) (now o ρw)) F4 ∧ Ok S3 H4 (f ++ F4) ∧ ∀ j ∈ own, look (now (o1.map (wipeE own)) (now o ρw)) j = none := by
    cases o1 with
    | none =>
      obtain ⟨e, u1, u2, rfl, n⟩ := t
      have e' := sm.trans e
      have ft : Fit (none : Option Vs.Env) S' F' H' S3 F' f H4 := ⟨e', u1, fun b hb => (u2 b hb).imp id sm.free, rfl, fun b hb => sm.free (n b hb)⟩
      refine ⟨F', ft, (T.env.same e').more u1, ?_, T.dead⟩
      have := Ok.join (G := []) (F := F') (F' := f ++ F') ft.step kF' (by
        refine k3.head.two ⟨kF'.nd, fun b hb => (kF'.same e').mu b hb, fun b hb z => ?_, k3.tr⟩ fun b hb z => ?_
        · rcases u2 b z with q | q
          · exact kF'.ns b hb q
          · exact kF'.mem hb (sm.free q)
        · exact kF'.mem z (sm.free (n b hb)))
      exact this
    | some ρ4 =>
      have t : Step S' F2 H3 S3 (f ++ F3) H4 := t
      obtain ⟨f0, G, p, E4⟩ := EnvRp.wipe own (show EnvRp K S3 H4 σ2 ρ4 F3 from E3)
      have p2 : (f ++ F3).Perm (f0 ++ (f ++ G)) := (List.Perm.append_left _ p).trans perm_mid
      refine ⟨G, ?_, E4.other hl.symm fun i hi => ?_, (k3.perm p2).tail, fun j hj => look_wipe (.inr hj)⟩
      · refine Step.trans (Step.of_same sm fun b => .inl : Step S' F' H' S' F' H3) ((t.wide sub fun b hb => .inl hb).less fun b hb => p2.mem_iff.mpr (List.mem_append_right _ hb))
      · refine (hk i fun z => hi (look_wipe (.inr z))).symm
  obtain ⟨F4, t4, E4, k4, d4⟩ := slots
  have st4 : Step S' F' H' S3 (f ++ F4) H4 := t4.step
  have st5 : Step S' F' H' S3 F4 H4 := st4.less fun b hb => List.mem_append_right _ hb
  have all : Ok S3 H4 ((Dd :: fa) ++ (f ++ F4)) := Ok.join st4 T.ok k4
  have all2 : Ok S3 H4 (f ++ ((Dd :: fa) ++ F4)) := all.perm perm_mid
  refine ⟨F4, ⟨?_, by rw [now_thn]; exact E4, all2.tail, ?_, T.st, ?_, by rw [now_thn]; exact d4⟩, t4, fun _ => trivial, all2⟩
  · exact T.fit.thn T.ok t4 (fun b hb => .inl hb) (Same.refl _)
  · exact T.vs.step st5 kF' (fun b hb => apart b (List.mem_cons_of_mem _ hb)) T.st
  · exact st5.keep _ _ T.at_ (apart _ (List.mem_cons_self ..))
/-- one more item -/
theorem Turn'.push {K : PySem.W.Frag} {own : List Nat} {σ : L2.St} {ρw : Vs.Env} {S1 S' : Addr → Prop} {F1 F' fa f : List Addr} {H1 H' : Hp} {Dd : Addr} {o : Option Vs.Env} {acc : List VV} {ws : List V} {x : VV} {y : V}
    (T : Turn' K own σ ρw S1 F1 H1 Dd o acc ws fa S' F' H') (nD : H1 Dd = none) (hx : VOk K S' H' x y f) (hs : x.stable = true) (k : Ok S' H' (f ++ ((Dd :: fa) ++ F'))) (ff : ∀ b ∈ f, b ∈ F1 ∨ H1 b = none) (fn : o = none → ∀ b ∈ f, H1 b = none) :
    Turn' K own σ ρw S1 F1 H1 Dd o (acc ++ [x]) (ws ++ [y]) (fa ++ f) S' F' (upd H' Dd (.lst (ws ++ [y]))) := by
  have k1 : Ok S' H' ((fa ++ f) ++ (F' ++ [Dd])) := k.perm (by
    have a1 : (f ++ (Dd :: fa ++ F')).Perm ((Dd :: fa ++ F') ++ f) := List.perm_append_comm
    refine a1.trans ?_
    show (Dd :: (fa ++ F' ++ f)).Perm _
    refine List.Perm.trans ?_ (List.perm_append_comm (l₁ := [Dd]) (l₂ := (fa ++ f) ++ F') |>.trans (by rw [List.append_assoc]))
    refine List.Perm.cons _ ?_
    rw [List.append_assoc, List.append_assoc]
    exact List.Perm.append_left _ List.perm_append_comm)
  have k2 : Ok S' H' (((fa ++ f) ++ F') ++ [Dd]) := by rw [List.append_assoc]; exact k1
  have kD : Ok S' H' [Dd] := k2.tail
  have kD' : Ok S' (upd H' Dd (.lst (ws ++ [y]))) [Dd] := ⟨kD.nd, fun b hb => by
    obtain rfl := List.mem_singleton.mp hb
    rw [upd_same]
    trivial, kD.ns, fun b hb e => by
    have hb' : b ≠ Dd := fun z => kD.ns Dd (List.mem_singleton.mpr rfl) (z ▸ hb)
    rw [upd_ne hb'] at e
    exact kD.tr b hb e⟩
  have st : Step S' [Dd] H' S' [Dd] (upd H' Dd (.lst (ws ++ [y]))) := ⟨fun b o e hb => by rw [upd_ne fun z => hb (by rw [z]; exact List.mem_singleton.mpr rfl)]; exact e, fun _ z => z, fun _ => .inl, fun _ => .inl⟩
  have all : Ok S' (upd H' Dd (.lst (ws ++ [y]))) (((fa ++ f) ++ F') ++ [Dd]) := Ok.join st k2 kD'
  have nf : ∀ b ∈ (fa ++ f) ++ F', b ∉ [Dd] := k2.apart
  refine ⟨?_, T.env.step st kD fun b hb => nf b (List.mem_append_right _ hb), all.perm ?_, ?_, fun z hz => ?_, upd_same, T.dead⟩
  · refine Fit.over ?_ nD
    cases o with
    | none =>
      obtain ⟨e, u1, u2, e2, n⟩ := T.fit
      refine ⟨e, u1, u2, e2, fun b hb => ?_⟩
      rcases List.mem_cons.mp hb with z | z
      · exact n b (by rw [z]; exact List.mem_cons_self ..)
      · rcases List.mem_append.mp z with z | z
        · exact n b (List.mem_cons_of_mem _ z)
        · exact fn rfl b z
    | some ρ =>
      have t : Step S1 F1 H1 S' ((Dd :: fa) ++ F') H' := T.fit
      refine ⟨t.keep, t.sub, fun b hb => ?_, t.newS⟩
      rcases List.mem_append.mp hb with z | z
      · rcases List.mem_cons.mp z with z | z
        · exact t.newF b (by rw [z]; exact List.mem_append_left _ (List.mem_cons_self ..))
        · rcases List.mem_append.mp z with z | z
          · exact t.newF b (List.mem_append_left _ (List.mem_cons_of_mem _ z))
          · exact ff b z
      · exact t.newF b (List.mem_append_right _ z)
  · rw [List.append_assoc]
    refine (List.perm_append_comm (l₁ := fa ++ f) (l₂ := F' ++ [Dd])).trans ?_
    rw [List.append_assoc]
    refine List.perm_append_comm.trans ?_
    show ((Dd :: (fa ++ f)) ++ F').Perm _
    exact .refl _
  · refine VsOk.snoc (T.vs.step st kD (fun b hb => nf b (List.mem_append_left _ (List.mem_append_left _ hb))) T.st) (hx.step st kD (fun b hb => nf b (List.mem_append_left _ (List.mem_append_right _ hb))) hs)
  · rcases List.mem_append.mp hz with z | z
    · exact T.st _ z
    · rw [List.mem_singleton.mp z]; exact hs
theorem compF_cons {own : List Nat} {d : D} {ds : List D} {ρ : Vs.Env} {acc : List VV} {o : Option Vs.Env} (h : compF ((compL own gg gt ge (d :: ds) ρ acc).aft o) ≠ .no) :
    ∃ ρ1 b o1, gg ⟨false, 0, d⟩ ρ = .nx ρ1 ∧ gt ρ1 = .ok b o1 ∧
      (b = false → compF ((compL own gg gt ge (d :: ds) ρ acc).aft o) = compF ((compL own gg gt ge ds (now (o1.map (wipeE own)) ρ) acc).aft (thn o (o1.map (wipeE own))))) ∧
      (b = true → ∃ x o2, ge (now o1 ρ1) = .ok x o2 ∧ x.stable = true ∧
        compF ((compL own gg gt ge (d :: ds) ρ acc).aft o) = compF ((compL own gg gt ge ds (now ((thn o1 o2).map (wipeE own)) ρ) (acc ++ [x])).aft (thn o ((thn o1 o2).map (wipeE own))))) := by
  cases q1 : gg ⟨false, 0, d⟩ ρ with
  | nx ρ1 =>
    cases q2 : gt ρ1 with
    | ok b o1 =>
      refine ⟨ρ1, b, o1, rfl, q2, fun hb => ?_, fun hb => ?_⟩
      · subst hb
        conv => lhs; unfold compL
        rw [q1]
        simp only [q2]
        rw [aft_aft]
      · subst hb
        cases q3 : ge (now o1 ρ1) with
        | ok x o2 =>
          by_cases hs : x.stable = true
          · refine ⟨x, o2, rfl, hs, ?_⟩
            conv => lhs; unfold compL
            rw [q1]
            simp only [q2, q3, hs]
            rw [if_pos trivial, aft_aft]
          · exfalso
            apply h
            unfold compL
            rw [q1]
            simp only [q2, q3]
            rw [if_neg hs]
            rfl
        | ex _ _ =>
          exfalso; apply h; unfold compL; rw [q1]; simp only [q2, q3]; rfl
        | no =>
          exfalso; apply h; unfold compL; rw [q1]; simp only [q2, q3]; rfl
    | ex _ _ => exfalso; apply h; unfold compL; rw [q1]; simp only [q2]; rfl
    | no => exfalso; apply h; unfold compL; rw [q1]; simp only [q2]; rfl
  | _ => exfalso; apply h; unfold compL; rw [q1]; rfl
theorem kp_wipe {n : Nat} {own : List Nat} {σ σ2 : List (Option V)} (k : Kp (others n own) (L2.wipe σ own) σ2) (hn : n = σ.length) : ∀ i : Nat, i ∉ own → σ2[i]? = (L2.wipe σ own)[i]? := fun i hi => by
  by_cases h : i < n
  · exact k.2 i (others_get h hi)
  · have l1 : (L2.wipe σ own).length = σ.length := L2.wipe_length σ own
    rw [List.getElem?_eq_none (by rw [k.1, l1]; omega), List.getElem?_eq_none (by rw [l1]; omega)]
theorem wipe_same {own : List Nat} {σ σ2 : List (Option V)} (hl : σ2.length = (L2.wipe σ own).length) (h : ∀ i : Nat, i ∉ own → σ2[i]? = (L2.wipe σ own)[i]?) : L2.wipe σ2 own = L2.wipe σ own := by
  have l1 : (L2.wipe σ own).length = σ.length := L2.wipe_length σ own
  have l2 : (L2.wipe σ2 own).length = σ2.length := L2.wipe_length σ2 own
  refine List.ext_getElem? fun i => ?_
  by_cases hi : i ∈ own
  · have e : ∀ (τ : List (Option V)) (ow : List Nat), i ∈ ow → (L2.wipe τ ow)[i]? = if i < τ.length then some none else none := by
      intro τ ow
      induction ow with
      | nil => intro z; cases z
      | cons j ow ih =>
        intro z
        have lw : (L2.wipe τ ow).length = τ.length := L2.wipe_length τ ow
        show ((L2.wipe τ ow).set j none)[i]? = _
        by_cases e : j = i
        · subst e
          by_cases h : j < τ.length
          · rw [List.getElem?_set_self (by rw [lw]; exact h), if_pos h]
          · rw [List.getElem?_eq_none (by rw [List.length_set, lw]; omega), if_neg h]
        · rw [List.getElem?_set_ne e]
          exact ih ((List.mem_cons.mp z).resolve_left (Ne.symm e))
    rw [e _ _ hi, e _ _ hi, hl, l1]
  · rw [wipe_get hi]
    exact h i hi
theorem comp_runG {PX : TI → Prop} {Hi : BI → Prop} (hN : X.N.Nodup) (hi : ∀ W, Takes X W → ∃ wi, PX wi ∧ ∀ S F H σ ρ R, EnvRp X.K S H σ ρ F → Ok S H F → Good X.K ct (ItOk X.K) W S F H σ ρ (gi ρ) R → wi σ H R)
    (hg : ∀ n i, Hi i → SN ct (others n (own.map (·.2))) (blkX X scope i) tg gg) (ht : ∀ i, Hi i → STs ct (blkX X scope i) ifs gt) (he : ∀ i, Hi i → SE ct (blkX X scope i) elt ge) :
    ∀ W, Takes X W → ∃ wi g tt te, PX wi ∧ (∀ i, Hi i → PG (blkX X scope i) tg g) ∧ (∀ i, Hi i → PTs (blkX X scope i) ifs tt) ∧ (∀ i, Hi i → PE (blkX X scope i) elt te) ∧
      ∀ S F H σ ρ Q, EnvRp X.K S H σ ρ F → Ok S H F → Good X.K ct (VOk X.K) W S F H σ ρ (comp gi gg gt ge (own.map (·.2)) ρ) Q → tLc wi g tt te (own.map (·.2)) σ H Q := by
  intro W tk
  obtain ⟨wi, pi, ri⟩ := hi W tk
  refine ⟨wi, fun v σ H Q => ∀ i (z : Hi i), (hg σ.length i z).run.choose v σ H Q, fun σ H Q => ∀ i (z : Hi i), ((ht i z).run _ takes0).choose σ H Q, fun σ H Q => ∀ i (z : Hi i), ((he i z).run _ takes0).choose σ H Q, pi,
    fun i z => ⟨fun pins s σ H v u Q I r q => (hg σ.length i z).run.choose_spec.1.run pins s σ H v u Q I r (q i z)⟩,
    fun i z => ⟨fun pins s σ H Q I q => ((ht i z).run _ takes0).choose_spec.1.run pins s σ H Q I (q i z)⟩,
    fun i z => ⟨fun pins s σ H Q I q => ((he i z).run _ takes0).choose_spec.1.run pins s σ H Q I (q i z)⟩, fun S F H σ ρ Q E ok G => ?_⟩
  have rt : ∀ (i : BI) (z : Hi i) S F H σ ρ Q, EnvRp X.K S H σ ρ F → Ok S H F → Good X.K ct BOk (fun _ _ _ _ => False) S F H σ ρ (gt ρ) Q → ((ht i z).run _ takes0).choose σ H Q := fun i z => ((ht i z).run _ takes0).choose_spec.2
  have re : ∀ (i : BI) (z : Hi i) S F H σ ρ Q, EnvRp X.K S H σ ρ F → Ok S H F → Good X.K ct (VOk X.K) (fun _ _ _ _ => False) S F H σ ρ (ge ρ) Q → ((he i z).run _ takes0).choose σ H Q := fun i z => ((he i z).run _ takes0).choose_spec.2
  generalize hw : own.map (·.2) = ow at *
  refine ri S F H σ ρ _ E ok ?_
  unfold comp at G
  refine good_bind G fun ds o0 J S1 F1 H1 f0 _ t1 hJ E1 k1 G => ?_
  obtain ⟨rfl, hJ⟩ := hJ
  replace k1 : Ok S1 H1 F1 := k1
  intro Dd nD
  obtain ⟨fd, Fw, pw, Ew⟩ := E1.wipe ow
  generalize hρw : wipeE ow (now o0 ρ) = ρw at *
  have kw : Ok S1 H1 Fw := (k1.perm pw).tail
  have dead0 : ∀ j ∈ ow, look ρw j = none := fun j hj => by rw [← hρw]; exact look_wipe (.inr hj)
  have hE0 : EnvRp X.K S1 H1 (L2.wipe σ ow) ρw Fw := Ew.other (L2.wipe_length σ ow) fun i hi => wipe_get fun z => hi (dead0 i z)
  generalize hwh : compF (compL ow gg gt ge ds ρw []) = whole at G
  -- it comes to something
  have some_ : whole ≠ .no := fun z => by rw [z] at G; exact G
  have T0 : Turn' X.K ow σ ρw S1 Fw H1 Dd none [] [] [] S1 Fw (upd H1 Dd (.lst [])) := by
    have n2 := kw.dead Dd nD
    have sm : Same H1 (upd H1 Dd (.lst [])) := same_upd nD
    refine ⟨⟨sm, fun _ z => z, fun _ => .inl, rfl, fun b hb => by rw [List.mem_singleton.mp hb]; exact nD⟩, hE0.same sm, ?_, .nil, by simp, upd_same, dead0⟩
    exact new_okp kw nD trivial
  refine ⟨fun i m H' => ∃ o acc ws fa S' F', i + m = ds.length ∧ Turn' X.K ow σ ρw S1 Fw H1 Dd o acc ws fa S' F' H' ∧ compF ((compL ow gg gt ge (ds.drop i) (now o ρw) acc).aft o) = whole,
    ⟨ds.length, none, [], [], [], S1, Fw, by omega, T0, by rw [R.aft_none]; exact hwh⟩, fun i m H' hW => ?_⟩
  obtain ⟨o, acc, ws, fa, S', F', em, T, hwhole⟩ := hW
  have lat : Later S1 H1 S' H' := (T.fit.step.less fun b hb => List.mem_append_right _ hb).later kw
  obtain ⟨j1, j2⟩ := hJ S' H' lat i
  by_cases hlt : i < ds.length
  · -- one more turn
    obtain ⟨d, hd⟩ : ∃ d, ds[i]? = some d := ⟨ds[i], List.getElem?_eq_getElem hlt⟩
    obtain ⟨g1, g2⟩ := j1 d hd
    have ed : ds.drop i = d :: ds.drop (i + 1) := by
      have := List.drop_eq_getElem_cons hlt
      rw [List.getElem?_eq_getElem hlt] at hd
      rw [this, Option.some.inj hd]
    rw [ed] at hwhole
    obtain ⟨ρ1, b, o1, q1, q2, hF, hT⟩ := compF_cons (by rw [hwhole]; exact some_)
    rw [hwhole] at hF hT
    let Nx : Hp → Prop := fun H2 => ∃ o acc ws fa S' F', Turn' X.K ow σ ρw S1 Fw H1 Dd o acc ws fa S' F' H2 ∧ compF ((compL ow gg gt ge (ds.drop (i + 1)) (now o ρw) acc).aft o) = whole
    refine .inr ⟨g1, Nx, fun H2 hN => ?_, fun x H3 hy => ?_⟩
    · obtain ⟨o, acc, ws, fa, S', F', a, b⟩ := hN
      exact ⟨m - 1, by omega, o, acc, ws, fa, S', F', by omega, a, b⟩
    · obtain ⟨sm, rx⟩ := g2 x H3 hy
      have kF' : Ok S' H3 F' := T.ok.tail.same sm
      intro ib zb
      refine (hg _ ib zb).run.choose_spec.2 S' F' H3 (L2.wipe σ ow) (now o ρw) ⟨false, 0, d⟩ x [] ρ1 _ (by rw [VOk.own]; exact rx) (T.env.same sm) kF' q1 fun σ2 F2 s2 E2 k2 kp => ?_
      have hl2 : σ2.length = (L2.wipe σ ow).length := kp.1
      have hk2 := kp_wipe kp (L2.wipe_length σ ow)
      refine ⟨wipe_same hl2 hk2, fun ib2 zb2 => ?_⟩
      refine rt ib2 zb2 S' F2 H3 σ2 ρ1 _ E2 k2 ?_
      rw [q2]
      intro y S3 F3 H4 f t3 hb E3 k3
      obtain ⟨rfl, rfl⟩ := hb
      cases b with
      | false =>
        rw [if_neg Bool.false_ne_true]
        obtain ⟨F4, T4, _, _, _⟩ := T.next sm s2 t3 E3 k3 hl2 hk2
        refine ⟨_, acc, ws, fa, S3, F4, T4, ?_⟩
        rw [hF rfl, now_thn]
      | true =>
        rw [if_pos rfl]
        obtain ⟨xv, o2, q3, hs, hT⟩ := hT rfl
        intro ib3 zb3
        replace k3 : Ok S3 H4 F3 := k3
        refine re ib3 zb3 S3 F3 H4 σ2 (now o1 ρ1) _ E3 k3 ?_
        rw [q3]
        intro yv S5 F5 H5 fx t5 hx E5 k5
        have t35 : Fit (Vs.thn o1 o2) S' F2 H3 S5 F5 fx H5 := t3.thn (f := []) k3 t5 (fun b hb => .inr (.inl hb)) (Same.refl _)
        obtain ⟨F4, T4, t4, _, k4⟩ := T.next sm s2 t35 (by rw [now_thn]; exact E5) k5 hl2 hk2
        have bk : ∀ c, H' c = none → c ∈ Fw ∨ H1 c = none := fun c e => by
          by_cases hc : c ∈ Fw
          · exact .inl hc
          · cases q : H1 c with
            | none => exact .inr rfl
            | some u => rw [T.fit.step.keep c u q hc] at e; cases e
        have T5 := T4.push nD hx hs k4 (fun b hb => by
          rcases t4.step.newF b (List.mem_append_left _ hb) with z | z
          · exact T.fit.step.newF b (List.mem_append_right _ z)
          · exact bk b z) fun en b hb => by
          have eo : o = none ∧ (Vs.thn o1 o2).map (wipeE ow) = none := by
            cases hh : (Vs.thn o1 o2).map (wipeE ow) with
            | none => rw [hh] at en; exact ⟨en, rfl⟩
            | some _ => rw [hh] at en; cases en
          obtain ⟨rfl, e2⟩ := eo
          rw [e2] at t4
          obtain ⟨_, _, _, _, n4⟩ := t4
          obtain ⟨e1, _⟩ := T.fit
          exact e1.free (n4 b hb)
        have hlen : (acc ++ [xv]).length ≤ lim := by
          obtain ⟨xs, o', e1, e2⟩ := compF_some (by rw [← hT]; exact some_)
          exact Nat.le_trans (compL_len e1) e2
        refine ⟨ws, T4.at_, ?_, _, _, _, _, S5, F4, T5, ?_⟩
        · rw [← T4.vs.len, ← lim_eq]
          rw [List.length_append] at hlen
          exact hlen
        · rw [hT, now_thn]
  · -- the end
    refine .inl ⟨j2 (by omega), ?_⟩
    rw [List.drop_eq_nil_of_le (by omega)] at hwhole
    have hwhole : (R.ofO (kLst acc)).aft o = whole := by
      rw [← hwhole]
      show _ = (R.ofO (kLst acc)).aft (Vs.thn o none)
      rw [thn_none]
    rw [← hwhole] at G some_
    -- all slots behind
    have fin : ∃ F2, Fit o S1 F1 H1 S' F2 (Dd :: fa) H' ∧ EnvRp X.K S' H' σ (now o (now o0 ρ)) F2 ∧ Ok S' H' ((Dd :: fa) ++ F2) := by
      have j : Ok S' H' (fd ++ ((Dd :: fa) ++ F')) := Ok.join T.fit.step (k1.perm pw) T.ok
      cases o with
      | none =>
        obtain ⟨e, u1, u2, rfl, n⟩ := T.fit
        exact ⟨F1, ⟨e, u1, u2, rfl, n⟩, (E1.same e).more u1, (j.perm perm_mid).perm (List.Perm.append_left _ pw.symm)⟩
      | some ρe =>
        refine ⟨F', Step.wide T.fit (fun b hb => pw.mem_iff.mpr (List.mem_append_right _ hb)) fun b hb => .inl hb, T.env.other (L2.wipe_length σ ow).symm fun i hi => ?_, T.ok⟩
        exact (wipe_get fun z => hi (T.dead i z)).symm
    obtain ⟨F2, t2, E2, k2⟩ := fin
    cases q : kLst acc with
    | none => rw [q] at some_; exact absurd rfl some_
    | some z =>
      rw [q] at G
      unfold kLst at q
      split at q
      · rename_i c
        obtain rfl := Option.some.inj q
        obtain ⟨n, hn, hle⟩ := dmode_pos acc
        rw [hn] at G
        obtain ⟨g, f1, p, r⟩ := T.vs.all n c.1 hle
        have gr : Grow S' H' (Dd :: fa) (fun b => S' b ∨ b ∈ f1) (Dd :: g) H' := ⟨Same.refl _, fun b => Or.inl, fun b hb => hb.imp id fun z => .inl (List.mem_cons_of_mem _ (p.mem_iff.mpr (List.mem_append_right _ z))),
          fun b hb => .inl (by
            rcases List.mem_cons.mp hb with z | z
            · rw [z]; exact List.mem_cons_self ..
            · exact List.mem_cons_of_mem _ (p.mem_iff.mpr (List.mem_append_left _ z)))⟩
        have okg : Ok (fun b => S' b ∨ b ∈ f1) H' (Dd :: g) := split_ok (f := Dd :: fa) (g := Dd :: g) T.ok.head (List.Perm.cons _ p)
        have t3 := t1.thn (f := []) k1 (t2.grow k2 gr) (h := Dd :: g) (fun b hb => .inr (.inl hb)) (Same.refl _)
        refine G _ _ F2 H' (Dd :: g) t3 (by rw [VOk.own]; exact .lst1 T.at_ r) ?_ (gr.ok k2 okg)
        rw [now_thn]
        exact E2.more gr.sub
      · cases q
theorem comp_run (hN : X.N.Nodup) (hi : SI ct X tg iter gi)
    (hg : ∀ n i, SN ct (others n (own.map (·.2))) (blkX X scope i) tg gg) (ht : ∀ i, STs ct (blkX X scope i) ifs gt) (he : ∀ i, SE ct (blkX X scope i) elt ge) :
    ∀ W, Takes X W → ∃ wi g tt te, PI X tg iter wi ∧ (∀ i, PG (blkX X scope i) tg g) ∧ (∀ i, PTs (blkX X scope i) ifs tt) ∧ (∀ i, PE (blkX X scope i) elt te) ∧
      ∀ S F H σ ρ Q, EnvRp X.K S H σ ρ F → Ok S H F → Good X.K ct (VOk X.K) W S F H σ ρ (comp gi gg gt ge (own.map (·.2)) ρ) Q → tLc wi g tt te (own.map (·.2)) σ H Q := fun W tk =>
  let ⟨wi, g, tt, te, a, b, c, d, e⟩ := comp_runG (PX := PI X tg iter) (Hi := fun _ => True) (own := own) hN hi.run (fun n i _ => hg n i) (fun i _ => ht i) (fun i _ => he i) W tk
  ⟨wi, g, tt, te, a, fun i => b i trivial, fun i => c i trivial, fun i => d i trivial, e⟩
end
end Vs
set_option maxHeartbeats 4000000
/-! Vs: a rule per construct. -/
namespace Vs
open PySem PySem.Spec PyProof.Rows L2
section
variable {ct : Str → Addr} {lent : List Bool} {X : Cx} {a b c e : Expr} {es : List Expr} {ga gb gc ge : M} {gs : MA} {pos p : Pos}
/-! ### nothing known -/
theorem se_no : SE ct X e (fun _ => .no) := ⟨fun W tk => ⟨fun _ _ _ => False, ⟨fun _ _ _ _ _ _ h => h.elim⟩, fun _ _ _ _ _ _ _ _ G => G⟩⟩
theorem ss_no {st : Stmt} : SS ct lent X st (fun _ => .no) := ⟨fun W tk po => ⟨fun _ _ _ => False, ⟨fun _ _ _ _ _ _ h => h.elim⟩, fun _ _ _ _ _ _ _ _ G => G⟩⟩
/-! ### operators -/
theorem s_op {op : Operator} {r : R2} {k : VV → VV → Option VV} (ho : OpR X (binaryOp op) r) (hk : Op2 X.K r k) (ha : SE ct X a ga) (hb : SE ct X b gb) : SE ct X (.BinOp a op b pos) (two ga gb k) := run_two ha hb (fun pa pb => pe_op ho pa pb) hk
theorem s_cmp {op : CmpOp} {r : R2} {k : VV → VV → Option VV} (ho : OpR X (compareOp op) r) (hk : Op2 X.K r k) (hm : behindInMarks op b = false) (ha : SE ct X a ga) (hb : SE ct X b gb) : SE ct X (.Compare a [op] [b] pos) (two ga gb k) := run_two ha hb (fun pa pb => pe_cmpR ho pa pb hm) hk
theorem s_add (ha : SE ct X a ga) (hb : SE ct X b gb) : SE ct X (.BinOp a .Add b pos) (two ga gb kAdd) := s_op op_add3 kAdd_op ha hb
theorem s_sub (ha : SE ct X a ga) (hb : SE ct X b gb) : SE ct X (.BinOp a .Sub b pos) (two ga gb kSub) := s_op op_sub kSub_op ha hb
theorem s_mul (ha : SE ct X a ga) (hb : SE ct X b gb) : SE ct X (.BinOp a .Mult b pos) (two ga gb kMul) := s_op op_mul2 kMul_op ha hb
theorem s_mod (ha : SE ct X a ga) (hb : SE ct X b gb) : SE ct X (.BinOp a .Mod b pos) (two ga gb kMod) := s_op op_mod kMod_op ha hb
theorem s_div (ha : SE ct X a ga) (hb : SE ct X b gb) : SE ct X (.BinOp a .FloorDiv b pos) (two ga gb kDiv) := s_op op_fdivW kDiv_op ha hb
theorem s_pow (ha : SE ct X a ga) (hb : SE ct X b gb) : SE ct X (.BinOp a .Pow b pos) (two ga gb kPow) := s_op op_powB kPow_op ha hb
theorem kBit_op {φ : Int → Int → Int} : Op2 X.K (rI0 fun i j => .int (φ i j)) (kBit φ) := op2_int0 fun x y z e => by
  unfold kBit at e
  split at e
  · rename_i i j h1 h2
    obtain rfl := Option.some.inj e
    exact ⟨i, j, h1, h2, rfl, fun _ _ => .int _ _⟩
  · cases e
theorem s_band (ha : SE ct X a ga) (hb : SE ct X b gb) : SE ct X (.BinOp a .BitAnd b pos) (two ga gb (kBit Builtin.bitAnd)) := s_op op_and kBit_op ha hb
theorem s_bor (ha : SE ct X a ga) (hb : SE ct X b gb) : SE ct X (.BinOp a .BitOr b pos) (two ga gb (kBit Builtin.bitOr)) := s_op op_or kBit_op ha hb
theorem s_bxor (ha : SE ct X a ga) (hb : SE ct X b gb) : SE ct X (.BinOp a .BitXor b pos) (two ga gb (kBit Builtin.bitXor)) := s_op op_xor kBit_op ha hb
theorem s_lt (ha : SE ct X a ga) (hb : SE ct X b gb) : SE ct X (.Compare a [.Lt] [b] pos) (two ga gb kLt) := s_cmp op_lt kCmp_op (nomark _) ha hb
theorem s_le (ha : SE ct X a ga) (hb : SE ct X b gb) : SE ct X (.Compare a [.LtE] [b] pos) (two ga gb kLe) := s_cmp op_le kCmp_op (nomark _) ha hb
theorem s_gt (ha : SE ct X a ga) (hb : SE ct X b gb) : SE ct X (.Compare a [.Gt] [b] pos) (two ga gb kGt) := s_cmp op_gt kCmp_op (nomark _) ha hb
theorem s_ge (ha : SE ct X a ga) (hb : SE ct X b gb) : SE ct X (.Compare a [.GtE] [b] pos) (two ga gb kGe) := s_cmp op_ge kCmp_op (nomark _) ha hb
theorem s_is (ha : SE ct X a ga) (hb : SE ct X b gb) : SE ct X (.Compare a [.Is] [b] pos) (two ga gb kIs) := s_cmp op_is2 kIs_op (nomark _) ha hb
theorem s_isnot (ha : SE ct X a ga) (hb : SE ct X b gb) : SE ct X (.Compare a [.IsNot] [b] pos) (two ga gb kIsNot) := s_cmp op_isNot2 kIsNot_op (nomark _) ha hb
theorem units_of {A : Around} {k : Nat} (hr : Room k A) : A.units + 65 < cLine := by
  have := hr.un
  omega
theorem s_eq {k : Nat} (hr : Room k X.A) (ha : SE ct X a ga) (hb : SE ct X b gb) : SE ct X (.Compare a [.Eq] [b] pos) (two ga gb kEq) := s_cmp (op_eqS (units_of hr)) kEq_op (nomark _) ha hb
theorem s_ne {k : Nat} (hr : Room k X.A) (ha : SE ct X a ga) (hb : SE ct X b gb) : SE ct X (.Compare a [.NotEq] [b] pos) (two ga gb kNe) := s_cmp (op_neS (units_of hr)) kNe_op (nomark _) ha hb
theorem s_in {k : Nat} (hr : Room k X.A) (ha : SE ct X a ga) (hb : SE ct X b gb) (hm : behindInMarks .In b = false := by with_unfolding_all rfl) : SE ct X (.Compare a [.In] [b] pos) (two ga gb kIn) := s_cmp (op_in2 (units_of hr)) kIn_op hm ha hb
theorem s_notin {k : Nat} (hr : Room k X.A) (ha : SE ct X a ga) (hb : SE ct X b gb) (hm : behindInMarks .NotIn b = false := by with_unfolding_all rfl) : SE ct X (.Compare a [.NotIn] [b] pos) (two ga gb kNotIn) := s_cmp (op_notIn2 (units_of hr)) kNotIn_op hm ha hb
theorem s_ix (ha : SE ct X a ga) (hb : SE ct X b gb) (hs : PlainIx b := by exact fun _ _ => rfl) : SE ct X (.Subscript a b pos) (two ga gb kIx) := run_two ha hb (fun pa pb => pe_ix ix_seq pa pb hs) kIx_op
theorem kNeg_op : Op1 X.K (rU fun i => .int (-i)) kNeg := fun S H x v f z Q h ok e hQ => by
  unfold kNeg at e
  split at e
  · rename_i i el
    obtain rfl := Option.some.inj e
    exact ⟨i, h.int el, ret_imm ok rfl (.int _ _) hQ⟩
  · cases e
theorem s_neg (ha : SE ct X a ga) : SE ct X (.UnaryOp .USub a pos) (one ga kNeg) := run_one ha (fun pa => pe_un un_neg pa) kNeg_op
/-! ### displays -/
theorem s_lst (ha : SA ct X es gs) : SE ct X (.List es pos) (argsk gs kLst) := run_args ha (fun pa => pe_lst pa) kLst_op
theorem s_tup {j : Nat} (ha : SA ct X es gs) : SE ct X (.Tuple es j pos) (argsk gs kTup) := run_args ha (fun pa => pe_tup pa) kTup_op
/-! ### built-ins -/
theorem s_bi {x : Str} {id : String} {r : List V → Hp → VK → Prop} {k : List VV → Option VV} (hc : CallR X (.builtin id) r) (hk : OpN X.K r k) (hg : Gl X x) (hm : X.mg x = none) (hv : bootBuiltins x = some (.builtin id)) (hn : x ≠ "__name__") (hdb : (x == ("__debug__" : Str)) = false) (ha : SA ct X (e :: es) gs)
    (he : starEach (e :: es) X.env = (false, eval e X.env) :: starEach es X.env := by rfl) (hpl : (backTo pos (starEach es X.env)).any (·.1) = false := by rfl) : SE ct X (.Call (.Name x p) (e :: es) [] pos) (argsk gs k) :=
  run_args ha (fun pa => pe_callB hc hg hm hv pa hn hdb he hpl) hk
theorem s_ty {x : Str} {T : String} {r : List V → Hp → VK → Prop} {k : List VV → Option VV} (hc : CallR X (.type T) r) (hk : OpN X.K r k) (hg : Gl X x) (hm : X.mg x = none) (hv : bootBuiltins x = some (.type T)) (hn : x ≠ "__name__") (hdb : (x == ("__debug__" : Str)) = false) (ha : SA ct X (e :: es) gs)
    (he : starEach (e :: es) X.env = (false, eval e X.env) :: starEach es X.env := by rfl) (hpl : (backTo pos (starEach es X.env)).any (·.1) = false := by rfl) : SE ct X (.Call (.Name x p) (e :: es) [] pos) (argsk gs k) :=
  run_args ha (fun pa => pe_callTy hc hg hm hv pa hn hdb he hpl) hk
/-! ### assignments -/
theorem ss_asg {tg : Expr} {gg : MG} (he : SE ct X e ge) (hg : SG ct lent X tg gg) (hs : swapsWithSole [tg] e pos.line X.env = pure false := by rfl) (hw : swappedStores [tg] e X.env = pure none := by rfl)
    (h1 : (assignEach [tg] X.env).map (·.2) = [assign tg X.env] := by rfl) : SS ct lent X (.Assign [tg] e pos) (asg ge gg) := by
  refine ⟨fun W tk po => ?_⟩
  obtain ⟨te, pe, re⟩ := he.run W tk
  obtain ⟨tg', pg, rg⟩ := hg.run W tk
  refine ⟨_, ps_asg pe pg hs hw h1, fun S F H σ ρ D E ok G => re S F H σ ρ _ E ok ?_⟩
  refine good_go G fun x o v S1 F1 H1 f st h E1 ok1 G => ?_
  exact rg S1 F1 H1 σ _ x v f D D.nx h E1 ok1 (fun _ _ z => z) (GoodS.from st Kp.refl G)
/-- the slots named are read as they are -/
theorem VV.plain_ok {K : PySem.W.Frag} {S S' : Addr → Prop} {H : Hp} {x : VV} {v : V} {f : List Addr} (hp : x.plain = true) (h : VOk K S H x v f) : VOk K S' H x v f := by
  have all0 : ∀ {m : Nat} {xs : List V} {ds : List D} {g : List Addr}, RpAll K S H m xs ds g → ds.all D.imm = true → g = [] ∧ RpAll K S' H m xs ds [] := by
    intro m xs ds g h
    induction ds generalizing xs g with
    | nil => cases h; exact fun _ => ⟨rfl, .nil _⟩
    | cons d ds ih =>
      intro hc
      rw [List.all_cons, Bool.and_eq_true] at hc
      cases h with
      | cons h1 h2 =>
        obtain ⟨rfl, q⟩ := ih h2 hc.2
        obtain ⟨rfl, q1⟩ := h1.imm hc.1
        exact ⟨rfl, .cons (f := []) (g := []) (q1 _ _ _) q⟩
  obtain ⟨b, m, d⟩ := x
  unfold VV.plain at hp
  rw [Bool.and_eq_true] at hp
  obtain ⟨h1, h2⟩ := hp
  cases b with
  | true => cases h1
  | false =>
    rw [VOk.own] at h ⊢
    have im : d.imm = true → Rp K S' H m v d f := fun i => by
      obtain ⟨rfl, q⟩ := h.imm i
      exact q _ _ _
    cases d with
    | lst ds =>
      replace h2 : (m == 1 && ds.all D.imm) = true := h2
      rw [Bool.and_eq_true] at h2
      obtain rfl : m = 1 := by simpa using h2.1
      cases h with
      | lst1 q r =>
        obtain ⟨rfl, r'⟩ := all0 r h2.2
        exact .lst1 q r'
    | tup ds =>
      replace h2 : ds.all D.imm = true := h2
      cases h with
      | tup0 q r => exact .tup0 q (all0 r h2).2
      | tup1 q r =>
        obtain ⟨rfl, r'⟩ := all0 r h2
        exact .tup1 q r'
    | non => exact im rfl
    | bl _ => exact im rfl
    | int _ => exact im rfl
    | str _ => exact im rfl
    | dic _ => cases h2
    | ins _ _ => cases h2
theorem peek_run {ta : TE} {W : WX} {is : List Nat} (ra : ∀ S F H σ ρ Q, EnvRp X.K S H σ ρ F → Ok S H F → Good X.K ct (VOk X.K) W S F H σ ρ (ga ρ) Q → ta σ H Q)
    (S F H) (σ : L2.St) (ρ : Vs.Env) (Q : VK) (E : EnvRp X.K S H σ ρ F) (ok : Ok S H F) (G : Good X.K ct (VOk X.K) W S F H σ ρ (peek is ga ρ) Q) : ta σ H Q := by
  obtain ⟨S', F', st, E', ok'⟩ := thin_env 0 is E ok
  refine ra S' F' H σ _ Q E' ok' ?_
  unfold peek at G
  cases q : ga (thin 0 is ρ) with
  | no => rw [q] at G; exact G
  | ex _ _ => rw [q] at G; exact G.elim
  | ok x o =>
    rw [q] at G
    cases o with
    | some _ => exact G.elim
    | none =>
      by_cases hp : x.plain = true
      · replace G : Good X.K ct (VOk X.K) W S F H σ ρ (if x.plain = true then .pu x else .no) Q := G
        rw [if_pos hp] at G
        intro y S2 F2 H2 f t h E2 k2
        obtain ⟨sm, u1, u2, rfl, n⟩ := t
        refine G y S F H2 f ⟨sm, fun _ z => z, fun _ => .inl, rfl, n⟩ (VV.plain_ok hp h) (E.same sm) ?_
        have kf := k2.head
        exact (⟨kf.nd, kf.mu, fun b hb z => ok.tr b z (n b hb), (ok.same sm).tr⟩ : Ok S H2 f).two (ok.same sm) fun b hb z => ok.mem z (n b hb)
      · replace G : Good X.K ct (VOk X.K) W S F H σ ρ (if x.plain = true then .pu x else .no) Q := G
        rw [if_neg hp] at G
        exact G.elim
theorem s_peek {is : List Nat} (ha : SE ct X a ga) : SE ct X a (peek is ga) := by
  refine ⟨fun W tk => ?_⟩
  obtain ⟨ta, pa, ra⟩ := ha.run W tk
  exact ⟨ta, pa, peek_run ra⟩
theorem s_soft {is : List Nat} (ha : SE ct X a ga) : SE ct X a (soft is ga) := by
  refine ⟨fun W tk => ?_⟩
  obtain ⟨ta, pa, ra⟩ := ha.run W tk
  refine ⟨ta, pa, fun S F H σ ρ Q E ok G => ?_⟩
  have rest : Good X.K ct (VOk X.K) W S F H σ ρ (fz 0 is ga ρ) Q → ta σ H Q := fun G => by
    unfold fz at G
    by_cases hk : isThin 0 is ρ = true
    · rw [if_pos hk] at G
      exact ra S F H σ ρ Q E ok G
    · rw [if_neg hk] at G
      obtain ⟨S', F', st, E', ok'⟩ := thin_env 0 is E ok
      exact ra S' F' H σ _ Q E' ok' (good_after (o := some (thin 0 is ρ)) (f := []) st ok' G)
  unfold soft at G
  cases q : ga (thin 0 is ρ) with
  | no => rw [q] at G; exact G.elim
  | ex _ _ => rw [q] at G; exact rest G
  | ok x o =>
    rw [q] at G
    cases o with
    | some _ => exact rest G
    | none =>
      replace G : Good X.K ct (VOk X.K) W S F H σ ρ (if x.plain = true then .pu x else fz 0 is ga ρ) Q := G
      by_cases hp : x.plain = true
      · rw [if_pos hp] at G
        refine peek_run (is := is) ra S F H σ ρ Q E ok ?_
        unfold peek
        rw [q]
        show Good X.K ct (VOk X.K) W S F H σ ρ (if x.plain = true then .pu x else .no) Q
        rw [if_pos hp]
        exact G
      · rw [if_neg hp] at G
        exact rest G
end
end Vs
set_option maxHeartbeats 4000000
/-! Vs: methods, stores into lists. -/
namespace Vs
open PySem PySem.Spec PyProof.Rows L2
section
variable {K : PySem.W.Frag} {S S' : Addr → Prop} {H : Hp}
theorem mut_lst {a : Addr} {xs : List V} (h : H a = some (.lst xs)) : Mut (H a) := by rw [h]; trivial
/-- a list's place is written -/
theorem RpAll.wr {a : Addr} {o : HO} (hm : Mut (H a)) (hS : ¬ S a) {m : Nat} {v : List V} {d : List D} {f : List Addr} (hf : a ∉ f) (h : RpAll K S H m v d f) : RpAll K S (upd H a o) m v d f :=
  h.keep (fun b u hb e => by rw [upd_ne (show b ≠ a from fun z => hS (by rw [← z]; exact hb))]; exact e) (fun b u e nm => by
    rw [upd_ne fun z => nm (by rw [← e, z]; exact hm)]
    exact e) (fun _ z => z) fun b u hb e => by rw [upd_ne (show b ≠ a from fun z => hf (by rw [← z]; exact hb))]; exact e
theorem Ok.wr {a : Addr} {o : HO} {F : List Addr} (ho : Mut (some o)) (ok : Ok S H F) (ha : H a ≠ none) : Ok S (upd H a o) F :=
  ⟨ok.nd, fun b hb => by
    by_cases e : b = a
    · rw [e, upd_same]; exact ho
    · rw [upd_ne e]; exact ok.mu b hb, ok.ns, fun b hb => by
    by_cases e : b = a
    · rw [e, upd_same]; simp
    · rw [upd_ne e]; exact ok.tr b hb⟩
/-- a new item beside the others: all as deep as they can be -/
theorem RpAll.meet {m : Nat} {xs : List V} {ds : List D} {f g : List Addr} {n : Nat} {y : V} {d : D} (h : RpAll K S H m xs ds f) (r : Rp K S H n y d g) :
    ∃ ff gg f1, (f ++ g).Perm ((ff ++ gg) ++ f1) ∧ RpAll K (fun b => S b ∨ b ∈ f1) H (if d.imm = true then m else min m n) xs ds ff ∧ Rp K (fun b => S b ∨ b ∈ f1) H (if d.imm = true then m else min m n) y d gg := by
  by_cases hi : d.imm = true
  · rw [if_pos hi]
    obtain ⟨rfl, q⟩ := r.imm hi
    exact ⟨f, [], [], by simp, h.more fun _ => .inl, q _ _ _⟩
  · rw [if_neg hi]
    obtain ⟨f0, f1, p, h0⟩ := h.thin n
    obtain ⟨g0, g1, p', r0⟩ := r.thin m
    rw [Nat.min_comm n m] at r0
    exact ⟨f0, g0, f1 ++ g1, thin_perm p p', h0.more fun b hb => hb.imp id (List.mem_append_left _), r0.more fun b hb => hb.imp id (List.mem_append_right _)⟩
/-- the list at a of a slot is written anew: items xs, with ff of their own; h goes elsewhere -/
theorem write_ok {a : Addr} {f1 ff h G : List Addr} {ys : List V} {ds : List D} {n : Nat} {zs : List V} (ha : H a = some (.lst zs)) (ok : Ok S H G) (p : G.Perm ((h ++ (a :: ff)) ++ f1)) (r : RpAll K (fun b => S b ∨ b ∈ f1) H n ys ds ff) :
    Step S G H (fun b => S b ∨ b ∈ f1) (h ++ (a :: ff)) (upd H a (.lst ys)) ∧ Rp K (fun b => S b ∨ b ∈ f1) (upd H a (.lst ys)) (n + 1) (.ref a) (.lst ds) (a :: ff) ∧ Ok (fun b => S b ∨ b ∈ f1) (upd H a (.lst ys)) (h ++ (a :: ff)) := by
  have k := split_ok ok p
  have ka : Ok (fun b => S b ∨ b ∈ f1) H (a :: ff) := k.tail
  have nS : ¬ (S a ∨ a ∈ f1) := ka.ns a (List.mem_cons_self ..)
  have nf : a ∉ ff := (List.nodup_cons.mp ka.nd).1
  have hg : a ∈ G := p.mem_iff.mpr (List.mem_append_left _ (List.mem_append_right _ (List.mem_cons_self ..)))
  refine ⟨⟨fun b o e hb => by rw [upd_ne fun z => hb (by rw [z]; exact hg)]; exact e, fun _ => .inl, fun b hb => .inl (p.mem_iff.mpr (List.mem_append_left _ hb)), fun b hb => hb.imp id fun z => .inl (p.mem_iff.mpr (List.mem_append_right _ z))⟩, ?_, k.wr trivial (by rw [ha]; simp)⟩
  exact .lst1 upd_same (r.wr (mut_lst ha) nS nf)
/-- a method's call on a list of a slot -/
def Recv1 (K : PySem.W.Frag) (r : V → List V → Hp → VK → Prop) (k : PV → List VV → Option (VV × PV)) : Prop :=
  ∀ S H pv v f xs vs g z pv' Q, Rp K S H pv.1 v pv.2 f → VsOk K S H xs vs g → Ok S H (g ++ f) → k pv xs = some (z, pv') →
    (∀ w H' S' h f', Step S (g ++ f) H S' (h ++ f') H' → VOk K S' H' z w h → Rp K S' H' pv'.1 v pv'.2 f' → Ok S' H' (h ++ f') → Q w H') → r v vs H Q
theorem rAppend_rc : Recv1 K L2.rAppend rAppend := fun S H pv v f xs vs g z pv' Q h hx ok e hQ => by
  unfold rAppend at e
  split at e
  · rename_i m l x
    split at e
    · rename_i c
      obtain ⟨rfl, rfl⟩ := Prod.mk.inj (Option.some.inj e)
      obtain ⟨y, rfl, hy⟩ := hx.one
      have hy := hy.stab c.1
      replace h : Rp K S H (m + 1) v (.lst l) f := h
      cases h with
      | lst1 ha r =>
        rename_i a zs f0
        obtain ⟨ff, gg, f1, p, r1, r2⟩ := r.meet hy
        refine ⟨a, zs, y, rfl, rfl, ha, by rw [r.length, ← lim_eq]; exact c.2, ?_⟩
        have p2 : (g ++ (a :: f0)).Perm (([] ++ (a :: (ff ++ gg))) ++ f1) := by
          refine List.perm_append_comm.trans ?_
          exact List.Perm.cons a p
        have r3 := RpAll.append r1 (RpAll.cons r2 (.nil _))
        rw [List.append_nil] at r3
        obtain ⟨w1, w2, w3⟩ := write_ok (h := []) ha ok p2 r3
        exact hQ .non _ _ [] _ w1 (by rw [VOk.own]; exact .non _) w2 w3
    · cases e
  · cases e
theorem take_ok {a : Addr} {g1 gg g2 : List Addr} {zs ys : List V} {ds : List D} {m : Nat} {u : V} {d : D} (ha : H a = some (.lst zs)) (ok : Ok S H ([] ++ (a :: (g1 ++ gg ++ g2)))) (p3 : Rp K S H m u d gg) (p5 : RpAll K S H m ys ds (g1 ++ g2)) :
    ∃ S', Step S ([] ++ (a :: (g1 ++ gg ++ g2))) H S' (gg ++ (a :: (g1 ++ g2))) (upd H a (.lst ys)) ∧ Rp K S' (upd H a (.lst ys)) m u d gg ∧ Rp K S' (upd H a (.lst ys)) (m + 1) (.ref a) (.lst ds) (a :: (g1 ++ g2)) ∧ Ok S' (upd H a (.lst ys)) (gg ++ (a :: (g1 ++ g2))) := by
  have p2 : ([] ++ (a :: (g1 ++ gg ++ g2))).Perm ((gg ++ (a :: (g1 ++ g2))) ++ []) := by
    rw [List.append_nil, List.nil_append]
    refine List.Perm.trans (List.Perm.cons a ?_) (List.perm_middle (l₁ := gg) (l₂ := g1 ++ g2)).symm
    rw [List.append_assoc]
    exact perm_mid
  obtain ⟨w1, w2, w3⟩ := write_ok (h := gg) ha ok p2 (p5.more fun _ => .inl)
  have ka := ok.perm p2
  rw [List.append_nil] at ka
  refine ⟨_, w1, ?_, w2, w3⟩
  refine (p3.more fun _ => .inl).keep (fun b o hb e => ?_) (fun b o e nm => ?_) (fun _ z => z) fun b o hb e => ?_
  · rw [upd_ne (show b ≠ a from fun z => ka.ns a (List.mem_append_right _ (List.mem_cons_self ..)) (by rw [← z]; exact hb.resolve_right (by simp)))]
    exact e
  · rw [upd_ne (show b ≠ a from fun z => nm (by rw [← e, z]; exact mut_lst ha))]
    exact e
  · rw [upd_ne (show b ≠ a from fun z => ka.apart b hb (by rw [z]; exact List.mem_cons_self ..))]
    exact e
theorem line63' {n : Nat} (h : n ≤ lim) : n < 2 ^ 63 := by unfold lim at h; omega
theorem rPopAt_rc : Recv1 K L2.rPopAt rPopAt := fun S H pv v f xs vs g z pv' Q h hx ok e hQ => by
  unfold rPopAt at e
  split at e
  · rename_i m l b n i
    split at e
    · rename_i c
      cases q1 : nix l.length i with
      | none => rw [q1] at e; cases e
      | some j =>
        rw [q1] at e
        cases q2 : l[j]? with
        | none => rw [Option.bind_some, q2] at e; cases e
        | some d =>
          rw [Option.bind_some, q2] at e
          obtain ⟨rfl, rfl⟩ := Prod.mk.inj (Option.some.inj e)
          obtain ⟨y, rfl, hy⟩ := hx.one
          obtain rfl := hy.int'
          have hg : g = [] := by
            unfold VOk at hy
            split at hy
            · exact hy.1
            · exact (hy.imm rfl).1
          subst hg
          replace h : Rp K S H (m + 1) v (.lst l) f := h
          cases h with
          | lst1 ha r =>
            rename_i a zs f0
            obtain ⟨u, g1, gg, g2, p1, rfl, p3, _, p5⟩ := r.at q2
            have hj : ixN zs.length i = some j := by rw [r.length]; exact q1
            obtain ⟨s1, s2, s3, s4⟩ := ixN_seq hj
            have hb := line63' c
            rw [← r.length] at hb
            refine ⟨a, zs, i, j, u, rfl, rfl, ha, by omega, by omega, s1, p1, ?_⟩
            obtain ⟨S', w1, hu, w2, w3⟩ := take_ok ha ok p3 p5
            exact hQ u _ _ gg _ w1 (by rw [VOk.own]; exact hu) w2 w3
    · cases e
  · cases e
theorem rPop_rc : Recv1 K L2.rPop rPop := fun S H pv v f xs vs g z pv' Q h hx ok e hQ => by
  unfold rPop at e
  split at e
  · rename_i m l
    cases q2 : l[l.length - 1]? with
    | none => rw [q2] at e; cases e
    | some d =>
      rw [q2] at e
      obtain ⟨rfl, rfl⟩ := Prod.mk.inj (Option.some.inj e)
      cases hx with
      | nil =>
        replace h : Rp K S H (m + 1) v (.lst l) f := h
        cases h with
        | lst1 ha r =>
          rename_i a zs f0
          obtain ⟨u, g1, gg, g2, p1, rfl, p3, _, p5⟩ := r.at q2
          have el : zs.length - 1 = l.length - 1 := by rw [r.length]
          have hz : 0 < zs.length := by
            have := (List.getElem?_eq_some_iff.mp p1).1
            omega
          have hl : 0 < l.length := by rw [← r.length]; exact hz
          rw [List.eraseIdx_eq_dropLast (by omega), List.eraseIdx_eq_dropLast (by omega)] at p5
          obtain ⟨S', w1, hu, w2, w3⟩ := take_ok ha ok p3 p5
          exact ⟨a, zs, u, rfl, rfl, ha, by rw [el]; exact p1, hQ u _ _ gg _ w1 (by rw [VOk.own]; exact hu) w2 w3⟩
  · cases e
/-- o.m(..), o a list in a slot -/
theorem s_recv {i : Nat} {x : Str} {es : List Expr} {ga : MA} {e : Expr} {p : Pos} {ct : Str → Addr} {X : Cx} {r : V → List V → Hp → VK → Prop} {k : PV → List VV → Option (VV × PV)} (ho : Recv1 X.K r k) (ha : SA ct X es ga)
    (mk : ∀ {to t}, PE X (.Name x p) to → PA X es t → PE X e (tBM X.K "list" r to t))
    (hN : X.N[i]? = some x := by rfl) (hv : Vis X.env.scope x := by first | exact Or.inl rfl | exact Or.inr (Or.inl rfl) | exact Or.inr (Or.inr rfl)) (hd : (x == ("__debug__" : Str)) = false := by decide)
    (hcd : (x == ("__classdict__" : Str)) = false := by decide) : SE ct X e (recv i ga k) := by
  refine ⟨fun W tk => ?_⟩
  obtain ⟨ta, pa, ra⟩ := ha.run W tk
  refine ⟨_, mk (pv i hN hv hd hcd) pa, fun S F H σ ρ Q E ok G => ?_⟩
  unfold recv at G
  cases q : look ρ i with
  | none => rw [q] at G; exact G.elim
  | some pv0 =>
    obtain ⟨m, d⟩ := pv0
    rw [q] at G
    cases d with
    | lst l =>
      obtain ⟨v, f0, G0, h1, h2, _⟩ := E.take q
      refine ⟨v, h1, ?_, ?_⟩
      · obtain ⟨a, xs, g, rfl, q1, _⟩ := h2.lst
        exact .inl ⟨rfl, xs, q1⟩
      · refine ra S F H σ ρ _ E ok ?_
        refine good_bind G fun xs o vs S1 F1 H1 g _ t1 hx E1 k1 G => ?_
        cases q2 : look (now o ρ) i with
        | none => rw [q2] at G; exact G.elim
        | some pv =>
          rw [q2] at G
          cases q3 : k pv xs with
          | none => simp only [q3] at G; exact G.elim
          | some z =>
            obtain ⟨z, pv'⟩ := z
            simp only [q3] at G
            obtain ⟨v', f, G1, h1', h2', pf, E2⟩ := E1.take q2
            rw [h1] at h1'
            cases h1'
            have k2 : Ok S1 H1 ((g ++ f) ++ G1) := by
              rw [List.append_assoc]
              exact k1.perm (List.Perm.append_left _ pf)
            refine ho S1 H1 pv v f xs vs g z pv' Q h2' hx k2.head q3 fun w H' S' h f' st hw hr ok' => ?_
            have k3 : Ok S1 H1 (G1 ++ (g ++ f)) := k2.perm List.perm_append_comm
            have E3 : EnvRp X.K S' H' σ (Vs.put (now o ρ) i none) G1 := E2.step st k2.head fun b hb z => k2.apart b z hb
            have k4 : Ok S' H' (G1 ++ (h ++ f')) := Ok.join st k3 ok'
            have p5 : (G1 ++ (h ++ f')).Perm (h ++ (f' ++ G1)) := by
              refine List.perm_append_comm.trans ?_
              rw [List.append_assoc]
            refine G w S' (f' ++ G1) H' h ?_ hw (E3.back h1 hr) (k4.perm p5)
            refine t1.step.trans (st.wide (fun b hb => ?_) fun b hb => ?_)
            · rcases List.mem_append.mp hb with z | z
              · exact List.mem_append_left _ z
              · exact List.mem_append_right _ (pf.mem_iff.mpr (List.mem_append_left _ z))
            · rcases List.mem_append.mp (p5.mem_iff.mpr hb) with z | z
              · exact .inr (List.mem_append_right _ (pf.mem_iff.mpr (List.mem_append_right _ z)))
              · exact .inl z
    | _ => exact G.elim
end
end Vs
set_option maxHeartbeats 4000000
/-! Vs: stores, methods that change nothing, comprehensions, calls by keyword. -/
namespace Vs
open PySem PySem.Spec PyProof.Rows L2
section
variable {K : PySem.W.Frag} {S S' : Addr → Prop} {H : Hp}
theorem VOk.nil_int {b : Bool} {m : Nat} {i : Int} {v : V} {f : List Addr} (h : VOk K S H ⟨b, m, .int i⟩ v f) : f = [] := by
  unfold VOk at h
  split at h
  · exact h.1
  · exact (h.imm rfl).1
theorem nix_lt {n : Nat} {i : Int} {j : Nat} (h : nix n i = some j) : j < n := by
  unfold nix at h
  split at h
  · split at h
    · obtain rfl := Option.some.inj h; omega
    · cases h
  · split at h
    · obtain rfl := Option.some.inj h; omega
    · cases h
/-- an item is put into a list of a slot -/
theorem set_ok {a : Addr} {f f0 : List Addr} {xs : List V} {l : List D} {m n j : Nat} {v : V} {d : D} (ha : H a = some (.lst xs)) (ok : Ok S H (f ++ (a :: f0))) (r : RpAll K S H m xs l f0) (h : Rp K S H n v d f) (hj : j < l.length) :
    ∃ S' ff, Step S (f ++ (a :: f0)) H S' (a :: ff) (upd H a (.lst (xs.set j v))) ∧ Rp K S' (upd H a (.lst (xs.set j v))) ((if d.imm = true then m else min m n) + 1) (.ref a) (.lst (l.set j d)) (a :: ff) ∧ Ok S' (upd H a (.lst (xs.set j v))) (a :: ff) := by
  obtain ⟨ff, gg, fx, p, r1, r2⟩ := r.meet h
  obtain ⟨u, g1, g, g2, p1, rfl, p3, p4, _⟩ := r1.at (List.getElem?_eq_getElem hj)
  have r3 := p4 v d gg r2
  have pp : (f ++ (a :: f0)).Perm (([] ++ (a :: (g1 ++ gg ++ g2))) ++ (g ++ fx)) := by
    refine List.perm_append_comm.trans ?_
    refine List.Perm.cons a (p.trans ?_)
    show (((g1 ++ g ++ g2) ++ gg) ++ fx).Perm ((g1 ++ gg ++ g2) ++ (g ++ fx))
    rw [← List.append_assoc]
    refine List.Perm.append_right _ ?_
    rw [List.append_assoc, List.append_assoc, List.append_assoc, List.append_assoc]
    refine List.Perm.append_left _ ?_
    exact List.perm_append_comm.trans (by
      rw [List.append_assoc]
      exact (List.perm_append_comm).trans (by rw [List.append_assoc]; exact List.Perm.append_left _ List.perm_append_comm))
  obtain ⟨w1, w2, w3⟩ := write_ok (h := []) ha ok pp (r3.more fun b hb => hb.imp id fun z => List.mem_append_right _ z)
  exact ⟨_, _, w1, w2, w3⟩
end
section
variable {ct : Str → Addr} {lent : List Bool} {X : Cx} {a b c e : Expr} {es : List Expr} {ga gb gc ge : M} {gs : MA} {pos p : Pos}
theorem sg_set {i : Nat} {x : Str} (hb : SE ct X b gb) (hN : X.N[i]? = some x := by rfl) (hv : Vis X.env.scope x := by first | exact Or.inl rfl | exact Or.inr (Or.inl rfl) | exact Or.inr (Or.inr rfl)) (hd : (x == ("__debug__" : Str)) = false := by decide)
    (hcd : (x == ("__classdict__" : Str)) = false := by decide)
    (ha : ∀ v, assign (.Subscript (.Name x p) b pos) X.env v = (do
      let ov ← holding [v] (eval (.Name x p) X.env)
      let iv ← holding [v, ov] (eval b X.env)
      standAt pos
      holding [v, ov, iv] (setItem ov iv v)
      release [v, ov, iv] []) := by intro _; rfl) : SG ct lent X (.Subscript (.Name x p) b pos) (gset i gb) := by
  refine ⟨fun W tk => ?_⟩
  obtain ⟨tb, pb, rb⟩ := hb.run W tk
  refine ⟨_, pg_sub (pv i hN hv hd hcd) pb set_list ha, fun S F H σ ρ xx v f D Q h E ok q G => ?_⟩
  unfold gset at G
  cases q0 : look ρ i with
  | none => rw [q0] at G; exact G.elim
  | some pv0 =>
    obtain ⟨m0, d0⟩ := pv0
    obtain ⟨v0, f0', G0, h1, hz0⟩ := E.take q0
    refine ⟨v0, h1, rb S F H σ ρ _ E ok.tail ?_⟩
    rw [q0] at G
    cases qb : gb ρ with
    | no => rw [qb] at G; exact G
    | ex ee ρ1 =>
      rw [qb] at G
      exact fun C d S' F' H' st E' o' hx => G C d σ S' F' H' (st.wide (fun b hb => List.mem_append_right _ hb) fun b hb => .inl hb) E' o' Kp.refl hx
    | ok y o =>
      rw [qb] at G
      intro w S1 F1 H1 g t1 hy E1 k1
      replace G : GoodS X.K ct lent W D S (f ++ F) H σ (match look (now o ρ) i, y.d with
        | some (m + 1, .lst l), .int k => if xx.stable = true then (match nix l.length k with
            | some j => .nx (Vs.put (now o ρ) i (some ((if xx.d.imm = true then m else min m xx.m) + 1, .lst (l.set j xx.d))))
            | none => .no) else .no
        | _, _ => .no) := G
      split at G
      · rename_i _ m l k ql qk
        by_cases hs : xx.stable = true
        · rw [if_pos hs] at G
          cases qn : nix l.length k with
          | none => rw [qn] at G; exact G.elim
          | some j =>
            rw [qn] at G
            obtain ⟨yb, ym, yd⟩ := y
            obtain rfl : yd = .int k := qk
            obtain rfl := hy.int'
            obtain rfl := hy.nil_int
            have hx := (h.step (t1.step.less fun b hb => hb) ok.tail ok.apart hs).stab hs
            obtain ⟨v1, f1, G1, h1', h2, pf, E2⟩ := E1.take ql
            rw [h1] at h1'
            cases h1'
            have k1 : Ok S1 H1 F1 := k1
            have st1 : Step S F H S1 F1 H1 := t1.step
            cases h2 with
            | lst1 ha r =>
              rename_i aa zs ff0
              have k2 : Ok S1 H1 (f ++ ((aa :: ff0) ++ G1)) := (Ok.join st1 ok k1).perm (List.Perm.append_left _ pf)
              have k3 : Ok S1 H1 ((f ++ (aa :: ff0)) ++ G1) := by rw [List.append_assoc]; exact k2
              have hj : ixN zs.length k = some j := by rw [r.length]; exact qn
              obtain ⟨S2, ff, w1, w2, w3⟩ := set_ok ha k3.head r hx (nix_lt qn)
              refine ⟨aa, zs, k, j, rfl, rfl, ha, hj, q _ _ ?_⟩
              have E3 : EnvRp X.K S2 _ σ (Vs.put (now o ρ) i none) G1 := E2.step w1 k3.head fun b hb z => k3.apart b z hb
              have k4 : Ok S2 _ (G1 ++ (aa :: ff)) := Ok.join w1 (k3.perm List.perm_append_comm) w3
              have st2 : Step S (f ++ F) H S1 (f ++ F1) H1 := st1.wide (fun b hb => List.mem_append_right _ hb) fun b hb => (List.mem_append.mp hb).elim (fun z => .inr (List.mem_append_left _ z)) .inl
              refine G σ S2 ((aa :: ff) ++ G1) _ (st2.trans (w1.wide (fun b hb => ?_) fun b hb => ?_)) (E3.back h1 w2) (k4.perm List.perm_append_comm) Kp.refl
              · rcases List.mem_append.mp hb with z | z
                · exact List.mem_append_left _ z
                · exact List.mem_append_right _ (pf.mem_iff.mpr (List.mem_append_left _ z))
              · rcases List.mem_append.mp hb with z | z
                · exact .inl z
                · exact .inr (List.mem_append_right _ (pf.mem_iff.mpr (List.mem_append_right _ z)))
        · rw [if_neg hs] at G
          exact G.elim
      · exact G.elim
/-! ### comprehensions -/
section
variable {elt tg iter : Expr} {ifs : List Expr} {scope : Scope} {own : List (Str × Nat)} {gi : MI} {gg : MG} {gt : MT}
theorem s_comp (hc : X.calm = true) (hN : X.N.Nodup) (hi : SI ct X tg iter gi) (ok : BlkOk X.N X.env.scope scope own)
    (hg : ∀ n i, SN ct (others n (own.map (·.2))) (blkX X scope i) tg gg) (ht : ∀ i, STs ct (blkX X scope i) ifs gt) (he : ∀ i, SE ct (blkX X scope i) elt ge) (hs : ∀ x, foldedSetIterable iter X.env x = pure x := by intro _; rfl) :
    SE ct X (.ListComp elt [⟨tg, iter, ifs, 0⟩] scope pos) (comp gi gg gt ge (own.map (·.2))) := by
  refine ⟨fun W tk => ?_⟩
  obtain ⟨wi, g, tt, te, h1, h2, h3, h4, h5⟩ := comp_run hN hi hg ht he W tk
  exact ⟨_, pe_lc hc hN h1 ok (fun s H C cl fp => h2 (s, H, C, cl, fp)) (fun s H C cl fp => h3 (s, H, C, cl, fp)) (fun s H C cl fp => h4 (s, H, C, cl, fp)) hs, h5⟩
theorem ss_setc {i : Nat} {y : Str} {py spos : Pos} (hc : X.calm = true) (hN : X.N.Nodup) (hy : X.N[i]? = some y) (hyl : X.env.scope.names.lookup y = some .local) (hl : lent[i]? ≠ some true)
    (hsw : swapsWith (.ListComp elt [⟨tg, iter, ifs, 0⟩] scope pos) (some (.Name y py)) spos.line X.env = pure true) (hi : SI ct X tg iter gi) (ok : BlkOk X.N X.env.scope scope own)
    (hg : ∀ n i, SN ct (others n (own.map (·.2))) (blkX X scope i) tg gg) (ht : ∀ i, STs ct (blkX X scope i) ifs gt) (he : ∀ i, SE ct (blkX X scope i) elt ge) (hs : ∀ x, foldedSetIterable iter X.env x = pure x := by intro _; rfl) :
    SS ct lent X (.Assign [.Name y py] (.ListComp elt [⟨tg, iter, ifs, 0⟩] scope pos) spos) (asg (comp gi gg gt ge (own.map (·.2))) (gname i)) := by
  refine ⟨fun W tk po => ?_⟩
  obtain ⟨wi, g, tt, te, h1, h2, h3, h4, h5⟩ := comp_run hN hi hg ht he W tk
  refine ⟨_, ps_setLc hc hN hy hyl hsw h1 ok (fun s H C cl fp => h2 (s, H, C, cl, fp)) (fun s H C cl fp => h3 (s, H, C, cl, fp)) (fun s H C cl fp => h4 (s, H, C, cl, fp)) hs, fun S F H σ ρ D E okk G => ?_⟩
  obtain ⟨tn, pn, rn⟩ := (sg_name (ct := ct) (lent := lent) (X := X) (pos := py) hN hy (.inl hyl) hl (.inr hyl)).run W tk
  refine h5 S F H σ ρ _ E okk ?_
  refine good_go G fun x o v S1 F1 H1 f st h E1 ok1 G => ?_
  -- the name's store
  unfold gname at G
  cases e : x.kept with
  | none => rw [e] at G; exact G.elim
  | some pv =>
    rw [e] at G
    obtain ⟨hs', rfl⟩ := kept_some e
    obtain ⟨f0, G0, p, E0⟩ := E1.drop i
    have p2 : (f ++ F1).Perm (f0 ++ (f ++ G0)) := (List.Perm.append_left _ p).trans perm_mid
    have ok2 : Ok S1 H1 (f ++ G0) := (ok1.perm p2).tail
    show D.nx (σ.set i (some v)) H1
    by_cases hl2 : i < σ.length
    · exact G _ S1 (f ++ G0) H1 (st.less fun b hb => p2.mem_iff.mpr (List.mem_append_right _ hb)) (E0.fill hl2 (h.stab hs')) ok2 (Kp.set hl)
    · have e1 : σ.set i (some v) = σ := List.set_eq_of_length_le (by omega)
      have e2 : Vs.put (now o ρ) i (some (x.m, x.d)) = now o ρ := put_over _ _ _ (by rw [← E1.len]; omega)
      replace G : GoodS X.K ct lent W D S F H σ (.nx (Vs.put (now o ρ) i (some (x.m, x.d)))) := G
      rw [e2] at G
      rw [e1]
      exact G σ S1 F1 H1 (st.less fun b hb => List.mem_append_right _ hb) E1 ok1.tail Kp.refl
end
end
end Vs
set_option maxHeartbeats 4000000
/-! Vs: calls by keyword; what tests of kinds, slices, chains come to. -/
namespace Vs
open PySem PySem.Spec PyProof.Rows L2
theorem RpAll.rev0 {K : PySem.W.Frag} {S : Addr → Prop} {H : Hp} : ∀ {v : List V} {d : List D} {f : List Addr}, RpAll K S H 0 v d f → RpAll K S H 0 v.reverse d.reverse []
  | _, _, _, .nil _ => .nil _
  | _, _, _, .cons h r => by
    obtain rfl := h.own0
    rw [List.reverse_cons, List.reverse_cons]
    exact RpAll.append (f := []) (g := []) (RpAll.rev0 r) (.cons (f := []) (g := []) h (.nil _))
section
variable {ct : Str → Addr} {lent : List Bool} {X : Cx} {a b c e : Expr} {es : List Expr} {ga gb gc ge : M} {gs : MA} {pos p : Pos}
/-! ### methods that change nothing -/
def Meth1 (K : PySem.W.Frag) (r : V → List V → Hp → VK → Prop) (k : VV → List VV → Option VV) : Prop :=
  ∀ S H x v f xs vs g z Q, VOk K S H x v f → VsOk K S H xs vs g → Ok S H (f ++ g) → k x xs = some z →
    (∀ w H' S' h, Grow S H (f ++ g) S' h H' → VOk K S' H' z w h → Ok S' H' h → Q w H') → r v vs H Q
theorem s_methL {r : V → List V → Hp → VK → Prop} {k : VV → List VV → Option VV} (ho : Meth1 X.K r k) (ha : SE ct X a ga) (hb : SA ct X es gs)
    (mk : ∀ {to t}, PE X a to → PA X es t → PE X e (tBM X.K "list" r to t)) : SE ct X e (meth isL ga gs k) := by
  refine ⟨fun W tk => ?_⟩
  obtain ⟨ta, pa, ra⟩ := ha.run W tk
  obtain ⟨tb, pb, rb⟩ := hb.run W tk
  refine ⟨_, mk pa pb, fun S F H σ ρ Q E ok G => ra S F H σ ρ _ E ok ?_⟩
  unfold meth at G
  refine good_bind G fun x o1 v S1 F1 H1 f _ t1 h1 E1 k1 G => ?_
  by_cases hT : isL x.d = true
  · rw [if_pos hT] at G
    refine ⟨?_, ?_⟩
    · cases q : x.d with
      | lst ds =>
        obtain ⟨a, xs, m, g, rfl, q1, _⟩ := h1.seqL q
        exact .inl ⟨rfl, xs, q1⟩
      | _ => rw [q] at hT; cases hT
    · refine rb S1 F1 H1 σ _ _ E1 k1.tail ?_
      cases qb : gs (now o1 ρ) with
      | no => rw [qb] at G; exact G
      | ex x ρ1 =>
        rw [qb] at G
        intro C d S2 F2 H2 st E2 k2 hx
        exact G C d S2 F2 H2 ((t1.step.less fun b hb => List.mem_append_right _ hb).trans st) E2 k2 hx
      | ok y o2 =>
        rw [qb, R.nxt_ok] at G
        intro u S2 F2 H2 g t2 h2 E2 k2
        split at G
        · rename_i hs
          have k3 : Ok S2 H2 ((f ++ g) ++ F2) := Fit.both k1 t2 k2
          have h1' : VOk X.K S2 H2 x v f := by
            cases o2 with
            | none =>
              obtain ⟨e, w1, _, rfl, _⟩ := t2
              exact (h1.same e).more w1
            | some _ => exact h1.step (t2.step.less fun b hb => hb) k1.tail k1.apart (by simpa using hs)
          have ea : ((R.ofO (k x y)).aft o2).aft o1 = (R.ofO (k x y)).aft (Vs.thn o1 o2) := aft_aft _ _ _
          rw [ea] at G
          refine fin_rule (g := f ++ g) (F2 := F2) (S2 := S2) (t := fun Q => r v u H2 Q) (t1.thn k1 t2 (fun b hb => by rw [List.mem_append] at hb; exact hb.imp id .inl) (Same.refl _)) ?_ k3 (fun z hz Q hq => ?_) G
          · rw [now_thn]
            exact E2
          · exact ho S2 H2 x v f y u g z Q h1' h2 k3.head hz hq
        · exact G.elim
  · rw [if_neg hT] at G
    exact G.elim
theorem kCount_mt : Meth1 X.K (rCntI X.K) kCount := fun S H x v f xs vs g z Q h hx ok e hQ => by
  unfold kCount at e
  split at e
  · rename_i l b m i el
    cases q : intsOf l with
    | none => rw [q] at e; cases e
    | some ns =>
      rw [q] at e
      obtain rfl := Option.some.inj e
      obtain ⟨a, ys, m', g', rfl, q1, q2⟩ := h.seqL el
      obtain ⟨y, rfl, hy⟩ := hx.one
      obtain rfl := hy.int'
      exact ⟨a, ns, i, rfl, rfl, by have z := (RpAll.of_intsOf q2 q).1; rw [← z]; exact q1, ret_imm ok rfl (.int _ _) hQ⟩
  · cases e
theorem kIndex_mt : Meth1 X.K (rIndexD X.K) kIndex := fun S H x v f xs vs g z Q h hx ok e hQ => by
  unfold kIndex at e
  split at e
  · rename_i l y el
    split at e
    · rename_i c
      split at e
      · rename_i j hj
        obtain rfl := Option.some.inj e
        obtain ⟨u, rfl, hy⟩ := hx.one
        have q := h.dp c.1
        have s := (shp_flat c.1).2
        obtain ⟨a, ys, m', g', rfl, q1, q2⟩ := h.seqL el
        rw [el, D.py, pyAll_eq] at q s
        obtain ⟨h1, h2, h3⟩ := List.findIdx?_eq_some_iff_getElem.mp hj
        refine ⟨a, u, y.d.py, l.map D.py, j, l[j].py, rfl, rfl, q, hy.dp c.2, s, (shp_flat c.2).2, ?_, h2, fun m z' hm hz' => ?_, ret_imm ok rfl (.int _ _) hQ⟩
        · rw [List.getElem?_map, List.getElem?_eq_getElem h1]; rfl
        · have hml : m < l.length := by omega
          rw [List.getElem?_map, List.getElem?_eq_getElem hml] at hz'
          obtain rfl := Option.some.inj hz'
          have := h3 m hm
          simpa [D.eqv] using this
      · cases e
    · cases e
  · cases e
/-! ### xs[::-1], xs[a:b], a op b op c -/
theorem kRev_op : Op1 X.K (fun x H Q => ∃ a xs, x = .ref a ∧ SqL X.K H a xs ∧ ∀ p, H p = none → Q (.ref p) (upd H p (.lst xs.reverse))) kRev := fun S H x v f z Q h ok e hQ => by
  unfold kRev at e
  split at e
  · rename_i l el
    split at e
    · rename_i c
      obtain rfl := Option.some.inj e
      obtain ⟨b1, m1, d1⟩ := x
      obtain rfl : d1 = .lst l := el
      obtain ⟨a, xs, S1, rfl, q1, u1, u2, r1, k1⟩ := opn (F := []) h (by rw [List.append_nil]; exact ok) c
      have rv := r1.rev0
      exact ⟨a, xs, rfl, q1, fun p hp => ret_lst ok u1 u2 k1 (by simp) rv hQ p hp⟩
    · cases e
  · cases e
theorem s_rev {k : Nat} {p1 p2 p3 : Pos} (ha : SE ct X a ga) : SE ct X (.Subscript a (.Slice none none (some (.UnaryOp .USub (.Constant (.int 1) k p1) p2)) p3) pos) (one ga kRev) := run_one ha (fun pa => pe_revL pa) kRev_op
/-- a slice's ends -/
structure SO (ct : Str → Addr) (X : Cx) (o : Option Expr) (g : Vs.Env → R (Option Int)) : Prop where
  run : ∀ W, Takes X W → ∃ t, PO X o t ∧ ∀ S F H σ ρ Q, EnvRp X.K S H σ ρ F → Ok S H F → Good X.K ct (fun _ _ (a b : Option Int) f => a = b ∧ f = []) W S F H σ ρ (g ρ) Q → t σ H Q
theorem so_none : SO ct X none (part none) := ⟨fun W tk => ⟨_, po_none, fun S F H σ ρ Q E ok G => G none S F H [] Fit.nil ⟨rfl, rfl⟩ E ok⟩⟩
theorem so_some (ha : SE ct X a ga) : SO ct X (some a) (part (some ga)) := by
  refine ⟨fun W tk => ?_⟩
  obtain ⟨ta, pa, ra⟩ := ha.run W tk
  refine ⟨_, po_some pa, fun S F H σ ρ Q E ok G => ra S F H σ ρ _ E ok ?_⟩
  unfold part at G
  refine good_bind G fun x o v S1 F1 H1 f _ t1 h1 E1 k1 G => ?_
  obtain ⟨b, m, d⟩ := x
  cases d with
  | int i =>
    obtain rfl := h1.int'
    obtain rfl := h1.nil_int
    exact ⟨i, rfl, G (some i) S1 F1 H1 [] (by rw [thn_none]; exact t1) ⟨rfl, rfl⟩ E1 k1⟩
  | _ => exact G.elim
theorem six_eq (n d : Nat) (o : Option Int) : six n d o = HT.sIx n d o := by cases o <;> rfl
theorem s_slc {lo hi : Option Expr} {gl gh : Option M} {p2 : Pos} (ha : SE ct X a ga) (hl : SO ct X lo (part gl)) (hh : SO ct X hi (part gh)) : SE ct X (.Subscript a (.Slice lo hi none p2) pos) (slc ga gl gh) := by
  refine ⟨fun W tk => ?_⟩
  obtain ⟨ta, pa, ra⟩ := ha.run W tk
  obtain ⟨tl, pl, rl⟩ := hl.run W tk
  obtain ⟨th, ph, rh⟩ := hh.run W tk
  refine ⟨_, pe_slice sl_list pa pl ph, fun S F H σ ρ Q E ok G => ra S F H σ ρ _ E ok ?_⟩
  unfold slc at G
  refine good_bind G fun x o1 v S1 F1 H1 f _ t1 h1 E1 k1 G => ?_
  refine rl S1 F1 H1 σ _ _ E1 k1.tail ?_
  have none_of : ∀ {β : Type} {r : R (Option Int)} {kk : Option Int → R β}, (∃ a o, r = .ok a (some o)) → (r.nxt false kk) = .no := by
    rintro β r kk ⟨a, o, rfl⟩
    rfl
  cases ql : part gl (now o1 ρ) with
  | no => rw [ql] at G; exact G
  | ex x ρ1 =>
    rw [ql] at G
    intro C d S2 F2 H2 st E2 k2 hx
    exact G C d S2 F2 H2 ((t1.step.less fun b hb => List.mem_append_right _ hb).trans st) E2 k2 hx
  | ok l ol =>
    rw [ql] at G
    cases ol with
    | some _ => exact G.elim
    | none =>
      intro l' S2 F2 H2 f2 t2 hl2 E2 k2
      obtain ⟨rfl, rfl⟩ := hl2
      obtain ⟨e2, w2, w2', rfl, _⟩ := id t2
      have h2 := (h1.same e2).more w2
      have k2' : Ok S2 H2 (f ++ F2) := Ok.join (t2.step.less fun b hb => hb) k1 k2
      refine rh S2 F2 H2 σ _ _ E2 k2 ?_
      replace G : Good X.K ct (VOk X.K) W S F H σ ρ ((((part gh (now o1 ρ)).nxt false fun u => .ofO (kSl x l u)).aft none).aft o1) Q := G
      rw [R.aft_none] at G
      show Good X.K ct _ W S2 F2 H2 σ (now o1 ρ) (part gh (now o1 ρ)) _
      cases qh : part gh (now o1 ρ) with
      | no => rw [qh] at G; exact G
      | ex x ρ1 =>
        rw [qh] at G
        intro C d S3 F3 H3 st E3 k3 hx
        exact G C d S3 F3 H3 ((t1.step.less fun b hb => List.mem_append_right _ hb).trans (t2.step.trans st)) E3 k3 hx
      | ok u oh =>
        rw [qh] at G
        cases oh with
        | some _ => exact G.elim
        | none =>
          intro u' S3 F3 H3 f3 t3 hl3 E3 k3
          obtain ⟨rfl, rfl⟩ := hl3
          obtain ⟨e3, w3, w3', rfl, _⟩ := id t3
          have h3 := (h2.same e3).more w3
          have k3' : Ok S3 H3 (f ++ F3) := Ok.join (t3.step.less fun b hb => hb) k2' k3
          replace G : Good X.K ct (VOk X.K) W S F H σ ρ ((R.ofO (kSl x l u)).aft o1) Q := by
            have e : (((R.ok u none : R (Option Int)).nxt false fun u => R.ofO (kSl x l u))).aft o1 = (R.ofO (kSl x l u)).aft o1 := by
              show ((R.ofO (kSl x l u)).aft none).aft o1 = _
              rw [R.aft_none]
            rw [e] at G
            exact G
          have t13 : Fit o1 S F H S3 F3 f H3 := by
            have a1 := t1.thn k1 (o' := none) t2 (h := f) (fun b hb => .inl hb) (Same.refl _)
            have a2 := a1.thn k2' (o' := none) t3 (h := f) (fun b hb => .inl hb) (Same.refl _)
            exact a2
          refine fin_rule (g := f) (F2 := F3) (S2 := S3) (t := fun Q => rSlL X.K v l u H3 Q) t13 E3 k3' (fun z hz Q hq => ?_) G
          unfold kSl at hz
          split at hz
          · rename_i ds el
            split at hz
            · rename_i c
              obtain rfl := Option.some.inj hz
              obtain ⟨b1, m1, d1⟩ := x
              obtain rfl : d1 = .lst ds := el
              obtain ⟨a, xs, S4, rfl, q1, u1, u2, r1, k4⟩ := opn (F := []) h3 (by rw [List.append_nil]; exact k3'.head) c
              refine ⟨a, xs, rfl, q1, fun p hp => ?_⟩
              have rc : RpAll X.K S4 H3 0 (cutV xs l u) (cutD ds l u) [] := by
                unfold cutV cutD
                rw [six_eq, six_eq, r1.length]
                exact ((r1.cut0 _).2.cut0 _).1
              exact ret_lst k3'.head u1 u2 k4 (by simp) rc hq p hp
            · cases hz
          · cases hz
theorem run_chain {φ ψ : Int → Int → Bool} {Pe : TE → Prop} (ha : SE ct X a ga) (hb : SE ct X b gb) (hc : SE ct X c gc) (mk : ∀ {ta tb tc}, PE X a ta → PE X b tb → PE X c tc → Pe (tChain (rI0 fun i j => .bl (φ i j)) (rI0 fun i j => .bl (ψ i j)) ta tb tc)) :
    ∀ W, Takes X W → ∃ t, Pe t ∧ ∀ S F H σ ρ Q, EnvRp X.K S H σ ρ F → Ok S H F → Good X.K ct (VOk X.K) W S F H σ ρ (chain ga gb gc φ ψ ρ) Q → t σ H Q := by
  intro W tk
  obtain ⟨ta, pa, ra⟩ := ha.run W tk
  obtain ⟨tb, pb, rb⟩ := hb.run W tk
  obtain ⟨tc, pc, rc⟩ := hc.run W tk
  refine ⟨_, mk pa pb pc, fun S F H σ ρ Q E ok G => ra S F H σ ρ _ E ok ?_⟩
  unfold chain at G
  refine good_bind G fun x o1 v S1 F1 H1 f _ t1 h1 E1 k1 G => ?_
  replace G := good_after t1 k1 G
  refine rb S1 F1 H1 σ _ _ E1 k1.tail ?_
  have fix : ∀ {m : Nat} {r : R VV} {ρ'' : Vs.Env}, Good X.K ct (VOk X.K) W S1 F1 H1 σ ρ'' r Q → Good X.K ct (VOk X.K) W S1 F1 H1 σ ρ'' r Q := fun h => h
  refine good_bind G fun y o2 u S2 F2 H2 g _ t2 h2 E2 k2 G => ?_
  replace G := good_after t2 k2 G
  split at G
  · rename_i i j e1 e2
    obtain rfl := h1.int e1
    obtain rfl := h2.int e2
    refine ⟨i, j, rfl, rfl, φ i j, rfl, ?_⟩
    by_cases hφ : φ i j = true
    · rw [if_pos hφ] at G ⊢
      refine rc S2 F2 H2 σ _ _ E2 k2.tail ?_
      refine good_bind G fun w o3 z S3 F3 H3 h _ t3 h3 E3 k3 G => ?_
      replace G := good_after t3 k3 G
      split at G
      · rename_i k e3
        obtain rfl := h3.int e3
        exact ⟨j, k, rfl, rfl, G (.bl (ψ j k)) S3 F3 H3 [] Fit.nil (by rw [VOk.own]; exact .bl _ _) E3 k3.tail⟩
      · exact G.elim
    · rw [if_neg hφ] at G ⊢
      have : φ i j = false := by simpa using hφ
      exact G (.bl false) S2 F2 H2 [] Fit.nil (by rw [VOk.own]; exact .bl _ _) E2 k2.tail
  · exact G.elim
theorem s_chain {op op' : CmpOp} {φ ψ : Int → Int → Bool} (ho : OpR X (compareOp op) (rI0 fun i j => .bl (φ i j))) (ho' : OpR X (compareOp op') (rI0 fun i j => .bl (ψ i j))) (ha : SE ct X a ga) (hb : SE ct X b gb) (hc : SE ct X c gc)
    (hm : lastMarks [op, op'] [b, c] = false := by with_unfolding_all rfl) : SE ct X (.Compare a [op, op'] [b, c] pos) (chain ga gb gc φ ψ) := ⟨run_chain ha hb hc fun pa pb pc => pe_chain ho ho' pa pb pc hm⟩
end
end Vs
set_option maxHeartbeats 4000000
/-! Vs: list(range(..)), isinstance, calls by keyword. -/
namespace Vs
open PySem PySem.Spec PyProof.Rows L2
section
variable {ct : Str → Addr} {lent : List Bool} {X : Cx} {a b c e : Expr} {es : List Expr} {ga gb gc ge : M} {gs : MA} {pos p : Pos}
theorem rng_rp {K : PySem.W.Frag} {S : Addr → Prop} {H : Hp} (lo hi : Int) : RpAll K S H 0 (rgV lo hi) (rng lo hi) [] := by
  unfold rgV rng
  generalize List.range (hi - lo).toNat = l
  induction l with
  | nil => exact .nil _
  | cons i l ih => exact .cons (f := []) (g := []) (.int _ _) ih
theorem kRange_op : Op1 X.K (fun x H Q => ∃ n, x = V.int n ∧ RgOk 0 n ∧ ∀ q, H q = none → Q (.ref q) (upd H q (.lst (rgV 0 n)))) (fun x => kRange [x]) := fun S H x v f z Q h ok e hQ => by
  obtain ⟨b, m, d⟩ := x
  cases d with
  | int j =>
    replace e : (if -(2 ^ 62) ≤ j ∧ j ≤ 16777216 then some (⟨false, 1, .lst (rng 0 j)⟩ : VV) else none) = some z := e
    split at e
    · rename_i c
      obtain rfl := Option.some.inj e
      obtain rfl := h.int'
      exact ⟨j, rfl, ⟨by omega, by omega, by omega, by omega, by omega⟩, fun q hq => ret_lst ok (fun _ z => z) (fun _ => .inl) ok.nil (by simp) (rng_rp 0 j) hQ q hq⟩
    · cases e
  | _ => cases e
theorem s_listRg {p1 pos1 : Pos} (hc : X.calm = true) (hg : Gl X "list") (hm : X.mg "list" = none) (hg' : Gl X "range") (hm' : X.mg "range" = none) (ha : SE ct X a ga) (na : starEach [a] X.env = (false, eval a X.env) :: starEach [] X.env := by rfl)
    (na' : starEach [.Call (.Name "range" p1) [a] [] pos1] X.env = (false, eval (.Call (.Name "range" p1) [a] [] pos1) X.env) :: starEach [] X.env := by rfl) : SE ct X (.Call (.Name "list" p) [.Call (.Name "range" p1) [a] [] pos1] [] pos) (one ga fun x => kRange [x]) :=
  run_one ha (fun pa => pe_listRg hc hg hm (prg_1 hg' hm' pa na) na') kRange_op
/-! ### isinstance -/
theorem Rp.tyx {K : PySem.W.Frag} {S : Addr → Prop} {H : Hp} {m : Nat} {v : V} {d : D} {f : List Addr} (h : Rp K S H m v d f) (hd : ∀ c l, d ≠ .ins c l) : ∃ n, TyX K H v (.type n) ∧ ∀ t r, d.isTy t = some r → kitB n (Ty.nm t) = some r := by
  have rdl : ∀ {a : Addr} {xs : List V}, Rd H a (.lst xs) → TyX K H (.ref a) (.type "list") := fun h => h.elim (fun h => .base (.lst h)) fun ⟨o, h⟩ => .base (.frz h)
  have rdt : ∀ {a : Addr} {xs : List V}, SqT K H a xs → TyX K H (.ref a) (.type "tuple") := fun h => by
    rcases h with (h | ⟨o, h⟩) | h
    · exact .base (.tup h)
    · exact .fTuple h
    · obtain ⟨o, _, _, hk, hc, _⟩ := h
      exact .kTuple hk hc
  have rdd : ∀ {a : Addr} {xs : List (Key × V)}, Rd H a (.dK xs) → TyX K H (.ref a) (.type "dict") := fun h => h.elim (fun h => .base (.dK h)) fun ⟨o, h⟩ => .fDict h
  cases h with
  | non => exact ⟨"NoneType", .base .non, fun t r e => by cases t <;> (cases e; decide +kernel)⟩
  | bl => exact ⟨"bool", .base (.bl _), fun t r e => by cases t <;> (cases e; decide +kernel)⟩
  | int => exact ⟨"int", .base (.int _), fun t r e => by cases t <;> (cases e; decide +kernel)⟩
  | str => exact ⟨"str", .base (.str _), fun t r e => by cases t <;> (cases e; decide +kernel)⟩
  | lst0 h _ _ => exact ⟨"list", rdl h, fun t r e => by cases t <;> (cases e; decide +kernel)⟩
  | lstK h _ =>
    refine ⟨"list", ?_, fun t r e => by cases t <;> (cases e; decide +kernel)⟩
    rcases h with (h | ⟨o, h⟩) | h
    · cases h
    · cases h
    · obtain ⟨o, _, _, hk, hc, _⟩ := h
      exact .kList hk hc
  | lst1 h _ => exact ⟨"list", rdl (.inl h), fun t r e => by cases t <;> (cases e; decide +kernel)⟩
  | tup0 h _ => exact ⟨"tuple", rdt h, fun t r e => by cases t <;> (cases e; decide +kernel)⟩
  | tup1 h _ => exact ⟨"tuple", rdt (.inl (.inl h)), fun t r e => by cases t <;> (cases e; decide +kernel)⟩
  | dk0 h _ _ => exact ⟨"dict", rdd h, fun t r e => by cases t <;> (cases e; decide +kernel)⟩
  | dk1 h _ => exact ⟨"dict", rdd (.inl h), fun t r e => by cases t <;> (cases e; decide +kernel)⟩
  | dt0 h _ _ => exact ⟨"dict", .base (.dT h), fun t r e => by cases t <;> (cases e; decide +kernel)⟩
  | dt1 h _ => exact ⟨"dict", .base (.dT h), fun t r e => by cases t <;> (cases e; decide +kernel)⟩
  | ob0 => exact absurd rfl (hd _ _)
  | ob1 => exact absurd rfl (hd _ _)
  | exn0 => exact absurd rfl (hd _ _)
  | anyR => exact absurd rfl (hd _ _)
  | exn1 => exact absurd rfl (hd _ _)
theorem kIsi_op (t : Ty) : Op1 X.K (fun x H Q => rIsi X.K [x, .ty (Ty.nm t)] H Q) (kIsi t) := fun S H x v f z Q h ok e hQ => by
  unfold kIsi at e
  cases q : x.d.isTy t with
  | none => rw [q] at e; cases e
  | some r =>
    rw [q] at e
    obtain rfl := Option.some.inj e
    obtain ⟨g, h'⟩ := h.rp
    obtain ⟨n, h1, h2⟩ := h'.tyx (fun c l z => by rw [z] at q; cases q)
    exact ⟨v, _, _, _, r, rfl, .ty _, h1, kit_ty (h2 t r q), ret_imm ok rfl (.bl _ _) hQ⟩
theorem s_isi (t : Ty) {y : Str} {p1 : Pos} (hg : Gl X "isinstance") (hm : X.mg "isinstance" = none) (hg' : Gl X y) (hm' : X.mg y = none) (hv : bootBuiltins y = some (.type (Ty.nm t))) (hn : y ≠ "__name__") (hd : (y == ("__debug__" : Str)) = false) (ha : SE ct X a ga)
    (he : starEach (a :: [.Name y p1]) X.env = (false, eval a X.env) :: starEach [.Name y p1] X.env := by rfl) (he' : starEach [.Name y p1] X.env = (false, eval (.Name y p1) X.env) :: starEach [] X.env := by rfl)
    (hpl : (backTo pos (starEach [.Name y p1] X.env)).any (·.1) = false := by rfl) : SE ct X (.Call (.Name "isinstance" p) [a, .Name y p1] [] pos) (one ga (kIsi t)) :=
  run_one ha (fun pa => pe_callB call_isi hg hm PyProof.Rows.boot_isinstance (pa_cons pa (pa_cons (pe_bltn hg' hm' hv (by rfl) hn hd) pa_nil he') he) (by decide) (by decide) he hpl) (kIsi_op t)
/-! ### calls by keyword -/
structure SK (ct : Str → Addr) (X : Cx) (es : List Expr) (kws : List Keyword) (g : Vs.Env → R (List AV)) : Prop where
  run : ∀ W, Takes X W → ∃ t tk, PA X es t ∧ PK X kws tk ∧ ∀ S F H σ ρ Q, EnvRp X.K S H σ ρ F → Ok S H F → Good X.K ct (AvOk X.K σ) W S F H σ ρ (g ρ) Q → t σ H fun vs H1 => tk σ H1 fun zs H2 => zs.length = kws.length ∧ Q (vs ++ zs) H2
section
variable {kws : List Keyword} {as : List AK} {nm : Option Str} {kpos : Pos}
theorem ca_lend {i : Nat} {r : L2.St → Hp → (List V → Hp → Prop) → Prop} {W : WX} (hr : ∀ S F H σ ρ Q, EnvRp X.K S H σ ρ F → Ok S H F → Good X.K ct (AvOk X.K σ) W S F H σ ρ (cargs as ρ) Q → r σ H Q)
    (S F H) (σ : L2.St) (ρ) (Q : List V → Hp → Prop) (E : EnvRp X.K S H σ ρ F) (ok : Ok S H F) (G : Good X.K ct (AvOk X.K σ) W S F H σ ρ (cargs (.lend i :: as) ρ) Q) : ∃ v, σ[i]? = some (some v) ∧ r σ H fun vs H1 => Q (v :: vs) H1 := by
  unfold cargs at G
  cases q : look ρ i with
  | none => rw [q] at G; exact G.elim
  | some pv =>
    obtain ⟨m, d⟩ := pv
    rw [q] at G
    obtain ⟨v, f, G', h1, _⟩ := E.take q
    refine ⟨v, h1, hr S F H σ ρ _ E ok ?_⟩
    refine good_bind G fun a o y S1 F1 H1 f _ t1 hr E1 k1 G => ?_
    exact G (v :: y) S1 F1 H1 f (by rw [thn_none]; exact t1) (.l h1 hr) E1 k1
theorem ca_val {ta : TE} {r : L2.St → Hp → (List V → Hp → Prop) → Prop} {W : WX} (ra : ∀ S F H σ ρ Q, EnvRp X.K S H σ ρ F → Ok S H F → Good X.K ct (VOk X.K) W S F H σ ρ (ge ρ) Q → ta σ H Q)
    (hr : ∀ S F H σ ρ Q, EnvRp X.K S H σ ρ F → Ok S H F → Good X.K ct (AvOk X.K σ) W S F H σ ρ (cargs as ρ) Q → r σ H Q)
    (S F H) (σ : L2.St) (ρ) (Q : List V → Hp → Prop) (E : EnvRp X.K S H σ ρ F) (ok : Ok S H F) (G : Good X.K ct (AvOk X.K σ) W S F H σ ρ (cargs (.val ge :: as) ρ) Q) : ta σ H fun v H1 => r σ H1 fun vs H2 => Q (v :: vs) H2 := by
  refine ra S F H σ ρ _ E ok ?_
  unfold cargs at G
  refine good_bind G fun x o v S1 F1 H1 f _ t1 h1 E1 k1 G => ?_
  cases q : x.kept with
  | none => rw [q] at G; exact G.elim
  | some pv =>
    rw [q] at G
    obtain ⟨hs, rfl⟩ := kept_some q
    refine hr S1 F1 H1 σ _ _ E1 k1.tail ?_
    cases qb : cargs as (now o ρ) with
    | no => rw [qb] at G; exact G
    | ex x ρ1 =>
      rw [qb] at G
      intro C d S2 F2 H2 st E2 k2 hx
      exact G C d S2 F2 H2 ((t1.step.less fun b hb => List.mem_append_right _ hb).trans st) E2 k2 hx
    | ok y o2 =>
      rw [qb] at G
      intro u S2 F2 H2 g t2 h2 E2 k2
      have k3 : Ok S2 H2 ((f ++ g) ++ F2) := Fit.both k1 t2 k2
      refine G (v :: u) S2 F2 H2 (f ++ g) ?_ (.o ((h1.stab hs).step t2.step k1.tail k1.apart) h2) ?_ k3
      · exact t1.thn k1 t2 (fun b hb => by rw [List.mem_append] at hb; exact hb.imp id .inl) (Same.refl _)
      · rw [thn_none, now_thn]
        exact E2
/-- the keywords' values -/
structure SKw (ct : Str → Addr) (X : Cx) (kws : List Keyword) (g : Vs.Env → R (List AV)) : Prop where
  run : ∀ W, Takes X W → ∃ tk, PK X kws tk ∧ ∀ S F H σ ρ Q, EnvRp X.K S H σ ρ F → Ok S H F → Good X.K ct (AvOk X.K σ) W S F H σ ρ (g ρ) Q → tk σ H fun zs H2 => zs.length = kws.length ∧ Q zs H2
theorem skw_nil : SKw ct X [] (cargs []) := ⟨fun W tk => ⟨_, pk_nil, fun S F H σ ρ Q E ok G => ⟨rfl, G [] S F H [] Fit.nil .nil E ok⟩⟩⟩
theorem len_more {v : V} {n : Nat} {Q : List V → Hp → Prop} : (fun zs H' => (v :: zs).length = n + 1 ∧ Q (v :: zs) H') = (fun (zs : List V) H' => zs.length = n ∧ Q (v :: zs) H') := by
  funext zs H'
  rw [List.length_cons, Nat.add_right_cancel_iff]
theorem skw_lend (i : Nat) {x : Str} {pos : Pos} (h : SKw ct X kws (cargs as)) (hN : X.N[i]? = some x := by rfl) (hv : Vis X.env.scope x := by first | exact Or.inl rfl | exact Or.inr (Or.inl rfl) | exact Or.inr (Or.inr rfl)) (hd : (x == ("__debug__" : Str)) = false := by decide)
    (hcd : (x == ("__classdict__" : Str)) = false := by decide) : SKw ct X (⟨nm, .Name x pos, kpos⟩ :: kws) (cargs (.lend i :: as)) := by
  refine ⟨fun W tk => ?_⟩
  obtain ⟨t2, p2, r⟩ := h.run W tk
  refine ⟨_, pk_cons (pv i hN hv hd hcd) p2, fun S F H σ ρ Q E ok G => ?_⟩
  obtain ⟨v, h1, h2⟩ := ca_lend (r := fun σ H Q => t2 σ H fun zs H2 => zs.length = kws.length ∧ Q zs H2) r S F H σ ρ Q E ok G
  refine ⟨v, h1, ?_⟩
  rw [← len_more] at h2
  exact h2
theorem skw_val (ha : SE ct X e ge) (h : SKw ct X kws (cargs as)) : SKw ct X (⟨nm, e, kpos⟩ :: kws) (cargs (.val ge :: as)) := by
  refine ⟨fun W tk => ?_⟩
  obtain ⟨ta, pa, ra⟩ := ha.run W tk
  obtain ⟨t2, p2, r⟩ := h.run W tk
  refine ⟨_, pk_cons pa p2, fun S F H σ ρ Q E ok G => ?_⟩
  have h2 := ca_val (r := fun σ H Q => t2 σ H fun zs H2 => zs.length = kws.length ∧ Q zs H2) ra r S F H σ ρ Q E ok G
  have e : (fun v H1 => (fun σ H Q => t2 σ H fun zs H2 => zs.length = kws.length ∧ Q zs H2) σ H1 fun vs H2 => Q (v :: vs) H2) = fun v H1 => t2 σ H1 fun zs H2 => (v :: zs).length = kws.length + 1 ∧ Q (v :: zs) H2 := by
    funext v H1
    rw [len_more]
  rw [e] at h2
  exact h2
theorem sk_kw (h : SKw ct X kws (cargs as)) : SK ct X [] kws (cargs as) := by
  refine ⟨fun W tk => ?_⟩
  obtain ⟨t2, p2, r⟩ := h.run W tk
  exact ⟨_, t2, pa_nil, p2, fun S F H σ ρ Q E ok G => r S F H σ ρ Q E ok G⟩
theorem sk_lend (i : Nat) {x : Str} {pos : Pos} (h : SK ct X es kws (cargs as)) (hN : X.N[i]? = some x := by rfl) (hv : Vis X.env.scope x := by first | exact Or.inl rfl | exact Or.inr (Or.inl rfl) | exact Or.inr (Or.inr rfl)) (hd : (x == ("__debug__" : Str)) = false := by decide)
    (hcd : (x == ("__classdict__" : Str)) = false := by decide) : SK ct X (.Name x pos :: es) kws (cargs (.lend i :: as)) := by
  refine ⟨fun W tk => ?_⟩
  obtain ⟨t1, t2, p1, p2, r⟩ := h.run W tk
  exact ⟨_, t2, pa_cons (pv i hN hv hd hcd) p1, p2, fun S F H σ ρ Q E ok G => ca_lend (r := fun σ H Q => t1 σ H fun vs H1 => t2 σ H1 fun zs H2 => zs.length = kws.length ∧ Q (vs ++ zs) H2) r S F H σ ρ Q E ok G⟩
theorem sk_val (ha : SE ct X e ge) (h : SK ct X es kws (cargs as)) (hs : starEach (e :: es) X.env = (false, eval e X.env) :: starEach es X.env := by rfl) : SK ct X (e :: es) kws (cargs (.val ge :: as)) := by
  refine ⟨fun W tk => ?_⟩
  obtain ⟨ta, pa, ra⟩ := ha.run W tk
  obtain ⟨t1, t2, p1, p2, r⟩ := h.run W tk
  exact ⟨_, t2, pa_cons pa p1 hs, p2, fun S F H σ ρ Q E ok G => ca_val (r := fun σ H Q => t1 σ H fun vs H1 => t2 σ H1 fun zs H2 => zs.length = kws.length ∧ Q (vs ++ zs) H2) ra r S F H σ ρ Q E ok G⟩
end
end
/-! ### the parameters' order -/
theorem sel_map {α β : Type} (f : α → β) : ∀ (is : List Nat) (l : List α), sel is (l.map f) = (sel is l).map f
  | [], _ => rfl
  | i :: is, l => by
    unfold sel
    rw [List.getElem?_map, sel_map f is l]
    cases l[i]? <;> rfl
theorem sel_succ {α : Type} (x : α) : ∀ (is : List Nat) (l : List α), sel (is.map Nat.succ) (x :: l) = sel is l
  | [], _ => rfl
  | i :: is, l => by
    show (match (x :: l)[i + 1]? with | some y => y :: sel (is.map Nat.succ) (x :: l) | none => sel (is.map Nat.succ) (x :: l)) = sel (i :: is) l
    rw [List.getElem?_cons_succ, sel_succ x is l]
    rfl
theorem sel_range {α : Type} : ∀ (l : List α), sel (List.range l.length) l = l
  | [] => rfl
  | x :: l => by
    rw [List.length_cons, List.range_succ_eq_map]
    show x :: sel ((List.range l.length).map Nat.succ) (x :: l) = x :: l
    rw [sel_succ, sel_range l]
theorem sel_perm {α : Type} (l : List α) {is js : List Nat} (p : is.Perm js) : (sel is l).Perm (sel js l) := by
  induction p with
  | nil => exact .nil
  | cons i _ ih =>
    unfold sel
    cases l[i]? with
    | none => exact ih
    | some x => exact .cons x ih
  | swap i j is =>
    unfold sel
    unfold sel
    cases l[i]? with
    | none => cases l[j]? <;> exact .refl _
    | some x =>
      cases l[j]? with
      | none => exact .refl _
      | some y => exact .swap _ _ _
  | trans _ _ a b => exact a.trans b
theorem EnvRp.reorder {K : PySem.W.Frag} {S : Addr → Prop} {H : Hp} {l l' : List (Option V × Option PV)} (p : l.Perm l') : ∀ {F : List Addr}, EnvRp K S H (l.map (·.1)) (l.map (·.2)) F → EnvRp K S H (l'.map (·.1)) (l'.map (·.2)) F := by
  induction p with
  | nil => exact fun h => h
  | cons x _ ih =>
    obtain ⟨x, y⟩ := x
    intro F h
    cases h with
    | dead h => exact .dead (ih h)
    | live r h q => exact .live r (ih h) q
  | swap x y l =>
    obtain ⟨x, x'⟩ := x
    obtain ⟨y, y'⟩ := y
    intro F h
    cases h with
    | dead h =>
      cases h with
      | dead h => exact .dead (.dead h)
      | live r h q => exact .live r (.dead h) q
    | live r h q =>
      cases h with
      | dead h => exact .dead (.live r h q)
      | live r' h q' => exact .live r' (.live r h (.refl _)) (q.trans ((List.Perm.append_left _ q').trans perm_mid))
  | trans _ _ a b => exact fun h => b (a h)
theorem zip_fst {α β : Type} {l : List α} {k : List β} (h : l.length = k.length) : (l.zip k).map (·.1) = l := by rw [List.map_fst_zip]; omega
theorem zip_snd {α β : Type} {l : List α} {k : List β} (h : l.length = k.length) : (l.zip k).map (·.2) = k := by rw [List.map_snd_zip]; omega
/-- the two orders undo each other -/
structure Ord (n : Nat) (is js : List Nat) : Prop where
  pi : is.Perm (List.range n)
  pj : js.Perm (List.range n)
  un : ∀ {α : Type} (l : List α), l.length = n → sel js (sel is l) = l
theorem Ord.len {α : Type} {n : Nat} {is js : List Nat} (o : Ord n is js) (l : List α) (h : l.length = n) : (sel is l).Perm l := by
  subst h
  have := sel_perm l o.pi
  rwa [sel_range] at this
theorem Ord.lenj {α : Type} {n : Nat} {is js : List Nat} (o : Ord n is js) (l : List α) (h : l.length = n) : (sel js l).Perm l := by
  subst h
  have := sel_perm l o.pj
  rwa [sel_range] at this
theorem spF_byK {K : PySem.W.Frag} {ct : Str → Addr} {n : Nat} {m : List PV → RF} {is js : List Nat} (o : Ord n is js) {vs : List V} {H : Hp} {Q : VK} {E : XK} (h : SpF K ct n (byK is js m) vs H Q E) : SpF K ct n m (sel is vs) H Q E := by
  obtain ⟨S, F, pvs, EV, ok, hl, q⟩ := h
  have hp : vs.length = pvs.length := by simpa using EV.len
  have e1 : ((vs.map some).zip (pvs.map some)).map (·.1) = vs.map some := zip_fst (by simpa using hp)
  have e2 : ((vs.map some).zip (pvs.map some)).map (·.2) = pvs.map some := zip_snd (by simpa using hp)
  have hz : ((vs.map some).zip (pvs.map some)).length = n := by rw [List.length_zip, List.length_map, List.length_map]; omega
  have a1 : (sel is ((vs.map some).zip (pvs.map some))).map (·.1) = (sel is vs).map some := by rw [← sel_map, e1, sel_map]
  have a2 : (sel is ((vs.map some).zip (pvs.map some))).map (·.2) = (sel is pvs).map some := by rw [← sel_map, e2, sel_map]
  have EV2 : EnvRp K S H ((sel is vs).map some) ((sel is pvs).map some) F := by
    rw [← a1, ← a2]
    refine EnvRp.reorder (o.len _ hz).symm ?_
    rw [e1, e2]
    exact EV
  have hls : (sel is vs).length = n := by rw [(o.len vs hl).length_eq]; exact hl
  refine ⟨S, F, sel is pvs, EV2, ok, hls, ?_⟩
  have back : ∀ {S' : Addr → Prop} {H' : Hp} {out : Vs.Env} {F' : List Addr}, EnvRp K S' H' ((sel is vs).map some) out F' → EnvRp K S' H' (vs.map some) (sel js out) F' := fun {S' H' out F'} EO => by
    have hlo : ((sel is vs).map some).length = out.length := EO.len
    have f1 : (((sel is vs).map some).zip out).map (·.1) = (sel is vs).map some := zip_fst hlo
    have f2 : (((sel is vs).map some).zip out).map (·.2) = out := zip_snd hlo
    have hz2 : (((sel is vs).map some).zip out).length = n := by rw [List.length_zip, ← hlo, List.length_map, hls]; omega
    have := EnvRp.reorder (K := K) (S := S') (H := H') (F := F') (o.lenj _ hz2).symm (by rw [f1, f2]; exact EO)
    have b1 : (sel js (((sel is vs).map some).zip out)).map (·.1) = vs.map some := by rw [← sel_map, f1, sel_map, o.un vs hl]
    have b2 : (sel js (((sel is vs).map some).zip out)).map (·.2) = sel js out := by rw [← sel_map, f2]
    rw [b1, b2] at this
    exact this
  unfold byK at q
  cases qm : m (sel is pvs) with
  | no => rw [qm] at q; exact q
  | ok r out =>
    rw [qm] at q
    exact fun v S' H' F' f st hr EO k => q v S' H' F' f st hr (back EO) k
  | ex e out =>
    rw [qm] at q
    exact fun C d S' H' F' st EO k hx => q C d S' H' F' st (back EO) k hx
section
variable {ct : Str → Addr} {X : Cx} {W : WX} {k : Nat} {f : Addr} {fd : FuncData} {ps : List Str} {m : List PV → RF} {as : List AK} {df : List PV} {dvs : List V} {ds : List Value} {kws : List Keyword}
/-- how keywords are bound -/
structure BindK (K : PySem.W.Frag) (fd : FuncData) (ps ks : List Str) (ds : List Value) (is : List Nat) : Prop where
  to : ∀ (s : Shared) (us ws : List Value), K.In s.heap → ws.length = ks.length → us.length + ws.length + ds.length = ps.length → BindsTo s fd ⟨us, ks.zip ws⟩ (ps.zip (sel is ((us ++ ws) ++ ds)))
theorem sel_vals {vs : List V} {us : List Value} (h : Vals vs us) : ∀ is : List Nat, Vals (sel is vs) (sel is us)
  | [] => .nil
  | i :: is => by
    unfold sel
    cases q : vs[i]? with
    | none =>
      have : us[i]? = none := by
        rw [List.getElem?_eq_none_iff] at q ⊢
        rw [← h.length]
        exact q
      rw [this]
      exact sel_vals h is
    | some x =>
      obtain ⟨u, e, r⟩ := h.get q
      rw [e]
      exact .cons r (sel_vals h is)
theorem callK_end {is js : List Nat} {ks : List Str} {pins : List (Addr × Obj)} {σ : L2.St} {H2 : Hp} {s2 : Shared} {Q : VK} {us ws : List Value} {vs zs : List V} (F : Fn X.prog X.w X.K X.mg X.base ct k f fd ps m) (hgd : X.A.guards = some []) (hr : Room k X.A) (hb : BindK X.K fd ps ks ds is) (hdv : Vals dvs ds) (o : Ord ps.length is js)
    (tk : Takes X W) (I2 : Inv X pins σ H2 s2) (rv : Vals vs us) (rz : Vals zs ws) (hks : ws.length = ks.length) (q : SpF X.K ct ps.length (byK is js m) ((vs ++ zs) ++ dvs) H2 Q fun C d H' => W C d σ H') :
    wpAny (model X.prog X.w) X.A (PySem.call (.ref f) us (ks.zip ws)) (EP X pins σ Q) X.xe s2 := by
  have hl : us.length + ws.length + ds.length = ps.length := by
    obtain ⟨_, _, _, _, _, z, _⟩ := q
    rw [← z, List.length_append, List.length_append, rv.length, rz.length, hdv.length]
  refine wpAny_call (codeAny_mono (F.run X.A X.stack s2 H2 ⟨us, ks.zip ws⟩ _ _ Q _ hgd hr I2.env0 (hb.to s2 us ws I2.kIn hks hl) (sel_vals ((rv.append rz).append hdv) is) (spF_byK o q)) fun rr s' hq => ?_)
  cases rr with
  | error e => exact L2N.passAt tk σ pins H2 s2 e s' I2 hq
  | ok fl =>
    cases fl with
    | ret u => exact I2.after hq
    | next => exact False.elim hq
    | brk => exact False.elim hq
    | cont => exact False.elim hq
/-- f(a, .., x = b, ..) -/
theorem s_callK {is js : List Nat} {ks : List Str} {x : Str} {p pos : Pos} {e : Expr} {es : List Expr} (F : Fn X.prog X.w X.K X.mg X.base ct k f fd ps m) (hgd : X.A.guards = some []) (hr : Room k X.A) (hg : Gl X x) (hm : X.mg x = some (.ref f)) (hk : PySem.W.keepIn X.K (.ref f) = true) (hb : BindK X.K fd ps ks ds is) (hdv : Vals dvs ds) (hd : DfOk X.K df dvs) (o : Ord ps.length is js)
    (ha : SK ct X (e :: es) kws (cargs as)) (hn : as.length + dvs.length = ps.length) (hkl : kws.length = ks.length) (hall : (backToKw pos (keywordEach kws X.env)).all (·.1.isSome) = true := by rfl) (hks : (backToKw pos (keywordEach kws X.env)).filterMap (·.1) = ks := by rfl)
    (hdb : (x == ("__debug__" : Str)) = false := by decide) (he : starEach (e :: es) X.env = (false, eval e X.env) :: starEach es X.env := by rfl)
    (hpl : ((backTo pos (starEach (e :: es) X.env)).any (·.1) || (backToKw pos (keywordEach kws X.env)).any (·.1.isNone)) = false := by rfl) :
    SE ct X (.Call (.Name x p) (e :: es) kws pos) (call (byK is js m) df as) := by
  refine ⟨fun W tk => ?_⟩
  obtain ⟨t, t2, pa, pk, r⟩ := ha.run W tk
  refine ⟨fun σ H Q => t σ H fun vs H1 => t2 σ H1 fun zs H2 => zs.length = kws.length ∧ SpF X.K ct ps.length (byK is js m) ((vs ++ zs) ++ dvs) H2 Q fun C d H' => W C d σ H', ⟨fun pins s σ H Q I h => ?_⟩,
    fun S F H σ ρ Q E ok G => run_call (x := .non) (t := fun σ H Q => t σ H fun vs H1 => t2 σ H1 fun zs H2 => zs.length = kws.length ∧ Q (vs ++ zs) H2) hd hn r E ok G⟩
  refine wpAny_Call_Name_kw (ld_glob I hg hm ?_ hdb)
  refine PySem.W.callWith_KW (h₀ := X.base) I.ok.mod.kin hk hall (L2.thn (pa.run pos pins s σ H _ I h) fun us s1 ⟨vs, H1, I1, rv, q1⟩ => L2.thn (pk.run pos pins s1 σ H1 _ I1 q1) fun ws s2 ⟨zs, H2, I2, rz, hzs, q⟩ => ⟨I2.kIn, ?_⟩) hpl he
  rw [hks]
  exact callK_end F hgd hr hb hdv o tk I2 rv rz (by rw [← rz.length, hzs, hkl]) q
/-- f(x = b, ..) -/
theorem s_callK0 {is js : List Nat} {ks : List Str} {x : Str} {p pos : Pos} (F : Fn X.prog X.w X.K X.mg X.base ct k f fd ps m) (hgd : X.A.guards = some []) (hr : Room k X.A) (hg : Gl X x) (hm : X.mg x = some (.ref f)) (hk : PySem.W.keepIn X.K (.ref f) = true) (hb : BindK X.K fd ps ks ds is) (hdv : Vals dvs ds) (hd : DfOk X.K df dvs) (o : Ord ps.length is js)
    (ha : SKw ct X kws (cargs as)) (hn : as.length + dvs.length = ps.length) (hkl : kws.length = ks.length) (hall : (backToKw pos (keywordEach kws X.env)).all (·.1.isSome) = true := by rfl) (hks : (backToKw pos (keywordEach kws X.env)).filterMap (·.1) = ks := by rfl)
    (hdb : (x == ("__debug__" : Str)) = false := by decide) (hpl : ((backTo pos (starEach [] X.env)).any (·.1) || (backToKw pos (keywordEach kws X.env)).any (·.1.isNone)) = false := by rfl) :
    SE ct X (.Call (.Name x p) [] kws pos) (call (byK is js m) df as) := by
  refine ⟨fun W tk => ?_⟩
  obtain ⟨t2, pk, r⟩ := ha.run W tk
  refine ⟨fun σ H Q => t2 σ H fun zs H2 => zs.length = kws.length ∧ SpF X.K ct ps.length (byK is js m) (zs ++ dvs) H2 Q fun C d H' => W C d σ H', ⟨fun pins s σ H Q I h => ?_⟩,
    fun S F H σ ρ Q E ok G => run_call (x := .non) (t := fun σ H Q => t2 σ H fun zs H2 => zs.length = kws.length ∧ Q zs H2) hd hn r E ok G⟩
  refine wpAny_Call_Name_kw (ld_glob I hg hm ?_ hdb)
  refine PySem.W.callWith_KW0 (h₀ := X.base) I.ok.mod.kin hk hall (L2.thn (pk.run pos pins s σ H _ I h) fun ws s2 ⟨zs, H2, I2, rz, hzs, q⟩ => ⟨I2.kIn, ?_⟩) hpl
  rw [hks]
  exact callK_end (us := []) (vs := []) F hgd hr hb hdv o tk I2 .nil rz (by rw [← rz.length, hzs, hkl]) q
end
end Vs
set_option maxHeartbeats 4000000
/-! Vs: comparisons as tests; not; returns; names of the module. -/
namespace Vs
open PySem PySem.Spec PyProof.Rows L2
section
variable {ct : Str → Addr} {lent : List Bool} {X : Cx} {a b c e : Expr} {es : List Expr} {ga gb gc ge : M} {gs : MA} {pos p : Pos}
theorem kNot_op : Op1 X.K (fun x H Q => ∃ c, x = V.bl c ∧ Q (.bl (!c)) H) kNot := fun S H x v f z Q h ok e hQ => by
  unfold kNot at e
  split at e
  · rename_i c el
    obtain rfl := Option.some.inj e
    exact ⟨c, h.bl el, ret_imm ok rfl (.bl _ _) hQ⟩
  · cases e
theorem s_not (ha : SE ct X a ga) : SE ct X (.UnaryOp .Not a pos) (one ga kNot) := run_one ha (fun pa => pe_not pa) kNot_op
/-- a value's reading as a test's -/
theorem run_tB {g : M} {e : Expr} (h : ∀ W, Takes X W → ∃ t, PT X e (tTest t) ∧ ∀ S F H σ ρ Q, EnvRp X.K S H σ ρ F → Ok S H F → Good X.K ct (VOk X.K) W S F H σ ρ (g ρ) Q → t σ H Q) : ST ct X e (tst g blOf) := by
  refine ⟨fun W tk => ?_⟩
  obtain ⟨ta, pa, ra⟩ := h W tk
  refine ⟨_, pa, fun S F H σ ρ Q E ok G => ra S F H σ ρ _ E ok ?_⟩
  refine good_bind G fun x o v S1 F1 H1 f _ t1 h1 E1 k1 G => ?_
  cases q : blOf x.d with
  | none => rw [q] at G; exact G.elim
  | some b =>
    rw [q] at G
    have e : x.d = .bl b := by
      cases e : x.d <;> rw [e] at q <;> simp [blOf] at q
      rw [q]
    obtain ⟨g, hr⟩ := h1.rp
    rw [e] at hr
    exact ⟨b, hr.vbl, G b S1 F1 H1 [] (t1.thn (f := f) (g := []) (o' := none) k1 Fit.nil (fun b hb => absurd hb (by simp)) (Same.refl _)) ⟨rfl, rfl⟩ E1 k1.tail⟩
theorem t_cmp {op : CmpOp} {r : R2} {k : VV → VV → Option VV} (ho : OpR X (compareOp op) r) (hk : Op2 X.K r k) (hm : behindInMarks op b = false) (ha : SE ct X a ga) (hb : SE ct X b gb) : ST ct X (.Compare a [op] [b] pos) (tst (two ga gb k) blOf) :=
  run_tB (run_twoG (Pe := fun t => PT X _ (tTest t)) ha hb (fun pa pb => pt_cmpR ho pa pb hm) hk)
theorem t_lt (ha : SE ct X a ga) (hb : SE ct X b gb) : ST ct X (.Compare a [.Lt] [b] pos) (tst (two ga gb kLt) blOf) := t_cmp op_lt kCmp_op (nomark _) ha hb
theorem t_le (ha : SE ct X a ga) (hb : SE ct X b gb) : ST ct X (.Compare a [.LtE] [b] pos) (tst (two ga gb kLe) blOf) := t_cmp op_le kCmp_op (nomark _) ha hb
theorem t_gt (ha : SE ct X a ga) (hb : SE ct X b gb) : ST ct X (.Compare a [.Gt] [b] pos) (tst (two ga gb kGt) blOf) := t_cmp op_gt kCmp_op (nomark _) ha hb
theorem t_ge (ha : SE ct X a ga) (hb : SE ct X b gb) : ST ct X (.Compare a [.GtE] [b] pos) (tst (two ga gb kGe) blOf) := t_cmp op_ge kCmp_op (nomark _) ha hb
theorem t_is (ha : SE ct X a ga) (hb : SE ct X b gb) : ST ct X (.Compare a [.Is] [b] pos) (tst (two ga gb kIs) blOf) := t_cmp op_is2 kIs_op (nomark _) ha hb
theorem t_isnot (ha : SE ct X a ga) (hb : SE ct X b gb) : ST ct X (.Compare a [.IsNot] [b] pos) (tst (two ga gb kIsNot) blOf) := t_cmp op_isNot2 kIsNot_op (nomark _) ha hb
theorem t_eq {k : Nat} (hr : Room k X.A) (ha : SE ct X a ga) (hb : SE ct X b gb) : ST ct X (.Compare a [.Eq] [b] pos) (tst (two ga gb kEq) blOf) := t_cmp (op_eqS (units_of hr)) kEq_op (nomark _) ha hb
theorem t_ne {k : Nat} (hr : Room k X.A) (ha : SE ct X a ga) (hb : SE ct X b gb) : ST ct X (.Compare a [.NotEq] [b] pos) (tst (two ga gb kNe) blOf) := t_cmp (op_neS (units_of hr)) kNe_op (nomark _) ha hb
theorem t_in {k : Nat} (hr : Room k X.A) (ha : SE ct X a ga) (hb : SE ct X b gb) (hm : behindInMarks .In b = false := by with_unfolding_all rfl) : ST ct X (.Compare a [.In] [b] pos) (tst (two ga gb kIn) blOf) := t_cmp (op_in2 (units_of hr)) kIn_op hm ha hb
theorem t_notin {k : Nat} (hr : Room k X.A) (ha : SE ct X a ga) (hb : SE ct X b gb) (hm : behindInMarks .NotIn b = false := by with_unfolding_all rfl) : ST ct X (.Compare a [.NotIn] [b] pos) (tst (two ga gb kNotIn) blOf) := t_cmp (op_notIn2 (units_of hr)) kNotIn_op hm ha hb
theorem t_chain {op op' : CmpOp} {φ ψ : Int → Int → Bool} (ho : OpR X (compareOp op) (rI0 fun i j => .bl (φ i j))) (ho' : OpR X (compareOp op') (rI0 fun i j => .bl (ψ i j))) (ha : SE ct X a ga) (hb : SE ct X b gb) (hc : SE ct X c gc)
    (hm : lastMarks [op, op'] [b, c] = false := by with_unfolding_all rfl) : ST ct X (.Compare a [op, op'] [b, c] pos) (tst (chain ga gb gc φ ψ) blOf) :=
  run_tB (run_chain (Pe := fun t => PT X _ (tTest t)) ha hb hc (fun pa pb pc => pt_chain ho ho' pa pb pc hm))
/-- a name of the module -/
theorem s_globD {z : VV} {x : Str} {u : Value} {w : V} (hb : z.b = false) (hv : ∀ S H, Rp X.K S H z.m w z.d []) (hg : Gl X x) (hm : X.mg x = some u) (r : RelV w u) (hdb : (x == ("__debug__" : Str)) = false := by decide) : SE ct X (.Name x pos) (cst z) := by
  refine ⟨fun W tk => ⟨_, pe_glob hg hm r (hd := hdb), fun S F H σ ρ Q E ok G => G w S F H [] Fit.nil ?_ E ok⟩⟩
  obtain ⟨b, m, d⟩ := z
  obtain rfl : b = false := hb
  rw [VOk.own]
  exact hv S H
/-- return of a local name -/
theorem ss_retv (i : Nat) {x : Str} (hN : X.N[i]? = some x := by rfl) (hv : Vis X.env.scope x := by first | exact Or.inl rfl | exact Or.inr (Or.inl rfl) | exact Or.inr (Or.inr rfl)) (hd : (x == ("__debug__" : Str)) = false := by decide)
    (hcd : (x == ("__classdict__" : Str)) = false := by decide) : SS ct lent X (.Return (some (.Name x p)) pos) (retv i) := by
  refine ⟨fun W tk po => ⟨_, ps_ret (pv i hN hv hd hcd), fun S F H σ ρ D E ok G => ?_⟩⟩
  unfold retv at G
  cases q : look ρ i with
  | none => rw [q] at G; exact G.elim
  | some pv =>
    obtain ⟨m, d⟩ := pv
    rw [q] at G
    obtain ⟨v, f, G', h1, h2, p, E'⟩ := E.take q
    exact ⟨v, h1, G v f σ S G' H (Step.refl.less fun b hb => p.mem_iff.mpr hb) h2 E' (ok.perm p) Kp.refl⟩
/-- x op= e of ints -/
theorem ss_aug {i : Nat} {x : Str} {op : Operator} {r : R2} {k : VV → VV → Option VV} {pos' : Pos} (hp : PIp X op r) (hk : Op2 X.K r k) (hi0 : ∀ x y z, k x y = some z → x.d.imm = true ∧ z.d.imm = true) (hN : X.N.Nodup) (hi : X.N[i]? = some x) (hx : Loc X.env.scope x) (hl : lent[i]? ≠ some true) (he : SE ct X e ge)
    (hf : X.fn x = true ∨ X.env.scope.names.lookup x = some .local := by first | exact .inl rfl | exact .inr rfl | assumption) : SS ct lent X (.AugAssign (.Name x pos') op e pos) (asg (two (v i) ge k) (gname i)) := by
  refine ⟨fun W tk po => ?_⟩
  obtain ⟨te, pe, re⟩ := he.run W tk
  refine ⟨_, ps_aug hN hi hx pe hp hf, fun S F H σ ρ D E ok G => ?_⟩
  obtain ⟨tn, _, rn⟩ := (sg_name (ct := ct) (lent := lent) (X := X) (pos := pos') hN hi hx hl hf).run W tk
  unfold asg two v at G
  cases q : look ρ i with
  | none => rw [q] at G; exact G.elim
  | some pv =>
    obtain ⟨m, d⟩ := pv
    rw [q] at G
    obtain ⟨v, f, G', h1, h2, p, E'⟩ := E.take q
    refine ⟨v, h1, re S F H σ ρ _ E ok ?_⟩
    replace G : GoodS X.K ct lent W D S F H σ ((((ge ρ).nxt (VV.stable ⟨!(m == 0), m, d⟩) fun y => .ofO (k ⟨!(m == 0), m, d⟩ y)).aft none).go ρ fun x ρ1 => gname i x ρ1) := G
    rw [R.aft_none] at G
    cases qe : ge ρ with
    | no => rw [qe] at G; exact G
    | ex ee ρ1 =>
      rw [qe] at G
      exact fun C d S' F' H' st E' o' hx => G C d σ S' F' H' st E' o' Kp.refl hx
    | ok y o =>
      rw [qe, R.nxt_ok] at G
      intro u S2 F2 H2 g t2 hy E2 k2
      split at G
      · cases qk : k ⟨!(m == 0), m, d⟩ y with
        | none => rw [qk] at G; exact G.elim
        | some z =>
          rw [qk] at G
          obtain ⟨im, iz⟩ := hi0 _ _ _ qk
          obtain ⟨rfl, im2⟩ := h2.imm im
          have hv : VOk X.K S2 H2 ⟨!(m == 0), m, d⟩ v [] := .of_rp (by simp [VV.stable, im]) (im2 _ _ _)
          refine hk S2 H2 _ v [] y u g z _ hv hy (by simpa using k2.head) qk fun w H' S' h gr hw oh => ?_
          have hw0 := hw.stab (by simp [VV.stable, iz])
          obtain ⟨rfl, iw⟩ := hw0.imm iz
          have gr : Grow S2 H2 g S' [] H' := gr
          have t3 := t2.grow k2 gr
          have k3 : Ok S' H' ([] ++ F2) := gr.ok k2 oh
          have E3 : EnvRp X.K S' H' σ (now o ρ) F2 := (E2.same gr.same).more gr.sub
          replace G : GoodS X.K ct lent W D S F H σ (gname i z (now o ρ)) := by
            have e : (((R.ofO (some z)).aft o).go ρ fun x ρ1 => gname i x ρ1) = gname i z (now o ρ) := by cases o <;> rfl
            rw [e] at G
            exact G
          unfold gname at G
          have hk2 : z.kept = some (z.m, z.d) := by simp [VV.kept, VV.stable, iz]
          rw [hk2] at G
          obtain ⟨f0, G0, p, E0⟩ := E3.drop i
          show D.nx (σ.set i (some w)) H'
          have k3' : Ok S' H' F2 := k3
          by_cases hl2 : i < σ.length
          · exact G _ S' ([] ++ G0) H' (t3.step.less fun b hb => p.mem_iff.mpr (List.mem_append_right _ hb)) (E0.fill hl2 hw0) (k3'.perm p).tail (Kp.set hl)
          · have e1 : σ.set i (some w) = σ := List.set_eq_of_length_le (by omega)
            have e2 : Vs.put (now o ρ) i (some (z.m, z.d)) = now o ρ := put_over _ _ _ (by rw [← E3.len]; omega)
            replace G : GoodS X.K ct lent W D S F H σ (.nx (Vs.put (now o ρ) i (some (z.m, z.d)))) := G
            rw [e2] at G
            rw [e1]
            exact G σ S' F2 H' t3.step E3 k3' Kp.refl
      · exact G.elim
theorem kBit_imm {φ : Int → Int → Int} {x y z : VV} (h : kBit φ x y = some z) : x.d.imm = true ∧ z.d.imm = true := by
  unfold kBit at h
  split at h
  · rename_i i j h1 h2
    obtain rfl := Option.some.inj h
    rw [h1]
    exact ⟨rfl, rfl⟩
  · cases h
theorem ss_augAdd {i : Nat} {x : Str} {pos' : Pos} (hN : X.N.Nodup) (hi : X.N[i]? = some x) (hx : Loc X.env.scope x) (hl : lent[i]? ≠ some true) (he : SE ct X e ge)
    (hf : X.fn x = true ∨ X.env.scope.names.lookup x = some .local := by first | exact .inl rfl | exact .inr rfl | assumption) : SS ct lent X (.AugAssign (.Name x pos') .Add e pos) (asg (two (v i) ge (kBit fun i j => i + j)) (gname i)) :=
  ss_aug ip_add kBit_op (fun _ _ _ => kBit_imm) hN hi hx hl he hf
theorem ss_augSub {i : Nat} {x : Str} {pos' : Pos} (hN : X.N.Nodup) (hi : X.N[i]? = some x) (hx : Loc X.env.scope x) (hl : lent[i]? ≠ some true) (he : SE ct X e ge)
    (hf : X.fn x = true ∨ X.env.scope.names.lookup x = some .local := by first | exact .inl rfl | exact .inr rfl | assumption) : SS ct lent X (.AugAssign (.Name x pos') .Sub e pos) (asg (two (v i) ge (kBit fun i j => i - j)) (gname i)) :=
  ss_aug ip_sub kBit_op (fun _ _ _ => kBit_imm) hN hi hx hl he hf
theorem kMulS_op : Op2 X.K (rI CMul fun i j => .int (i * j)) kMulS := op2_int fun x y z e => by
  unfold kMulS at e
  split at e
  · rename_i i j h1 h2
    split at e
    · rename_i c
      obtain rfl := Option.some.inj e
      exact ⟨i, j, h1, h2, .inl ⟨by omega, by omega⟩, rfl, fun _ _ => .int _ _⟩
    · cases e
  · cases e
theorem kMulS_imm {x y z : VV} (h : kMulS x y = some z) : x.d.imm = true ∧ z.d.imm = true := by
  unfold kMulS at h
  split at h
  · rename_i i j h1 h2
    split at h
    · obtain rfl := Option.some.inj h
      rw [h1]
      exact ⟨rfl, rfl⟩
    · cases h
  · cases h
theorem ss_augMul {i : Nat} {x : Str} {pos' : Pos} (hN : X.N.Nodup) (hi : X.N[i]? = some x) (hx : Loc X.env.scope x) (hl : lent[i]? ≠ some true) (he : SE ct X e ge)
    (hf : X.fn x = true ∨ X.env.scope.names.lookup x = some .local := by first | exact .inl rfl | exact .inr rfl | assumption) : SS ct lent X (.AugAssign (.Name x pos') .Mult e pos) (asg (two (v i) ge kMulS) (gname i)) :=
  ss_aug iop_mul kMulS_op (fun _ _ _ => kMulS_imm) hN hi hx hl he hf
end
end Vs
set_option maxHeartbeats 4000000
/-! Vs: the law's own head. -/
namespace Vs
open PySem PySem.Spec PyProof.Rows L2
section
variable {P : Program} {w : World} {K : PySem.W.Frag} {mg mb : Str → Option Value} {ct : Str → Addr} {k : Nat} {fa a : Addr} {fd : FuncData} {x : Str} {m : List PV → RF} {s1 : Shared} {vs : List Value} {ns : List Int}
/-- at most the script at a is tracked -/
structure Start (P : Program) (w : World) (K : PySem.W.Frag) (H : Hp) (h : Heap) (a : Addr) (ns : List Int) : Prop where
  one : ∀ b, H b = none ∨ ∃ o xs, H b = some (.frz o (.lst xs))
  at_ : ∀ b, H b ≠ none → b = a
  out : H a ≠ none → K.lookup a = none
  ok : HOk P w H h
  sq : SqL K H a (ns.map V.int)
/-- one of the two -/
theorem start_of {vs : List Value} (KX : K.In s1.heap) (ha : s1.heap.get? a = some { cls := .type "list", data := .seq vs.toArray }) (hi : IntsAre vs ns) (hl : ns.length ≤ sizeLine) : ∃ H, Start P w K H s1.heap a ns := by
  have rv := vals_ints hi
  have le := hi.length
  cases hk : K.lookup a with
  | some o =>
    have e := KX a o hk
    rw [ha] at e
    cases e
    exact ⟨fun _ => none, fun _ => .inl rfl, fun _ z => absurd rfl z, fun z => absurd rfl z, fun b u z => (by cases (show (none : Option HO) = some u from z)), .inr ⟨_, vs.toArray, _, hk, rfl, rfl, rfl, by rw [List.size_toArray, le]; exact hl, by simpa using rv⟩⟩
  | none =>
    let H : Hp := fun b => if b = a then some (.frz { cls := .type "list", data := .seq vs.toArray } (.lst (ns.map V.int))) else none
    have at1 : H a = some (.frz { cls := .type "list", data := .seq vs.toArray } (.lst (ns.map V.int))) := if_pos rfl
    have at2 : ∀ {b}, b ≠ a → H b = none := fun h => if_neg h
    refine ⟨H, fun b => ?_, fun b z => Classical.byContradiction fun hb => z (at2 hb), fun _ => hk, fun b u z => ?_, .inl (.inr ⟨_, at1⟩)⟩
    · by_cases hb : b = a
      · exact .inr ⟨_, _, by rw [hb]; exact at1⟩
      · exact .inl (at2 hb)
    · by_cases hb : b = a
      · subst hb
        rw [at1] at z
        cases z
        exact ⟨ha, by rw [List.length_map]; exact hl, vs, _, rv, ha⟩
      · rw [at2 hb] at z
        cases z
theorem start_sp {H : Hp} {h : Heap} {r : PV} {out : Vs.Env} (T : Start P w K H h a ns) (hm : m [(0, .lst (dints ns))] = .ok r out) (hr : r.2 = .bl true) : SpF K ct 1 m [.ref a] H (fun v _ => v = .bl true) fun _ _ _ => False := by
  have ok : Ok (fun b => H b ≠ none) H [] := ⟨.nil, by simp, by simp, fun _ z => z⟩
  refine ⟨fun b => H b ≠ none, [], [(0, .lst (dints ns))], .live (f := []) (F := []) ?_ .nil (.refl _), ok, rfl, ?_⟩
  · rcases T.sq with h | h
    · refine .lst0 h ?_ (RpAll.dints 0 ns)
      rcases h with h | ⟨o, h⟩ <;> rw [h] <;> simp
    · exact .lstK (.inr h) (RpAll.dints 0 ns)
  · rw [hm]
    intro v S' H' F' f _ hv _ _
    rw [hr] at hv
    exact hv.vbl
/-- the def's promise at the heap behind the top -/
theorem law_runs {r : PV} {out : Vs.Env} (KX : K.In s1.heap) (hns : s1.heap.Ns mainGlobals mg) (hb : s1.heap.Ns builtinsNs mb) (hbb : ∀ x : Str, x ≠ "__name__" → mb x = bootBuiltins x) (hlim : s1.heap.NoLimit) (hg : s1.gens = #[])
    (ha : s1.heap.get? a = some { cls := .type "list", data := .seq vs.toArray }) (hi : IntsAre vs ns) (hl : ns.length ≤ sizeLine) (hr : Room k callerA)
    (F : ∀ base : Heap, K.In base → base.Ns mainGlobals mg → Fn P w K mg base ct k fa fd [x] m) (hbind : ∀ (s : Shared) (u : Value), BindsTo s fd ⟨[u], []⟩ [(x, u)])
    (hm : m [(0, .lst (dints ns))] = .ok r out) (hr2 : r.2 = .bl true) :
    codeAny (model P w) callerA (.call (.ref fa) ⟨[.ref a], []⟩) (fun r s' => r = .ok (.ret (.bool true)) ∧ OldK s1.heap s'.heap ∧ s'.os = s1.os ∧ AllBare s'.gens) s1 := by
  obtain ⟨H, T⟩ := start_of (P := P) (w := w) KX ha hi hl
  let base := hidT s1.heap H
  have tell : ∀ {b : Addr} {o : Obj}, s1.heap.get? b = some o → (H b ≠ none → False) → base.get? b = some o := fun e n => hidT_get e (Classical.byContradiction fun z => n z)
  have notD : ∀ {b : Addr} {o : Obj} {es : Array DictEntry} {ep : Nat}, s1.heap.get? b = some o → o.data = .dict es ep → H b ≠ none → False := fun {b o es ep} e d z => by
    obtain rfl := T.at_ b z
    rw [ha] at e
    cases e
    cases (show Data.seq vs.toArray _ = Data.dict es ep from d)
  have ns_ : ∀ {b : Addr} {g : Str → Option Value}, s1.heap.Ns b g → base.Ns b g := fun {b g} ⟨o, es, ep, e, d, z⟩ => ⟨o, es, ep, tell e (notD e d), d, z⟩
  have inn : K.In base := fun b o e => tell (KX b o e) fun z => by
    obtain rfl := T.at_ b z
    rw [T.out z] at e
    cases e
  have md : Mod K mg base := ⟨inn, ns_ hns, ⟨mb, ns_ hb, hbb⟩, let ⟨mc, z1, z2⟩ := hlim; ⟨mc, ns_ z1, z2⟩⟩
  have env0 : Env0 P w K mg base callerA [] s1 H := ⟨rfl, md, fun b o e => of_hidT e, Nat.le_of_eq (hidT_size _ _), trivial, fun b hb => (by cases hb), T.ok, .of_eq hg⟩
  refine codeAny_mono ((F base inn (ns_ hns)).run callerA [] s1 H ⟨[.ref a], []⟩ [.ref a] [.ref a] _ _ rfl hr env0 (hbind s1 (.ref a)) (.cons rfl .nil) (start_sp T hm hr2)) fun rr s' h => ?_
  cases rr with
  | error e =>
    obtain ⟨_, _, _, _, _, _, _, _, _, _, _, _, z⟩ := h
    exact z.elim
  | ok fl =>
    cases fl with
    | next => exact h.elim
    | brk => exact h.elim
    | cont => exact h.elim
    | ret u =>
      obtain ⟨v, H', os, bare, un, hok', rv, rfl⟩ := h
      obtain rfl : u = Value.bool true := rv
      refine ⟨rfl, OldK.of_keep fun b o e => ?_, os, bare⟩
      rcases T.one b with z | ⟨ob, xs, z⟩
      · exact un.keep b o e z (fun z => by cases z) (by simp)
      · obtain ⟨e1, _⟩ := T.ok b _ z
        obtain ⟨e2, _⟩ := hok' b _ (un.frzs b ob _ z)
        rw [e] at e1
        cases e1
        exact e2
end
/-- what k_head leaves -/
theorem walk_of {l : PySem.W.OpenLaw} {n k : Nat} {q : Program} {loose : List Str} {XP : (Str → Option Value) → Heap → Prop} {YP : World → Heap → Prop} {d : DefRec} {K : Params → PySem.W.Frag} {x : Str} {m : List PV → RF}
    (hn : l.most = some n) (hn2 : n ≤ sizeLine) (hdf : d.params.defaults = []) (hr : Room k callerA) (hY : ∀ (w : World) (h : Heap), YP w h → (K w.params).In h)
    (F : ∀ (w : World) (mg : Str → Option Value) (fa : Addr) (h : Heap), (K w.params).In h → h.Ns mainGlobals mg → mg d.name = some (.ref fa) →
      ∃ (ct : Str → Addr) (fd : FuncData), (∀ (s : Shared) (u : Value), BindsTo s fd ⟨[u], []⟩ [(x, u)]) ∧ ∀ base : Heap, (K w.params).In base → base.Ns mainGlobals mg → Fn l.prog w (K w.params) mg base ct k fa fd [x] m)
    (hm : ∀ ns : List Int, ns.length ≤ n → ∃ r out, m [(0, .lst (dints ns))] = .ok r out ∧ r.2 = .bl true) : PySem.W.WalkO q loose XP YP l.row.toRowW d [] (fun f vs => PySem.call f vs) := by
  refine Att.attach_call hn hdf fun w s0 s1 mg mb fa o pm cd doc a vs ns G Y ho hd hcd hmg hobj hints hlen hg => ?_
  obtain ⟨ct, fd, hb, hF⟩ := F w mg fa _ (hY w _ Y) G.T.g hmg
  obtain ⟨r, out, h1, h2⟩ := hm ns hlen
  exact law_runs (hY w _ Y) G.T.g G.T.b G.T.builtins G.T.nolimit hg hobj hints (Nat.le_trans hlen hn2) hr hF hb h1 h2
end Vs
set_option maxHeartbeats 4000000
/-! Vs: defs with values of their own; methods on an item of a slot. -/
namespace Vs
open PySem PySem.Spec PyProof.Rows L2
section
variable {P : Program} {w : World} {K : PySem.W.Frag} {mg : Str → Option Value} {base : Heap} {ct : Str → Addr}
/-- the rule for a def -/
theorem fn_ofD {dvs : List V} {kws : List (Str × V)} {x qual : Str} {st : Stmt} {f : Addr} {fd : FuncData} {N ps : List Str} {k : Nat} {lent : List Bool} {g : MS} (F : FunD K x qual (defArgs st) (defBody st) (defScope st) dvs kws f fd) (Sc : FnScope N ps (defScope st)) (hn : ps.length ≤ N.length) (hl : lent.length = ps.length)
    (hbody : ∀ (cdv : Value) (A : Around) (outer : List PySem.Env) (s : Shared) (H : Hp) (E : XK), Room k (bodyX P w K mg base N qual st f cdv A outer s H E).A → (bodyX P w K mg base N qual st f cdv A outer s H E).A.guards = some [] →
      SSs ct lent (bodyX P w K mg base N qual st f cdv A outer s H E) (defBody st) g) : Fn P w K mg base ct (k + 1) f fd ps (fnM N.length lent g) := by
  obtain ⟨oc, od, dV, kV, doc, pm, an, cdv, cv, osl, rfl, lk, hcd, _, _⟩ := F.ex
  refine ⟨fun A outer s H args us vs Q E hgd hr e0 hb r hsp => ?_⟩
  have hlen : vs.length = ps.length := by
    obtain ⟨_, _, _, _, _, z, _⟩ := hsp
    exact z
  have inn : K.In s.heap := e0.mod.kin.keeps fun b o e => (e0.bs b o e).1
  have lim : s.heap.NoLimit := e0.mod.nolimit.keeps fun b o e => (e0.bs b o e).1
  refine codeAny_call_function hr.depth (inn _ _ lk) rfl Sc.co Sc.gen rfl (PySem.W.codeRec_of inn hcd) (hb _ _ _ _ ?_)
  refine wpAny_newFunctionEnv_cells Sc.kind (fun ⟨n, u⟩ hm => ?_) fun env henv s1 made => ?_
  · rcases Sc.par n (List.of_mem_zip hm).1 with z | z
    · exact .inl z
    · exact .inr ⟨z, PySem.W.cellsFrom_some _ _ _ (.inl z)⟩
  · subst henv
    refine ⟨lim.keeps made.toInCall.keep, codeAny_func ?_⟩
    have I : Inv (bodyX P w K mg base N qual st f cdv A outer s H E) [] (L2.start N vs) H s1 := inv_start Sc hr.hd e0 hlen r made
    obtain ⟨t, ht, run⟩ := (hbody cdv A outer s H E (hr.deeper _) hgd).run (fun cls d _ H => E cls d H) (L2N.takes_of rfl rfl rfl rfl) (passes_of rfl)
    refine wpAny_mono (ht.run [] s1 (L2.start N vs) H _ I (body_ends hn hl run hsp)) (fun fl s2 hs => ?_) fun _ _ z => z
    have ends : ∀ {σ' : L2.St} {H' : Hp} {v : V} {u : Value}, Inv (bodyX P w K mg base N qual st f cdv A outer s H E) [] σ' H' s2 → RelV v u → Q v H' → CE outer P w H s Q u s2 :=
      fun {σ' H' v u} J rv q => ⟨v, H', J.os, J.bare, J.base, J.hok, rv, q⟩
    cases fl with
    | ret u =>
      obtain ⟨v, σ', H', J, rv, q⟩ := hs
      exact ends J rv q
    | next =>
      obtain ⟨σ', H', J, q⟩ := hs
      exact ends (v := .non) (u := .none) J rfl q
    | brk =>
      obtain ⟨_, _, _, q⟩ := hs
      exact q.elim
    | cont =>
      obtain ⟨_, _, _, q⟩ := hs
      exact q.elim
/-- a def as the top has left it -/
theorem funD_mk {x qual : Str} {st : Stmt} {f : Addr} {oc : Value} {od an : Option Addr} {osl : Array (Option Value)} {dV kV doc pm cdv cv : Value} {dvs : List V} (l : K.lookup f = some ⟨oc, od, .func (PySem.W.fnOf x qual (defArgs st) (defBody st) (defScope st) dV kV doc pm an cdv cv), osl⟩)
    (c : PySem.W.codeIn K cdv qual = true) (k : PySem.W.keepIn K (.ref f) = true) (d : DflV K dV dvs) : FunD K x qual (defArgs st) (defBody st) (defScope st) dvs [] f (PySem.W.fnOf x qual (defArgs st) (defBody st) (defScope st) dV kV doc pm an cdv cv) :=
  ⟨⟨oc, od, dV, kV, doc, pm, an, cdv, cv, osl, rfl, l, c, d, .inl rfl⟩, k⟩
theorem dfl_none {dV : Value} (h : dV = .none) : DflV K dV [] := .inl ⟨rfl, h⟩
theorem dfl_some {dvs : List V} {T : Addr} {oc : Value} {od : Option Addr} {its : Array Value} {n : Nat} {sl : Array (Option Value)} (h : dvs ≠ []) (l : K.lookup T = some ⟨oc, od, .seq its n, sl⟩) (r : Vals dvs its.toList) : DflV K (.ref T) dvs :=
  .inr ⟨h, T, _, its.toList, n, rfl, l, by simp, r⟩
/-- no value of a parameter's own stands in -/
theorem binds_0 {x qual : Str} {st : Stmt} {f : Addr} {fd : FuncData} {ps : List Str} (F : FunD K x qual (defArgs st) (defBody st) (defScope st) [] [] f fd)
    (h : ∀ (kV doc pm : Value) (an : Option Addr) (cdv cv : Value) (us : List Value), us.length = ps.length → bindArgs (PySem.W.fnOf x qual (defArgs st) (defBody st) (defScope st) .none kV doc pm an cdv cv) ⟨us, []⟩ = pure (ps.zip us)) : L2.Binds K fd ps [] := by
  obtain ⟨oc, od, dV, kV, doc, pm, an, cdv, cv, osl, rfl, lk, hcd, hD, _⟩ := F.ex
  rcases hD with ⟨_, rfl⟩ | ⟨z, _⟩
  · exact Binds.all fun us hl => h _ _ _ _ _ _ us hl
  · exact absurd rfl z
theorem bindK_0 {x qual : Str} {st : Stmt} {f : Addr} {fd : FuncData} {ps ks : List Str} {is : List Nat} (F : FunD K x qual (defArgs st) (defBody st) (defScope st) [] [] f fd)
    (n : Nat) (hn : n + ks.length = ps.length) (h : ∀ (kV doc pm : Value) (an : Option Addr) (cdv cv : Value) (us ws : List Value), us.length = n → ws.length = ks.length → bindArgs (PySem.W.fnOf x qual (defArgs st) (defBody st) (defScope st) .none kV doc pm an cdv cv) ⟨us, ks.zip ws⟩ = pure (ps.zip (sel is ((us ++ ws) ++ [])))) : BindK K fd ps ks [] is := by
  obtain ⟨oc, od, dV, kV, doc, pm, an, cdv, cv, osl, rfl, lk, hcd, hD, _⟩ := F.ex
  rcases hD with ⟨_, rfl⟩ | ⟨z, _⟩
  · exact ⟨fun s us ws _ h1 h2 => BindsTo.of_eq (h _ _ _ _ _ _ us ws (by have h2 : us.length + ws.length + 0 = ps.length := h2; omega) h1)⟩
  · exact absurd rfl z
/-- the last of the own values stand in: all but the first j of them -/
theorem binds_D {x qual : Str} {st : Stmt} {f : Addr} {fd : FuncData} {ps : List Str} {dvs : List V} (n j : Nat) (hd : dvs ≠ []) (hn : n + (dvs.length - j) = ps.length) (F : FunD K x qual (defArgs st) (defBody st) (defScope st) dvs [] f fd)
    (h : ∀ (T : Addr) (kV doc pm : Value) (an : Option Addr) (cdv cv : Value) (us its : List Value), us.length = n → its.length = dvs.length →
      ∃ k, bindArgs (PySem.W.fnOf x qual (defArgs st) (defBody st) (defScope st) (.ref T) kV doc pm an cdv cv) ⟨us, []⟩ = seqItems? (.ref T) >>= k ∧ k (some its.toArray) = pure (ps.zip (us ++ its.drop j))) : ∃ ds, Vals (dvs.drop j) ds ∧ L2.Binds K fd ps ds := by
  obtain ⟨oc, od, dV, kV, doc, pm, an, cdv, cv, osl, rfl, lk, hcd, hD, _⟩ := F.ex
  rcases hD with ⟨z, _⟩ | ⟨_, T, o, its, n, rfl, lT, oT, rT⟩
  · exact absurd z hd
  · refine ⟨its.drop j, rT.drop j, fun s us X hl => ?_⟩
    rw [List.length_append, List.length_drop] at hl
    have hll := rT.length
    obtain ⟨k, h1, h2⟩ := h T kV doc pm an cdv cv us its (by omega) rT.length.symm
    exact PySem.W.binds_K X rfl lT oT h1 h2
end
section
variable {ct : Str → Addr} {lent : List Bool} {X : Cx} {gs : MA}
/-- a name's store -/
theorem store_at {K : PySem.W.Frag} {S : Addr → Prop} {H : Hp} {σ : L2.St} {ρ ρ' : Vs.Env} {F f : List Addr} {i : Nat} {x : VV} {v : V} (hl : lent[i]? ≠ some true) (h : VOk K S H x v f) (E : EnvRp K S H σ ρ F) (ok : Ok S H (f ++ F)) (e : gname i x ρ = .nx ρ') :
    ∃ F', EnvRp K S H (σ.set i (some v)) ρ' F' ∧ Ok S H F' ∧ (∀ b ∈ F', b ∈ f ++ F) ∧ Kp lent σ (σ.set i (some v)) := by
  unfold gname at e
  cases q : x.kept with
  | none => rw [q] at e; cases e
  | some pv =>
    rw [q] at e
    obtain ⟨hs, rfl⟩ := kept_some q
    obtain rfl := Fl.nx.inj e
    obtain ⟨f0, G0, p, E0⟩ := E.drop i
    have p2 : (f ++ F).Perm (f0 ++ (f ++ G0)) := (List.Perm.append_left _ p).trans perm_mid
    by_cases hl2 : i < σ.length
    · exact ⟨f ++ G0, E0.fill hl2 (h.stab hs), (ok.perm p2).tail, fun b hb => p2.mem_iff.mpr (List.mem_append_right _ hb), Kp.set hl⟩
    · have e1 : σ.set i (some v) = σ := List.set_eq_of_length_le (by omega)
      have e2 : Vs.put ρ i (some (x.m, x.d)) = ρ := put_over _ _ _ (by rw [← E.len]; omega)
      rw [e1, e2]
      exact ⟨F, E, ok.tail, fun b hb => List.mem_append_right _ hb, Kp.refl⟩
theorem gname_nx {i : Nat} {x : VV} {ρ : Vs.Env} : (∃ ρ', gname i x ρ = .nx ρ') ∨ gname i x ρ = .no := by
  unfold gname
  cases x.kept with
  | none => exact .inr rfl
  | some _ => exact .inl ⟨_, rfl⟩
theorem ss_par {i j : Nat} {x y : Str} {a b : Expr} {px py pt pos : Pos} {kt k2 pt2} (hc : X.calm = true) (hN : X.N.Nodup) (hi : X.N[i]? = some x) (hj : X.N[j]? = some y) (hij : i ≠ j) (hli : lent[i]? ≠ some true) (hlj : lent[j]? ≠ some true)
    (hx : X.env.scope.names.lookup x = some .local) (hy : X.env.scope.names.lookup y = some .local) (ha : SA ct X [a, b] gs)
    (hw : swappedStores [.Tuple [.Name x px, .Name y py] kt pt] (.Tuple [a, b] k2 pt2) X.env = pure (some [x, y]))
    (hs : swapsWithSole [.Tuple [.Name x px, .Name y py] kt pt] (.Tuple [a, b] k2 pt2) pos.line X.env = pure false := by rfl) : SS ct lent X (.Assign [.Tuple [.Name x px, .Name y py] kt pt] (.Tuple [a, b] k2 pt2) pos) (par i j gs) := by
  refine ⟨fun W tk po => ?_⟩
  obtain ⟨ta, pa, ra⟩ := ha.run W tk
  refine ⟨_, ps_par hc hN hi hj hij hx hy pa hw hs, fun S F H σ ρ D E ok G => ra S F H σ ρ _ E ok ?_⟩
  refine good_go G fun xs o vs S1 F1 H1 f st h E1 ok1 G => ?_
  split at G
  · rename_i x y
    obtain ⟨v, w, f1, f2, rfl, rfl, h1, h2⟩ := h.two
    refine ⟨v, w, rfl, ?_⟩
    rcases gname_nx (i := i) (x := x) (ρ := now o ρ) with ⟨ρ2, q⟩ | q
    · rw [q, seq_nx] at G
      have okA : Ok S1 H1 (f2 ++ (f1 ++ F1)) := ok1.perm (by rw [← List.append_assoc]; exact List.Perm.append_right _ List.perm_append_comm)
      obtain ⟨F2, E2, ok2, s2, kp2⟩ := store_at hli h1 E1 okA.tail q
      have okB : Ok S1 H1 (f2 ++ F2) := okA.head.two ok2 fun b hb z => okA.apart b hb (s2 b z)
      rcases gname_nx (i := j) (x := y) (ρ := ρ2) with ⟨ρ3, q3⟩ | q3
      · rw [q3] at G
        obtain ⟨F3, E3, ok3, s3, kp3⟩ := store_at hlj h2 E2 okB q3
        refine G _ S1 F3 H1 (st.less fun b hb => ?_) E3 ok3 (kp2.trans kp3)
        rcases List.mem_append.mp (s3 b hb) with z | z
        · exact List.mem_append_left _ (List.mem_append_right _ z)
        · rcases List.mem_append.mp (s2 b z) with z | z
          · exact List.mem_append_left _ (List.mem_append_left _ z)
          · exact List.mem_append_right _ z
      · rw [q3] at G
        exact G.elim
    · rw [q] at G
      exact G.elim
  · exact G.elim
end
section
variable {ct : Str → Addr} {X : Cx}
theorem call_len_rd : CallR X (.builtin "len") (fun xs H Q => ∃ d kvs, xs = [.ref d] ∧ Rd H d (.dK kvs) ∧ Q (.int kvs.length) H) := by
  intro pins s σ H xs us Q I r h
  obtain ⟨d, kvs, rfl, e, q⟩ := h
  obtain ⟨u, rfl, ru⟩ := r.one
  cases ru
  exact d_len I e fun t s' I' => ⟨.int kvs.length, H, I', ⟨t, rfl⟩, q⟩
theorem call_len_tt : CallR X (.builtin "len") (fun xs H Q => ∃ d kvs, xs = [.ref d] ∧ H d = some (.dT kvs) ∧ Q (.int kvs.length) H) := by
  intro pins s σ H xs us Q I r h
  obtain ⟨d, kvs, rfl, e, q⟩ := h
  exact call_len_dT pins s σ H _ us Q I r ⟨d, kvs, rfl, e, q⟩
theorem call_len4 : CallR X (.builtin "len") (fun xs H Q => (∃ p ys, xs = [.ref p] ∧ (SqL X.K H p ys ∨ SqT X.K H p ys) ∧ Q (.int ys.length) H) ∨ (∃ z, xs = [.str z] ∧ z.length ≤ sizeLine ∧ Q (.int z.length) H) ∨ (∃ d kvs, xs = [.ref d] ∧ Rd H d (.dK kvs) ∧ Q (.int kvs.length) H) ∨ (∃ d kvs, xs = [.ref d] ∧ H d = some (.dT kvs) ∧ Q (.int kvs.length) H)) :=
  CallR.or call_len_seq (CallR.or call_len_str (CallR.or call_len_rd call_len_tt))
/-- a name of the module that nothing changes -/
def Konst (K : PySem.W.Frag) (mg : Str → Option Value) (x : Str) (d : D) : Prop := ∃ (u : Value) (w : V), mg x = some u ∧ RelV w u ∧ ∀ S H, Rp K S H 0 w d []
theorem s_globC {d : D} {x : Str} {pos : Pos} (h : Konst X.K X.mg x d) (hg : Gl X x) (hdb : (x == ("__debug__" : Str)) = false := by decide) : SE ct X (.Name x pos) (cst ⟨false, 0, d⟩) := by
  obtain ⟨u, w, h1, h2, h3⟩ := h
  exact s_globD (w := w) rfl h3 hg h1 h2 hdb
end
section
variable {K : PySem.W.Frag} {S S' : Addr → Prop} {H H' : Hp}
/-- one item of a list is changed within -/
theorem item_ok {a u0 : Addr} {f f2 g1 g g2 h gx : List Addr} {zs : List V} {l : List D} {m m' j : Nat} {u : V} {d' : D} (hm : m' ≤ m) (hl : j < l.length) (hu : zs[j]? = some u) (ha : H a = some (.lst zs)) (ok : Ok S H (gx ++ (a :: (g1 ++ g ++ g2))))
    (r : RpAll K S H m (zs.set j .non) (l.set j .non) (g1 ++ [] ++ g2)) (st : Step S (gx ++ g) H S' (h ++ f2) H') (hr : Rp K S' H' m' u d' f2) (ok' : Ok S' H' (h ++ f2)) :
    ∃ S2 F2, Step S (gx ++ (a :: (g1 ++ g ++ g2))) H S2 (h ++ F2) H' ∧ Rp K S2 H' (m' + 1) (.ref a) (.lst (l.set j d')) F2 ∧ Ok S2 H' (h ++ F2) ∧ ∀ b, S' b → S2 b := by
  have p0 : (gx ++ (a :: (g1 ++ g ++ g2))).Perm ((a :: (g1 ++ g2)) ++ (gx ++ g)) := by
    exact List.perm_iff_count.mpr fun b => (by simp only [List.count_append, List.count_cons]; omega)
  have ok1 := ok.perm p0
  have kin : Ok S H (gx ++ g) := ok1.tail
  have apart := ok1.apart
  have haa : H' a = some (.lst zs) := st.keep _ _ ha (apart a (List.mem_cons_self ..))
  have r1 : RpAll K S' H' m (zs.set j .non) (l.set j .non) (g1 ++ [] ++ g2) := r.keep (fun b o hb e => st.keep b o e fun z => kin.ns b z hb) (fun b o e nm => st.keep b o e fun z => nm (e ▸ kin.mu b z)) st.sub fun b o hb e => st.keep b o e (apart b (List.mem_cons_of_mem _ (by simpa using hb)))
  obtain ⟨f0, f1, p1, r2⟩ := r1.thin m'
  rw [Nat.min_eq_right hm] at r2
  have hj : (l.set j D.non)[j]? = some .non := List.getElem?_set_self hl
  obtain ⟨w, h1, hg, h2, _, rfl, r3, r4, _⟩ := r2.at hj
  obtain ⟨rfl, _⟩ := r3.imm rfl
  have r5 := r4 u d' f2 (hr.more fun _ => .inl)
  rw [List.set_set, List.set_set] at r5
  have ez : zs.set j u = zs := by
    obtain ⟨q1, q2⟩ := List.getElem?_eq_some_iff.mp hu
    rw [← q2]
    exact List.set_getElem_self q1
  rw [ez] at r5
  have okj : Ok S' H' ((a :: (g1 ++ g2)) ++ (h ++ f2)) := Ok.join st ok1 ok'
  have pj : ((a :: (g1 ++ g2)) ++ (h ++ f2)).Perm ((h ++ (a :: (h1 ++ f2 ++ h2))) ++ f1) := by
    have p1' : (g1 ++ g2).Perm ((h1 ++ h2) ++ f1) := by simpa using p1
    have := List.perm_iff_count.mp p1'
    exact List.perm_iff_count.mpr fun b => (by
      have := this b
      simp only [List.count_append, List.count_cons] at this ⊢
      omega)
  have k2 := split_ok okj pj
  refine ⟨fun b => S' b ∨ b ∈ f1, a :: (h1 ++ f2 ++ h2), ?_, .lst1 haa r5, k2, fun _ => .inl⟩
  have st2 : Step S ((a :: (g1 ++ g2)) ++ (gx ++ g)) H S' ((a :: (g1 ++ g2)) ++ (h ++ f2)) H' := st.wide (fun b hb => List.mem_append_right _ hb) fun b hb => (List.mem_append.mp hb).elim (fun z => .inr (List.mem_append_left _ z)) .inl
  refine ⟨fun b o e hb => st2.keep b o e fun z => hb (p0.mem_iff.mpr z), fun b hb => .inl (st2.sub b hb), fun b hb => ?_, fun b hb => ?_⟩
  · exact (st2.newF b (pj.mem_iff.mpr (List.mem_append_left _ hb))).imp (fun z => p0.mem_iff.mpr z) id
  · rcases hb with hb | hb
    · exact (st2.newS b hb).imp id fun z => z.imp (fun z => p0.mem_iff.mpr z) id
    · exact .inr ((st2.newF b (pj.mem_iff.mpr (List.mem_append_right _ hb))).imp (fun z => p0.mem_iff.mpr z) id)
theorem itemOf_some {b : R VV} {m : Nat} {l l2 : List D} {j : Nat} (h : itemOf b m l = some (j, l2)) : ∃ bb mm jj, b = .ok ⟨bb, mm, .int jj⟩ none ∧ nix l.length jj = some j ∧ l[j]? = some (.lst l2) := by
  unfold itemOf at h
  split at h
  · rename_i bb mm jj
    cases q : nix l.length jj with
    | none => rw [q] at h; cases h
    | some j' =>
      rw [q] at h
      cases q2 : l[j']? with
      | none => simp only [q2] at h; cases h
      | some d =>
        simp only [q2] at h
        cases d with
        | lst l3 =>
          obtain ⟨rfl, rfl⟩ := Prod.mk.inj (Option.some.inj h)
          exact ⟨bb, mm, jj, rfl, q, q2⟩
        | _ => cases h
  · cases h
end
theorem s_recvI {i : Nat} {x : Str} {b : Expr} {es : List Expr} {gb : M} {ga : MA} {e : Expr} {p pb : Pos} {ct : Str → Addr} {X : Cx} {r : V → List V → Hp → VK → Prop} {k : PV → List VV → Option (VV × PV)} (ho : Recv1 X.K r k) (hb : SE ct X b gb) (ha : SA ct X es ga)
    (mk : ∀ {to t}, PE X (.Subscript (.Name x p) b pb) to → PA X es t → PE X e (tBM X.K "list" r to t))
    (hN : X.N[i]? = some x := by rfl) (hv : Vis X.env.scope x := by first | exact Or.inl rfl | exact Or.inr (Or.inl rfl) | exact Or.inr (Or.inr rfl)) (hd : (x == ("__debug__" : Str)) = false := by decide)
    (hcd : (x == ("__classdict__" : Str)) = false := by decide) (hs : PlainIx b := by exact fun _ _ => rfl) : SE ct X e (recvI i gb ga k) := by
  refine ⟨fun W tk => ?_⟩
  obtain ⟨tb, pb, rb⟩ := hb.run W tk
  obtain ⟨ta, pa, ra⟩ := ha.run W tk
  refine ⟨_, mk (pe_ix ix_seq (pv i hN hv hd hcd) pb hs) pa, fun S F H σ ρ Q E ok G => ?_⟩
  unfold recvI at G
  split at G
  · rename_i m l ql
    split at G
    · rename_i j l2 qi
      obtain ⟨bb, mm, jj, qb, qn, qj⟩ := itemOf_some qi
      obtain ⟨v0, f0, G0, h1, h2, pf, E2⟩ := E.take ql
      split at G
      · rename_i xs qa
        split at G
        · rename_i z pv' qk
          split at G
          · rename_i hm
            cases h2 with
            | lst1 hla hri =>
              rename_i a zs f'
              refine ⟨.ref a, h1, rb S F H σ ρ _ E ok ?_⟩
              rw [qb]
              intro y S1 F1 H1 gi t1 hy E1 k1
              obtain rfl := hy.int'
              obtain rfl := hy.nil_int
              obtain ⟨sm1, w1, w1', rfl, _⟩ := id t1
              have hri1 := (hri.same sm1).more w1
              obtain ⟨u, g1, g, g2, pu, rfl, hu, hset, _⟩ := hri1.at qj
              have hix : L2.atI zs jj = some u := by
                unfold L2.atI
                have e1 : ixN zs.length jj = some j := by rw [hri.length]; exact qn
                rw [e1]
                exact pu
              refine .inl ⟨a, zs, jj, u, rfl, rfl, .inl (.inl (sm1 _ _ hla)), hix, ?_, ?_⟩
              · obtain ⟨aa, ys, _, rfl, q1, _⟩ := hu.lst
                exact .inl ⟨rfl, ys, q1⟩
              · refine ra S1 F1 H1 σ ρ _ E1 k1 ?_
                rw [qa]
                intro vs S2 F2 H2 gx t2 hx E3 k2
                obtain ⟨sm2, w2, w2', rfl, _⟩ := id t2
                have hu2 := (hu.same sm2).more w2
                have hn2 := ((hset .non .non [] (.non _)).same sm2).more w2
                have E4 : EnvRp X.K S2 H2 σ (Vs.put ρ i none) G0 := (((E2.same sm1).more w1).same sm2).more w2
                have k3 : Ok S2 H2 ((gx ++ (a :: (g1 ++ g ++ g2))) ++ G0) := by
                  rw [List.append_assoc]
                  exact k2.perm (List.Perm.append_left _ pf)
                have kg : Ok S2 H2 (gx ++ g) := k3.head.sub (List.Sublist.append (List.Sublist.refl _) (((List.sublist_append_right g1 g).trans (List.sublist_append_left _ _)).trans (List.sublist_cons_self _ _)))
                refine ho S2 H2 (m, .lst l2) u g xs vs gx z pv' Q hu2 hx kg qk fun w H' S' h f2 st hw hr ok' => ?_
                have hl : j < l.length := (List.getElem?_eq_some_iff.mp qj).1
                obtain ⟨S3, F3, c1, c2, c3, c4⟩ := item_ok (u0 := a) (f := []) hm hl pu (sm2 _ _ (sm1 _ _ hla)) k3.head hn2 st hr ok'
                have E5 : EnvRp X.K S3 H' σ (Vs.put ρ i none) G0 := E4.step c1 k3.head fun b hb z => k3.apart b z hb
                have k4 : Ok S3 H' (G0 ++ (h ++ F3)) := Ok.join c1 (k3.perm List.perm_append_comm) c3
                have p5 : (G0 ++ (h ++ F3)).Perm (h ++ (F3 ++ G0)) := by
                  refine List.perm_append_comm.trans ?_
                  rw [List.append_assoc]
                refine G w S3 (F3 ++ G0) H' h ?_ (hw.more c4) (E5.back h1 c2) (k4.perm p5)
                refine (t1.step.trans t2.step).trans (c1.wide (fun b hb => ?_) fun b hb => ?_)
                · rcases List.mem_append.mp hb with z | z
                  · exact List.mem_append_left _ z
                  · exact List.mem_append_right _ (pf.mem_iff.mpr (List.mem_append_left _ z))
                · rcases List.mem_append.mp (p5.mem_iff.mpr hb) with z | z
                  · exact .inr (List.mem_append_right _ (pf.mem_iff.mpr (List.mem_append_right _ z)))
                  · exact .inl z
          · exact G.elim
        · exact G.elim
      · exact G.elim
    · exact G.elim
  · exact G.elim
end Vs
set_option maxHeartbeats 4000000
/-! Vs: repr of data. -/
namespace Vs
open PySem PySem.Spec PyProof.Rows L2
mutual
theorem noDict : ∀ d : D, d.flat = true → PyData.hasDict d.py = false
  | .non, _ => rfl
  | .bl _, _ => rfl
  | .int _, _ => rfl
  | .str _, _ => rfl
  | .lst l, h => by simp only [D.py, PyData.hasDict]; exact noDictAll l (by simpa [D.flat] using h)
  | .tup l, h => by simp only [D.py, PyData.hasDict]; exact noDictAll l (by simpa [D.flat] using h)
  | .dic _ _, h => by simp [D.flat] at h
  | .ins _ _, h => by simp [D.flat] at h
theorem noDictAll : ∀ l : List D, flatAll l = true → PyData.hasDictAll (pyAll l) = false
  | [], _ => rfl
  | d :: l, h => by
    unfold flatAll at h
    rw [Bool.and_eq_true] at h
    simp only [pyAll, PyData.hasDictAll, noDict d h.1, noDictAll l h.2, Bool.or_false]
end
section
variable {X : Cx}
theorem call_reprD (hgd : X.A.guards = some []) (hu : X.A.units + 65 < cLine) : CallR X (.builtin "repr") (fun xs H Q => ∃ x d, xs = [x] ∧ Dp X.K H x d ∧ d.showable = true ∧ d.hasDict = false ∧ d.depth ≤ 60 ∧ d.shown.length ≤ sizeLine ∧ Q (.str d.shown) H) := by
  intro pins s σ H xs us Q I r h
  obtain ⟨x, d, rfl, hd, hs, hn, hdp, hz, q⟩ := h
  cases r with
  | cons rv rt =>
    rename_i u t
    cases rt
    obtain ⟨as, rd⟩ := Dp.reads I d x u hd rv
    cases hd with
    | non =>
      cases rv
      exact PySem.P.repr_of_none ⟨.str _, H, I.tok _, ⟨_, rfl⟩, q⟩
    | bl b =>
      cases rv
      refine PySem.P.repr_of_bool ⟨.str _, H, I.tok _, ⟨_, rfl⟩, ?_⟩
      cases b <;> exact q
    | int i =>
      obtain ⟨t, rfl⟩ := rv
      exact PySem.P.repr_of_int (by rw [PyData.showable.eq_4] at hs; exact of_decide_eq_true hs) ⟨.str _, H, I.tok _, ⟨_, rfl⟩, q⟩
    | str z =>
      obtain ⟨t, rfl⟩ := rv
      exact PySem.P.repr_of_str ⟨.str _, H, I.tok _, ⟨_, rfl⟩, q⟩ hz
    | lst _ _ =>
      cases rv
      exact repr_of_reads' rd hs (fun z => by rw [hn] at z; cases z) hgd (by omega) (fun _ _ e => e) (fun h' u tk hk => ⟨.str _, H, I.kept hk, ⟨_, rfl⟩, q⟩) hz
    | tup _ _ =>
      cases rv
      exact repr_of_reads' rd hs (fun z => by rw [hn] at z; cases z) hgd (by omega) (fun _ _ e => e) (fun h' u tk hk => ⟨.str _, H, I.kept hk, ⟨_, rfl⟩, q⟩) hz
end
/-! ### dicts of plain things -/
def keyD : Key → PyData
  | .inl i => .int i | .inr x => .str x
theorem reads_key {P : Program} {w : World} {h : Heap} : ∀ (k : Key) (key : Value), (mixKind P w).is k key = true → Reads h key (keyD k) [] := fun k key hk => by
  rcases keyIs_shape hk with ⟨i, t, rfl, rfl⟩ | ⟨x, t, rfl, rfl⟩
  · exact .int _ _
  · exact .str _ _
/-- plain -/
inductive ImmV : V → PyData → Prop
  | non : ImmV .non .none | bl (b : Bool) : ImmV (.bl b) (.bool b) | int (i : Int) : ImmV (.int i) (.int i) | str (x : Str) : ImmV (.str x) (.str x)
theorem ImmV.reads {h : Heap} {v : V} {d : PyData} {u : Value} (i : ImmV v d) (r : RelV v u) : Reads h u d [] := by
  cases i with
  | non => cases r; exact .none
  | bl b => cases r; exact .bool _
  | int i => obtain ⟨t, rfl⟩ := r; exact .int _ _
  | str x => obtain ⟨t, rfl⟩ := r; exact .str _ _
theorem pairs_read {h : Heap} : ∀ {kvs : List (Key × V)} {vs : List (Key × Value)} {ds : List PyData}, KV kvs vs → Paired (fun p d => ImmV p.2 d) kvs ds → PyProof.V.PairsRead h keyD vs ((kvs.map fun p => keyD p.1).zip ds) [] := by
  intro kvs vs ds hk hp
  unfold KV at hk
  induction hp generalizing vs with
  | nil => cases hk; exact .nil
  | cons hi _ ih =>
    cases hk with
    | cons r rs =>
      rename_i b _
      obtain ⟨k', v'⟩ := b
      obtain ⟨e, r2⟩ := r
      simp only at e
      subst e
      exact PyProof.V.PairsRead.cons (as := []) (bs := []) (hi.reads r2) (ih rs)
section
variable {X : Cx}
def rReprK : List V → Hp → VK → Prop := fun xs H Q => ∃ (a : Addr) (kvs : List (Key × V)) (ds : List PyData) (d : PyData), xs = [.ref a] ∧ Rd H a (.dK kvs) ∧ Paired (fun p d => ImmV p.2 d) kvs ds ∧ d = .dict ((kvs.map fun p => keyD p.1).zip ds) ∧ d.showable = true ∧ d.depth ≤ 60 ∧ d.shown.length ≤ sizeLine ∧ Q (.str d.shown) H
theorem call_reprK (hgd : X.A.guards = some []) (hu : X.A.units + 65 < cLine) : CallR X (.builtin "repr") rReprK := by
  intro pins s σ H xs us Q I r h
  obtain ⟨a, kvs, ds, d, rfl, hq, hp, rfl, hs, hdp, hz, q⟩ := h
  cases r with
  | cons rv rt =>
    cases rt
    cases rv
    obtain ⟨_, hsm, vs, hk, dd⟩ := dk_rd I.hok hq
    have rd := PyProof.V.reads_dictOf (reads_key (P := X.prog) (w := X.w)) dd (pairs_read hk hp)
    refine repr_of_reads' rd hs (fun _ z => ?_) hgd (by omega) (fun _ _ e => e) (fun h' u tk hk => ⟨.str _, H, I.kept hk, ⟨_, rfl⟩, q⟩) hz
    rw [List.mem_singleton] at z
    rw [← z] at hsm
    simp at hsm
theorem call_repr2 (hgd : X.A.guards = some []) (hu : X.A.units + 65 < cLine) : CallR X (.builtin "repr") (fun xs H Q => (∃ x d, xs = [x] ∧ Dp X.K H x d ∧ d.showable = true ∧ d.hasDict = false ∧ d.depth ≤ 60 ∧ d.shown.length ≤ sizeLine ∧ Q (.str d.shown) H) ∨ rReprK xs H Q) := CallR.or (call_reprD hgd hu) (call_reprK hgd hu)
end
theorem Rp.immV {K : PySem.W.Frag} {S : Addr → Prop} {H : Hp} {m : Nat} {v : V} {d : D} {f : List Addr} (h : Rp K S H m v d f) (hi : d.imm = true) : ImmV v d.py := by
  cases d with
  | non => cases h; exact .non
  | bl b => cases h; exact .bl b
  | int i => cases h; exact .int i
  | str x => cases h; exact .str x
  | _ => cases hi
theorem RpAll.immAll {K : PySem.W.Frag} {S : Addr → Prop} {H : Hp} {m : Nat} : ∀ {kvs : List (Key × V)} {ds : List D} {f : List Addr}, RpAll K S H m (kvs.map (·.2)) ds f → (((kvs.map fun p => kD p.1).zip ds).all fun p => p.2.imm) = true → Paired (fun p d => ImmV p.2 d) kvs (ds.map D.py)
  | [], ds, f, h, _ => by cases h; exact .nil
  | p :: kvs, ds, f, h, hi => by
    cases h with
    | cons h1 h2 =>
      rw [List.map_cons, List.zip_cons_cons, List.all_cons, Bool.and_eq_true] at hi
      exact .cons (h1.immV hi.1) (RpAll.immAll h2 hi.2)
theorem pyKv_zip : ∀ (kvs : List (Key × V)) (ds : List D), pyKv ((kvs.map fun p => kD p.1).zip ds) = (kvs.map fun p => keyD p.1).zip (ds.map D.py)
  | [], ds => by simp [pyKv]
  | p :: kvs, [] => by simp [pyKv]
  | p :: kvs, d :: ds => by
    rw [List.map_cons, List.zip_cons_cons, pyKv, pyKv_zip kvs ds, List.map_cons, List.map_cons, List.zip_cons_cons]
    congr 1
    congr 1
    cases p.1 <;> rfl
section
variable {K : PySem.W.Frag} {S S' : Addr → Prop} {H : Hp} {f g : List Addr} {Q : VK}
theorem kRepr_op : OpN K (fun xs H Q => (∃ x d, xs = [x] ∧ Dp K H x d ∧ d.showable = true ∧ d.hasDict = false ∧ d.depth ≤ 60 ∧ d.shown.length ≤ sizeLine ∧ Q (.str d.shown) H) ∨ rReprK xs H Q) kRepr := by
  refine opn_one (fun xs z e => ?_) fun S H x v f z Q h ok e hQ => ?_
  · unfold kRepr at e
    split at e
    · exact ⟨_, rfl⟩
    · cases e
  · unfold kRepr at e
    simp only at e
    split at e
    · rename_i c
      obtain rfl := Option.some.inj e
      unfold D.shw at c
      simp only [Bool.and_eq_true, decide_eq_true_eq] at c
      obtain ⟨⟨⟨c0, c1⟩, c2⟩, c3⟩ := c
      obtain ⟨g, hr⟩ := h.rp
      exact .inl ⟨v, x.d.py, rfl, hr.dp c0, c1, noDict _ c0, c3, by rw [← Vs.lim_eq]; exact c2, ret_imm ok rfl (.str _ _) hQ⟩
    · split at e
      · rename_i c
        obtain rfl := Option.some.inj e
        obtain ⟨g, hr⟩ := h.rp
        obtain ⟨xb, xm, xd⟩ := x
        unfold D.shwK at c
        split at c
        · rename_i l el
          obtain rfl : xd = .dic false l := el
          simp only [Bool.and_eq_true, decide_eq_true_eq] at c
          obtain ⟨⟨⟨c0, c1⟩, c2⟩, c3⟩ := c
          replace hr : Rp K S H xm v (.dic false l) g := hr
          have key : ∃ (a : Addr) (kvs : List (Key × V)) (ds : List D) (g' : List Addr) (n : Nat), v = .ref a ∧ l = (kvs.map fun p => kD p.1).zip ds ∧ Rd H a (.dK kvs) ∧ RpAll K S H n (kvs.map (·.2)) ds g' := by
            generalize hd : D.dic false l = d at hr
            cases hr with
            | dk0 q s r =>
              obtain ⟨_, rfl⟩ := D.dic.inj hd
              exact ⟨_, _, _, _, _, rfl, rfl, q, r⟩
            | dk1 q r =>
              obtain ⟨_, rfl⟩ := D.dic.inj hd
              exact ⟨_, _, _, _, _, rfl, rfl, .inl q, r⟩
            | dt0 q s r => cases (D.dic.inj hd).1
            | dt1 q r => cases (D.dic.inj hd).1
            | _ => cases hd
          obtain ⟨a, kvs, ds, g', n, rfl, rfl, hq, ra⟩ := key
          have hi : (((kvs.map fun p => kD p.1).zip ds).all fun p => p.2.imm) = true := by
            rw [List.all_eq_true] at c0 ⊢
            intro p hp
            have := c0 p hp
            rw [Bool.and_eq_true] at this
            exact this.2
          refine .inr ⟨a, kvs, ds.map D.py, _, rfl, hq, ra.immAll hi, ?_, c1, c3, by rw [← Vs.lim_eq]; exact c2, ret_imm ok rfl (.str _ _) hQ⟩
          show PyData.dict (pyKv _) = _
          rw [pyKv_zip]
        · cases c
      · cases e
end
end Vs
set_option maxHeartbeats 4000000
/-! Vs: loops that are run; what is computed with a bound on the turns is what is computed. -/
namespace Vs
open PySem (Str PyData)
theorem whileN_more {c : MT} {b : MS} : ∀ {n : Nat} {ρ : Env}, whileN c b n ρ ≠ .no → whileN c b (n + 1) ρ = whileN c b n ρ
  | 0, ρ, h => absurd rfl h
  | n + 1, ρ, h => by
    unfold whileN at h ⊢
    cases q : c ρ with
    | no => rfl
    | ex e ρ' => rfl
    | ok x o =>
      rw [q] at h
      simp only [go_ok] at h ⊢
      by_cases hx : x = true
      · rw [if_pos hx] at h ⊢
        rw [if_pos hx]
        cases q2 : b (now o ρ) with
        | nx ρ2 => rw [q2] at h; exact whileN_more h
        | ct ρ2 => rw [q2] at h; exact whileN_more h
        | _ => rfl
      · rw [if_neg hx]
        rw [if_neg hx]
theorem whileN_le {c : MT} {b : MS} {n m : Nat} {ρ : Env} (h : whileN c b n ρ ≠ .no) (hm : n ≤ m) : whileN c b m ρ = whileN c b n ρ := by
  induction hm with
  | refl => rfl
  | step _ ih => rw [whileN_more (by rw [ih]; exact h), ih]
theorem whiles_eq {c : MT} {b : MS} {n : Nat} {ρ : Env} (h : whileN c b n ρ ≠ .no) : whiles c b ρ = whileN c b n ρ := by
  have hx : ∃ n, whileN c b n ρ ≠ .no := ⟨n, h⟩
  unfold whiles
  rw [dif_pos hx]
  have h2 := hx.choose_spec
  rcases Nat.le_total n hx.choose with z | z
  · exact whileN_le h z
  · exact (whileN_le h2 z).symm
/-- one turn -/
theorem whiles_step {c : MT} {b : MS} {ρ : Env} : whiles c b ρ = (c ρ).go ρ fun x ρ1 => if x = true then (match b ρ1 with
    | .nx ρ2 => whiles c b ρ2 | .ct ρ2 => whiles c b ρ2 | .brk ρ2 => .nx ρ2 | .ret x ρ2 => .ret x ρ2 | .ex e ρ2 => .ex e ρ2 | .no => .no) else .nx ρ1 := by
  by_cases hx : ∃ n, whileN c b n ρ ≠ .no
  · obtain ⟨n, h⟩ := hx
    rw [whiles_eq h]
    cases n with
    | zero => exact absurd rfl h
    | succ n =>
      unfold whileN at h ⊢
      cases q : c ρ with
      | no => rfl
      | ex e ρ' => rfl
      | ok x o =>
        rw [q] at h
        simp only [go_ok] at h ⊢
        by_cases hx : x = true
        · rw [if_pos hx] at h
          rw [if_pos hx, if_pos hx]
          cases q2 : b (now o ρ) with
          | nx ρ2 => rw [q2] at h; exact (whiles_eq h).symm
          | ct ρ2 => rw [q2] at h; exact (whiles_eq h).symm
          | _ => rfl
        · rw [if_neg hx, if_neg hx]
  · have e : whiles c b ρ = .no := by
      unfold whiles
      rw [dif_neg hx]
    rw [e]
    cases q : c ρ with
    | no => rfl
    | ex e ρ' => exact absurd ⟨1, by unfold whileN; rw [q]; simp⟩ hx
    | ok x o =>
      rw [go_ok]
      by_cases hb : x = true
      · rw [if_pos hb]
        have step : ∀ n, whileN c b (n + 1) ρ = (match b (now o ρ) with
            | .nx ρ2 => whileN c b n ρ2 | .ct ρ2 => whileN c b n ρ2 | .brk ρ2 => .nx ρ2 | .ret x ρ2 => .ret x ρ2 | .ex e ρ2 => .ex e ρ2 | .no => .no) := fun n => by
          conv => lhs; unfold whileN
          rw [q, go_ok, if_pos hb]
          all_goals (cases b (now o ρ) <;> rfl)
        cases q2 : b (now o ρ) with
        | no => rfl
        | nx ρ2 =>
          by_cases h2 : ∃ n, whileN c b n ρ2 ≠ .no
          · obtain ⟨n, h2⟩ := h2
            exact absurd ⟨n + 1, by rw [step, q2]; exact h2⟩ hx
          · show Fl.no = whiles c b ρ2
            unfold whiles
            rw [dif_neg h2]
        | ct ρ2 =>
          by_cases h2 : ∃ n, whileN c b n ρ2 ≠ .no
          · obtain ⟨n, h2⟩ := h2
            exact absurd ⟨n + 1, by rw [step, q2]; exact h2⟩ hx
          · show Fl.no = whiles c b ρ2
            unfold whiles
            rw [dif_neg h2]
        | brk ρ2 => exact absurd ⟨1, by rw [step, q2]; simp⟩ hx
        | ret x ρ2 => exact absurd ⟨1, by rw [step, q2]; simp⟩ hx
        | ex e ρ2 => exact absurd ⟨1, by rw [step, q2]; simp⟩ hx
      · exact absurd ⟨1, by unfold whileN; rw [q, go_ok, if_neg hb]; simp⟩ hx
/-! ### what comes to something with fewer turns comes to the same -/
def leR {α : Type} (r s : R α) : Prop := r = .no ∨ r = s
def leF (r s : Fl) : Prop := r = .no ∨ r = s
def leM {α : Type} (f g : Env → R α) : Prop := ∀ ρ, leR (f ρ) (g ρ)
def leS (f g : MS) : Prop := ∀ ρ, leF (f ρ) (g ρ)
def leG (f g : MG) : Prop := ∀ x ρ, leF (f x ρ) (g x ρ)
def leC (f g : List PV → RF) : Prop := ∀ p, f p = .no ∨ f p = g p
section
variable {α β : Type}
theorem leR.rf {r : R α} : leR r r := .inr rfl
theorem leF.rf {r : Fl} : leF r r := .inr rfl
theorem leM.rf {f : Env → R α} : leM f f := fun _ => .inr rfl
theorem leS.rf {f : MS} : leS f f := fun _ => .inr rfl
theorem leG.rf {f : MG} : leG f f := fun _ _ => .inr rfl
theorem le_aft {r s : R α} {o : Option Env} (h : leR r s) : leR (r.aft o) (s.aft o) := by
  rcases h with rfl | rfl
  · exact .inl rfl
  · exact .inr rfl
theorem le_bind {r s : R α} {k k' : α → Env → R β} {ρ : Env} (h : leR r s) (hk : ∀ a ρ, leR (k a ρ) (k' a ρ)) : leR (r.bind ρ k) (s.bind ρ k') := by
  rcases h with rfl | rfl
  · exact .inl rfl
  · cases r with
    | no => exact .inl rfl
    | ex e ρ' => exact .inr rfl
    | ok a o => exact le_aft (hk a _)
theorem le_nxt {r s : R α} {k k' : α → R β} {b : Bool} (h : leR r s) (hk : ∀ a, leR (k a) (k' a)) : leR (r.nxt b k) (s.nxt b k') := by
  rcases h with rfl | rfl
  · exact .inl rfl
  · cases r with
    | no => exact .inl rfl
    | ex e ρ' => exact .inr rfl
    | ok a o =>
      rw [R.nxt_ok, R.nxt_ok]
      split
      · exact le_aft (hk a)
      · exact .inl rfl
theorem le_go {r s : R α} {k k' : α → Env → Fl} {ρ : Env} (h : leR r s) (hk : ∀ a ρ, leF (k a ρ) (k' a ρ)) : leF (r.go ρ k) (s.go ρ k') := by
  rcases h with rfl | rfl
  · exact .inl rfl
  · cases r with
    | no => exact .inl rfl
    | ex e ρ' => exact .inr rfl
    | ok a o => exact hk a _
theorem le_seq {f g : Fl} {k k' : MS} (h : leF f g) (hk : leS k k') : leF (f.seq k) (g.seq k') := by
  rcases h with rfl | rfl
  · exact .inl rfl
  · cases f with
    | nx ρ => exact hk ρ
    | no => exact .inl rfl
    | _ => exact .inr rfl
theorem le_sq {a a' b b' : MS} (h : leS a a') (k : leS b b') : leS (sq a b) (sq a' b') := fun ρ => le_seq (h ρ) k
theorem le_asg {e e' : M} {g g' : MG} (h : leM e e') (k : leG g g') : leS (asg e g) (asg e' g') := fun ρ => le_go (h ρ) fun x ρ1 => k x ρ1
theorem le_ex {e e' : M} (h : leM e e') : leS (ex e) (ex e') := fun ρ => le_go (h ρ) fun _ _ => .inr rfl
theorem le_ret {e e' : M} (h : leM e e') : leS (ret e) (ret e') := fun ρ => le_go (h ρ) fun _ _ => .inr rfl
theorem le_ifs {c c' : MT} {a a' b b' : MS} (h : leM c c') (k : leS a a') (l : leS b b') : leS (ifs c a b) (ifs c' a' b') := fun ρ => le_go (h ρ) fun x ρ1 => by
  cases x with
  | true => exact k ρ1
  | false => exact l ρ1
theorem le_two {a a' b b' : M} {k : VV → VV → Option VV} (h : leM a a') (l : leM b b') : leM (two a b k) (two a' b' k) := fun ρ => le_bind (h ρ) fun x ρ1 => le_nxt (l ρ1) fun _ => .inr rfl
theorem le_one {a a' : M} {k : VV → Option VV} (h : leM a a') : leM (one a k) (one a' k) := fun ρ => le_bind (h ρ) fun _ _ => .inr rfl
theorem le_anil : leM (args []) (args []) := leM.rf
theorem le_acons {a a' : M} {as as' : List M} (h : leM a a') (l : leM (args as) (args as')) : leM (args (a :: as)) (args (a' :: as')) := fun ρ => by
  unfold args
  exact le_bind (h ρ) fun x ρ1 => le_nxt (l ρ1) fun _ => .inr rfl
theorem le_argsk {a a' : MA} {k : List VV → Option VV} (h : leM a a') : leM (argsk a k) (argsk a' k) := fun ρ => le_bind (h ρ) fun _ _ => .inr rfl
theorem le_tst {a a' : M} {k : D → Option Bool} (h : leM a a') : leM (tst a k) (tst a' k) := fun ρ => le_bind (h ρ) fun _ _ => .inr rfl
theorem le_tnot {a a' : MT} (h : leM a a') : leM (tnot a) (tnot a') := fun ρ => le_bind (h ρ) fun _ _ => .inr rfl
theorem le_tand {a a' b b' : MT} (h : leM a a') (l : leM b b') : leM (tand a b) (tand a' b') := fun ρ => le_bind (h ρ) fun x ρ1 => by
  cases x with
  | true => exact l ρ1
  | false => exact .inr rfl
theorem le_tor {a a' b b' : MT} (h : leM a a') (l : leM b b') : leM (tor a b) (tor a' b') := fun ρ => le_bind (h ρ) fun x ρ1 => by
  cases x with
  | true => exact .inr rfl
  | false => exact l ρ1
theorem le_ift {c c' : MT} {a a' b b' : M} (h : leM c c') (k : leM a a') (l : leM b b') : leM (ift c a b) (ift c' a' b') := fun ρ => le_bind (h ρ) fun x ρ1 => by
  cases x with
  | true => exact k ρ1
  | false => exact l ρ1
theorem le_whileN {c c' : MT} {b b' : MS} (h : leM c c') (l : leS b b') : ∀ n, leS (whileN c b n) (whileN c' b' n)
  | 0 => fun _ => .inl rfl
  | n + 1 => fun ρ => by
    unfold whileN
    refine le_go (h ρ) fun x ρ1 => ?_
    cases x with
    | false => exact .inr rfl
    | true =>
      rw [if_pos rfl, if_pos rfl]
      rcases l ρ1 with e | e
      · rw [e]; exact .inl rfl
      · rw [e]
        cases b' ρ1 with
        | nx ρ2 => exact le_whileN h l n ρ2
        | ct ρ2 => exact le_whileN h l n ρ2
        | no => exact .inl rfl
        | _ => exact .inr rfl
theorem le_whiles {c c' : MT} {b b' : MS} (n : Nat) (h : leM c c') (l : leS b b') : leS (whileN c b n) (whiles c' b') := fun ρ => by
  by_cases hn : whileN c b n ρ = .no
  · exact .inl hn
  · rcases le_whileN h l n ρ with e | e
    · exact absurd e hn
    · right
      rw [e]
      exact (whiles_eq (by rw [← e]; exact hn)).symm
theorem le_forL {g g' : MG} {b b' : MS} (h : leG g g') (l : leS b b') : ∀ (ds : List D) (ρ : Env), leF (forL g b ds ρ) (forL g' b' ds ρ)
  | [], _ => .inr rfl
  | d :: ds, ρ => by
    unfold forL
    rcases le_seq (h ⟨false, 0, d⟩ ρ) l with e | e
    · rw [e]; exact .inl rfl
    · rw [e]
      cases (g' ⟨false, 0, d⟩ ρ).seq b' with
      | nx ρ2 => exact le_forL h l ds ρ2
      | ct ρ2 => exact le_forL h l ds ρ2
      | no => exact .inl rfl
      | _ => exact .inr rfl
theorem le_fors {i i' : MI} {g g' : MG} {b b' : MS} (k : leM i i') (h : leG g g') (l : leS b b') : leS (fors i g b) (fors i' g' b') := fun ρ => le_go (k ρ) fun ds ρ1 => le_forL h l ds ρ1
theorem le_it1 {k : VV → Option (List D)} {e e' : M} (h : leM e e') : leM (it1 k e) (it1 k e') := fun ρ => le_bind (h ρ) fun _ _ => .inr rfl
theorem le_itN {k : List VV → Option (List D)} {e e' : MA} (h : leM e e') : leM (itN k e) (itN k e') := fun ρ => le_bind (h ρ) fun _ _ => .inr rfl
theorem le_fnM {n : Nat} {lent : List Bool} {b b' : MS} (h : leS b b') : leC (fnM n lent b) (fnM n lent b') := fun p => by
  unfold fnM
  rcases h (p.map some ++ List.replicate (n - p.length) none) with e | e
  · rw [e]; exact .inl rfl
  · rw [e]; exact .inr rfl
theorem le_cnil : leM (cargs []) (cargs []) := leM.rf
theorem le_clend {i : Nat} {as as' : List AK} (l : leM (cargs as) (cargs as')) : leM (cargs (.lend i :: as)) (cargs (.lend i :: as')) := fun ρ => by
  unfold cargs
  cases look ρ i with
  | none => exact .inl rfl
  | some _ => exact le_bind (l ρ) fun _ _ => .inr rfl
theorem le_cval {e e' : M} {as as' : List AK} (h : leM e e') (l : leM (cargs as) (cargs as')) : leM (cargs (.val e :: as)) (cargs (.val e' :: as')) := fun ρ => by
  unfold cargs
  refine le_bind (h ρ) fun x ρ1 => ?_
  cases x.kept with
  | none => exact .inl rfl
  | some _ => exact le_bind (l ρ1) fun _ _ => .inr rfl
theorem le_call {f f' : List PV → RF} {df : List PV} {as as' : List AK} (h : leC f f') (l : leM (cargs as) (cargs as')) : leM (call f df as) (call f' df as') := fun ρ => by
  unfold call
  refine le_bind (l ρ) fun avs ρ1 => ?_
  unfold callG
  cases grab (avs ++ df.map .o) ρ1 with
  | none => exact .inl rfl
  | some z =>
    obtain ⟨pvs, ρ2⟩ := z
    rcases h pvs with e | e
    · simp only [e]
      split <;> exact .inl rfl
    · simp only [e]
      exact .inr rfl
theorem le_byK {f f' : List PV → RF} {is js : List Nat} (h : leC f f') : leC (byK is js f) (byK is js f') := fun p => by
  unfold byK
  rcases h (sel is p) with e | e
  · rw [e]; exact .inl rfl
  · rw [e]; exact .inr rfl
theorem le_recv {i : Nat} {as as' : MA} {k : PV → List VV → Option (VV × PV)} (h : leM as as') : leM (recv i as k) (recv i as' k) := fun ρ => by
  unfold recv
  split
  · exact le_bind (h ρ) fun _ _ => .inr rfl
  · exact .inl rfl
theorem le_meth {ty : D → Bool} {o o' : M} {as as' : MA} {k : VV → List VV → Option VV} (h : leM o o') (l : leM as as') : leM (meth ty o as k) (meth ty o' as' k) := fun ρ => le_bind (h ρ) fun x ρ1 => by
  split
  · exact le_nxt (l ρ1) fun _ => .inr rfl
  · exact .inl rfl
theorem le_compL {own : List Nat} {g : MG} {cs cs' : MT} {e e' : M} (h : leM cs cs') (l : leM e e') : ∀ (ds : List D) (ρ : Env) (acc : List VV), leR (compL own g cs e ds ρ acc) (compL own g cs' e' ds ρ acc)
  | [], _, _ => .inr rfl
  | d :: ds, ρ, acc => by
    unfold compL
    cases g ⟨false, 0, d⟩ ρ with
    | nx ρ1 =>
      simp only
      rcases h ρ1 with q | q
      · rw [q]; exact .inl rfl
      · rw [q]
        cases cs' ρ1 with
        | ok b o1 =>
          cases b with
          | false => exact le_aft (le_compL h l ds _ _)
          | true =>
            simp only
            rcases l (now o1 ρ1) with q | q
            · rw [q]; exact .inl rfl
            · rw [q]
              cases e' (now o1 ρ1) with
              | ok x o2 =>
                simp only
                split
                · exact le_aft (le_compL h l ds _ _)
                · exact .inl rfl
              | _ => exact .inr rfl
        | _ => exact .inr rfl
    | _ => exact .inr rfl
theorem le_comp {i i' : MI} {g : MG} {cs cs' : MT} {e e' : M} {own : List Nat} (k : leM i i') (h : leM cs cs') (l : leM e e') : leM (comp i g cs e own) (comp i' g cs' e' own) := fun ρ => le_bind (k ρ) fun ds ρ1 => by
  rcases le_compL h l ds (wipeE own ρ1) [] with q | q
  · rw [q]; exact .inl rfl
  · rw [q]; exact .inr rfl
theorem le_vand {a a' b b' : M} (h : leM a a') (l : leM b b') : leM (vand a b) (vand a' b') := fun ρ => le_bind (h ρ) fun x ρ1 => by
  split
  · exact l ρ1
  · exact .inr rfl
  · exact .inr rfl
theorem le_vor {a a' b b' : M} (h : leM a a') (l : leM b b') : leM (vor a b) (vor a' b') := fun ρ => le_bind (h ρ) fun x ρ1 => by
  split
  · exact .inr rfl
  · exact l ρ1
  · exact .inr rfl
theorem le_fz {k : Nat} {is : List Nat} {e e' : M} (h : leM e e') : leM (fz k is e) (fz k is e') := fun ρ => by
  unfold fz
  split
  · exact h ρ
  · exact le_aft (h _)
theorem le_peek {is : List Nat} {e e' : M} (h : leM e e') : leM (peek is e) (peek is e') := fun ρ => by
  unfold peek
  rcases h (thin 0 is ρ) with q | q
  · rw [q]; exact .inl rfl
  · rw [q]; exact .inr rfl
theorem le_soft {is : List Nat} {e e' : M} (h : leM e e') : leM (soft is e) (soft is e') := fun ρ => by
  unfold soft
  rcases h (thin 0 is ρ) with z | z
  · rw [z]; exact .inl rfl
  · rw [z]
    split
    · exact .inl rfl
    · split
      · exact .inr rfl
      · exact le_fz h ρ
    · exact le_fz h ρ
theorem le_gset {i : Nat} {b b' : M} (h : leM b b') : leG (gset i b) (gset i b') := fun x ρ => by
  unfold gset
  cases look ρ i with
  | none => exact .inl rfl
  | some _ => exact le_go (h ρ) fun _ _ => .inr rfl
theorem le_chain {a a' b b' c c' : M} {φ ψ : Int → Int → Bool} (h : leM a a') (l : leM b b') (k : leM c c') : leM (chain a b c φ ψ) (chain a' b' c' φ ψ) := fun ρ => le_bind (h ρ) fun x ρ1 => le_bind (l ρ1) fun y ρ2 => by
  split
  · split
    · exact le_bind (k ρ2) fun _ _ => .inr rfl
    · exact .inr rfl
  · exact .inl rfl
theorem le_par {i j : Nat} {as as' : MA} (h : leM as as') : leS (par i j as) (par i j as') := fun ρ => le_go (h ρ) fun _ _ => .inr rfl
theorem le_recvI {i : Nat} {b b' : M} {as as' : MA} {k : PV → List VV → Option (VV × PV)} (h : leM b b') (l : leM as as') : leM (recvI i b as k) (recvI i b' as' k) := fun ρ => by
  unfold recvI
  split
  · rcases h ρ with q | q
    · rw [q]; exact .inl rfl
    · rw [q]
      split
      · rcases l ρ with q | q
        · rw [q]; exact .inl rfl
        · rw [q]; exact .inr rfl
      · exact .inl rfl
  · exact .inl rfl
theorem leC.use {f g : List PV → RF} {p : List PV} {r : RF} (h : leC f g) (e : f p = r) (hr : r ≠ .no) : g p = r := by
  rcases h p with q | q
  · exact absurd (e.symm.trans q) hr
  · rw [← q, e]
end
/-! ### the same, computed -/
def whileF (n : Nat) (c : MT) (b : MS) : MS := whileN c b n
theorem le_whileF {c c' : MT} {b b' : MS} {n : Nat} (h : leM c c') (l : leS b b') : leS (whileF n c b) (whiles c' b') := le_whiles n h l
mutual
def D.same : D → D → Bool
  | .non, .non => true
  | .bl a, .bl b => a == b
  | .int a, .int b => decide (a = b)
  | .str a, .str b => decide (a = b)
  | .lst a, .lst b => sameAll a b
  | .tup a, .tup b => sameAll a b
  | _, _ => false
def sameAll : List D → List D → Bool
  | [], [] => true
  | a :: as, b :: bs => D.same a b && sameAll as bs
  | _, _ => false
end
mutual
theorem D.same_eq : ∀ {a b : D}, D.same a b = true → a = b
  | .non, b, h => by cases b <;> first | rfl | (unfold D.same at h; cases h)
  | .bl a, b, h => by
    cases b with
    | bl b => unfold D.same at h; rw [eq_of_beq h]
    | _ => unfold D.same at h; cases h
  | .int a, b, h => by
    cases b with
    | int b => unfold D.same at h; rw [of_decide_eq_true h]
    | _ => unfold D.same at h; cases h
  | .str a, b, h => by
    cases b with
    | str b => unfold D.same at h; rw [of_decide_eq_true h]
    | _ => unfold D.same at h; cases h
  | .lst a, b, h => by
    cases b with
    | lst b => unfold D.same at h; rw [sameAll_eq h]
    | _ => unfold D.same at h; cases h
  | .tup a, b, h => by
    cases b with
    | tup b => unfold D.same at h; rw [sameAll_eq h]
    | _ => unfold D.same at h; cases h
  | .dic _ a, b, h => by cases b <;> (unfold D.same at h; cases h)
  | .ins c a, b, h => by cases b <;> (unfold D.same at h; cases h)
theorem sameAll_eq : ∀ {a b : List D}, sameAll a b = true → a = b
  | [], [], _ => rfl
  | [], _ :: _, h => by unfold sameAll at h; cases h
  | _ :: _, [], h => by unfold sameAll at h; cases h
  | a :: as, b :: bs, h => by
    unfold sameAll at h
    rw [Bool.and_eq_true] at h
    rw [D.same_eq h.1, sameAll_eq h.2]
end
def sameE : Env → Env → Bool
  | [], [] => true
  | none :: as, none :: bs => sameE as bs
  | some a :: as, some b :: bs => decide (a.1 = b.1) && D.same a.2 b.2 && sameE as bs
  | _, _ => false
theorem sameE_eq : ∀ {a b : Env}, sameE a b = true → a = b
  | [], [], _ => rfl
  | [], _ :: _, h => by unfold sameE at h; cases h
  | none :: _, [], h => by unfold sameE at h; cases h
  | some _ :: _, [], h => by unfold sameE at h; cases h
  | none :: as, none :: bs, h => by unfold sameE at h; rw [sameE_eq h]
  | none :: as, some _ :: bs, h => by unfold sameE at h; cases h
  | some _ :: as, none :: bs, h => by unfold sameE at h; cases h
  | some (m, d) :: as, some (n, e) :: bs, h => by
    unfold sameE at h
    rw [Bool.and_eq_true, Bool.and_eq_true] at h
    have h1 : m = n := of_decide_eq_true h.1.1
    have h2 : d = e := D.same_eq h.1.2
    rw [h1, h2, sameE_eq h.2]
/-- r is ok with v and out -/
def RF.is (r : RF) (v : PV) (out : Env) : Bool := match r with
  | .ok w o => decide (w.1 = v.1) && D.same w.2 v.2 && sameE o out
  | _ => false
theorem RF.is_eq {r : RF} {v : PV} {out : Env} (h : r.is v out = true) : r = .ok v out := by
  unfold RF.is at h
  cases r with
  | ok w o =>
    simp only [Bool.and_eq_true] at h
    obtain ⟨⟨h1, h2⟩, h3⟩ := h
    obtain ⟨m, d⟩ := w
    obtain ⟨n, e⟩ := v
    have h1 : m = n := of_decide_eq_true h1
    have h2 : d = e := D.same_eq h2
    rw [h1, h2, sameE_eq h3]
  | _ => cases h
end Vs
set_option maxHeartbeats 4000000
namespace Vs
open PySem (Str PyData)
/-! ### displays with stars; three names -/
def starD (x : VV) : Option (List D) := match x.d with
  | .lst l => if x.open then some l else none
  | .tup l => if x.open then some l else none
  | _ => none
def argN : MA := fun _ => .pu []
def argC (a : M) (as : MA) : MA := fun ρ => (a ρ).bind ρ fun x ρ1 => (as ρ1).nxt x.stable fun xs => .pu (x :: xs)
def argS (a : M) (as : MA) : MA := fun ρ => (a ρ).bind ρ fun x ρ1 => match starD x with
  | some ds => (as ρ1).nxt true fun xs => .pu (ds.map (fun d => (⟨false, 0, d⟩ : VV)) ++ xs)
  | none => .no
def par3k (i j l : Nat) : List VV → Env → Fl
  | [x, y, z], ρ => (gname i x ρ).seq fun ρ2 => (gname j y ρ2).seq fun ρ3 => gname l z ρ3
  | _, _ => .no
def par3 (i j l : Nat) (as : MA) : MS := fun ρ => (as ρ).go ρ fun xs ρ1 => par3k i j l xs ρ1
/-! ### shifts, str -/
def kShl (x y : VV) : Option VV := match x.d, y.d with
  | .int i, .int j => if 0 ≤ j ∧ j ≤ 1000 ∧ i.natAbs < 2 ^ 64 then some (vi (i * 2 ^ j.toNat)) else none
  | _, _ => none
def kShr (x y : VV) : Option VV := match x.d, y.d with
  | .int i, .int j => if 0 ≤ j then some (vi (i / 2 ^ j.toNat)) else none
  | _, _ => none
def kStr : List VV → Option VV
  | [x] => (match x.d with | .int i => if i.natAbs.log2 < 1920 then some (vs (toString i)) else none | _ => none)
  | _ => none
/-! ### loops over a list of plain items that stays in its slot -/
def forV (i : Nat) (w : Nat → D → D) (g : MG) (body : MS) : Nat → Nat → Env → Fl
  | 0, k, ρ => (match look ρ i with | some (_, .lst ds) => if ds.length ≤ k then .nx ρ else .no | _ => .no)
  | n + 1, k, ρ => (match look ρ i with
    | some (_, .lst ds) => (match ds[k]? with
      | none => .nx ρ
      | some d => if d.imm = true then (match (g ⟨false, 0, w k d⟩ ρ).seq body with
        | .nx ρ1 => forV i w g body n (k + 1) ρ1
        | .ct ρ1 => forV i w g body n (k + 1) ρ1
        | .brk ρ1 => .nx ρ1
        | .ret x ρ1 => .ret x ρ1
        | .ex e ρ1 => .ex e ρ1
        | .no => .no) else .no)
    | _ => .no)
def wOne : Nat → D → D := fun _ d => d
def wEnum : Nat → D → D := fun k d => .tup [.int k, d]
def forsV (i : Nat) (w : Nat → D → D) (g : MG) (body : MS) (other : MS) : MS := fun ρ => match look ρ i with
  | some (_, .lst ds) => if ds.all D.imm = true then forV i w g body ds.length 0 ρ else other ρ
  | _ => other ρ
theorem le_forV {i : Nat} {w : Nat → D → D} {g g' : MG} {b b' : MS} (h : leG g g') (l : leS b b') : ∀ (n k : Nat) (ρ : Env), leF (forV i w g b n k ρ) (forV i w g' b' n k ρ)
  | 0, _, _ => .inr rfl
  | n + 1, k, ρ => by
    unfold forV
    split
    · split
      · exact .inr rfl
      · split
        · rename_i d _ _
          rcases le_seq (h ⟨false, 0, w k d⟩ ρ) l with e | e
          · rw [e]; exact .inl rfl
          · rw [e]
            cases (g' ⟨false, 0, w k d⟩ ρ).seq b' with
            | nx ρ2 => exact le_forV h l n (k + 1) ρ2
            | ct ρ2 => exact le_forV h l n (k + 1) ρ2
            | no => exact .inl rfl
            | _ => exact .inr rfl
        · exact .inl rfl
    · exact .inl rfl
theorem le_forsV {i : Nat} {w : Nat → D → D} {g g' : MG} {b b' o o' : MS} (h : leG g g') (l : leS b b') (m : leS o o') : leS (forsV i w g b o) (forsV i w g' b' o') := fun ρ => by
  unfold forsV
  split
  · split
    · exact le_forV h l _ _ _
    · exact m ρ
  · exact m ρ
/-- such a loop that goes through -/
theorem forV_inv {i : Nat} {w : Nat → D → D} {g : MG} {b : MS} {ds : List D} {P : Nat → Env → Prop} (hi : ds.all D.imm = true) (hl : ∀ k ρ, P k ρ → ∃ m, look ρ i = some (m, .lst ds))
    (hs : ∀ k d ρ, ds[k]? = some d → P k ρ → ∃ ρ', (g ⟨false, 0, w k d⟩ ρ).seq b = .nx ρ' ∧ P (k + 1) ρ') : ∀ (n k : Nat) (ρ : Env), n + k = ds.length → P k ρ → ∃ ρ', forV i w g b n k ρ = .nx ρ' ∧ P ds.length ρ'
  | 0, k, ρ, e, h => by
    obtain ⟨m, hm⟩ := hl k ρ h
    refine ⟨ρ, ?_, by rw [← e, Nat.zero_add]; exact h⟩
    unfold forV
    rw [hm]
    exact if_pos (by omega)
  | n + 1, k, ρ, e, h => by
    obtain ⟨m, hm⟩ := hl k ρ h
    have hk : k < ds.length := by omega
    have hd : ds[k]? = some ds[k] := List.getElem?_eq_getElem hk
    obtain ⟨ρ1, h1, h2⟩ := hs k _ ρ hd h
    obtain ⟨ρ', h3, h4⟩ := forV_inv hi hl hs n (k + 1) ρ1 (by omega) h2
    refine ⟨ρ', ?_, h4⟩
    unfold forV
    rw [hm]
    simp only [hd, List.all_eq_true.mp hi _ (List.getElem_mem hk), if_true, h1, h3]
theorem forsV_inv {i : Nat} {w : Nat → D → D} {g : MG} {b o : MS} {ds : List D} {ρ : Env} {m0 : Nat} (P : Nat → Env → Prop) (h0 : look ρ i = some (m0, .lst ds)) (hi : ds.all D.imm = true) (hl : ∀ k ρ, P k ρ → ∃ m, look ρ i = some (m, .lst ds))
    (hs : ∀ k d ρ, ds[k]? = some d → P k ρ → ∃ ρ', (g ⟨false, 0, w k d⟩ ρ).seq b = .nx ρ' ∧ P (k + 1) ρ') (h : P 0 ρ) : ∃ ρ', forsV i w g b o ρ = .nx ρ' ∧ P ds.length ρ' := by
  unfold forsV
  rw [h0]
  simp only [hi, if_true]
  exact forV_inv hi hl hs _ 0 ρ (by omega) h
/-! ### dicts with numbers and texts as keys -/
def isKey : D → Bool
  | .int _ => true | .str _ => true | _ => false
def dLook (l : List (D × D)) (k : D) : Option D := (l.find? fun p => p.1.same k).map (·.2)
def dPut (l : List (D × D)) (k d : D) : List (D × D) := if (l.any fun p => p.1.same k) = true then l.map (fun p => if p.1.same k = true then (p.1, d) else p) else l ++ [(k, d)]
/-- {} -/
def dnew : M := fun _ => .pu ⟨false, 1, .dic false []⟩
def kIxD (x y : VV) : Option VV := match x.d with
  | .dic false l => if (x.b = true ∨ x.m = 0) ∧ isKey y.d = true then (dLook l y.d).map (sub x) else none
  | _ => none
def kInD (x y : VV) : Option VV := match y.d with
  | .dic false l => if isKey x.d = true then some (vb (dLook l x.d).isSome) else none
  | _ => none
def kNotInD (x y : VV) : Option VV := match y.d with
  | .dic false l => if isKey x.d = true then some (vb (!(dLook l x.d).isSome)) else none
  | _ => none
/-- x[k] = .. of a dict in a slot -/
def gsetD (i : Nat) (b : M) : MG := fun x ρ => match look ρ i with
  | none => .no
  | some _ => (b ρ).go ρ fun y ρ1 => match look ρ1 i with
    | some (m + 1, .dic false l) => if x.stable = true ∧ isKey y.d = true ∧ l.length < lim ∧ (x.d.imm = true ∨ (l.any fun p => p.1.same y.d) = false) then .nx (put ρ1 i (some ((if x.d.imm = true then m else min m x.m) + 1, .dic false (dPut l y.d x.d)))) else .no
    | _ => .no
theorem le_gsetD {i : Nat} {b b' : M} (h : leM b b') : leG (gsetD i b) (gsetD i b') := fun x ρ => by
  unfold gsetD
  cases look ρ i with
  | none => exact .inl rfl
  | some _ => exact le_go (h ρ) fun _ _ => .inr rfl
/-! dicts with tuples as keys -/
def isKeyT (y : VV) : Bool := !y.b && decide (0 < y.m) && match y.d with | .tup l => l.all isKey | _ => false
def dnewT : M := fun _ => .pu ⟨false, 1, .dic true []⟩
def kIxT (x y : VV) : Option VV := match x.d with
  | .dic true l => if (x.b = true ∨ x.m = 0) ∧ isKeyT y = true then (dLook l y.d).map (sub x) else none
  | _ => none
def kInT (x y : VV) : Option VV := match y.d with
  | .dic true l => if isKeyT x = true then some (vb (dLook l x.d).isSome) else none
  | _ => none
def kNotInT (x y : VV) : Option VV := match y.d with
  | .dic true l => if isKeyT x = true then some (vb (!(dLook l x.d).isSome)) else none
  | _ => none
def gsetT (i : Nat) (b : M) : MG := fun x ρ => match look ρ i with
  | none => .no
  | some _ => (b ρ).go ρ fun y ρ1 => match look ρ1 i with
    | some (m + 1, .dic true l) => if x.stable = true ∧ isKeyT y = true ∧ l.length < lim ∧ (x.d.imm = true ∨ (l.any fun p => p.1.same y.d) = false) then .nx (put ρ1 i (some ((if x.d.imm = true then m else min m x.m) + 1, .dic true (dPut l y.d x.d)))) else .no
    | _ => .no
theorem le_gsetT {i : Nat} {b b' : M} (h : leM b b') : leG (gsetT i b) (gsetT i b') := fun x ρ => by
  unfold gsetT
  cases look ρ i with
  | none => exact .inl rfl
  | some _ => exact le_go (h ρ) fun _ _ => .inr rfl
def kDivmod : List VV → Option VV
  | [x, y] => (match x.d, y.d with
    | .int i, .int j => if 0 < j ∧ j < 1073741824 then some ⟨false, 1, .tup [.int (i / j), .int (i % j)]⟩ else none
    | _, _ => none)
  | _ => none
/-- a slice whose end may change something -/
def slcE (a : M) (lo hi : Option M) : M := fun ρ => (a ρ).bind ρ fun x ρ1 => (part lo ρ1).nxt false fun l => (part hi ρ1).nxt x.stable fun u => .ofO (kSl x l u)
def leO : Option M → Option M → Prop
  | none, none => True
  | some a, some b => leM a b
  | _, _ => False
theorem leO.no : leO none none := trivial
theorem leO.so {a b : M} (h : leM a b) : leO (some a) (some b) := h
theorem le_part {o o' : Option M} (h : leO o o') (ρ : Env) : leR (part o ρ) (part o' ρ) := by
  cases o with
  | none => cases o' with
    | none => exact .inr rfl
    | some b => exact h.elim
  | some a => cases o' with
    | none => exact h.elim
    | some b =>
      show leR ((a ρ).bind ρ fun y _ => R.ofO (intOf y)) ((b ρ).bind ρ fun y _ => R.ofO (intOf y))
      exact le_bind (h ρ) fun _ _ => .inr rfl
theorem le_slc {a a' : M} {lo lo' hi hi' : Option M} (h : leM a a') (hl : leO lo lo') (hh : leO hi hi') : leM (slc a lo hi) (slc a' lo' hi') := fun ρ => le_bind (h ρ) fun x ρ1 => le_nxt (le_part hl ρ1) fun l => le_nxt (le_part hh ρ1) fun _ => .inr rfl
theorem le_slcE {a a' : M} {lo lo' hi hi' : Option M} (h : leM a a') (hl : leO lo lo') (hh : leO hi hi') : leM (slcE a lo hi) (slcE a' lo' hi') := fun ρ => le_bind (h ρ) fun x ρ1 => le_nxt (le_part hl ρ1) fun l => le_nxt (le_part hh ρ1) fun _ => .inr rfl
/-- {a: b} -/
def ddisp (a b : M) : M := fun ρ => match a ρ, b ρ with
  | .ok x none, .ok y none => if isKey x.d = true ∧ y.stable = true then .pu ⟨false, (if y.d.imm = true then 0 else y.m) + 1, .dic false [(x.d, y.d)]⟩ else .no
  | _, _ => .no
theorem le_ddisp {a a' b b' : M} (h : leM a a') (l : leM b b') : leM (ddisp a b) (ddisp a' b') := fun ρ => by
  unfold ddisp
  rcases h ρ with q | q
  · rw [q]; exact .inl rfl
  · rw [q]
    rcases l ρ with z | z
    · rw [z]
      left
      split
      · rename_i h; cases h
      · rfl
    · rw [z]; exact .inr rfl
/-- an item of a slot, asked behind the index -/
def ixv2 (i : Nat) (b : M) : M := fun ρ => match look ρ i with
  | none => .no
  | some _ => (b ρ).bind ρ fun y ρ1 => match look ρ1 i with
    | some (m, d) => .ofO (kIx ⟨true, m, d⟩ y)
    | none => .no
theorem le_ixv2 {i : Nat} {b b' : M} (h : leM b b') : leM (ixv2 i b) (ixv2 i b') := fun ρ => by
  unfold ixv2
  cases look ρ i with
  | none => exact .inl rfl
  | some _ => exact le_bind (h ρ) fun _ _ => .inr rfl
end Vs
set_option maxHeartbeats 4000000
/-! Vs: *xs in a display; three names at once. -/
namespace Vs
open PySem PySem.Spec PyProof.Rows L2
section
variable {K : PySem.W.Frag} {S S' : Addr → Prop} {H : Hp}
theorem star_open {F f : List Addr} {x : VV} {v : V} {ds : List D} (h : VOk K S H x v f) (ok : Ok S H (f ++ F)) (q : starD x = some ds) :
    ∃ a xs S', v = .ref a ∧ (SqT K H a xs ∨ SqL K H a xs) ∧ (∀ b, S b → S' b) ∧ (∀ b, S' b → S b ∨ b ∈ f) ∧ RpAll K S' H 0 xs ds [] ∧ Ok S' H F := by
  obtain ⟨b, m, d⟩ := x
  unfold starD at q
  cases d with
  | lst l =>
    simp only at q
    split at q
    · rename_i c
      obtain rfl := Option.some.inj q
      obtain ⟨a, xs, S', r1, r2, r3⟩ := opn h ok c
      exact ⟨a, xs, S', r1, .inr r2, r3⟩
    · cases q
  | tup l =>
    simp only at q
    split at q
    · rename_i c
      obtain rfl := Option.some.inj q
      obtain ⟨a, xs, S', r1, r2, r3⟩ := opnT h ok c
      exact ⟨a, xs, S', r1, .inl r2, r3⟩
    · cases q
  | _ => cases q
theorem VsOk.stars : ∀ {xs : List V} {ds : List D} {us : List VV} {vs : List V} {g : List Addr}, RpAll K S H 0 xs ds [] → VsOk K S H us vs g → VsOk K S H (ds.map (fun d => (⟨false, 0, d⟩ : VV)) ++ us) (xs ++ vs) g
  | xs, [], us, vs, g, h, k => by
    cases h
    exact k
  | xs, d :: ds, us, vs, g, h, k => by
    have hl := h.own0
    generalize hf : ([] : List Addr) = f0 at h
    cases h with
    | cons h1 h2 =>
      obtain rfl := h1.own0
      obtain rfl := h2.own0
      exact VsOk.cons (f := []) (by rw [VOk.own]; exact h1) (VsOk.stars h2 k)
end
section
variable {ct : Str → Addr} {lent : List Bool} {X : Cx} {a : Expr} {es : List Expr} {ga : M} {gs : MA} {p : Pos}
theorem sa_consC (ha : SE ct X a ga) (hb : SA ct X es gs) (hs : starEach (a :: es) X.env = (false, eval a X.env) :: starEach es X.env := by rfl) : SA ct X (a :: es) (argC ga gs) := by
  refine ⟨fun W tk => ?_⟩
  obtain ⟨ta, pa, ra⟩ := ha.run W tk
  obtain ⟨tb, pb, rb⟩ := hb.run W tk
  refine ⟨_, pa_cons pa pb hs, fun S F H σ ρ Q E ok G => ra S F H σ ρ _ E ok ?_⟩
  unfold argC at G
  refine good_bind G fun x o1 v S1 F1 H1 f _ t1 h1 E1 k1 G => ?_
  refine rb S1 F1 H1 σ _ _ E1 k1.tail ?_
  cases qb : gs (now o1 ρ) with
  | no => rw [qb] at G; exact G
  | ex x ρ1 =>
    rw [qb] at G
    intro C d S2 F2 H2 st E2 k2 hx
    exact G C d S2 F2 H2 ((t1.step.less fun b hb => List.mem_append_right _ hb).trans st) E2 k2 hx
  | ok y o2 =>
    rw [qb, R.nxt_ok] at G
    intro u S2 F2 H2 g t2 h2 E2 k2
    split at G
    · rename_i hs
      have k3 : Ok S2 H2 ((f ++ g) ++ F2) := Fit.both k1 t2 k2
      have h1' : VOk X.K S2 H2 x v f := by
        cases o2 with
        | none =>
          obtain ⟨e, w1, _, rfl, _⟩ := t2
          exact (h1.same e).more w1
        | some _ => exact h1.step (t2.step.less fun b hb => hb) k1.tail k1.apart (by simpa using hs)
      rw [aft_aft] at G
      refine G (v :: u) S2 F2 H2 (f ++ g) ?_ (.cons h1' h2) ?_ k3
      · exact t1.thn k1 t2 (fun b hb => by rw [List.mem_append] at hb; exact hb.imp id .inl) (Same.refl _)
      · rw [thn_none, now_thn]
        exact E2
    · exact G.elim
theorem sa_star (ha : SE ct X a ga) (hb : SA ct X es gs) (hs : starEach (.Starred a p :: es) X.env = (true, eval a X.env) :: starEach es X.env := by rfl) : SA ct X (.Starred a p :: es) (argS ga gs) := by
  refine ⟨fun W tk => ?_⟩
  obtain ⟨ta, pa, ra⟩ := ha.run W tk
  obtain ⟨tb, pb, rb⟩ := hb.run W tk
  refine ⟨_, StX.pa_star pa pb hs, fun S F H σ ρ Q E ok G => ra S F H σ ρ _ E ok ?_⟩
  unfold argS at G
  refine good_bind G fun x o1 v S1 F1 H1 f _ t1 h1 E1 k1 G => ?_
  cases q : starD x with
  | none => rw [q] at G; exact G.elim
  | some ds =>
    rw [q] at G
    obtain ⟨b, xs, S2, rfl, hsq, u1, u2, r, k2⟩ := star_open h1 k1 q
    have t1' : Fit o1 S F H S2 F1 [] H1 := t1.froze k1 u1 u2
    refine ⟨b, xs, rfl, hsq, rb S2 F1 H1 σ _ _ (E1.more u1) k2 ?_⟩
    simp only at G
    cases qb : gs (now o1 ρ) with
    | no => rw [qb] at G; exact G
    | ex x ρ1 =>
      rw [qb] at G
      intro C d S3 F3 H3 st E2 k3 hx
      exact G C d S3 F3 H3 (t1'.step.trans st) E2 k3 hx
    | ok y o2 =>
      rw [qb, R.nxt_ok, if_pos (by simp), aft_aft] at G
      intro u S3 F3 H3 g t2 h2 E2 k3
      refine G (xs ++ u) S3 F3 H3 g ?_ (VsOk.stars (r.later (t2.step.later k2)) h2) ?_ k3
      · exact t1'.thn (f := []) k2 t2 (fun b hb => .inr (.inl hb)) (Same.refl _)
      · rw [thn_none, now_thn]
        exact E2
theorem ss_par3 {gs : MA} {i j l : Nat} {x y z : Str} {a b c : Expr} {px py pz pt pos : Pos} {kt k2 pt2} (hc : X.calm = true) (hN : X.N.Nodup) (hi : X.N[i]? = some x) (hj : X.N[j]? = some y) (hl : X.N[l]? = some z) (hij : i ≠ j) (hil : i ≠ l) (hjl : j ≠ l) (hli : lent[i]? ≠ some true) (hlj : lent[j]? ≠ some true) (hll : lent[l]? ≠ some true)
    (hx : X.env.scope.names.lookup x = some .local) (hy : X.env.scope.names.lookup y = some .local) (hz : X.env.scope.names.lookup z = some .local) (ha : SA ct X [a, b, c] gs)
    (hw : swappedStores [.Tuple [.Name x px, .Name y py, .Name z pz] kt pt] (.Tuple [a, b, c] k2 pt2) X.env = pure (some [x, y, z]))
    (hs : swapsWithSole [.Tuple [.Name x px, .Name y py, .Name z pz] kt pt] (.Tuple [a, b, c] k2 pt2) pos.line X.env = pure false := by rfl) : SS ct lent X (.Assign [.Tuple [.Name x px, .Name y py, .Name z pz] kt pt] (.Tuple [a, b, c] k2 pt2) pos) (par3 i j l gs) := by
  refine ⟨fun W tk po => ?_⟩
  obtain ⟨ta, pa, ra⟩ := ha.run W tk
  refine ⟨_, ps_par3 hc hN hi hj hl hij hil hjl hx hy hz pa hw hs, fun S F H σ ρ D E ok G => ra S F H σ ρ _ E ok ?_⟩
  refine good_go G fun xs o vs S1 F1 H1 f st h E1 ok1 G => ?_
  unfold par3k at G
  split at G
  · rename_i x y z
    cases h with
    | cons h1 h =>
      obtain ⟨v, w, f1, f2, rfl, rfl, h2, h3⟩ := h.two
      rename_i v0 f0
      refine ⟨v0, v, w, rfl, ?_⟩
      rcases gname_nx (i := i) (x := x) (ρ := now o ρ) with ⟨ρ2, q⟩ | q
      · rw [q, seq_nx] at G
        have okA : Ok S1 H1 ((f1 ++ f2) ++ (f0 ++ F1)) := ok1.perm (List.perm_iff_count.mpr fun b => (by simp only [List.count_append]; omega))
        obtain ⟨F2, E2, ok2, s2, kp2⟩ := store_at hli h1 E1 okA.tail q
        have okB : Ok S1 H1 ((f1 ++ f2) ++ F2) := okA.head.two ok2 fun b hb z => okA.apart b hb (s2 b z)
        have okB' : Ok S1 H1 (f2 ++ (f1 ++ F2)) := okB.perm (List.perm_iff_count.mpr fun b => (by simp only [List.count_append]; omega))
        rcases gname_nx (i := j) (x := y) (ρ := ρ2) with ⟨ρ3, q3⟩ | q3
        · rw [q3, seq_nx] at G
          obtain ⟨F3, E3, ok3, s3, kp3⟩ := store_at hlj h2 E2 okB'.tail q3
          have okC : Ok S1 H1 (f2 ++ F3) := okB'.head.two ok3 fun b hb z => okB'.apart b hb (s3 b z)
          rcases gname_nx (i := l) (x := z) (ρ := ρ3) with ⟨ρ4, q4⟩ | q4
          · rw [q4] at G
            obtain ⟨F4, E4, ok4, s4, kp4⟩ := store_at hll h3 E3 okC q4
            refine G _ S1 F4 H1 (st.less fun b hb => ?_) E4 ok4 ((kp2.trans kp3).trans kp4)
            simp only [List.mem_append] at s2 s3 s4 ⊢
            rcases s4 b hb with z | z
            · exact .inl (.inr (.inr z))
            · rcases s3 b z with z | z
              · exact .inl (.inr (.inl z))
              · rcases s2 b z with z | z
                · exact .inl (.inl z)
                · exact .inr z
          · rw [q4] at G
            exact G.elim
        · rw [q3] at G
          exact G.elim
      · rw [q] at G
        exact G.elim
  · exact G.elim
end
section
variable {ct : Str → Addr} {X : Cx}
theorem sa_nilN : SA ct X [] argN := sa_nil
end
section
variable {ct : Str → Addr} {X : Cx} {a b : Expr} {ga gb : M} {pos : Pos}
theorem kShl_op : Op2 X.K (rI CPow fun i j => .int (i * 2 ^ j.toNat)) kShl := op2_int fun x y z e => by
  unfold kShl at e
  split at e
  · rename_i i j h1 h2
    split at e
    · rename_i c
      obtain rfl := Option.some.inj e
      exact ⟨i, j, h1, h2, ⟨c.1, by omega, c.2.2⟩, rfl, fun _ _ => .int _ _⟩
    · cases e
  · cases e
theorem kShr_op : Op2 X.K (rI (fun _ j => 0 ≤ j) fun i j => .int (i / 2 ^ j.toNat)) kShr := op2_int fun x y z e => by
  unfold kShr at e
  split at e
  · rename_i i j h1 h2
    split at e
    · rename_i c
      obtain rfl := Option.some.inj e
      exact ⟨i, j, h1, h2, c, rfl, fun _ _ => .int _ _⟩
    · cases e
  · cases e
theorem s_shl (ha : SE ct X a ga) (hb : SE ct X b gb) : SE ct X (.BinOp a .LShift b pos) (two ga gb kShl) := s_op op_shl kShl_op ha hb
theorem s_shr (ha : SE ct X a ga) (hb : SE ct X b gb) : SE ct X (.BinOp a .RShift b pos) (two ga gb kShr) := s_op op_shr kShr_op ha hb
end
section
variable {K : PySem.W.Frag}
theorem kStr_op : OpN K (fun xs H Q => ∃ i, xs = [.int i] ∧ i.natAbs.log2 < 1920 ∧ Q (.str (toString i)) H) kStr := by
  refine opn_one (fun xs z e => ?_) fun S H x v f z Q h ok e hQ => ?_
  · unfold kStr at e
    split at e
    · exact ⟨_, rfl⟩
    · cases e
  · unfold kStr at e
    simp only at e
    split at e
    · rename_i i el
      split at e
      · rename_i c
        obtain rfl := Option.some.inj e
        exact ⟨i, by rw [h.int el], c, ret_imm ok rfl (.str _ _) hQ⟩
      · cases e
    · cases e
end
end Vs
set_option maxHeartbeats 4000000
/-! Vs: loops over a list of plain items that stays in its slot. -/
namespace Vs
open PySem PySem.Spec PyProof.Rows L2
/-- lent, and this slot too -/
def lentW (lent : List Bool) (i : Nat) : List Bool := (List.range (max lent.length (i + 1))).map fun j => j == i || lent.getD j false
theorem lentW_of {lent : List Bool} {i j : Nat} (h : lent[j]? = some true ∨ j = i) : (lentW lent i)[j]? = some true := by
  unfold lentW
  have hj : j < max lent.length (i + 1) := by
    rcases h with h | h
    · have := (List.getElem?_eq_some_iff.mp h).1; omega
    · omega
  rw [List.getElem?_map, List.getElem?_range hj]
  show some (j == i || lent.getD j false) = some true
  rcases h with h | h
  · rw [List.getD_eq_getElem?_getD, h]; simp
  · simp [h]
theorem Kp.ofW {lent : List Bool} {i : Nat} {σ σ' : List (Option V)} (h : Kp (lentW lent i) σ σ') : Kp lent σ σ' ∧ σ'[i]? = σ[i]? :=
  ⟨⟨h.1, fun j hj => h.2 j (lentW_of (.inl hj))⟩, h.2 i (lentW_of (.inr rfl))⟩
section
variable {K : PySem.W.Frag} {ct : Str → Addr} {lent : List Bool} {W : WX} {D : Ends} {S : Addr → Prop} {F : List Addr} {H : Hp} {σ : L2.St} {fl : Fl}
theorem GoodS.toW {i : Nat} (g : GoodS K ct lent W D S F H σ fl) : GoodS K ct (lentW lent i) W D S F H σ fl := by
  cases fl with
  | nx ρ' => exact fun σ' S' F' H' t E o k => g σ' S' F' H' t E o k.ofW.1
  | brk ρ' => exact fun σ' S' F' H' t E o k => g σ' S' F' H' t E o k.ofW.1
  | ct ρ' => exact fun σ' S' F' H' t E o k => g σ' S' F' H' t E o k.ofW.1
  | ret pv ρ' => exact fun v f σ' S' F' H' t r E o k => g v f σ' S' F' H' t r E o k.ofW.1
  | ex e ρ' => exact fun C d σ' S' F' H' t E o k x => g C d σ' S' F' H' t E o k.ofW.1 x
  | no => exact g
end
/-- how the items of a list are handed out -/
structure LiveIt (K : PySem.W.Frag) (J : Addr → It) (w : Nat → Vs.D → Vs.D) : Prop where
  go : ∀ {a k H xs u}, SqL K H a xs → xs[k]? = some u → (J a).go k H
  yld : ∀ {a k H xs u x H3 d} {S : Addr → Prop}, SqL K H a xs → xs[k]? = some u → (J a).yld k H x H3 → Rp K S H 0 u d [] → Same H H3 ∧ Rp K S H3 0 x (w k d) []
  stop : ∀ {a k H xs}, SqL K H a xs → xs.length ≤ k → (J a).stop k H
theorem live_one {K : PySem.W.Frag} : LiveIt K (Itl K) wOne where
  go := fun h g => ⟨_, _, h, g⟩
  yld := fun h g y r => by
    obtain ⟨rfl, hx⟩ := y
    have := (hx _ h).symm.trans g
    cases this
    exact ⟨Same.refl _, r⟩
  stop := fun h g => ⟨_, h, g⟩
theorem live_enum {K : PySem.W.Frag} : LiveIt K (Ite K) wEnum where
  go := fun h g => ⟨_, _, h, g⟩
  yld := fun h g y r => by
    obtain ⟨T, z, rfl, nT, rfl, hx⟩ := y
    have := (hx _ h).symm.trans g
    cases this
    refine ⟨same_upd nT, .tup0 (.inl (.inl upd_same)) ?_⟩
    exact .cons (f := []) (g := []) (.int _ _) (.cons (f := []) (g := []) (r.same (same_upd nT)) (.nil _))
  stop := fun h g => ⟨_, h, g⟩
section
variable {ct : Str → Addr} {lent : List Bool} {X : Cx} {body : List Stmt} {gb other : MS} {pos : Pos}
theorem SS.ofW {i : Nat} {st : Stmt} {g : MS} (h : SS ct (lentW lent i) X st g) : SS ct lent X st g := by
  refine ⟨fun W tk po => ?_⟩
  obtain ⟨t, pt, rt⟩ := h.run W tk po
  exact ⟨t, pt, fun S F H σ ρ D E ok G => rt S F H σ ρ D E ok G.toW⟩
theorem ss_either {st : Stmt} {g h k : MS} (hg : SS ct lent X st g) (hh : SS ct lent X st h) (hk : ∀ ρ, k ρ = g ρ ∨ k ρ = h ρ) : SS ct lent X st k := by
  refine ⟨fun W tk po => ?_⟩
  obtain ⟨t1, p1, r1⟩ := hg.run W tk po
  obtain ⟨t2, p2, r2⟩ := hh.run W tk po
  refine ⟨fun D σ H => t1 D σ H ∨ t2 D σ H, ⟨fun pins s σ H D I h => h.elim (p1.run pins s σ H D I) (p2.run pins s σ H D I)⟩, fun S F H σ ρ D E ok G => ?_⟩
  rcases hk ρ with e | e
  · exact .inl (r1 S F H σ ρ D E ok (e ▸ G))
  · exact .inr (r2 S F H σ ρ D E ok (e ▸ G))
/-- the loop itself -/
def forVs (i : Nat) (w : Nat → Vs.D → Vs.D) (g : MG) (body : MS) : MS := fun ρ => match look ρ i with
  | some (_, .lst ds) => forV i w g body ds.length 0 ρ
  | _ => .no
theorem ss_forVs (i : Nat) {tg iter : Expr} {gg : MG} {J : Addr → It} {w : Nat → Vs.D → Vs.D} (hJ : LiveIt X.K J w) (hc : X.calm = true)
    (hi : PI X tg iter fun σ H R => ∃ v, σ[i]? = some (some v) ∧ ∃ a xs, v = .ref a ∧ SqL X.K H a xs ∧ R (J a) H)
    (hg : SG ct (lentW lent i) X tg gg) (hb : SSs ct (lentW lent i) X body gb) (hs : ∀ x, foldedSetIterable iter X.env x = pure x := by intro _; rfl) :
    SS ct (lentW lent i) X (.For tg iter body [] pos) (forVs i w gg gb) := by
  refine ⟨fun W tk po => ?_⟩
  obtain ⟨tg', pg, rg⟩ := hg.run W tk
  obtain ⟨tb, pb, rb⟩ := hb.run W tk po
  refine ⟨_, ps_for po hc hi pg pb hs, fun S F H σ ρ D E ok G => ?_⟩
  unfold forVs at G
  cases q : look ρ i with
  | none => rw [q] at G; exact G.elim
  | some pv =>
    obtain ⟨m0, d0⟩ := pv
    rw [q] at G
    cases d0 with
    | lst ds0 =>
      obtain ⟨v0, f0, G0, hσ, r0, _, _⟩ := E.take q
      obtain ⟨a, xs0, g0, rfl, hq0, _, _, _⟩ := r0.lst
      refine ⟨_, hσ, a, xs0, rfl, hq0, fun k m σ' H' => ∃ ρ' S' F', Step S F H S' F' H' ∧ EnvRp X.K S' H' σ' ρ' F' ∧ Ok S' H' F' ∧ Kp (lentW lent i) σ σ' ∧ GoodS X.K ct (lentW lent i) W D S' F' H' σ' (forV i w gg gb m k ρ'),
        ⟨ds0.length, ρ, S, F, Step.refl, E, ok, Kp.refl, G⟩, fun k m σ' H' hW => ?_⟩
      obtain ⟨ρ', S', F', st', E', ok', kp', G'⟩ := hW
      have hσ' : σ'[i]? = some (some (.ref a)) := kp'.ofW.2.trans hσ
      have stop : ∀ {x : Prop} {ds : List Vs.D} {md : Nat}, look ρ' i = some (md, .lst ds) → ds.length ≤ k → (J a).stop k H' := by
        intro _ ds md q1 hk
        obtain ⟨v1, f1, G1, hσ1, r1, _, _⟩ := E'.take q1
        obtain rfl : v1 = .ref a := by rw [hσ'] at hσ1; exact (Option.some.inj (Option.some.inj hσ1)).symm
        obtain ⟨a1, xs1, g1, e1, hq1, ra1, _, _⟩ := r1.lst
        cases e1
        exact hJ.stop hq1 (by rw [ra1.length]; exact hk)
      cases m with
      | zero =>
        unfold forV at G'
        cases q1 : look ρ' i with
        | none => rw [q1] at G'; exact G'.elim
        | some pv =>
          obtain ⟨m1, d1⟩ := pv
          rw [q1] at G'
          cases d1 with
          | lst ds =>
            simp only at G'
            split at G'
            · rename_i hk
              exact .inl ⟨stop (x := True) q1 hk, G' σ' S' F' H' Step.refl E' ok' Kp.refl⟩
            · exact G'.elim
          | _ => exact G'.elim
      | succ m =>
        unfold forV at G'
        cases q1 : look ρ' i with
        | none => rw [q1] at G'; exact G'.elim
        | some pv =>
          obtain ⟨m1, d1⟩ := pv
          rw [q1] at G'
          cases d1 with
          | lst ds =>
            simp only at G'
            cases q2 : ds[k]? with
            | none =>
              rw [q2] at G'
              exact .inl ⟨stop (x := True) q1 (List.getElem?_eq_none_iff.mp q2), G' σ' S' F' H' Step.refl E' ok' Kp.refl⟩
            | some d =>
              rw [q2] at G'
              simp only at G'
              by_cases him : d.imm = true
              · rw [if_pos him] at G'
                obtain ⟨v1, f1, G1, hσ1, r1, _, _⟩ := E'.take q1
                obtain rfl : v1 = .ref a := by rw [hσ'] at hσ1; exact (Option.some.inj (Option.some.inj hσ1)).symm
                obtain ⟨a1, xs1, g1, e1, hq1, ra1, _, _⟩ := r1.lst
                cases e1
                obtain ⟨u, fu, hu, ru⟩ : ∃ u fu, xs1[k]? = some u ∧ Rp X.K S' H' (m1 - 1) u d fu := by
                  obtain ⟨u, f1, g1, h1, hu, _, ru, _⟩ := ra1.at q2
                  exact ⟨u, _, hu, ru⟩
                have ru0 : Rp X.K S' H' 0 u d [] := (ru.imm him).2 _ _ _
                refine .inr ⟨hJ.go hq1 hu, fun σ2 H2 => ∃ ρ2 S2 F2, Step S F H S2 F2 H2 ∧ EnvRp X.K S2 H2 σ2 ρ2 F2 ∧ Ok S2 H2 F2 ∧ Kp (lentW lent i) σ σ2 ∧ GoodS X.K ct (lentW lent i) W D S2 F2 H2 σ2 (forV i w gg gb m (k + 1) ρ2), fun σ2 H2 hN => ?_, fun x H3 hy => ?_⟩
                · obtain ⟨ρ2, S2, F2, hN⟩ := hN
                  exact ⟨m, by omega, ρ2, S2, F2, hN⟩
                · obtain ⟨sm, rx⟩ := hJ.yld hq1 hu hy ru0
                  have st3 : Step S' F' H' S' F' H3 := Step.of_same sm fun _ => .inl
                  have G3 := GoodS.from st3 Kp.refl G'
                  let N : L2.St → Hp → Prop := fun σ2 H2 => ∃ ρ2 S2 F2, Step S F H S2 F2 H2 ∧ EnvRp X.K S2 H2 σ2 ρ2 F2 ∧ Ok S2 H2 F2 ∧ Kp (lentW lent i) σ σ2 ∧ GoodS X.K ct (lentW lent i) W D S2 F2 H2 σ2 (forV i w gg gb m (k + 1) ρ2)
                  have turn : GoodS X.K ct (lentW lent i) W { D with nx := N, ct := N, bk := D.nx } S' F' H3 σ' ((gg ⟨false, 0, w k d⟩ ρ').seq gb) := by
                    cases q : (gg ⟨false, 0, w k d⟩ ρ').seq gb with
                    | nx ρ1 =>
                      rw [q] at G3
                      exact fun σ2 S2 F2 H2 t E2 o2 k2 => ⟨ρ1, S2, F2, (st'.trans st3).trans t, E2, o2, kp'.trans k2, GoodS.from t k2 G3⟩
                    | ct ρ1 =>
                      rw [q] at G3
                      exact fun σ2 S2 F2 H2 t E2 o2 k2 => ⟨ρ1, S2, F2, (st'.trans st3).trans t, E2, o2, kp'.trans k2, GoodS.from t k2 G3⟩
                    | brk ρ1 => rw [q] at G3; exact G3
                    | ret pv ρ1 => rw [q] at G3; exact G3
                    | ex e ρ1 => rw [q] at G3; exact G3
                    | no => rw [q] at G3; exact G3
                  refine rg S' F' H3 σ' ρ' ⟨false, 0, w k d⟩ x [] { D with nx := fun σ2 H2 => tb { D with nx := N, ct := N, bk := D.nx } σ2 H2, ct := N, bk := D.nx } _ (by rw [VOk.own]; exact rx) (E'.same sm) (ok'.same sm) (fun _ _ z => z) ?_
                  cases q : gg ⟨false, 0, w k d⟩ ρ' with
                  | nx ρ1 =>
                    rw [q] at turn
                    exact fun σ2 S2 F2 H2 t E2 o2 k2 => rb S2 F2 H2 σ2 ρ1 _ E2 o2 (GoodS.from t k2 turn)
                  | _ => rw [q] at turn; exact turn
              · rw [if_neg him] at G'
                exact G'.elim
          | _ => exact G'.elim
    | _ => exact G.elim
theorem ss_forV (i : Nat) {tg iter : Expr} {gg : MG} {gi : MI} {J : Addr → It} {w : Nat → Vs.D → Vs.D} (hJ : LiveIt X.K J w) (hc : X.calm = true)
    (hi : PI X tg iter fun σ H R => ∃ v, σ[i]? = some (some v) ∧ ∃ a xs, v = .ref a ∧ SqL X.K H a xs ∧ R (J a) H) (hf : SI ct X tg iter gi)
    (hg : SG ct (lentW lent i) X tg gg) (hb : SSs ct (lentW lent i) X body gb) (hs : ∀ x, foldedSetIterable iter X.env x = pure x := by intro _; rfl) :
    SS ct lent X (.For tg iter body [] pos) (forsV i w gg gb (fors gi gg gb)) := by
  refine SS.ofW (i := i) (ss_either (ss_forVs i hJ hc hi hg hb hs) (ss_for hc hf hg hb hs) fun ρ => ?_)
  unfold forsV forVs
  split
  · rename_i h
    split
    · first | (rw [h]; exact .inl rfl) | exact .inl rfl
    · exact .inr rfl
  · exact .inr rfl
theorem pi_liveL (i : Nat) {x : Str} {px : Pos} {tg : Expr} (hN : X.N[i]? = some x := by rfl) (hv : Vis X.env.scope x := by first | exact Or.inl rfl | exact Or.inr (Or.inl rfl) | exact Or.inr (Or.inr rfl)) (hd : (x == ("__debug__" : Str)) = false := by decide)
    (hcd : (x == ("__classdict__" : Str)) = false := by decide) : PI X tg (.Name x px) fun σ H R => ∃ v, σ[i]? = some (some v) ∧ ∃ a xs, v = .ref a ∧ SqL X.K H a xs ∧ R (Itl X.K a) H :=
  ⟨fun pins s σ H R I h => (pi_list (pe_var (i := i) hN hv hd hcd)).run pins s σ H R I (by
    obtain ⟨v, h1, a, xs, rfl, h2, h3⟩ := h
    exact ⟨_, h1, a, rfl, ⟨xs, h2⟩, h3⟩)⟩
theorem pi_liveE (i : Nat) {x : Str} {p px pos tpos : Pos} {elts : List Expr} {kk : Nat} (hg : Gl X "enumerate") (hm : X.mg "enumerate" = none) (hN : X.N[i]? = some x := by rfl) (hv : Vis X.env.scope x := by first | exact Or.inl rfl | exact Or.inr (Or.inl rfl) | exact Or.inr (Or.inr rfl)) (hd : (x == ("__debug__" : Str)) = false := by decide)
    (hcd : (x == ("__classdict__" : Str)) = false := by decide) (hs : starEach [.Name x px] X.env = [(false, eval (.Name x px) X.env)] := by rfl) : PI X (.Tuple elts kk tpos) (.Call (.Name "enumerate" p) [.Name x px] [] pos) fun σ H R => ∃ v, σ[i]? = some (some v) ∧ ∃ a xs, v = .ref a ∧ SqL X.K H a xs ∧ R (Ite X.K a) H :=
  ⟨fun pins s σ H R I h => (pi_enum hg hm (pa_cons (pe_var (i := i) hN hv hd hcd) pa_nil) hs).run pins s σ H R I (by
    obtain ⟨v, h1, a, xs, rfl, h2, h3⟩ := h
    exact ⟨_, h1, a, xs, rfl, h2, h3⟩)⟩
end
section
variable {ct : Str → Addr} {X : Cx} {b : Expr} {gb : M} {pos px : Pos}
theorem s_ixv (i : Nat) {x : Str} (hb : SE ct X b gb) (hs : PlainIx b := by exact fun _ _ => rfl) (hN : X.N[i]? = some x := by rfl) (hv : Vis X.env.scope x := by first | exact Or.inl rfl | exact Or.inr (Or.inl rfl) | exact Or.inr (Or.inr rfl)) (hd : (x == ("__debug__" : Str)) = false := by decide)
    (hcd : (x == ("__classdict__" : Str)) = false := by decide) : SE ct X (.Subscript (.Name x px) b pos) (ixv2 i gb) := by
  refine ⟨fun W tk => ?_⟩
  obtain ⟨tb, pb, rb⟩ := hb.run W tk
  refine ⟨_, pe_ix ix_seq (pe_var (i := i) hN hv hd hcd) pb hs, fun S F H σ ρ Q E ok G => ?_⟩
  unfold ixv2 at G
  cases q : look ρ i with
  | none => rw [q] at G; exact G.elim
  | some pv =>
    obtain ⟨m0, d0⟩ := pv
    rw [q] at G
    obtain ⟨v0, f0, G0, hσ, _⟩ := E.take q
    refine ⟨v0, hσ, rb S F H σ ρ _ E ok ?_⟩
    refine good_bind G fun y o w S1 F1 H1 f _ t1 h1 E1 k1 G => ?_
    cases q1 : look (now o ρ) i with
    | none => rw [q1] at G; exact G.elim
    | some pv1 =>
      obtain ⟨m1, d1⟩ := pv1
      rw [q1] at G
      obtain ⟨v1, f1, G1, hσ1, r1, _⟩ := E1.take q1
      obtain rfl : v1 = v0 := by rw [hσ] at hσ1; exact (Option.some.inj (Option.some.inj hσ1)).symm
      have hx : VOk X.K S1 H1 ⟨true, m1, d1⟩ v1 [] := by rw [VOk.bor]; exact ⟨rfl, f1, r1⟩
      exact fin_rule (g := f) (t := fun Q => rIx X.K v1 w H1 Q) t1 E1 k1 (fun z hz Q hq => kIx_op S1 H1 _ v1 [] y w f z Q hx h1 k1.head hz hq) G
end
end Vs
set_option maxHeartbeats 4000000
/-! Vs: dicts with numbers and texts as keys. -/
namespace Vs
open PySem PySem.Spec PyProof.Rows L2
theorem same_kD {a b : Key} : D.same (kD a) (kD b) = decide (a = b) := by
  cases a <;> cases b <;> simp [kD, D.same]
theorem key_of {d : D} (h : isKey d = true) : ∃ k : Key, d = kD k := by
  cases d with
  | int i => exact ⟨.inl i, rfl⟩
  | str s => exact ⟨.inr s, rfl⟩
  | _ => cases h
/-- what a dict's keys and values are, as a list -/
abbrev dzip (kvs : List (Key × V)) (ds : List D) : List (D × D) := (kvs.map fun p => kD p.1).zip ds
theorem dlook_zip {k : Key} : ∀ {kvs : List (Key × V)} {ds : List D}, kvs.length = ds.length →
    (dLook (dzip kvs ds) (kD k) = none ∧ valV kvs k = none) ∨ ∃ (i : Nat) (w : V) (d : D), dLook (dzip kvs ds) (kD k) = some d ∧ valV kvs k = some w ∧ (kvs.map (·.2))[i]? = some w ∧ ds[i]? = some d
  | [], [], _ => .inl ⟨rfl, rfl⟩
  | [], _ :: _, h => by simp at h
  | _ :: _, [], h => by simp at h
  | (k', w) :: kvs, d :: ds, h => by
    have h' : kvs.length = ds.length := by simpa using h
    by_cases e : k' = k
    · refine .inr ⟨0, w, d, ?_, valV_pos e, rfl, rfl⟩
      unfold dLook dzip
      simp [List.find?_cons, same_kD, e]
    · have e1 : dLook (dzip ((k', w) :: kvs) (d :: ds)) (kD k) = dLook (dzip kvs ds) (kD k) := by
        unfold dLook dzip
        simp [List.find?_cons, same_kD, e]
      rcases dlook_zip (k := k) h' with ⟨a, b⟩ | ⟨i, w', d', a, b, c, c'⟩
      · exact .inl ⟨e1.trans a, (valV_neg e).trans b⟩
      · exact .inr ⟨i + 1, w', d', e1.trans a, (valV_neg e).trans b, by simpa using c, by simpa using c'⟩
theorem dput_zip {k : Key} {w : V} {d : D} : ∀ {kvs : List (Key × V)} {ds : List D}, kvs.length = ds.length →
    dPut (dzip kvs ds) (kD k) d = (if (kvs.any fun kv => decide (kv.1 = k)) = true then dzip (putK kvs k w) ((kvs.zip ds).map fun q => if q.1.1 = k then d else q.2) else dzip (putK kvs k w) (ds ++ [d])) := by
  intro kvs ds h
  have e0 : (dzip kvs ds).any (fun p => p.1.same (kD k)) = kvs.any fun kv => decide (kv.1 = k) := by
    induction kvs generalizing ds with
    | nil => cases ds <;> rfl
    | cons p kvs ih =>
      cases ds with
      | nil => simp at h
      | cons d' ds =>
        have := ih (ds := ds) (by simpa using h)
        unfold dzip at this ⊢
        rw [List.map_cons, List.zip_cons_cons, List.any_cons, this, List.any_cons, same_kD]
  unfold dPut putK
  rw [e0]
  by_cases c : (kvs.any fun kv => decide (kv.1 = k)) = true
  · rw [if_pos c, if_pos c, if_pos c]
    clear c e0
    induction kvs generalizing ds with
    | nil => cases ds <;> rfl
    | cons p kvs ih =>
      cases ds with
      | nil => simp at h
      | cons d' ds =>
        have := ih (ds := ds) (by simpa using h)
        unfold dzip at this ⊢
        rw [List.map_cons, List.zip_cons_cons, List.map_cons, this, List.map_cons, List.map_cons, List.zip_cons_cons, List.map_cons, List.zip_cons_cons, same_kD]
        by_cases e : p.1 = k
        · simp [e]
        · simp [e]
  · rw [if_neg c, if_neg c, if_neg c]
    unfold dzip
    rw [List.map_append, List.zip_append (by simpa using h)]
    rfl
section
variable {K : PySem.W.Frag} {S S' : Addr → Prop} {H : Hp}
theorem Rp.dicK {m : Nat} {v : V} {l : List (D × D)} {g : List Addr} (h : Rp K S H m v (.dic false l) g) :
    ∃ (a : Addr) (kvs : List (Key × V)) (ds : List D) (g' : List Addr), v = .ref a ∧ l = dzip kvs ds ∧ Rd H a (.dK kvs) ∧ RpAll K S H (m - 1) (kvs.map (·.2)) ds g' ∧ (m = 0 → g = [] ∧ g' = []) ∧ (m ≠ 0 → H a = some (.dK kvs) ∧ g = a :: g') := by
  generalize hd : D.dic false l = d at h
  cases h with
  | dk0 q s r =>
    obtain ⟨_, rfl⟩ := D.dic.inj hd
    exact ⟨_, _, _, _, rfl, rfl, q, r, fun _ => ⟨rfl, rfl⟩, fun z => absurd rfl z⟩
  | dk1 q r =>
    obtain ⟨_, rfl⟩ := D.dic.inj hd
    exact ⟨_, _, _, _, rfl, rfl, .inl q, r, fun z => (nomatch z), fun _ => ⟨q, rfl⟩⟩
  | dt0 q s r => cases (D.dic.inj hd).1
  | dt1 q r => cases (D.dic.inj hd).1
  | _ => cases hd
theorem VOk.key {y : VV} {u : V} {g : List Addr} {k : Key} (h : VOk K S H y u g) (e : y.d = kD k) : u = kV k ∧ g = [] := by
  cases k with
  | inl i => exact ⟨h.int e, (by
      obtain ⟨b, m, d⟩ := y
      obtain rfl : d = .int i := e
      exact h.nil_int)⟩
  | inr z => exact ⟨h.str e, (by
      obtain ⟨b, m, d⟩ := y
      obtain rfl : d = .str z := e
      unfold VOk at h
      split at h
      · exact h.1
      · exact (h.imm rfl).1)⟩
def rGetD : R2 := fun x y H Q => ∃ a v, x = V.ref a ∧ DGet H a y (some v) ∧ Q v H
theorem kIxD_op : Op2 K rGetD kIxD := fun S H x v f y u g z Q h1 h2 ok e hQ => by
  unfold kIxD at e
  split at e
  · rename_i l el
    split at e
    · rename_i c
      obtain ⟨k, hk⟩ := key_of c.2
      rw [hk] at e
      obtain ⟨rfl, rfl⟩ := h2.key hk
      obtain ⟨gx, hr⟩ := h1.rp
      rw [el] at hr
      obtain ⟨a, kvs, ds, g', rfl, rfl, hq, ra, z1, z2⟩ := hr.dicK
      have hl : kvs.length = ds.length := by have := ra.length; rwa [List.length_map] at this
      rcases dlook_zip (k := k) hl with ⟨e1, _⟩ | ⟨i, w, d, e1, e2, e3, e4⟩
      · rw [e1] at e; cases e
      · rw [e1] at e
        obtain rfl := Option.some.inj e
        refine ⟨a, w, rfl, .inl ⟨kvs, k, hq, rfl, e2.symm⟩, ?_⟩
        obtain ⟨w', g1, gw, g2, f1, f2, f3, _⟩ := ra.at e4
        rw [e3] at f1
        cases f1
        refine hQ w H S [] ⟨Same.refl _, fun _ z => z, fun _ => .inl, by simp⟩ ?_ ok.nil
        obtain ⟨xb, xm, xd⟩ := x
        by_cases hm : xm - 1 = 0
        · rw [show sub ⟨xb, xm, xd⟩ d = ⟨false, 0, d⟩ by unfold sub; simp [hm]]
          rw [VOk.own]
          replace f3 : Rp K S H (xm - 1) w d gw := f3
          rw [hm] at f3
          have := f3.own0
          subst this
          exact f3
        · have hb : xb = true := c.1.resolve_right (by show ¬ xm = 0; omega)
          subst hb
          rw [show sub ⟨true, xm, xd⟩ d = ⟨true, xm - 1, d⟩ by unfold sub; simp [hm]]
          rw [VOk.bor]
          exact ⟨rfl, gw, f3⟩
    · cases e
  · cases e
def rInDc : R2 := fun x y H Q => ∃ a o, y = V.ref a ∧ DGet H a x o ∧ Q (.bl o.isSome) H
def rNotInDc : R2 := fun x y H Q => ∃ a o, y = V.ref a ∧ DGet H a x o ∧ Q (.bl (!o.isSome)) H
theorem dic_has {y : VV} {u : V} {g : List Addr} {l : List (D × D)} {k : Key} (h : VOk K S H y u g) (e : y.d = .dic false l) : ∃ a o, u = V.ref a ∧ DGet H a (kV k) o ∧ o.isSome = (dLook l (kD k)).isSome := by
  obtain ⟨gx, hr⟩ := h.rp
  rw [e] at hr
  obtain ⟨a, kvs, ds, g', rfl, rfl, hq, ra, z1, z2⟩ := hr.dicK
  have hl : kvs.length = ds.length := by have := ra.length; rwa [List.length_map] at this
  refine ⟨a, valV kvs k, rfl, .inl ⟨kvs, k, hq, rfl, rfl⟩, ?_⟩
  rcases dlook_zip (k := k) hl with ⟨e1, e2⟩ | ⟨i, w, d, e1, e2, _⟩
  · rw [e1, e2]; rfl
  · rw [e1, e2]; rfl
theorem kInD_op : Op2 K rInDc kInD := fun S H x v f y u g z Q h1 h2 ok e hQ => by
  unfold kInD at e
  split at e
  · rename_i l el
    split at e
    · rename_i c
      obtain rfl := Option.some.inj e
      obtain ⟨k, hk⟩ := key_of c
      obtain ⟨rfl, rfl⟩ := h1.key hk
      obtain ⟨a, o, rfl, d, q⟩ := dic_has (k := k) h2 el
      rw [hk, ← q] at hQ
      exact ⟨a, o, rfl, d, ret_imm ok rfl (.bl _ _) hQ⟩
    · cases e
  · cases e
theorem kNotInD_op : Op2 K rNotInDc kNotInD := fun S H x v f y u g z Q h1 h2 ok e hQ => by
  unfold kNotInD at e
  split at e
  · rename_i l el
    split at e
    · rename_i c
      obtain rfl := Option.some.inj e
      obtain ⟨k, hk⟩ := key_of c
      obtain ⟨rfl, rfl⟩ := h1.key hk
      obtain ⟨a, o, rfl, d, q⟩ := dic_has (k := k) h2 el
      rw [hk, ← q] at hQ
      exact ⟨a, o, rfl, d, ret_imm ok rfl (.bl _ _) hQ⟩
    · cases e
  · cases e
/-- an item is put into a dict of a slot -/
theorem write_okD {a : Addr} {f1 ff h G : List Addr} {kvs : List (Key × V)} {ds : List D} {n : Nat} {zs : List (Key × V)} (ha : H a = some (.dK zs)) (ok : Ok S H G) (p : G.Perm ((h ++ (a :: ff)) ++ f1)) (r : RpAll K (fun b => S b ∨ b ∈ f1) H n (kvs.map (·.2)) ds ff) :
    Step S G H (fun b => S b ∨ b ∈ f1) (h ++ (a :: ff)) (upd H a (.dK kvs)) ∧ Rp K (fun b => S b ∨ b ∈ f1) (upd H a (.dK kvs)) (n + 1) (.ref a) (.dic false (dzip kvs ds)) (a :: ff) ∧ Ok (fun b => S b ∨ b ∈ f1) (upd H a (.dK kvs)) (h ++ (a :: ff)) := by
  have k := split_ok ok p
  have ka : Ok (fun b => S b ∨ b ∈ f1) H (a :: ff) := k.tail
  have nS : ¬ (S a ∨ a ∈ f1) := ka.ns a (List.mem_cons_self ..)
  have nf : a ∉ ff := (List.nodup_cons.mp ka.nd).1
  have hg : a ∈ G := p.mem_iff.mpr (List.mem_append_left _ (List.mem_append_right _ (List.mem_cons_self ..)))
  refine ⟨⟨fun b o e hb => by rw [upd_ne fun z => hb (by rw [z]; exact hg)]; exact e, fun _ => .inl, fun b hb => .inl (p.mem_iff.mpr (List.mem_append_left _ hb)), fun b hb => hb.imp id fun z => .inl (p.mem_iff.mpr (List.mem_append_right _ z))⟩, ?_, k.wr trivial (by rw [ha]; simp)⟩
  exact .dk1 upd_same (r.wr (by rw [ha]; trivial) nS nf)
end
section
variable {ct : Str → Addr} {X : Cx} {a b : Expr} {ga gb : M} {pos : Pos}
theorem s_dnew : SE ct X (.Dict [] [] pos) dnew := ⟨fun W tk => ⟨_, pe_dnewK, fun S F H σ ρ Q E ok G => fun p hp =>
  G (.ref p) S F _ [p] ⟨same_upd hp, fun _ z => z, fun _ => .inl, rfl, by simp [hp]⟩ (by rw [VOk.own]; exact .dk1 (ds := []) upd_same (.nil _)) (E.same (same_upd hp)) (new_okp ok hp trivial)⟩⟩
theorem s_dget {k : Nat} (hr : Room k X.A) (ha : SE ct X a ga) (hb : SE ct X b gb) (hs : NoSl b) : SE ct X (.Subscript a b pos) (two ga gb kIxD) := run_two ha hb (fun pa pb => pe_dget (by have := units_of hr; omega) pa pb hs) kIxD_op
theorem op_dIn (hu : X.A.units + 1 < cLine) : OpR X (compareOp .In) rInDc := fun pins s σ H x y v u Q I rx ry h => by
  obtain ⟨a, o, rfl, g, q⟩ := h
  obtain rfl : u = Value.ref a := ry
  exact d_in hu I g rx fun s3 I3 => ⟨.bl o.isSome, H, I3, rfl, q⟩
theorem op_dNotIn (hu : X.A.units + 1 < cLine) : OpR X (compareOp .NotIn) rNotInDc := fun pins s σ H x y v u Q I rx ry h => by
  obtain ⟨a, o, rfl, g, q⟩ := h
  obtain rfl : u = Value.ref a := ry
  exact d_notIn hu I g rx fun s3 I3 => ⟨.bl (!o.isSome), H, I3, rfl, q⟩
theorem s_din {k : Nat} (hr : Room k X.A) (ha : SE ct X a ga) (hb : SE ct X b gb) (hm : behindInMarks .In b = false := by with_unfolding_all rfl) : SE ct X (.Compare a [.In] [b] pos) (two ga gb kInD) := s_cmp (op_dIn (by have := units_of hr; omega)) kInD_op hm ha hb
theorem s_dnotin {k : Nat} (hr : Room k X.A) (ha : SE ct X a ga) (hb : SE ct X b gb) (hm : behindInMarks .NotIn b = false := by with_unfolding_all rfl) : SE ct X (.Compare a [.NotIn] [b] pos) (two ga gb kNotInD) := s_cmp (op_dNotIn (by have := units_of hr; omega)) kNotInD_op hm ha hb
theorem t_din {k : Nat} (hr : Room k X.A) (ha : SE ct X a ga) (hb : SE ct X b gb) (hm : behindInMarks .In b = false := by with_unfolding_all rfl) : ST ct X (.Compare a [.In] [b] pos) (tst (two ga gb kInD) blOf) := t_cmp (op_dIn (by have := units_of hr; omega)) kInD_op hm ha hb
theorem t_dnotin {k : Nat} (hr : Room k X.A) (ha : SE ct X a ga) (hb : SE ct X b gb) (hm : behindInMarks .NotIn b = false := by with_unfolding_all rfl) : ST ct X (.Compare a [.NotIn] [b] pos) (tst (two ga gb kNotInD) blOf) := t_cmp (op_dNotIn (by have := units_of hr; omega)) kNotInD_op hm ha hb
end
section
variable {K : PySem.W.Frag} {S S' : Addr → Prop} {H : Hp}
theorem any_zip {k : Key} : ∀ {kvs : List (Key × V)} {ds : List D}, kvs.length = ds.length → (dzip kvs ds).any (fun p => p.1.same (kD k)) = kvs.any fun kv => decide (kv.1 = k)
  | [], [], _ => rfl
  | [], _ :: _, h => by simp at h
  | _ :: _, [], h => by simp at h
  | p :: kvs, d' :: ds, h => by
    have := any_zip (k := k) (kvs := kvs) (ds := ds) (by simpa using h)
    unfold dzip at this ⊢
    rw [List.map_cons, List.zip_cons_cons, List.any_cons, this, List.any_cons, same_kD]
theorem put_imm {k : Key} {v : V} {d : D} {m : Nat} (hd : ∀ S H, Rp K S H m v d []) : ∀ {kvs : List (Key × V)} {ds : List D} {f : List Addr}, RpAll K S H m (kvs.map (·.2)) ds f →
    ∃ f1 f2, f.Perm (f1 ++ f2) ∧ RpAll K S H m ((kvs.map fun kv => if kv.1 = k then (kv.1, v) else kv).map (·.2)) ((kvs.zip ds).map fun q => if q.1.1 = k then d else q.2) f1
  | [], ds, f, h => by
    cases h
    exact ⟨[], [], .refl _, .nil _⟩
  | p :: kvs, ds, f, h => by
    cases h with
    | cons h1 h2 =>
      rename_i d' fa ds' g
      obtain ⟨f1, f2, pp, r⟩ := put_imm hd h2
      by_cases e : p.1 = k
      · refine ⟨f1, fa ++ f2, ?_, ?_⟩
        · exact (List.Perm.append_left _ pp).trans perm_mid
        · rw [List.map_cons, List.map_cons, List.zip_cons_cons, List.map_cons]
          simp only [e, if_true]
          exact RpAll.cons (f := []) (hd S H) r
      · refine ⟨fa ++ f1, f2, ?_, ?_⟩
        · rw [List.append_assoc]
          exact List.Perm.append_left _ pp
        · rw [List.map_cons, List.map_cons, List.zip_cons_cons, List.map_cons]
          simp only [e, if_false]
          exact RpAll.cons h1 r
theorem put_ok {a : Addr} {f f0 : List Addr} {kvs : List (Key × V)} {ds : List D} {m n : Nat} {v : V} {d : D} {k : Key} (ha : H a = some (.dK kvs)) (ok : Ok S H (f ++ (a :: f0))) (r : RpAll K S H m (kvs.map (·.2)) ds f0) (h : Rp K S H n v d f)
    (hk : d.imm = true ∨ ((dzip kvs ds).any fun p => p.1.same (kD k)) = false) :
    ∃ S' ff, Step S (f ++ (a :: f0)) H S' (a :: ff) (upd H a (.dK (putK kvs k v))) ∧ Rp K S' (upd H a (.dK (putK kvs k v))) ((if d.imm = true then m else min m n) + 1) (.ref a) (.dic false (dPut (dzip kvs ds) (kD k) d)) (a :: ff) ∧ Ok S' (upd H a (.dK (putK kvs k v))) (a :: ff) := by
  have hl : kvs.length = ds.length := by have := r.length; rwa [List.length_map] at this
  rw [dput_zip (w := v) hl]
  rw [any_zip hl] at hk
  by_cases c : (kvs.any fun kv => decide (kv.1 = k)) = true
  · have hi : d.imm = true := hk.resolve_right (by rw [c]; simp)
    rw [if_pos c, if_pos hi]
    obtain ⟨rfl, hd⟩ := h.imm hi
    obtain ⟨f1, f2, pp, r2⟩ := put_imm (k := k) (v := v) (d := d) (fun S H => hd S H m) r
    have e : putK kvs k v = kvs.map fun kv => if kv.1 = k then (kv.1, v) else kv := by unfold putK; rw [if_pos c]
    rw [← e] at r2
    obtain ⟨w1, w2, w3⟩ := write_okD (h := []) (f1 := f2) ha ok (by
      show (a :: f0).Perm (a :: f1 ++ f2)
      exact List.Perm.cons a pp) (r2.more fun b => Or.inl)
    exact ⟨_, _, w1, w2, w3⟩
  · rw [if_neg c]
    obtain ⟨ff, gg, fx, p, r1, r2⟩ := r.meet h
    have e : putK kvs k v = kvs ++ [(k, v)] := by unfold putK; rw [if_neg c]
    have r3 : RpAll K (fun b => S b ∨ b ∈ fx) H (if d.imm = true then m else min m n) ((putK kvs k v).map (·.2)) (ds ++ [d]) (ff ++ (gg ++ [])) := by
      rw [e, List.map_append]
      exact RpAll.append r1 (.cons r2 (.nil _))
    rw [List.append_nil] at r3
    obtain ⟨w1, w2, w3⟩ := write_okD (h := []) ha ok (by
      show (f ++ (a :: f0)).Perm (a :: (ff ++ gg) ++ fx)
      exact List.perm_append_comm.trans (List.Perm.cons a p)) r3
    exact ⟨_, _, w1, w2, w3⟩
end
section
variable {ct : Str → Addr} {lent : List Bool} {X : Cx} {b : Expr} {gb : M} {pos p : Pos}
theorem sg_dset {k0 : Nat} (hr : Room k0 X.A) {i : Nat} {x : Str} (hb : SE ct X b gb) (hN : X.N[i]? = some x := by rfl) (hv : Vis X.env.scope x := by first | exact Or.inl rfl | exact Or.inr (Or.inl rfl) | exact Or.inr (Or.inr rfl)) (hd : (x == ("__debug__" : Str)) = false := by decide)
    (hcd : (x == ("__classdict__" : Str)) = false := by decide)
    (ha : ∀ v, assign (.Subscript (.Name x p) b pos) X.env v = (do
      let ov ← holding [v] (eval (.Name x p) X.env)
      let iv ← holding [v, ov] (eval b X.env)
      standAt pos
      holding [v, ov, iv] (setItem ov iv v)
      release [v, ov, iv] []) := by intro _; rfl) : SG ct lent X (.Subscript (.Name x p) b pos) (gsetD i gb) := by
  refine ⟨fun W tk => ?_⟩
  obtain ⟨tb, pb, rb⟩ := hb.run W tk
  refine ⟨_, pg_sub (pv i hN hv hd hcd) pb (set_dict (by have := units_of hr; omega)) ha, fun S F H σ ρ xx v f D Q h E ok q G => ?_⟩
  unfold gsetD at G
  cases q0 : look ρ i with
  | none => rw [q0] at G; exact G.elim
  | some pv0 =>
    obtain ⟨m0, d0⟩ := pv0
    obtain ⟨v0, f0', G0, h1, hz0⟩ := E.take q0
    refine ⟨v0, h1, rb S F H σ ρ _ E ok.tail ?_⟩
    rw [q0] at G
    cases qb : gb ρ with
    | no => rw [qb] at G; exact G
    | ex ee ρ1 =>
      rw [qb] at G
      exact fun C d S' F' H' st E' o' hx => G C d σ S' F' H' (st.wide (fun b hb => List.mem_append_right _ hb) fun b hb => .inl hb) E' o' Kp.refl hx
    | ok y o =>
      rw [qb] at G
      intro w S1 F1 H1 g t1 hy E1 k1
      replace G : GoodS X.K ct lent W D S (f ++ F) H σ (match look (now o ρ) i with
        | some (m + 1, .dic false l) => if xx.stable = true ∧ isKey y.d = true ∧ l.length < lim ∧ (xx.d.imm = true ∨ (l.any fun p => p.1.same y.d) = false) then .nx (Vs.put (now o ρ) i (some ((if xx.d.imm = true then m else min m xx.m) + 1, .dic false (dPut l y.d xx.d)))) else .no
        | _ => .no) := G
      split at G
      · rename_i _ m l ql
        split at G
        · rename_i c
          obtain ⟨hs, c2, c3, c4⟩ := c
          obtain ⟨k, hk⟩ := key_of c2
          obtain ⟨rfl, rfl⟩ := hy.key hk
          rw [hk] at G c4
          have hx := (h.step (t1.step.less fun b hb => hb) ok.tail ok.apart hs).stab hs
          obtain ⟨v1, f1, G1, h1', h2, pf, E2⟩ := E1.take ql
          rw [h1] at h1'
          cases h1'
          have k1 : Ok S1 H1 F1 := k1
          have st1 : Step S F H S1 F1 H1 := t1.step
          obtain ⟨aa, kvs, ds, ff0, rfl, rfl, hq, r, z1, z2⟩ := h2.dicK
          obtain ⟨ha, rfl⟩ := z2 (by omega)
          replace r : RpAll X.K S1 H1 m (kvs.map (·.2)) ds ff0 := r
          have k2 : Ok S1 H1 (f ++ ((aa :: ff0) ++ G1)) := (Ok.join st1 ok k1).perm (List.Perm.append_left _ pf)
          have k3 : Ok S1 H1 ((f ++ (aa :: ff0)) ++ G1) := by rw [List.append_assoc]; exact k2
          have hl : kvs.length = ds.length := by have := r.length; rwa [List.length_map] at this
          obtain ⟨S2, ff, w1, w2, w3⟩ := put_ok (k := k) ha k3.head r hx c4
          refine ⟨aa, _, rfl, DPut.k ha ?_, q _ _ ?_⟩
          · have : (dzip kvs ds).length = kvs.length := by unfold dzip; rw [List.length_zip, List.length_map, ← hl, Nat.min_self]
            rw [this, Vs.lim_eq] at c3
            exact c3
          have E3 : EnvRp X.K S2 _ σ (Vs.put (now o ρ) i none) G1 := E2.step w1 k3.head fun b hb z => k3.apart b z hb
          have k4 : Ok S2 _ (G1 ++ (aa :: ff)) := Ok.join w1 (k3.perm List.perm_append_comm) w3
          have st2 : Step S (f ++ F) H S1 (f ++ F1) H1 := st1.wide (fun b hb => List.mem_append_right _ hb) fun b hb => (List.mem_append.mp hb).elim (fun z => .inr (List.mem_append_left _ z)) .inl
          refine G σ S2 ((aa :: ff) ++ G1) _ (st2.trans (w1.wide (fun b hb => ?_) fun b hb => ?_)) (E3.back h1 w2) (k4.perm List.perm_append_comm) Kp.refl
          · rcases List.mem_append.mp hb with z | z
            · exact List.mem_append_left _ z
            · exact List.mem_append_right _ (pf.mem_iff.mpr (List.mem_append_left _ z))
          · rcases List.mem_append.mp hb with z | z
            · exact .inl z
            · exact .inr (List.mem_append_right _ (pf.mem_iff.mpr (List.mem_append_right _ z)))
        · exact G.elim
      · exact G.elim
end
section
variable {ct : Str → Addr} {X : Cx} {a b : Expr} {ga gb : M} {pos : Pos}
theorem s_ddisp (ha : SE ct X a ga) (hb : SE ct X b gb) : SE ct X (.Dict [some a] [b] pos) (ddisp ga gb) := by
  refine ⟨fun W tk => ?_⟩
  obtain ⟨ta, pa, ra⟩ := ha.run W tk
  obtain ⟨tb, pb, rb⟩ := hb.run W tk
  refine ⟨_, pe_disp (pps_cons pa pb pps_nil) rfl rfl (by simp) (by simp), fun S F H σ ρ Q E ok G => fun p hp => ?_⟩
  have sm : Same H (upd H p (.dK [])) := same_upd hp
  unfold ddisp at G
  cases qa : ga ρ with
  | no => rw [qa] at G; exact G.elim
  | ex x ρ1 => rw [qa] at G; exact G.elim
  | ok x o =>
    cases o with
    | some _ => rw [qa] at G; exact G.elim
    | none =>
      cases qb : gb ρ with
      | no => rw [qa, qb] at G; exact G.elim
      | ex y ρ1 => rw [qa, qb] at G; exact G.elim
      | ok y o =>
        cases o with
        | some _ => rw [qa, qb] at G; exact G.elim
        | none =>
          rw [qa, qb] at G
          simp only at G
          split at G
          · rename_i c
            obtain ⟨k, hk⟩ := key_of c.1
            refine ra S F _ σ ρ _ (E.same sm) (ok.same sm) ?_
            rw [qa]
            intro u S1 F1 H1 f1 t1 h1 E1 k1
            obtain ⟨sm1, u1, u2, hF1, n1⟩ := t1
            rw [hF1] at E1 k1
            obtain ⟨rfl, rfl⟩ := h1.key hk
            refine rb S1 F H1 σ ρ _ E1 k1.tail ?_
            rw [qb]
            intro w S2 F2 H2 f2 t2 h2 E2 k2
            obtain ⟨sm2, u3, u4, hF2, n2⟩ := t2
            rw [hF2] at E2 k2
            have hp2 : H2 p = some (.dK []) := sm2 _ _ (sm1 _ _ upd_same)
            have h2 := h2.stab c.2
            refine ⟨hp2, [(k, w)], rfl, by simp, ?_⟩
            have e : mergeK [] [(k, w)] = [(k, w)] := rfl
            rw [e]
            have np2 : p ∉ f2 := fun z => by
              have := n2 p z
              rw [sm1 _ _ upd_same] at this
              cases this
            have nF : p ∉ F := fun z => ok.mem z hp
            have nS : ¬ S2 p := fun z => by
              rcases u4 p z with z | z
              · rcases u2 p z with z | z
                · exact ok.tr p z hp
                · rw [upd_same] at z; cases z
              · rw [sm1 _ _ upd_same] at z; cases z
            have k3 : Ok S2 H2 (p :: (f2 ++ F)) := by
              refine ⟨List.nodup_cons.mpr ⟨fun z => ?_, k2.nd⟩, fun b hb => ?_, fun b hb => ?_, k2.tr⟩
              · rcases List.mem_append.mp z with z | z
                · exact np2 z
                · exact nF z
              · rcases List.mem_cons.mp hb with rfl | z
                · rw [hp2]; trivial
                · exact k2.mu b z
              · rcases List.mem_cons.mp hb with rfl | z
                · exact nS
                · exact k2.ns b z
            have k4 : Ok S2 H2 (p :: f2) := by
              have : Ok S2 H2 ((p :: f2) ++ F) := k3
              exact this.head
            have hy : ∃ n, RpAll X.K S2 H2 n ([(k, w)].map (·.2)) [y.d] f2 ∧ n = (if y.d.imm = true then 0 else y.m) := by
              by_cases hi : y.d.imm = true
              · obtain ⟨rfl, q⟩ := h2.imm hi
                exact ⟨0, .cons (f := []) (q _ _ _) (.nil _), by rw [if_pos hi]⟩
              · exact ⟨y.m, by simpa using RpAll.cons h2 (.nil _), by rw [if_neg hi]⟩
            obtain ⟨n, hy, hn⟩ := hy
            rw [← hn] at G
            obtain ⟨w1, w2, w3⟩ := write_okD (G := (p :: f2) ++ F) (h := F) (f1 := []) hp2 k3 (by
              rw [List.append_nil]
              exact List.perm_append_comm) (hy.more fun b => Or.inl)
            have same2 : ∀ b o, H b = some o → (upd H2 p (.dK [(k, w)])) b = some o := fun b o q => by
              rw [upd_ne (by intro z; subst z; rw [hp] at q; cases q)]
              exact sm2 _ _ (sm1 _ _ (sm b o q))
            have noneH : ∀ b, (upd H p (.dK [])) b = none → H b = none := fun b q => by
              cases z : H b with
              | none => rfl
              | some o => rw [sm b o z] at q; cases q
            have noneH1 : ∀ b, H1 b = none → H b = none := fun b q => by
              cases z : H b with
              | none => rfl
              | some o => rw [sm1 _ _ (sm b o z)] at q; cases q
            refine G (.ref p) (fun b => S2 b ∨ b ∈ ([] : List Addr)) F _ (p :: f2) ⟨same2, fun b hb => .inl (u3 b (u1 b hb)), fun b hb => ?_, rfl, fun b hb => ?_⟩ (by rw [VOk.own, hk]; exact w2) ?_ ?_
            · rcases hb with hb | hb
              · rcases u4 b hb with z | z
                · rcases u2 b z with z | z
                  · exact .inl z
                  · exact .inr (noneH b z)
                · exact .inr (noneH1 b z)
              · cases hb
            · rcases List.mem_cons.mp hb with rfl | z
              · exact hp
              · exact noneH1 b (n2 b z)
            · show EnvRp X.K _ _ σ ρ F
              exact E2.step (w1.less (F'' := []) (by simp) |> fun _ => (⟨fun b o e hb => by rw [upd_ne (by intro z; subst z; exact hb (List.mem_cons_self ..))]; exact e, fun b => Or.inl, fun b hb => .inl hb, fun b hb => hb.elim .inl fun z => by cases z⟩ : Step S2 [p] H2 (fun b => S2 b ∨ b ∈ ([] : List Addr)) [p] _)) ⟨by simp, fun b hb => by rw [List.mem_singleton.mp hb, hp2]; trivial, fun b hb => by rw [List.mem_singleton.mp hb]; exact nS, k2.tr⟩ fun b hb z => nF (by rw [← List.mem_singleton.mp z]; exact hb)
            · exact w3.perm List.perm_append_comm
          · exact G.elim
end
end Vs
set_option maxHeartbeats 4000000
/-! Vs: dicts with tuples of numbers and texts as keys. -/
namespace Vs
open PySem PySem.Spec PyProof.Rows L2
theorem sameAll_kD : ∀ {a b : List Key}, sameAll (a.map kD) (b.map kD) = decide (a = b)
  | [], [] => by simp [sameAll]
  | [], _ :: _ => by simp [sameAll]
  | _ :: _, [] => by simp [sameAll]
  | x :: a, y :: b => by
    rw [List.map_cons, List.map_cons, sameAll, same_kD, sameAll_kD]
    by_cases e : x = y <;> by_cases e' : a = b <;> simp [e, e']
theorem same_tD {a b : List Key} : D.same (tD a) (tD b) = decide (a = b) := by
  unfold tD
  rw [D.same]
  exact sameAll_kD
/-- what a dict's keys and values are, as a list -/
abbrev tzip (kvs : List (List Key × V)) (ds : List D) : List (D × D) := (kvs.map fun p => tD p.1).zip ds
theorem tlook_zip {k : List Key} : ∀ {kvs : List (List Key × V)} {ds : List D}, kvs.length = ds.length →
    (dLook (tzip kvs ds) (tD k) = none ∧ valV kvs k = none) ∨ ∃ (i : Nat) (w : V) (d : D), dLook (tzip kvs ds) (tD k) = some d ∧ valV kvs k = some w ∧ (kvs.map (·.2))[i]? = some w ∧ ds[i]? = some d
  | [], [], _ => .inl ⟨rfl, rfl⟩
  | [], _ :: _, h => by simp at h
  | _ :: _, [], h => by simp at h
  | (k', w) :: kvs, d :: ds, h => by
    have h' : kvs.length = ds.length := by simpa using h
    by_cases e : k' = k
    · refine .inr ⟨0, w, d, ?_, valV_pos e, rfl, rfl⟩
      unfold dLook tzip
      simp [List.find?_cons, same_tD, e]
    · have e1 : dLook (tzip ((k', w) :: kvs) (d :: ds)) (tD k) = dLook (tzip kvs ds) (tD k) := by
        unfold dLook tzip
        simp [List.find?_cons, same_tD, e]
      rcases tlook_zip (k := k) h' with ⟨a, b⟩ | ⟨i, w', d', a, b, c, c'⟩
      · exact .inl ⟨e1.trans a, (valV_neg e).trans b⟩
      · exact .inr ⟨i + 1, w', d', e1.trans a, (valV_neg e).trans b, by simpa using c, by simpa using c'⟩
theorem tput_zip {k : List Key} {w : V} {d : D} : ∀ {kvs : List (List Key × V)} {ds : List D}, kvs.length = ds.length →
    dPut (tzip kvs ds) (tD k) d = (if (kvs.any fun kv => decide (kv.1 = k)) = true then tzip (putK kvs k w) ((kvs.zip ds).map fun q => if q.1.1 = k then d else q.2) else tzip (putK kvs k w) (ds ++ [d])) := by
  intro kvs ds h
  have e0 : (tzip kvs ds).any (fun p => p.1.same (tD k)) = kvs.any fun kv => decide (kv.1 = k) := by
    induction kvs generalizing ds with
    | nil => cases ds <;> rfl
    | cons p kvs ih =>
      cases ds with
      | nil => simp at h
      | cons d' ds =>
        have := ih (ds := ds) (by simpa using h)
        unfold tzip at this ⊢
        rw [List.map_cons, List.zip_cons_cons, List.any_cons, this, List.any_cons, same_tD]
  unfold dPut putK
  rw [e0]
  by_cases c : (kvs.any fun kv => decide (kv.1 = k)) = true
  · rw [if_pos c, if_pos c, if_pos c]
    clear c e0
    induction kvs generalizing ds with
    | nil => cases ds <;> rfl
    | cons p kvs ih =>
      cases ds with
      | nil => simp at h
      | cons d' ds =>
        have := ih (ds := ds) (by simpa using h)
        unfold tzip at this ⊢
        rw [List.map_cons, List.zip_cons_cons, List.map_cons, this, List.map_cons, List.map_cons, List.zip_cons_cons, List.map_cons, List.zip_cons_cons, same_tD]
        by_cases e : p.1 = k
        · simp [e]
        · simp [e]
  · rw [if_neg c, if_neg c, if_neg c]
    unfold tzip
    rw [List.map_append, List.zip_append (by simpa using h)]
    rfl
section
variable {K : PySem.W.Frag} {S S' : Addr → Prop} {H : Hp}
theorem Rp.dicT {m : Nat} {v : V} {l : List (D × D)} {g : List Addr} (h : Rp K S H m v (.dic true l) g) :
    ∃ (a : Addr) (kvs : List (List Key × V)) (ds : List D) (g' : List Addr), v = .ref a ∧ l = tzip kvs ds ∧ H a = some (.dT kvs) ∧ RpAll K S H (m - 1) (kvs.map (·.2)) ds g' ∧ (m = 0 → g = [] ∧ g' = []) ∧ (m ≠ 0 → g = a :: g') := by
  generalize hd : D.dic true l = d at h
  cases h with
  | dk0 q s r => cases (D.dic.inj hd).1
  | dk1 q r => cases (D.dic.inj hd).1
  | dt0 q s r =>
    obtain ⟨_, rfl⟩ := D.dic.inj hd
    exact ⟨_, _, _, _, rfl, rfl, q, r, fun _ => ⟨rfl, rfl⟩, fun z => absurd rfl z⟩
  | dt1 q r =>
    obtain ⟨_, rfl⟩ := D.dic.inj hd
    exact ⟨_, _, _, _, rfl, rfl, q, r, fun z => (nomatch z), fun _ => rfl⟩
  | _ => cases hd
theorem RpAll.keys {m : Nat} : ∀ {xs : List V} {ds : List D} {f : List Addr}, RpAll K S H m xs ds f → ds.all isKey = true → ∃ k : List Key, xs = k.map kV ∧ ds = k.map kD ∧ f = []
  | _, _, _, .nil _, _ => ⟨[], rfl, rfl, rfl⟩
  | _, _, _, .cons (d := d) h t, e => by
    rw [List.all_cons, Bool.and_eq_true] at e
    obtain ⟨k, rfl, rfl, rfl⟩ := RpAll.keys t e.2
    obtain ⟨k0, rfl⟩ := key_of e.1
    cases k0 with
    | inl i => cases h; exact ⟨.inl i :: k, rfl, rfl, rfl⟩
    | inr z => cases h; exact ⟨.inr z :: k, rfl, rfl, rfl⟩
theorem VOk.keyT {y : VV} {u : V} {g : List Addr} (h : VOk K S H y u g) (e : isKeyT y = true) : ∃ (b : Addr) (k : List Key), y.d = tD k ∧ u = .ref b ∧ H b = some (.tup (k.map kV)) ∧ g = [] := by
  obtain ⟨yb, m, d⟩ := y
  unfold isKeyT at e
  rw [Bool.and_eq_true, Bool.and_eq_true] at e
  obtain ⟨⟨e1, e2⟩, e3⟩ := e
  have e1 : yb = false := by simpa using e1
  subst e1
  have e2 : 0 < m := by simpa using e2
  rw [VOk.own] at h
  cases d with
  | tup ds =>
    cases h with
    | tup0 _ _ => simp at e2
    | tup1 ha r =>
      obtain ⟨k, rfl, rfl, rfl⟩ := r.keys e3
      exact ⟨_, k, rfl, rfl, ha, rfl⟩
  | _ => cases e3
theorem kIxT_op : Op2 K rGetD kIxT := fun S H x v f y u g z Q h1 h2 ok e hQ => by
  unfold kIxT at e
  split at e
  · rename_i l el
    split at e
    · rename_i c
      obtain ⟨bk, k, hk, rfl, hbk, rfl⟩ := h2.keyT c.2
      rw [hk] at e
      obtain ⟨gx, hr⟩ := h1.rp
      rw [el] at hr
      obtain ⟨a, kvs, ds, g', rfl, rfl, hq, ra, z1, z2⟩ := hr.dicT
      have hl : kvs.length = ds.length := by have := ra.length; rwa [List.length_map] at this
      rcases tlook_zip (k := k) hl with ⟨e1, _⟩ | ⟨i, w, d, e1, e2, e3, e4⟩
      · rw [e1] at e; cases e
      · rw [e1] at e
        obtain rfl := Option.some.inj e
        refine ⟨a, w, rfl, .inr ⟨kvs, k, bk, .inl hq, rfl, hbk, e2.symm⟩, ?_⟩
        obtain ⟨w', g1, gw, g2, f1, f2, f3, _⟩ := ra.at e4
        rw [e3] at f1
        cases f1
        refine hQ w H S [] ⟨Same.refl _, fun _ z => z, fun _ => .inl, by simp⟩ ?_ ok.nil
        obtain ⟨xb, xm, xd⟩ := x
        by_cases hm : xm - 1 = 0
        · rw [show sub ⟨xb, xm, xd⟩ d = ⟨false, 0, d⟩ by unfold sub; simp [hm]]
          rw [VOk.own]
          replace f3 : Rp K S H (xm - 1) w d gw := f3
          rw [hm] at f3
          have := f3.own0
          subst this
          exact f3
        · have hb : xb = true := c.1.resolve_right (by show ¬ xm = 0; omega)
          subst hb
          rw [show sub ⟨true, xm, xd⟩ d = ⟨true, xm - 1, d⟩ by unfold sub; simp [hm]]
          rw [VOk.bor]
          exact ⟨rfl, gw, f3⟩
    · cases e
  · cases e
theorem dic_hasT {y : VV} {u : V} {g : List Addr} {l : List (D × D)} {k : List Key} {b : Addr} (h : VOk K S H y u g) (e : y.d = .dic true l) (hb : H b = some (.tup (k.map kV))) : ∃ a o, u = V.ref a ∧ DGet H a (.ref b) o ∧ o.isSome = (dLook l (tD k)).isSome := by
  obtain ⟨gx, hr⟩ := h.rp
  rw [e] at hr
  obtain ⟨a, kvs, ds, g', rfl, rfl, hq, ra, z1, z2⟩ := hr.dicT
  have hl : kvs.length = ds.length := by have := ra.length; rwa [List.length_map] at this
  refine ⟨a, valV kvs k, rfl, .inr ⟨kvs, k, b, .inl hq, rfl, hb, rfl⟩, ?_⟩
  rcases tlook_zip (k := k) hl with ⟨e1, e2⟩ | ⟨i, w, d, e1, e2, _⟩
  · rw [e1, e2]; rfl
  · rw [e1, e2]; rfl
theorem kInT_op : Op2 K rInDc kInT := fun S H x v f y u g z Q h1 h2 ok e hQ => by
  unfold kInT at e
  split at e
  · rename_i l el
    split at e
    · rename_i c
      obtain rfl := Option.some.inj e
      obtain ⟨bk, k, hk, rfl, hbk, rfl⟩ := h1.keyT c
      obtain ⟨a, o, rfl, d, q⟩ := dic_hasT (k := k) h2 el hbk
      rw [hk, ← q] at hQ
      exact ⟨a, o, rfl, d, ret_imm ok rfl (.bl _ _) hQ⟩
    · cases e
  · cases e
theorem kNotInT_op : Op2 K rNotInDc kNotInT := fun S H x v f y u g z Q h1 h2 ok e hQ => by
  unfold kNotInT at e
  split at e
  · rename_i l el
    split at e
    · rename_i c
      obtain rfl := Option.some.inj e
      obtain ⟨bk, k, hk, rfl, hbk, rfl⟩ := h1.keyT c
      obtain ⟨a, o, rfl, d, q⟩ := dic_hasT (k := k) h2 el hbk
      rw [hk, ← q] at hQ
      exact ⟨a, o, rfl, d, ret_imm ok rfl (.bl _ _) hQ⟩
    · cases e
  · cases e
/-- an item is put into a dict of a slot -/
theorem write_okT {a : Addr} {f1 ff h G : List Addr} {kvs : List (List Key × V)} {ds : List D} {n : Nat} {zs : List (List Key × V)} (ha : H a = some (.dT zs)) (ok : Ok S H G) (p : G.Perm ((h ++ (a :: ff)) ++ f1)) (r : RpAll K (fun b => S b ∨ b ∈ f1) H n (kvs.map (·.2)) ds ff) :
    Step S G H (fun b => S b ∨ b ∈ f1) (h ++ (a :: ff)) (upd H a (.dT kvs)) ∧ Rp K (fun b => S b ∨ b ∈ f1) (upd H a (.dT kvs)) (n + 1) (.ref a) (.dic true (tzip kvs ds)) (a :: ff) ∧ Ok (fun b => S b ∨ b ∈ f1) (upd H a (.dT kvs)) (h ++ (a :: ff)) := by
  have k := split_ok ok p
  have ka : Ok (fun b => S b ∨ b ∈ f1) H (a :: ff) := k.tail
  have nS : ¬ (S a ∨ a ∈ f1) := ka.ns a (List.mem_cons_self ..)
  have nf : a ∉ ff := (List.nodup_cons.mp ka.nd).1
  have hg : a ∈ G := p.mem_iff.mpr (List.mem_append_left _ (List.mem_append_right _ (List.mem_cons_self ..)))
  refine ⟨⟨fun b o e hb => by rw [upd_ne fun z => hb (by rw [z]; exact hg)]; exact e, fun _ => .inl, fun b hb => .inl (p.mem_iff.mpr (List.mem_append_left _ hb)), fun b hb => hb.imp id fun z => .inl (p.mem_iff.mpr (List.mem_append_right _ z))⟩, ?_, k.wr trivial (by rw [ha]; simp)⟩
  exact .dt1 upd_same (r.wr (by rw [ha]; trivial) nS nf)
end
section
variable {ct : Str → Addr} {X : Cx} {a b : Expr} {ga gb : M} {pos : Pos}
theorem s_dnewT : SE ct X (.Dict [] [] pos) dnewT := ⟨fun W tk => ⟨_, pe_dnewT, fun S F H σ ρ Q E ok G => fun p hp =>
  G (.ref p) S F _ [p] ⟨same_upd hp, fun _ z => z, fun _ => .inl, rfl, by simp [hp]⟩ (by rw [VOk.own]; exact .dt1 (ds := []) upd_same (.nil _)) (E.same (same_upd hp)) (new_okp ok hp trivial)⟩⟩
theorem s_tget {k : Nat} (hr : Room k X.A) (ha : SE ct X a ga) (hb : SE ct X b gb) (hs : NoSl b) : SE ct X (.Subscript a b pos) (two ga gb kIxT) := run_two ha hb (fun pa pb => pe_dget (by have := units_of hr; omega) pa pb hs) kIxT_op
theorem s_tin {k : Nat} (hr : Room k X.A) (ha : SE ct X a ga) (hb : SE ct X b gb) (hm : behindInMarks .In b = false := by with_unfolding_all rfl) : SE ct X (.Compare a [.In] [b] pos) (two ga gb kInT) := s_cmp (op_dIn (by have := units_of hr; omega)) kInT_op hm ha hb
theorem s_tnotin {k : Nat} (hr : Room k X.A) (ha : SE ct X a ga) (hb : SE ct X b gb) (hm : behindInMarks .NotIn b = false := by with_unfolding_all rfl) : SE ct X (.Compare a [.NotIn] [b] pos) (two ga gb kNotInT) := s_cmp (op_dNotIn (by have := units_of hr; omega)) kNotInT_op hm ha hb
theorem t_tin {k : Nat} (hr : Room k X.A) (ha : SE ct X a ga) (hb : SE ct X b gb) (hm : behindInMarks .In b = false := by with_unfolding_all rfl) : ST ct X (.Compare a [.In] [b] pos) (tst (two ga gb kInT) blOf) := t_cmp (op_dIn (by have := units_of hr; omega)) kInT_op hm ha hb
theorem t_tnotin {k : Nat} (hr : Room k X.A) (ha : SE ct X a ga) (hb : SE ct X b gb) (hm : behindInMarks .NotIn b = false := by with_unfolding_all rfl) : ST ct X (.Compare a [.NotIn] [b] pos) (tst (two ga gb kNotInT) blOf) := t_cmp (op_dNotIn (by have := units_of hr; omega)) kNotInT_op hm ha hb
end
section
variable {K : PySem.W.Frag} {S S' : Addr → Prop} {H : Hp}
theorem tany_zip {k : List Key} : ∀ {kvs : List (List Key × V)} {ds : List D}, kvs.length = ds.length → (tzip kvs ds).any (fun p => p.1.same (tD k)) = kvs.any fun kv => decide (kv.1 = k)
  | [], [], _ => rfl
  | [], _ :: _, h => by simp at h
  | _ :: _, [], h => by simp at h
  | p :: kvs, d' :: ds, h => by
    have := tany_zip (k := k) (kvs := kvs) (ds := ds) (by simpa using h)
    unfold tzip at this ⊢
    rw [List.map_cons, List.zip_cons_cons, List.any_cons, this, List.any_cons, same_tD]
theorem tput_imm {k : List Key} {v : V} {d : D} {m : Nat} (hd : ∀ S H, Rp K S H m v d []) : ∀ {kvs : List (List Key × V)} {ds : List D} {f : List Addr}, RpAll K S H m (kvs.map (·.2)) ds f →
    ∃ f1 f2, f.Perm (f1 ++ f2) ∧ RpAll K S H m ((kvs.map fun kv => if kv.1 = k then (kv.1, v) else kv).map (·.2)) ((kvs.zip ds).map fun q => if q.1.1 = k then d else q.2) f1
  | [], ds, f, h => by
    cases h
    exact ⟨[], [], .refl _, .nil _⟩
  | p :: kvs, ds, f, h => by
    cases h with
    | cons h1 h2 =>
      rename_i d' fa ds' g
      obtain ⟨f1, f2, pp, r⟩ := tput_imm hd h2
      by_cases e : p.1 = k
      · refine ⟨f1, fa ++ f2, ?_, ?_⟩
        · exact (List.Perm.append_left _ pp).trans perm_mid
        · rw [List.map_cons, List.map_cons, List.zip_cons_cons, List.map_cons]
          simp only [e, if_true]
          exact RpAll.cons (f := []) (hd S H) r
      · refine ⟨fa ++ f1, f2, ?_, ?_⟩
        · rw [List.append_assoc]
          exact List.Perm.append_left _ pp
        · rw [List.map_cons, List.map_cons, List.zip_cons_cons, List.map_cons]
          simp only [e, if_false]
          exact RpAll.cons h1 r
theorem tput_ok {a : Addr} {f f0 : List Addr} {kvs : List (List Key × V)} {ds : List D} {m n : Nat} {v : V} {d : D} {k : List Key} (ha : H a = some (.dT kvs)) (ok : Ok S H (f ++ (a :: f0))) (r : RpAll K S H m (kvs.map (·.2)) ds f0) (h : Rp K S H n v d f)
    (hk : d.imm = true ∨ ((tzip kvs ds).any fun p => p.1.same (tD k)) = false) :
    ∃ S' ff, Step S (f ++ (a :: f0)) H S' (a :: ff) (upd H a (.dT (putK kvs k v))) ∧ Rp K S' (upd H a (.dT (putK kvs k v))) ((if d.imm = true then m else min m n) + 1) (.ref a) (.dic true (dPut (tzip kvs ds) (tD k) d)) (a :: ff) ∧ Ok S' (upd H a (.dT (putK kvs k v))) (a :: ff) := by
  have hl : kvs.length = ds.length := by have := r.length; rwa [List.length_map] at this
  rw [tput_zip (w := v) hl]
  rw [tany_zip hl] at hk
  by_cases c : (kvs.any fun kv => decide (kv.1 = k)) = true
  · have hi : d.imm = true := hk.resolve_right (by rw [c]; simp)
    rw [if_pos c, if_pos hi]
    obtain ⟨rfl, hd⟩ := h.imm hi
    obtain ⟨f1, f2, pp, r2⟩ := tput_imm (k := k) (v := v) (d := d) (fun S H => hd S H m) r
    have e : putK kvs k v = kvs.map fun kv => if kv.1 = k then (kv.1, v) else kv := by unfold putK; rw [if_pos c]
    rw [← e] at r2
    obtain ⟨w1, w2, w3⟩ := write_okT (h := []) (f1 := f2) ha ok (by
      show (a :: f0).Perm (a :: f1 ++ f2)
      exact List.Perm.cons a pp) (r2.more fun b => Or.inl)
    exact ⟨_, _, w1, w2, w3⟩
  · rw [if_neg c]
    obtain ⟨ff, gg, fx, p, r1, r2⟩ := r.meet h
    have e : putK kvs k v = kvs ++ [(k, v)] := by unfold putK; rw [if_neg c]
    have r3 : RpAll K (fun b => S b ∨ b ∈ fx) H (if d.imm = true then m else min m n) ((putK kvs k v).map (·.2)) (ds ++ [d]) (ff ++ (gg ++ [])) := by
      rw [e, List.map_append]
      exact RpAll.append r1 (.cons r2 (.nil _))
    rw [List.append_nil] at r3
    obtain ⟨w1, w2, w3⟩ := write_okT (h := []) ha ok (by
      show (f ++ (a :: f0)).Perm (a :: (ff ++ gg) ++ fx)
      exact List.perm_append_comm.trans (List.Perm.cons a p)) r3
    exact ⟨_, _, w1, w2, w3⟩
end
section
variable {ct : Str → Addr} {lent : List Bool} {X : Cx} {b : Expr} {gb : M} {pos p : Pos}
theorem sg_tset {k0 : Nat} (hr : Room k0 X.A) {i : Nat} {x : Str} (hb : SE ct X b gb) (hN : X.N[i]? = some x := by rfl) (hv : Vis X.env.scope x := by first | exact Or.inl rfl | exact Or.inr (Or.inl rfl) | exact Or.inr (Or.inr rfl)) (hd : (x == ("__debug__" : Str)) = false := by decide)
    (hcd : (x == ("__classdict__" : Str)) = false := by decide)
    (ha : ∀ v, assign (.Subscript (.Name x p) b pos) X.env v = (do
      let ov ← holding [v] (eval (.Name x p) X.env)
      let iv ← holding [v, ov] (eval b X.env)
      standAt pos
      holding [v, ov, iv] (setItem ov iv v)
      release [v, ov, iv] []) := by intro _; rfl) : SG ct lent X (.Subscript (.Name x p) b pos) (gsetT i gb) := by
  refine ⟨fun W tk => ?_⟩
  obtain ⟨tb, pb, rb⟩ := hb.run W tk
  refine ⟨_, pg_sub (pv i hN hv hd hcd) pb (set_dict (by have := units_of hr; omega)) ha, fun S F H σ ρ xx v f D Q h E ok q G => ?_⟩
  unfold gsetT at G
  cases q0 : look ρ i with
  | none => rw [q0] at G; exact G.elim
  | some pv0 =>
    obtain ⟨m0, d0⟩ := pv0
    obtain ⟨v0, f0', G0, h1, hz0⟩ := E.take q0
    refine ⟨v0, h1, rb S F H σ ρ _ E ok.tail ?_⟩
    rw [q0] at G
    cases qb : gb ρ with
    | no => rw [qb] at G; exact G
    | ex ee ρ1 =>
      rw [qb] at G
      exact fun C d S' F' H' st E' o' hx => G C d σ S' F' H' (st.wide (fun b hb => List.mem_append_right _ hb) fun b hb => .inl hb) E' o' Kp.refl hx
    | ok y o =>
      rw [qb] at G
      intro w S1 F1 H1 g t1 hy E1 k1
      replace G : GoodS X.K ct lent W D S (f ++ F) H σ (match look (now o ρ) i with
        | some (m + 1, .dic true l) => if xx.stable = true ∧ isKeyT y = true ∧ l.length < lim ∧ (xx.d.imm = true ∨ (l.any fun p => p.1.same y.d) = false) then .nx (Vs.put (now o ρ) i (some ((if xx.d.imm = true then m else min m xx.m) + 1, .dic true (dPut l y.d xx.d)))) else .no
        | _ => .no) := G
      split at G
      · rename_i _ m l ql
        split at G
        · rename_i c
          obtain ⟨hs, c2, c3, c4⟩ := c
          obtain ⟨bk, k, hk, rfl, hbk, rfl⟩ := hy.keyT c2
          rw [hk] at G c4
          have hx := (h.step (t1.step.less fun b hb => hb) ok.tail ok.apart hs).stab hs
          obtain ⟨v1, f1, G1, h1', h2, pf, E2⟩ := E1.take ql
          rw [h1] at h1'
          cases h1'
          have k1 : Ok S1 H1 F1 := k1
          have st1 : Step S F H S1 F1 H1 := t1.step
          obtain ⟨aa, kvs, ds, ff0, rfl, rfl, hq, r, z1, z2⟩ := h2.dicT
          obtain rfl := z2 (by omega)
          have ha := hq
          replace r : RpAll X.K S1 H1 m (kvs.map (·.2)) ds ff0 := r
          have k2 : Ok S1 H1 (f ++ ((aa :: ff0) ++ G1)) := (Ok.join st1 ok k1).perm (List.Perm.append_left _ pf)
          have k3 : Ok S1 H1 ((f ++ (aa :: ff0)) ++ G1) := by rw [List.append_assoc]; exact k2
          have hl : kvs.length = ds.length := by have := r.length; rwa [List.length_map] at this
          obtain ⟨S2, ff, w1, w2, w3⟩ := tput_ok (k := k) ha k3.head r hx c4
          refine ⟨aa, _, rfl, DPut.t ha hbk ?_, q _ _ ?_⟩
          · have : (tzip kvs ds).length = kvs.length := by unfold tzip; rw [List.length_zip, List.length_map, ← hl, Nat.min_self]
            rw [this, Vs.lim_eq] at c3
            exact c3
          have E3 : EnvRp X.K S2 _ σ (Vs.put (now o ρ) i none) G1 := E2.step w1 k3.head fun b hb z => k3.apart b z hb
          have k4 : Ok S2 _ (G1 ++ (aa :: ff)) := Ok.join w1 (k3.perm List.perm_append_comm) w3
          have st2 : Step S (f ++ F) H S1 (f ++ F1) H1 := st1.wide (fun b hb => List.mem_append_right _ hb) fun b hb => (List.mem_append.mp hb).elim (fun z => .inr (List.mem_append_left _ z)) .inl
          refine G σ S2 ((aa :: ff) ++ G1) _ (st2.trans (w1.wide (fun b hb => ?_) fun b hb => ?_)) (E3.back h1 w2) (k4.perm List.perm_append_comm) Kp.refl
          · rcases List.mem_append.mp hb with z | z
            · exact List.mem_append_left _ z
            · exact List.mem_append_right _ (pf.mem_iff.mpr (List.mem_append_left _ z))
          · rcases List.mem_append.mp hb with z | z
            · exact .inl z
            · exact .inr (List.mem_append_right _ (pf.mem_iff.mpr (List.mem_append_right _ z)))
        · exact G.elim
      · exact G.elim
end
section
variable {K : PySem.W.Frag}
theorem kDivmod_op : OpN K (fun xs H Q => ∃ i j, xs = [V.int i, V.int j] ∧ CDiv i j ∧ ∀ p, H p = none → Q (.ref p) (upd H p (.tup [.int (i / j), .int (i % j)]))) kDivmod := fun S H xs vs f z Q h ok e hQ => by
  unfold kDivmod at e
  split at e
  · rename_i x y
    split at e
    · rename_i i j e1 e2
      split at e
      · rename_i c
        obtain rfl := Option.some.inj e
        obtain ⟨v, w, f1, f2, rfl, rfl, h1, h2⟩ := h.two
        refine ⟨i, j, by rw [h1.int e1, h2.int e2], c, fun p hp => ?_⟩
        exact ret_tup (S' := S) (g := []) ok (fun _ z => z) (fun _ => .inl) ok.nil (by simp) (RpAll.cons (f := []) (g := []) (.int 0 _) (RpAll.cons (f := []) (g := []) (.int 0 _) (.nil 0))) hQ p hp
      · cases e
    · cases e
  · cases e
end
section
variable {ct : Str → Addr} {X : Cx} {a : Expr} {ga : M} {pos : Pos}
theorem s_slcE {lo hi : Option Expr} {gl gh : Option M} {p2 : Pos} (ha : SE ct X a ga) (hl : SO ct X lo (part gl)) (hh : SO ct X hi (part gh)) : SE ct X (.Subscript a (.Slice lo hi none p2) pos) (slcE ga gl gh) := by
  refine ⟨fun W tk => ?_⟩
  obtain ⟨ta, pa, ra⟩ := ha.run W tk
  obtain ⟨tl, pl, rl⟩ := hl.run W tk
  obtain ⟨th, ph, rh⟩ := hh.run W tk
  refine ⟨_, pe_slice sl_list pa pl ph, fun S F H σ ρ Q E ok G => ra S F H σ ρ _ E ok ?_⟩
  unfold slcE at G
  refine good_bind G fun x o1 v S1 F1 H1 f _ t1 h1 E1 k1 G => ?_
  refine rl S1 F1 H1 σ _ _ E1 k1.tail ?_
  have none_of : ∀ {β : Type} {r : R (Option Int)} {kk : Option Int → R β}, (∃ a o, r = .ok a (some o)) → (r.nxt false kk) = .no := by
    rintro β r kk ⟨a, o, rfl⟩
    rfl
  cases ql : part gl (now o1 ρ) with
  | no => rw [ql] at G; exact G
  | ex x ρ1 =>
    rw [ql] at G
    intro C d S2 F2 H2 st E2 k2 hx
    exact G C d S2 F2 H2 ((t1.step.less fun b hb => List.mem_append_right _ hb).trans st) E2 k2 hx
  | ok l ol =>
    rw [ql] at G
    cases ol with
    | some _ => exact G.elim
    | none =>
      intro l' S2 F2 H2 f2 t2 hl2 E2 k2
      obtain ⟨rfl, rfl⟩ := hl2
      obtain ⟨e2, w2, w2', rfl, _⟩ := id t2
      have h2 := (h1.same e2).more w2
      have k2' : Ok S2 H2 (f ++ F2) := Ok.join (t2.step.less fun b hb => hb) k1 k2
      refine rh S2 F2 H2 σ _ _ E2 k2 ?_
      replace G : Good X.K ct (VOk X.K) W S F H σ ρ ((((part gh (now o1 ρ)).nxt x.stable fun u => .ofO (kSl x l u)).aft none).aft o1) Q := G
      rw [R.aft_none] at G
      show Good X.K ct _ W S2 F2 H2 σ (now o1 ρ) (part gh (now o1 ρ)) _
      cases qh : part gh (now o1 ρ) with
      | no => rw [qh] at G; exact G
      | ex x ρ1 =>
        rw [qh] at G
        intro C d S3 F3 H3 st E3 k3 hx
        exact G C d S3 F3 H3 ((t1.step.less fun b hb => List.mem_append_right _ hb).trans (t2.step.trans st)) E3 k3 hx
      | ok u oh =>
        rw [qh, R.nxt_ok] at G
        intro u' S3 F3 H3 f3 t3 hl3 E3 k3
        obtain ⟨rfl, rfl⟩ := hl3
        split at G
        · rename_i hs
          have h3 : VOk X.K S3 H3 x v f := by
            cases oh with
            | none =>
              obtain ⟨e3, w3, w3', rfl, _⟩ := id t3
              exact (h2.same e3).more w3
            | some _ => exact h2.step (t3.step.less fun b hb => hb) k2'.tail k2'.apart (by simpa using hs)
          have k3' : Ok S3 H3 (f ++ F3) := by
            have := Fit.both k2' t3 k3
            rwa [List.append_nil] at this
          have ea : ((R.ofO (kSl x l u)).aft oh).aft o1 = (R.ofO (kSl x l u)).aft (Vs.thn o1 oh) := aft_aft _ _ _
          rw [ea] at G
          have t13 : Fit (Vs.thn o1 oh) S F H S3 F3 f H3 := by
            have a1 := t1.thn k1 (o' := none) t2 (h := f) (fun b hb => .inl hb) (Same.refl _)
            have a2 := a1.thn k2' t3 (h := f) (fun b hb => .inl hb) (Same.refl _)
            exact a2
          have en : now (Vs.thn o1 oh) ρ = now oh (now o1 ρ) := by cases oh <;> rfl
          rw [← en] at E3
          refine fin_rule (g := f) (F2 := F3) (S2 := S3) (t := fun Q => rSlL X.K v l u H3 Q) t13 E3 k3' (fun z hz Q hq => ?_) G
          unfold kSl at hz
          split at hz
          · rename_i ds el
            split at hz
            · rename_i c
              obtain rfl := Option.some.inj hz
              obtain ⟨b1, m1, d1⟩ := x
              obtain rfl : d1 = .lst ds := el
              obtain ⟨a, xs, S4, rfl, q1, u1, u2, r1, k4⟩ := opn (F := []) h3 (by rw [List.append_nil]; exact k3'.head) c
              refine ⟨a, xs, rfl, q1, fun p hp => ?_⟩
              have rc : RpAll X.K S4 H3 0 (cutV xs l u) (cutD ds l u) [] := by
                unfold cutV cutD
                rw [six_eq, six_eq, r1.length]
                exact ((r1.cut0 _).2.cut0 _).1
              exact ret_lst k3'.head u1 u2 k4 (by simp) rc hq p hp
            · cases hz
          · cases hz
        · exact G.elim
end
end Vs
set_option maxHeartbeats 4000000
namespace Vs
open PySem (Str PyData)
/-! ### slots made even: some are let go, some are known less deep -/
def even (is ks : List Nat) (ρ : Env) : Env := thin 0 ks (wipeE is ρ)
def Fl.map (f : Env → Env) : Fl → Fl
  | .nx ρ => .nx (f ρ) | .brk ρ => .brk (f ρ) | .ct ρ => .ct (f ρ) | .ret x ρ => .ret x ρ | .ex e ρ => .ex e ρ | .no => .no
/-- ahead of a part -/
def pre (is ks : List Nat) (g : MS) : MS := fun ρ => g (even is ks ρ)
/-- behind a part -/
def tdy (is ks : List Nat) (g : MS) : MS := fun ρ => (g ρ).map (even is ks)
theorem le_pre {is ks : List Nat} {g g' : MS} (h : leS g g') : leS (pre is ks g) (pre is ks g') := fun ρ => h _
theorem le_tdy {is ks : List Nat} {g g' : MS} (h : leS g g') : leS (tdy is ks g) (tdy is ks g') := fun ρ => by
  unfold tdy
  rcases h ρ with e | e
  · rw [e]; exact .inl rfl
  · rw [e]; exact .inr rfl
theorem e_pre {is ks : List Nat} {g : MS} {ρ : Env} : pre is ks g ρ = g (even is ks ρ) := (rfl)
theorem e_tdy {is ks : List Nat} {g : MS} {ρ : Env} : tdy is ks g ρ = (g ρ).map (even is ks) := (rfl)
theorem e_even {is ks : List Nat} {ρ : Env} : even is ks ρ = thin 0 ks (wipeE is ρ) := (rfl)
@[simp] theorem m_nx {f : Env → Env} {ρ : Env} : Fl.map f (.nx ρ) = .nx (f ρ) := (rfl)
@[simp] theorem m_brk {f : Env → Env} {ρ : Env} : Fl.map f (.brk ρ) = .brk (f ρ) := (rfl)
@[simp] theorem m_ct {f : Env → Env} {ρ : Env} : Fl.map f (.ct ρ) = .ct (f ρ) := (rfl)
@[simp] theorem m_ret {f : Env → Env} {ρ : Env} {x : PV} : Fl.map f (.ret x ρ) = .ret x ρ := (rfl)
@[simp] theorem m_ex {f : Env → Env} {ρ : Env} {e : Ex} : Fl.map f (.ex e ρ) = .ex e ρ := (rfl)
@[simp] theorem m_no {f : Env → Env} : Fl.map f .no = .no := (rfl)
/-- xs.count(y) -/
def kCountD (x : VV) (xs : List VV) : Option VV := match x.d, xs with
  | .lst l, [y] => if x.d.shp = true ∧ y.d.shp = true then some (vi (l.countP fun z => z.eqv y.d : Nat)) else none
  | _, _ => none
def kIsi2 (t u : Ty) (x : VV) : Option VV := match x.d.isTy t, x.d.isTy u with
  | some a, some b => some (vb (a || b)) | _, _ => none
/-- xs[c] += k of whole numbers -/
def augC (i : Nat) (c k : Int) : MS := fun ρ => match look ρ i with
  | some (m + 1, .lst l) => (match nix l.length c with
    | some j => (match l[j]? with | some (.int a) => .nx (put ρ i (some (m + 1, .lst (l.set j (.int (a + k)))))) | _ => .no)
    | none => .no)
  | _ => .no
theorem e_augC {i : Nat} {c k : Int} {ρ : Env} : augC i c k ρ = match look ρ i with
  | some (m + 1, .lst l) => (match nix l.length c with
    | some j => (match l[j]? with | some (.int a) => .nx (put ρ i (some (m + 1, .lst (l.set j (.int (a + k)))))) | _ => .no)
    | none => .no)
  | _ => .no := (rfl)
/-- xs * n of plain items, xs its own (asked or not) -/
def kMulB (x y : VV) : Option VV := match x.d, y.d with
  | .lst l, .int k => if 0 < x.m ∧ l.all D.imm = true ∧ -(2 ^ 63) ≤ k ∧ k < 2 ^ 63 ∧ l.length * k.toNat ≤ lim then some ⟨false, 1, .lst (List.replicate k.toNat l).flatten⟩ else none
  | _, _ => none
/-! loops, by the slots ahead of each turn -/
theorem forL_eq {g : MG} {b : MS} : ∀ (ds : List D) (e : Nat → Env), (∀ k d, ds[k]? = some d → (g ⟨false, 0, d⟩ (e k)).seq b = .nx (e (k + 1))) → forL g b ds (e 0) = .nx (e ds.length)
  | [], e, _ => rfl
  | d :: ds, e, h => by
    unfold forL
    rw [h 0 d rfl]
    exact forL_eq ds (fun k => e (k + 1)) fun k d' hd => h (k + 1) d' (by simpa using hd)
theorem forV_eq {i : Nat} {w : Nat → D → D} {g : MG} {b : MS} {ds : List D} {m0 : Nat} {e : Nat → Env} (hi : ds.all D.imm = true) (hl : ∀ k, look (e k) i = some (m0, .lst ds))
    (h : ∀ k d, ds[k]? = some d → (g ⟨false, 0, w k d⟩ (e k)).seq b = .nx (e (k + 1))) : ∀ n k, n + k = ds.length → forV i w g b n k (e k) = .nx (e ds.length)
  | 0, k, hk => by
    unfold forV
    rw [hl k]
    simp only
    rw [if_pos (by omega), show k = ds.length by omega]
  | n + 1, k, hk => by
    have hk2 : k < ds.length := by omega
    have hd : ds[k]? = some ds[k] := List.getElem?_eq_getElem hk2
    unfold forV
    rw [hl k]
    simp only [hd, List.all_eq_true.mp hi _ (List.getElem_mem hk2), if_true, h k _ hd]
    exact forV_eq hi hl h n (k + 1) (by omega)
theorem forsV_eq {i : Nat} {w : Nat → D → D} {g : MG} {b o : MS} {ds : List D} {m0 : Nat} (e : Nat → Env) (hi : ds.all D.imm = true) (hl : ∀ k, look (e k) i = some (m0, .lst ds))
    (h : ∀ k d, ds[k]? = some d → (g ⟨false, 0, w k d⟩ (e k)).seq b = .nx (e (k + 1))) : forsV i w g b o (e 0) = .nx (e ds.length) := by
  unfold forsV
  rw [hl 0]
  simp only [hi, if_true]
  exact forV_eq hi hl h _ 0 (by omega)
/-- .. of plain items or not -/
theorem forsV_eq' {i : Nat} {w : Nat → D → D} {g : MG} {b : MS} {it : MI} {ds : List D} {m0 : Nat} (e : Nat → Env) (hl : ∀ k, look (e k) i = some (m0, .lst ds)) (hw : it (e 0) = .ok ((List.range ds.length).zip ds |>.map fun p => w p.1 p.2) none)
    (h : ∀ k d, ds[k]? = some d → (g ⟨false, 0, w k d⟩ (e k)).seq b = .nx (e (k + 1))) : forsV i w g b (fors it g b) (e 0) = .nx (e ds.length) := by
  by_cases hi : ds.all D.imm = true
  · exact forsV_eq e hi hl h
  · unfold forsV
    rw [hl 0]
    simp only [hi]
    show fors it g b (e 0) = _
    unfold fors
    rw [hw]
    show forL g b _ (e 0) = _
    have := forL_eq (g := g) (b := b) (((List.range ds.length).zip ds).map fun p => w p.1 p.2) e (fun k d hd => by
      rw [List.getElem?_map] at hd
      cases q : ((List.range ds.length).zip ds)[k]? with
      | none => rw [q] at hd; cases hd
      | some p =>
        rw [q] at hd
        cases hd
        rw [List.getElem?_zip_eq_some] at q
        obtain ⟨q1, q2⟩ := q
        have hk : k < ds.length := (List.getElem?_eq_some_iff.mp q2).1
        rw [List.getElem?_range hk] at q1
        cases q1
        exact h _ _ q2)
    rw [this]
    simp
end Vs
set_option maxHeartbeats 4000000
namespace Vs
open PySem PySem.Spec PyProof.Rows L2
section
variable {K : PySem.W.Frag} {S : Addr → Prop} {H : Hp} {F : List Addr} {σ : L2.St} {ρ : Vs.Env}
theorem even_env (is ks : List Nat) (E : EnvRp K S H σ ρ F) (ok : Ok S H F) : ∃ S' F', Step S F H S' F' H ∧ EnvRp K S' H σ (even is ks ρ) F' ∧ Ok S' H F' := by
  obtain ⟨f, G, p, E1⟩ := E.wipe is
  have ok1 : Ok S H G := (ok.perm p).tail
  have st1 : Step S F H S G H := Step.refl.less fun b hb => p.mem_iff.mpr (List.mem_append_right _ hb)
  obtain ⟨S', F', st, E', ok'⟩ := thin_env 0 ks E1 ok1
  exact ⟨S', F', st1.trans st, E', ok'⟩
theorem even_envR {f : List Addr} (is ks : List Nat) (E : EnvRp K S H σ ρ F) (ok : Ok S H F) : ∃ S' F', Step S F H S' F' H ∧ EnvRp K S' H σ (even is ks ρ) F' ∧ Ok S' H F' := even_env is ks E ok
end
section
variable {K : PySem.W.Frag} {ct : Str → Addr} {lent : List Bool} {W : WX} {D : Ends} {S : Addr → Prop} {F : List Addr} {H : Hp} {σ : L2.St}
theorem GoodS.of_even {is ks : List Nat} {fl : Fl} (g : GoodS K ct lent W D S F H σ (fl.map (even is ks))) : GoodS K ct lent W D S F H σ fl := by
  cases fl with
  | nx ρ' =>
    intro σ' S' F' H' t E o k
    obtain ⟨S2, F2, st, E2, o2⟩ := even_env is ks E o
    exact g σ' S2 F2 H' (t.trans st) E2 o2 k
  | brk ρ' =>
    intro σ' S' F' H' t E o k
    obtain ⟨S2, F2, st, E2, o2⟩ := even_env is ks E o
    exact g σ' S2 F2 H' (t.trans st) E2 o2 k
  | ct ρ' =>
    intro σ' S' F' H' t E o k
    obtain ⟨S2, F2, st, E2, o2⟩ := even_env is ks E o
    exact g σ' S2 F2 H' (t.trans st) E2 o2 k
  | ret pv ρ' => exact g
  | ex e ρ' => exact g
  | no => exact g
end
section
variable {ct : Str → Addr} {lent : List Bool} {X : Cx} {st : Stmt} {body : List Stmt} {g : MS} {is ks : List Nat}
theorem ss_pre (h : SS ct lent X st g) : SS ct lent X st (pre is ks g) := by
  refine ⟨fun W tk po => ?_⟩
  obtain ⟨t, p, r⟩ := h.run W tk po
  refine ⟨t, p, fun S F H σ ρ D E ok G => ?_⟩
  obtain ⟨S', F', s1, E', ok'⟩ := even_env is ks E ok
  exact r S' F' H σ _ D E' ok' (GoodS.from s1 Kp.refl G)
theorem sss_pre (h : SSs ct lent X body g) : SSs ct lent X body (pre is ks g) := by
  refine ⟨fun W tk po => ?_⟩
  obtain ⟨t, p, r⟩ := h.run W tk po
  refine ⟨t, p, fun S F H σ ρ D E ok G => ?_⟩
  obtain ⟨S', F', s1, E', ok'⟩ := even_env is ks E ok
  exact r S' F' H σ _ D E' ok' (GoodS.from s1 Kp.refl G)
theorem sss_tdy (h : SSs ct lent X body g) : SSs ct lent X body (tdy is ks g) := by
  refine ⟨fun W tk po => ?_⟩
  obtain ⟨t, p, r⟩ := h.run W tk po
  exact ⟨t, p, fun S F H σ ρ D E ok G => r S F H σ ρ D E ok (GoodS.of_even G)⟩
theorem ss_tdy (h : SS ct lent X st g) : SS ct lent X st (tdy is ks g) := by
  refine ⟨fun W tk po => ?_⟩
  obtain ⟨t, p, r⟩ := h.run W tk po
  exact ⟨t, p, fun S F H σ ρ D E ok G => r S F H σ ρ D E ok (GoodS.of_even G)⟩
end
/-- a def that calls itself: nothing is promised at the bottom -/
theorem Fn.none {P : Program} {w : World} {K : PySem.W.Frag} {mg : Str → Option Value} {base : Heap} {ct : Str → Addr} {k : Nat} {f : Addr} {fd : FuncData} {ps : List Str} : Fn P w K mg base ct k f fd ps (fun _ => .no) :=
  ⟨fun A outer s H args us vs Q E _ _ _ _ _ h => by
    obtain ⟨_, _, _, _, _, _, q⟩ := h
    exact q.elim⟩
end Vs
set_option maxHeartbeats 4000000
namespace Vs
open PySem PySem.Spec PyProof.Rows L2
/-! xs.count(y): data of any depth -/
def rCntD (K : PySem.W.Frag) : V → List V → Hp → VK → Prop := fun x xs H Q => ∃ (a : Addr) (y : V) (d : PyData) (ds : List PyData), x = V.ref a ∧ xs = [y] ∧ Dp K H (V.ref a) (.list ds) ∧ Dp K H y d ∧
  SeqAt.shaped (.list ds) = true ∧ SeqAt.shaped d = true ∧ Q (.int (ds.countP fun z => PyData.eqv z d : Nat)) H
theorem countP_map' {α β : Type} (f : α → β) (p : β → Bool) : ∀ l : List α, (l.map f).countP p = l.countP fun x => p (f x)
  | [] => rfl
  | a :: l => by rw [List.map_cons, List.countP_cons, List.countP_cons, countP_map' f p l]
theorem mt_countD {X : Cx} (hu : X.A.units + 65 < cLine) : MtR X "list.count" (rCntD X.K) := by
  intro pins s σ H x xs v us Q I rx rxs h
  obtain ⟨a, y, d, ds, rfl, rfl, hl, hy, sl, sd, q⟩ := h
  cases rx
  cases rxs with
  | cons ry rt =>
    rename_i uy ut
    cases rt
    obtain ⟨bs, r1⟩ := Dp.reads I d y uy hy ry
    have hxs : PyData.canLayAll0 ds = true := SeqAt.canLay_of_shaped sl
    have hroom : X.A.units + 1 + min (PyData.depthAll ds) d.depth < cLine := room_in_shaped sd hu
    cases hl with
    | lst hs ha =>
      obtain ⟨its, rv, ⟨⟨cls, dd, data, sls⟩, n, ho, hc, hdn, hdt⟩, hlen⟩ := I.list hs
      simp only at hc hdt
      subst hc hdt
      obtain ⟨as, h4⟩ := Dp.readsAll I ds _ its ha rv
      have hmap : its.map (SeqAt.readOf s.heap) = ds := SeqAt.readsAll_map ds its as hxs h4
      refine call_meets PySem.F.slot_list_count ⟨_, ho, rfl⟩ PySem.F.entry_list_count (PySem.F.args_list_count_2 _ _)
        (SeqAt.list_countAt a its.toArray n dd sls uy (fun u => PyData.eqv (SeqAt.readOf s.heap u) d)) ⟨ho, SeqAt.items_eqAt (vs := its.toArray) (show ReadsAll s.heap its.toArray.toList ds as from h4) r1 hxs (SeqAt.canLay_of_shaped sd) hroom, ?_⟩
      have ec : its.toArray.toList.countP (fun u => PyData.eqv (SeqAt.readOf s.heap u) d) = ds.countP fun z => PyData.eqv z d := by
        rw [← hmap, countP_map']
      refine ⟨.int (ds.countP fun z => PyData.eqv z d : Nat), H, I.tok _, ⟨s.toks, ?_⟩, q⟩
      show Value.int ((its.toArray.toList.countP (fun u => PyData.eqv (SeqAt.readOf s.heap u) d) : Nat) : Int) s.toks = Value.int ((ds.countP fun z => PyData.eqv z d : Nat) : Int) s.toks
      rw [ec]
theorem pyAll_countP (p : PyData → Bool) : ∀ l : List Vs.D, (pyAll l).countP p = l.countP fun z => p z.py
  | [] => rfl
  | d :: l => by rw [pyAll, List.countP_cons, List.countP_cons, pyAll_countP p l]
section
variable {X : Cx}
theorem kCountD_mt : Meth1 X.K (rCntD X.K) kCountD := fun S H x v f xs vs g z Q h hx ok e hQ => by
  unfold kCountD at e
  split at e
  · rename_i l y el
    split at e
    · rename_i c
      obtain rfl := Option.some.inj e
      obtain ⟨u, rfl, hy⟩ := hx.one
      have q := h.dp c.1
      have s := (shp_flat c.1).2
      obtain ⟨a, ys, m', g', rfl, q1, q2⟩ := h.seqL el
      rw [el, D.py] at q s
      refine ⟨a, u, y.d.py, pyAll l, rfl, rfl, q, hy.dp c.2, s, (shp_flat c.2).2, ?_⟩
      rw [pyAll_countP]
      exact ret_imm ok rfl (.int _ _) hQ
    · cases e
  · cases e
end
end Vs
set_option maxHeartbeats 4000000
namespace Vs
open PySem PySem.Spec PyProof.Rows L2
/-! isinstance(x, (t, u)) -/
section
variable {ct : Str → Addr} {X : Cx} {a : Expr} {ga : M} {p pos : Pos}
def rIsi2 (K : PySem.W.Frag) (t u : Ty) : V → Hp → VK → Prop := fun x H Q => 2 ≤ sizeLine ∧ ∀ q, H q = none → rIsiT K [x, .ref q] (upd H q (.tup [.ty (Ty.nm t), .ty (Ty.nm u)])) Q
theorem kIsi2_op (t u : Ty) : Op1 X.K (rIsi2 X.K t u) (kIsi2 t u) := fun S H x v f z Q h ok e hQ => by
  unfold kIsi2 at e
  cases q1 : x.d.isTy t with
  | none => rw [q1] at e; cases e
  | some r1 =>
    cases q2 : x.d.isTy u with
    | none => rw [q1, q2] at e; cases e
    | some r2 =>
      rw [q1, q2] at e
      obtain rfl := Option.some.inj e
      refine ⟨by decide, fun q hq => ?_⟩
      have h2 := h.same (same_upd (o := HO.tup [.ty (Ty.nm t), .ty (Ty.nm u)]) hq)
      obtain ⟨g, h'⟩ := h2.rp
      obtain ⟨n, h3, h4⟩ := h'.tyx (fun c l z => by rw [z] at q1; cases q1)
      refine ⟨v, q, _, _, [.type (Ty.nm t), .type (Ty.nm u)], r1 || r2, rfl, upd_same, .cons (.ty _) (.cons (.ty _) .nil), h3, ?_, ?_⟩
      · refine kitAny_cons (kit_ty (h4 t r1 q1)) (fun hb => ?_) fun hb => by rw [hb]; rfl
        refine kitAny_cons (kit_ty (h4 u r2 q2)) (fun hb2 => ?_) fun hb2 => by rw [hb, hb2]; rfl
        rw [hb, hb2]
        rfl
      · exact hQ _ _ S [] (new_grow ok hq (fun _ z => z) (fun _ => .inl) (by simp)) (by rw [VOk.own]; exact .bl _ _) (new_ok ok.nil hq)
theorem s_isi2 (t u : Ty) {y z : Str} {p1 p2 tpos : Pos} {kk : Nat} (hg : Gl X "isinstance") (hm : X.mg "isinstance" = none) (hg1 : Gl X y) (hm1 : X.mg y = none) (hv1 : bootBuiltins y = some (.type (Ty.nm t))) (hn1 : y ≠ "__name__") (hd1 : (y == ("__debug__" : Str)) = false)
    (hg2 : Gl X z) (hm2 : X.mg z = none) (hv2 : bootBuiltins z = some (.type (Ty.nm u))) (hn2 : z ≠ "__name__") (hd2 : (z == ("__debug__" : Str)) = false) (ha : SE ct X a ga)
    (he : starEach (a :: [.Tuple [.Name y p1, .Name z p2] kk tpos]) X.env = (false, eval a X.env) :: starEach [.Tuple [.Name y p1, .Name z p2] kk tpos] X.env := by rfl)
    (he' : starEach [.Tuple [.Name y p1, .Name z p2] kk tpos] X.env = (false, eval (.Tuple [.Name y p1, .Name z p2] kk tpos) X.env) :: starEach [] X.env := by rfl)
    (he1 : starEach (.Name y p1 :: [.Name z p2]) X.env = (false, eval (.Name y p1) X.env) :: starEach [.Name z p2] X.env := by rfl)
    (he2 : starEach [.Name z p2] X.env = (false, eval (.Name z p2) X.env) :: starEach [] X.env := by rfl)
    (hpl : (backTo pos (starEach [.Tuple [.Name y p1, .Name z p2] kk tpos] X.env)).any (·.1) = false := by rfl) : SE ct X (.Call (.Name "isinstance" p) [a, .Tuple [.Name y p1, .Name z p2] kk tpos] [] pos) (one ga (kIsi2 t u)) :=
  run_one (r := rIsi2 X.K t u) ha (fun pa => pe_callB call_isiT hg hm PyProof.Rows.boot_isinstance (pa_cons pa (pa_cons (pe_tup (pa_cons (pe_bltn hg1 hm1 hv1 (by rfl) hn1 hd1) (pa_cons (pe_bltn hg2 hm2 hv2 (by rfl) hn2 hd2) pa_nil he2) he1)) pa_nil he') he) (by decide) (by decide) he hpl) (kIsi2_op t u)
end
end Vs
set_option maxHeartbeats 4000000
namespace Vs
open PySem PySem.Spec PyProof.Rows L2
/-! xs[c] += k -/
section
variable {ct : Str → Addr} {lent : List Bool} {X : Cx} {pos tpos px : Pos}
theorem get_list : PGet X (rIxL X.K) := by
  intro pins s σ H x y v u Q I rx ry h
  obtain ⟨p, xs, i, z, rfl, rfl, hq, he, q⟩ := h
  cases rx
  obtain ⟨t, rfl⟩ := ry
  obtain ⟨its, r, pl, hz⟩ := I.list hq
  obtain ⟨j, h1, h2, h3, h4, h5⟩ := atI_get he
  obtain ⟨w, ew, rw'⟩ := r.get h2
  have hl := r.length
  have hn := line63
  have fin : EP X pins σ Q w s := ⟨z, H, I, rw', q⟩
  by_cases h0 : 0 ≤ i
  · have hj : i.toNat = j := by
      rw [seqIndex_of h0 h5] at h1
      exact Option.some.inj h1
    exact wpAny_getItem_list pl.isList h0 (by omega) (by rw [hj]; simpa using ew) fin
  · have hj : (i + (its.toArray.size : Int)).toNat = j := by
      rw [seqIndex_neg (by omega) h4] at h1
      rw [List.size_toArray, ← hl]
      exact Option.some.inj h1
    exact wpAny_getItem_list_neg pl.isList (by omega) (by rw [List.size_toArray] <;> omega) (by omega) (by rw [hj]; simpa using ew) fin
theorem ss_augC {i : Nat} {c k : Int} {j1 j2 : Nat} {x : Str} {p1 p2 : Pos} (hN : X.N[i]? = some x := by rfl) (hv : Vis X.env.scope x := by first | exact Or.inl rfl | exact Or.inr (Or.inl rfl) | exact Or.inr (Or.inr rfl)) (hd : (x == ("__debug__" : Str)) = false := by decide)
    (hcd : (x == ("__classdict__" : Str)) = false := by decide)
    (ha : ∀ ov iv new, augStore (.Constant (.int c) j1 p1) ov iv new = (do holding [new, ov, iv] (setItem ov iv new); release [new, ov, iv] []; pure .next) := by intros; rfl) :
    SS ct lent X (.AugAssign (.Subscript (.Name x px) (.Constant (.int c) j1 p1) tpos) .Add (.Constant (.int k) j2 p2) pos) (augC i c k) := by
  refine ⟨fun W tk po => ⟨_, ps_augS (pv i hN hv hd hcd) pe_int get_list pe_int ip_add set_list ha, fun S F H σ ρ D E ok G => ?_⟩⟩
  unfold augC at G
  cases q0 : look ρ i with
  | none => rw [q0] at G; exact G.elim
  | some pv0 =>
    obtain ⟨m0, d0⟩ := pv0
    rw [q0] at G
    cases m0 with
    | zero => exact G.elim
    | succ m =>
      cases d0 with
      | lst l =>
        simp only at G
        cases qn : nix l.length c with
        | none => rw [qn] at G; exact G.elim
        | some j =>
          rw [qn] at G
          simp only at G
          cases ql : l[j]? with
          | none => rw [ql] at G; exact G.elim
          | some d =>
            rw [ql] at G
            cases d with
            | int a =>
              simp only at G
              obtain ⟨v1, f1, G1, h1, h2, pf, E2⟩ := E.take q0
              cases h2 with
              | lst1 ha' r =>
                rename_i aa zs ff0
                have k2 : Ok S H ((aa :: ff0) ++ G1) := ok.perm pf
                have hj : ixN zs.length c = some j := by rw [r.length]; exact qn
                obtain ⟨u, g1, g, g2, hu, e1, ru, _, _⟩ := r.at ql
                obtain rfl := ru.vint
                have hx : Rp X.K S H 0 (.int (a + k)) (.int (a + k)) [] := .int _ _
                have k3 : Ok S H ([] ++ (aa :: ff0)) := k2.head
                obtain ⟨S2, ff, w1, w2, w3⟩ := set_ok ha' k3 r hx (nix_lt qn)
                have hat : atI zs c = some (.int a) := by
                  unfold atI
                  rw [hj]
                  exact hu
                refine ⟨.ref aa, h1, aa, zs, c, .int a, rfl, rfl, .inl (.inl ha'), hat, a, k, rfl, rfl, aa, zs, c, j, rfl, rfl, ha', hj, ?_⟩
                have E3 : EnvRp X.K S2 _ σ (Vs.put ρ i none) G1 := E2.step w1 k3 fun b hb z => k2.apart b z hb
                have k4 : Ok S2 _ (G1 ++ (aa :: ff)) := Ok.join w1 (k2.perm List.perm_append_comm) w3
                refine G σ S2 ((aa :: ff) ++ G1) _ (w1.wide (fun b hb => pf.mem_iff.mpr (List.mem_append_left _ hb)) fun b hb => ?_) (E3.back h1 w2) (k4.perm List.perm_append_comm) Kp.refl
                rcases List.mem_append.mp hb with z | z
                · exact .inl z
                · exact .inr (pf.mem_iff.mpr (List.mem_append_right _ z))
            | _ => exact G.elim
      | _ => exact G.elim
end
section
variable {K : PySem.W.Frag} {S : Addr → Prop} {H : Hp}
theorem RpAll.imm0 : ∀ {m : Nat} {xs : List V} {ds : List D} {f : List Addr}, RpAll K S H m xs ds f → ds.all D.imm = true → ∀ S' H' m', RpAll K S' H' m' xs ds []
  | _, _, _, _, .nil _, _, S', H', m' => .nil _
  | _, _, _, _, .cons h r, hi, S', H', m' => by
    rw [List.all_cons, Bool.and_eq_true] at hi
    exact .cons (f := []) (g := []) ((h.imm hi.1).2 S' H' m') (RpAll.imm0 r hi.2 S' H' m')
theorem kMulB_op : Op2 K rRep kMulB := fun S H x v f y u g z Q h1 h2 ok e hQ => by
  unfold kMulB at e
  split at e
  · rename_i l k e1 e2
    split at e
    · rename_i c
      obtain rfl := Option.some.inj e
      obtain ⟨b1, m1, d1⟩ := x
      obtain rfl : d1 = .lst l := e1
      obtain ⟨c0, c1, c2, c3, c4⟩ := c
      have hk := h2.int e2
      obtain ⟨g0, h3⟩ := h1.rp
      obtain ⟨a, xs, g', rfl, q1, r1, q2, q3⟩ := h3.lst
      obtain ⟨q4, _⟩ := q3 (by have h0 : 0 < m1 := c0; show m1 ≠ 0; omega)
      refine ⟨a, k, xs, rfl, hk, q4, c2, c3, by rw [r1.length, ← lim_eq]; exact c4, fun p hp => ?_⟩
      exact ret_lst (m := 0) ok (fun _ z => z) (fun _ => .inl) ok.nil (by simp) (RpAll.rep (RpAll.imm0 r1 c1 S H 0) _) hQ p hp
    · cases e
  · cases e
end
section
variable {ct : Str → Addr} {X : Cx} {a b : Expr} {ga gb : M} {pos : Pos}
theorem s_mulB (ha : SE ct X a ga) (hb : SE ct X b gb) : SE ct X (.BinOp a .Mult b pos) (two ga gb kMulB) := s_op op_rep kMulB_op ha hb
end
end Vs
set_option maxHeartbeats 4000000
/-! local names whose value moves on: they are not asked again -/
namespace Vs
open PySem (Str PyData)
def mvN (i : Nat) : M := fun ρ => match look ρ i with
  | some (m, d) => .ef ⟨false, m, d⟩ (put ρ i none) | none => .no
/-- .. a list of plain items: its own as deep as is wanted -/
def mvD (k i : Nat) : M := fun ρ => match look ρ i with
  | some (_ + 1, .lst l) => if l.all D.imm = true then .ef ⟨false, k + 1, .lst l⟩ (put ρ i none) else .no
  | _ => .no
/-- .. an item of it -/
def mvI (i : Nat) (b : M) : M := fun ρ => match look ρ i with
  | some _ => (b ρ).bind ρ fun y ρ1 => (match look ρ1 i with
    | some (m, d) => (R.ofO (kIx ⟨false, m, d⟩ y)).aft (some (put ρ1 i none)) | none => .no)
  | none => .no
/-- x.append(y); target = e, where e reads y and the target stores it anew: y goes into x behind e -/
def movA (i j : Nat) (e : M) (g : MG) : MS := fun ρ => match look ρ i, look ρ j with
  | some (m + 1, .lst l), some _ => if l.length < lim then (e (put ρ i none)).go (put ρ i none) fun x ρ1 => (match look ρ1 j with
      | some (mj, d) => if d.imm = false then g x (put (put ρ1 j none) i (some ((if l.all D.imm = true then mj else min m mj) + 1, .lst (l ++ [d])))) else .no
      | none => .no) else .no
  | _, _ => .no
theorem e_mvN {i : Nat} {ρ : Env} : mvN i ρ = match look ρ i with
  | some (m, d) => .ef ⟨false, m, d⟩ (put ρ i none) | none => .no := (rfl)
theorem e_mvD {k i : Nat} {ρ : Env} : mvD k i ρ = match look ρ i with
  | some (_ + 1, .lst l) => if l.all D.imm = true then .ef ⟨false, k + 1, .lst l⟩ (put ρ i none) else .no
  | _ => .no := (rfl)
theorem e_mvI {i : Nat} {b : M} {ρ : Env} : mvI i b ρ = match look ρ i with
  | some _ => (b ρ).bind ρ fun y ρ1 => (match look ρ1 i with
    | some (m, d) => (R.ofO (kIx ⟨false, m, d⟩ y)).aft (some (put ρ1 i none)) | none => .no)
  | none => .no := (rfl)
theorem e_movA {i j : Nat} {e : M} {g : MG} {ρ : Env} : movA i j e g ρ = match look ρ i, look ρ j with
  | some (m + 1, .lst l), some _ => if l.length < lim then (e (put ρ i none)).go (put ρ i none) fun x ρ1 => (match look ρ1 j with
      | some (mj, d) => if d.imm = false then g x (put (put ρ1 j none) i (some ((if l.all D.imm = true then mj else min m mj) + 1, .lst (l ++ [d])))) else .no
      | none => .no) else .no
  | _, _ => .no := (rfl)
end Vs
set_option maxHeartbeats 4000000
namespace Vs
open PySem PySem.Spec PyProof.Rows L2
theorem RpAll.imms {K : PySem.W.Frag} {S : Addr → Prop} {H : Hp} {m : Nat} : ∀ {xs : List V} {ds : List D} {f : List Addr}, RpAll K S H m xs ds f → ds.all D.imm = true → f = [] ∧ ∀ S' H' m', RpAll K S' H' m' xs ds []
  | _, _, _, .nil _, _ => ⟨rfl, fun _ _ _ => .nil _⟩
  | _, _, _, .cons h r, hi => by
    rw [List.all_cons, Bool.and_eq_true] at hi
    obtain ⟨rfl, q⟩ := h.imm hi.1
    obtain ⟨rfl, q'⟩ := r.imms hi.2
    exact ⟨rfl, fun S' H' m' => .cons (f := []) (g := []) (q _ _ _) (q' _ _ _)⟩
section
variable {ct : Str → Addr} {lent : List Bool} {X : Cx} {p pos pos1 pos2 pos3 : Pos}
theorem s_mvN (i : Nat) {x : Str} (hN : X.N[i]? = some x := by rfl) (hv : Vis X.env.scope x := by first | exact Or.inl rfl | exact Or.inr (Or.inl rfl) | exact Or.inr (Or.inr rfl)) (hd : (x == ("__debug__" : Str)) = false := by decide)
    (hcd : (x == ("__classdict__" : Str)) = false := by decide) : SE ct X (.Name x p) (mvN i) := by
  refine ⟨fun W tk => ⟨_, pv i hN hv hd hcd, fun S F H σ ρ Q E ok G => ?_⟩⟩
  unfold mvN at G
  cases q : look ρ i with
  | none => rw [q] at G; exact G.elim
  | some pv =>
    obtain ⟨m, d⟩ := pv
    rw [q] at G
    obtain ⟨v, f, G', h1, h2, p, E'⟩ := E.take q
    refine ⟨v, h1, G v S G' H f ?_ (by rw [VOk.own]; exact h2) E' (ok.perm p)⟩
    exact Step.refl.less fun b hb => p.mem_iff.mpr hb
theorem s_mvD (k i : Nat) {x : Str} (hN : X.N[i]? = some x := by rfl) (hv : Vis X.env.scope x := by first | exact Or.inl rfl | exact Or.inr (Or.inl rfl) | exact Or.inr (Or.inr rfl)) (hd : (x == ("__debug__" : Str)) = false := by decide)
    (hcd : (x == ("__classdict__" : Str)) = false := by decide) : SE ct X (.Name x p) (mvD k i) := by
  refine ⟨fun W tk => ⟨_, pv i hN hv hd hcd, fun S F H σ ρ Q E ok G => ?_⟩⟩
  unfold mvD at G
  cases q : look ρ i with
  | none => rw [q] at G; exact G.elim
  | some pv =>
    obtain ⟨m, d⟩ := pv
    rw [q] at G
    cases m with
    | zero => exact G.elim
    | succ m =>
      cases d with
      | lst l =>
        simp only at G
        by_cases hi : l.all D.imm = true
        · rw [if_pos hi] at G
          obtain ⟨v, f, G', h1, h2, p, E'⟩ := E.take q
          refine ⟨v, h1, G v S G' H f ?_ ?_ E' (ok.perm p)⟩
          · exact Step.refl.less fun b hb => p.mem_iff.mpr hb
          · rw [VOk.own]
            cases h2 with
            | lst1 ha r =>
              obtain ⟨rfl, q'⟩ := r.imms hi
              exact .lst1 ha (q' _ _ _)
        · rw [if_neg hi] at G
          exact G.elim
      | _ => exact G.elim
theorem s_mvI (i : Nat) {x : Str} {b : Expr} {gb : M} {px : Pos} (hb : SE ct X b gb) (hs : PlainIx b := by exact fun _ _ => rfl) (hN : X.N[i]? = some x := by rfl) (hv : Vis X.env.scope x := by first | exact Or.inl rfl | exact Or.inr (Or.inl rfl) | exact Or.inr (Or.inr rfl)) (hd : (x == ("__debug__" : Str)) = false := by decide)
    (hcd : (x == ("__classdict__" : Str)) = false := by decide) : SE ct X (.Subscript (.Name x px) b pos) (mvI i gb) := by
  refine ⟨fun W tk => ?_⟩
  obtain ⟨tb, pb, rb⟩ := hb.run W tk
  refine ⟨_, pe_ix ix_seq (pe_var (i := i) hN hv hd hcd) pb hs, fun S F H σ ρ Q E ok G => ?_⟩
  unfold mvI at G
  cases q : look ρ i with
  | none => rw [q] at G; exact G.elim
  | some pv =>
    obtain ⟨m0, d0⟩ := pv
    rw [q] at G
    obtain ⟨v0, f0, G0, hσ, _⟩ := E.take q
    refine ⟨v0, hσ, rb S F H σ ρ _ E ok ?_⟩
    refine good_bind G fun y o w S1 F1 H1 f _ t1 h1 E1 k1 G => ?_
    cases q1 : look (now o ρ) i with
    | none => rw [q1] at G; exact G.elim
    | some pv1 =>
      obtain ⟨m1, d1⟩ := pv1
      rw [q1] at G
      simp only [aft_aft] at G
      obtain ⟨v1, f1, G1, hσ1, r1, p1, E2⟩ := E1.take q1
      obtain rfl : v1 = v0 := by rw [hσ] at hσ1; exact (Option.some.inj (Option.some.inj hσ1)).symm
      have hx : VOk X.K S1 H1 ⟨false, m1, d1⟩ v1 f1 := by rw [VOk.own]; exact r1
      have pp : (f ++ F1).Perm ((f1 ++ f) ++ G1) := by
        rw [List.perm_iff_count]
        intro b
        have c1 := p1.count_eq b
        simp only [List.count_append] at c1 ⊢
        omega
      have k2 : Ok S1 H1 ((f1 ++ f) ++ G1) := k1.perm pp
      have t2 : Fit (Vs.thn o (some (Vs.put (now o ρ) i none))) S F H S1 G1 (f1 ++ f) H1 := t1.step.less fun b hb => pp.mem_iff.mpr hb
      exact fin_rule (g := f1 ++ f) (t := fun Q => rIx X.K v1 w H1 Q) t2 E2 k2 (fun z hz Q hq => kIx_op S1 H1 _ v1 f1 y w f z Q hx h1 k2.head hz hq) G
/-- two statements together -/
structure SS2 (ct : Str → Addr) (lent : List Bool) (X : Cx) (s1 s2 : Stmt) (g : MS) : Prop where
  run : ∀ W, Takes X W → PassesOwn (model X.prog X.w) X.A X.env X.xe → ∃ t1 t2, PS X s1 t1 ∧ PS X s2 t2 ∧ ∀ S F H σ ρ D, EnvRp X.K S H σ ρ F → Ok S H F → GoodS X.K ct lent W D S F H σ (g ρ) → t1 { D with nx := t2 D } σ H
theorem ss_two {s1 s2 : Stmt} {g : MS} (h : SS2 ct lent X s1 s2 g) : SSs ct lent X [s1, s2] g := by
  refine ⟨fun W tk po => ?_⟩
  obtain ⟨t1, t2, p1, p2, r⟩ := h.run W tk po
  exact ⟨_, pss_cons p1 (pss_one p2), fun S F H σ ρ D E ok G => r S F H σ ρ D E ok G⟩
theorem ss_cons2 {s1 s2 : Stmt} {rest : List Stmt} {g h : MS} (h1 : SS2 ct lent X s1 s2 g) (h2 : SSs ct lent X rest h) : SSs ct lent X (s1 :: s2 :: rest) (sq g h) := by
  refine ⟨fun W tk po => ?_⟩
  obtain ⟨t1, t2, p1, p2, r⟩ := h1.run W tk po
  obtain ⟨t3, p3, r3⟩ := h2.run W tk po
  refine ⟨_, pss_cons p1 (pss_cons p2 p3), fun S F H σ ρ D E ok G => ?_⟩
  refine r S F H σ ρ { D with nx := t3 D } E ok ?_
  unfold sq at G
  cases q : g ρ with
  | nx ρ1 =>
    rw [q] at G
    exact fun σ1 S1 F1 H1 st1 E1 ok1 kp => r3 S1 F1 H1 σ1 ρ1 D E1 ok1 (GoodS.from st1 kp G)
  | _ => rw [q] at G; exact G
/-- y.append(x); tg = e -/
theorem ss_movA {i j : Nat} {x y : Str} {e1 e2 tg : Expr} {ge : M} {gg : MG} {p1 p2 : Pos} (he : SE ct X e2 ge) (hg : SG ct lent X tg gg)
    (mk : ∀ {to t}, PE X (.Name y p1) to → PA X [.Name x p2] t → PE X e1 (tBM X.K "list" L2.rAppend to t))
    (hN : X.N[i]? = some y) (hv : Vis X.env.scope y) (hd : (y == ("__debug__" : Str)) = false) (hcd : (y == ("__classdict__" : Str)) = false)
    (hNx : X.N[j]? = some x) (hvx : Vis X.env.scope x) (hdx : (x == ("__debug__" : Str)) = false) (hcdx : (x == ("__classdict__" : Str)) = false)
    (hst : starEach [.Name x p2] X.env = [(false, eval (.Name x p2) X.env)])
    (hs : swapsWithSole [tg] e2 pos.line X.env = pure false) (hw : swappedStores [tg] e2 X.env = pure none)
    (h1 : (assignEach [tg] X.env).map (·.2) = [assign tg X.env]) {posE : Pos} (hsE : swapsWith e1 none posE.line X.env = pure false) :
    SS2 ct lent X (.Expr e1 posE) (.Assign [tg] e2 pos) (movA i j ge gg) := by
  refine ⟨fun W tk po => ?_⟩
  obtain ⟨te, pe, re⟩ := he.run W tk
  obtain ⟨tg', pg, rg⟩ := hg.run W tk
  refine ⟨_, _, ps_expr (mk (pv i hN hv hd hcd) (pa_cons (pv j hNx hvx hdx hcdx) pa_nil hst)) hsE, ps_asg pe pg hs hw h1, fun S F H σ ρ D E ok G => ?_⟩
  unfold movA at G
  cases q : look ρ i with
  | none => rw [q] at G; exact G.elim
  | some pvi =>
    obtain ⟨m, d⟩ := pvi
    cases m with
    | zero => rw [q] at G; exact G.elim
    | succ m =>
      cases d with
      | lst l =>
        cases qj : look ρ j with
        | none => rw [q, qj] at G; exact G.elim
        | some pvj =>
          rw [q, qj] at G
          simp only at G
          by_cases hlen : l.length < lim
          · rw [if_pos hlen] at G
            obtain ⟨v, f0, G0, g1, g2, pf, E2⟩ := E.take q
            obtain ⟨vj, _, _, gj1, _, _, _⟩ := E.take (i := j) (m := pvj.1) (d := pvj.2) qj
            cases g2 with
            | lst1 ha r =>
              rename_i a zs ff
              have okp := ok.perm pf
              have nS : ¬ S a := okp.ns a (List.mem_append_left _ (List.mem_cons_self ..))
              have nf : a ∉ ff := (List.nodup_cons.mp okp.head.nd).1
              have nG : a ∉ G0 := okp.apart a (List.mem_cons_self ..)
              have hm := mut_lst ha
              refine ⟨.ref a, g1, .inl ⟨rfl, zs, .inl (.inl ha)⟩, vj, gj1, ?_⟩
              refine ⟨a, zs, vj, rfl, rfl, ha, by rw [r.length, ← lim_eq]; exact hlen, ?_⟩
              obtain ⟨H1, eH1⟩ : ∃ H1, H1 = upd H a (.lst (zs ++ [vj])) := ⟨_, rfl⟩
              rw [← eH1]
              have ha1 : H1 a = some (.lst (zs ++ [vj])) := by rw [eH1]; exact upd_same
              have ne : ∀ b, b ≠ a → H1 b = H b := fun b hb => by rw [eH1]; exact upd_ne hb
              have E3 : EnvRp X.K S H1 σ (Vs.put ρ i none) G0 := E2.keep (fun b o hb e => by rw [ne b fun z => nS (by rw [← z]; exact hb)]; exact e)
                (fun b o e nm => by rw [ne b fun z => nm (by rw [← e, z]; exact hm)]; exact e) (fun _ z => z) fun b o hb e => by rw [ne b fun z => nG (by rw [← z]; exact hb)]; exact e
              have r1 : RpAll X.K S H1 m zs l ff := by rw [eH1]; exact r.wr hm nS nf
              have okA : Ok S H1 ((a :: ff) ++ G0) := by rw [eH1]; exact okp.wr trivial (by rw [ha]; simp)
              have stA : Step S F H S ((a :: ff) ++ G0) H1 := ⟨fun b o e hb => by
                  rw [ne b fun z => hb (by rw [z]; exact pf.mem_iff.mpr (List.mem_append_left _ (List.mem_cons_self ..)))]; exact e, fun _ z => z, fun b hb => .inl (pf.mem_iff.mpr hb), fun _ z => .inl z⟩
              refine re S G0 H1 σ _ _ E3 okA.tail ?_
              cases qe : ge (Vs.put ρ i none) with
              | no => rw [qe] at G; exact G.elim
              | ex x ρ1 =>
                rw [qe] at G
                exact fun C dd S' F' H' st E' ok' hx => G C dd σ S' F' H' ((stA.less fun b hb => List.mem_append_right _ hb).trans st) E' ok' Kp.refl hx
              | ok x o =>
                rw [qe] at G
                simp only [go_ok] at G
                intro y S1 F1 H2 fy t hrel E1 k1
                have st := t.step
                have ha2 : H2 a = some (.lst (zs ++ [vj])) := st.keep a _ ha1 nG
                have r2 : RpAll X.K S1 H2 m zs l ff := r1.keep (fun b o hb e => st.keep b o e fun z => okA.tail.ns b z hb) (fun b o e nm => st.keep b o e fun z => nm (e ▸ okA.tail.mu b z)) st.sub
                  fun b o hb e => st.keep b o e (okA.apart b (List.mem_cons_of_mem _ hb))
                have okB : Ok S1 H2 ((a :: ff) ++ (fy ++ F1)) := Ok.join st okA k1
                cases qj1 : look (now o (Vs.put ρ i none)) j with
                | none => rw [qj1] at G; exact G.elim
                | some pvj1 =>
                  obtain ⟨mj, dj⟩ := pvj1
                  rw [qj1] at G
                  simp only at G
                  by_cases hdi : dj.imm = false
                  · rw [if_pos hdi] at G
                    obtain ⟨vj', fj, G2, h1', h2', pf2, E4⟩ := E1.take qj1
                    rw [gj1] at h1'
                    cases h1'
                    obtain ⟨f5, G5, p5, E5⟩ := E4.drop i
                    obtain ⟨n, hn⟩ : ∃ n, n = (if l.all Vs.D.imm = true then mj else min m mj) := ⟨_, rfl⟩
                    rw [← hn] at G
                    obtain ⟨f', f1, pm, r3⟩ : ∃ f' f1, (ff ++ fj).Perm (f' ++ f1) ∧ RpAll X.K (fun b => S1 b ∨ b ∈ f1) H2 n (zs ++ [vj]) (l ++ [dj]) f' := by
                      by_cases hall : l.all Vs.D.imm = true
                      · rw [if_pos hall] at hn
                        subst hn
                        obtain ⟨rfl, q'⟩ := r2.imms hall
                        refine ⟨fj, [], by simp, ?_⟩
                        have := RpAll.append (q' (fun b => S1 b ∨ b ∈ []) H2 n) (RpAll.cons (h2'.more fun _ => Or.inl) (.nil _))
                        simpa using this
                      · rw [if_neg hall] at hn
                        subst hn
                        obtain ⟨f2, g2, f1, pm, a1, a2⟩ := r2.meet h2'
                        rw [if_neg (by rw [hdi]; exact Bool.false_ne_true)] at a1 a2
                        refine ⟨f2 ++ g2, f1, pm, ?_⟩
                        have := RpAll.append a1 (RpAll.cons a2 (.nil _))
                        simpa using this
                    have r4 : Rp X.K (fun b => S1 b ∨ b ∈ f1) H2 (n + 1) (.ref a) (.lst (l ++ [dj])) (a :: f') := .lst1 ha2 r3
                    have E6 := (E5.more (S' := fun b => S1 b ∨ b ∈ f1) fun _ => Or.inl).back g1 r4
                    have pAll : ((a :: ff) ++ (fy ++ F1)).Perm (f5 ++ ((fy ++ ((a :: f') ++ G5)) ++ f1)) := by
                      rw [List.perm_iff_count]
                      intro b
                      have c1 := pf2.count_eq b
                      have c2 := p5.count_eq b
                      have c3 := pm.count_eq b
                      simp only [List.count_append, List.count_cons] at c1 c2 c3 ⊢
                      omega
                    have okC : Ok (fun b => S1 b ∨ b ∈ f1) H2 (fy ++ ((a :: f') ++ G5)) := split_ok (okB.perm pAll).tail (.refl _)
                    have stB : Step S ((a :: ff) ++ G0) H1 S1 ((a :: ff) ++ (fy ++ F1)) H2 := st.wide (fun b hb => List.mem_append_right _ hb) fun b hb => by
                      rcases List.mem_append.mp hb with z | z
                      · exact .inr (List.mem_append_left _ z)
                      · exact .inl z
                    have stC : Step S1 ((a :: ff) ++ (fy ++ F1)) H2 (fun b => S1 b ∨ b ∈ f1) (fy ++ ((a :: f') ++ G5)) H2 := ⟨fun _ _ e _ => e, fun _ => .inl, fun b hb => .inl (pAll.mem_iff.mpr (List.mem_append_right _ (List.mem_append_left _ hb))),
                      fun b hb => hb.imp id fun z => .inl (pAll.mem_iff.mpr (List.mem_append_right _ (List.mem_append_right _ z)))⟩
                    refine rg _ _ H2 σ _ x y fy D D.nx (hrel.more fun _ => Or.inl) E6 okC (fun _ _ z => z) ?_
                    exact GoodS.from ((stA.trans stB).trans stC) Kp.refl G
                  · rw [if_neg hdi] at G
                    exact G.elim
          · rw [if_neg hlen] at G
            exact G.elim
      | _ => rw [q] at G; exact G.elim
end
end Vs
set_option maxHeartbeats 4000000
/-! dicts with numbers and texts as keys whose values have no place: gone through, made of pairs, taken from -/
namespace Vs
open PySem (Str PyData)
/-- such a dict -/
def fdk (l : List (D × D)) : Bool := l.all fun p => isKey p.1 && p.2.imm
def kListD (xs : List VV) : Option VV := match xs with
  | [⟨_, _, .dic false l⟩] => if fdk l = true then some ⟨false, 1, .lst (l.map (·.1))⟩ else none
  | _ => none
def pairsOf : List D → Option (List (D × D))
  | [] => some []
  | .tup [k, v] :: ds => (pairsOf ds).map ((k, v) :: ·)
  | _ :: _ => none
def dMake (ps : List (D × D)) : List (D × D) := ps.foldl (fun acc p => dPut acc p.1 p.2) []
def kDct (xs : List VV) : Option VV := match xs with
  | [⟨_, _, .lst ds⟩] => (match pairsOf ds with
    | some ps => if fdk ps = true then some ⟨false, 1, .dic false (dMake ps)⟩ else none
    | none => none)
  | _ => none
/-- d.pop(k), it is there -/
def popD (i : Nat) (e : M) : M := fun ρ => match look ρ i with
  | some (_, .dic false _) => (e ρ).bind ρ fun y ρ1 => (match look ρ1 i with
    | some (m + 1, .dic false l) => if isKey y.d = true ∧ fdk l = true then (match dLook l y.d with
        | some d => .ef ⟨false, 0, d⟩ (put ρ1 i (some (m + 1, .dic false (l.filter fun p => !p.1.same y.d))))
        | none => .no) else .no
    | _ => .no)
  | _ => .no
/-- the keys, the values, the pairs of a dict of a slot that is locked -/
def itDK (i : Nat) : MI := fun ρ => match look ρ i with
  | some (0, .dic false l) => if fdk l = true then .pu (l.map (·.1)) else .no
  | _ => .no
def itDV (i : Nat) : MI := fun ρ => match look ρ i with
  | some (0, .dic false l) => if fdk l = true then .pu (l.map (·.2)) else .no
  | _ => .no
def itDI (i : Nat) : MI := fun ρ => match look ρ i with
  | some (0, .dic false l) => if fdk l = true then .pu (l.map fun p => .tup [p.1, p.2]) else .no
  | _ => .no
/-- the dict of a slot is locked while e is read; e changes nothing, and gives nothing that leads to a dict -/
def lkE (i : Nat) (e : M) : M := fun ρ => match look ρ i with
  | some (_ + 1, .dic false l) => if fdk l = true then (match e (put ρ i (some (0, .dic false l))) with
      | .ok x none => if x.b = false ∧ x.d.flat = true then .pu x else .no
      | _ => .no) else .no
  | _ => .no
/-- a loop over a dict of a slot, which stays as it is from then on -/
def lkS (i : Nat) (s : MS) : MS := fun ρ => match look ρ i with
  | some (_ + 1, .dic false l) => if fdk l = true then s (put ρ i (some (0, .dic false l))) else .no
  | _ => .no
theorem e_popD {i : Nat} {e : M} {ρ : Env} : popD i e ρ = match look ρ i with
  | some (_, .dic false _) => (e ρ).bind ρ fun y ρ1 => (match look ρ1 i with
    | some (m + 1, .dic false l) => if isKey y.d = true ∧ fdk l = true then (match dLook l y.d with
        | some d => .ef ⟨false, 0, d⟩ (put ρ1 i (some (m + 1, .dic false (l.filter fun p => !p.1.same y.d))))
        | none => .no) else .no
    | _ => .no)
  | _ => .no := (rfl)
theorem e_itDK {i : Nat} {ρ : Env} : itDK i ρ = match look ρ i with
  | some (0, .dic false l) => if fdk l = true then .pu (l.map (·.1)) else .no
  | _ => .no := (rfl)
theorem e_itDV {i : Nat} {ρ : Env} : itDV i ρ = match look ρ i with
  | some (0, .dic false l) => if fdk l = true then .pu (l.map (·.2)) else .no
  | _ => .no := (rfl)
theorem e_itDI {i : Nat} {ρ : Env} : itDI i ρ = match look ρ i with
  | some (0, .dic false l) => if fdk l = true then .pu (l.map fun p => .tup [p.1, p.2]) else .no
  | _ => .no := (rfl)
theorem e_lkE {i : Nat} {e : M} {ρ : Env} : lkE i e ρ = match look ρ i with
  | some (_ + 1, .dic false l) => if fdk l = true then (match e (put ρ i (some (0, .dic false l))) with
      | .ok x none => if x.b = false ∧ x.d.flat = true then .pu x else .no
      | _ => .no) else .no
  | _ => .no := (rfl)
theorem e_lkS {i : Nat} {s : MS} {ρ : Env} : lkS i s ρ = match look ρ i with
  | some (_ + 1, .dic false l) => if fdk l = true then s (put ρ i (some (0, .dic false l))) else .no
  | _ => .no := (rfl)
theorem fdk_filter {l : List (D × D)} {q : D × D → Bool} (h : fdk l = true) : fdk (l.filter q) = true := by
  unfold fdk at h ⊢
  rw [List.all_eq_true] at h ⊢
  exact fun p hp => h p (List.mem_filter.mp hp).1
theorem fdk_put {l : List (D × D)} {k d : D} (h : fdk l = true) (hk : isKey k = true) (hd : d.imm = true) : fdk (dPut l k d) = true := by
  unfold fdk at h ⊢
  rw [List.all_eq_true] at h ⊢
  intro p hp
  unfold dPut at hp
  split at hp
  · obtain ⟨q, hq, e⟩ := List.mem_map.mp hp
    have := h q hq
    split at e
    · rw [← e]
      rw [Bool.and_eq_true] at this ⊢
      exact ⟨this.1, hd⟩
    · rw [← e]; exact this
  · rcases List.mem_append.mp hp with z | z
    · exact h p z
    · rw [List.mem_singleton.mp z, Bool.and_eq_true]
      exact ⟨hk, hd⟩
theorem fdk_fold : ∀ {ps l : List (D × D)}, fdk l = true → fdk ps = true → fdk (ps.foldl (fun acc p => dPut acc p.1 p.2) l) = true
  | [], _, h, _ => h
  | p :: ps, l, h, g => by
    unfold fdk at g
    rw [List.all_cons, Bool.and_eq_true, Bool.and_eq_true] at g
    exact fdk_fold (ps := ps) (fdk_put h g.1.1 g.1.2) g.2
theorem fdk_make {ps : List (D × D)} (h : fdk ps = true) : fdk (dMake ps) = true := fdk_fold rfl h
/-- own list + own list, whose items go on being own -/
def kAddO (x y : VV) : Option VV := match x, y with
  | ⟨false, m + 1, .lst l⟩, ⟨false, n + 1, .lst k⟩ => if l.length + k.length ≤ lim then some ⟨false, min m n + 1, .lst (l ++ k)⟩ else none
  | _, _ => none
theorem e_addO {m n : Nat} {l k : List D} (h : l.length + k.length ≤ 16777216) : kAddO ⟨false, m + 1, .lst l⟩ ⟨false, n + 1, .lst k⟩ = some ⟨false, min m n + 1, .lst (l ++ k)⟩ := if_pos h
end Vs
set_option maxHeartbeats 4000000
namespace Vs
open PySem PySem.Spec PyProof.Rows L2
def imV : D → V
  | .bl b => .bl b | .int i => .int i | .str s => .str s | _ => .non
def kOf : D → Key
  | .str s => .inr s | .int i => .inl i | _ => .inl 0
def kvOf (p : D × D) : Key × V := (kOf p.1, imV p.2)
theorem kOf_kD (k : Key) : kOf (kD k) = k := by cases k <;> rfl
theorem kD_kOf {d : D} (h : isKey d = true) : kD (kOf d) = d := by cases d <;> first | rfl | cases h
theorem kV_kOf {d : D} (h : isKey d = true) : kV (kOf d) = imV d := by cases d <;> first | rfl | cases h
theorem key_imm {d : D} (h : isKey d = true) : d.imm = true := by cases d <;> first | rfl | cases h
section
variable {K : PySem.W.Frag} {S S' : Addr → Prop} {H H' : Hp}
theorem rp_imV (m : Nat) {d : D} (hi : d.imm = true) : Rp K S H m (imV d) d [] := by
  cases d <;> first
    | (cases hi; done)
    | constructor
theorem imV_of {m : Nat} {v : V} {d : D} {f : List Addr} (h : Rp K S H m v d f) (hi : d.imm = true) : v = imV d ∧ f = [] := by
  cases h <;> first
    | (cases hi; done)
    | exact ⟨rfl, rfl⟩
theorem rps_imV (m : Nat) : ∀ {l : List (D × D)}, (∀ p ∈ l, p.2.imm = true) → RpAll K S H m (l.map fun p => imV p.2) (l.map (·.2)) []
  | [], _ => .nil m
  | p :: l, h => .cons (f := []) (g := []) (rp_imV m (h p (List.mem_cons_self ..))) (rps_imV m fun q hq => h q (List.mem_cons_of_mem _ hq))
theorem rps_key (m : Nat) : ∀ {l : List (D × D)}, (∀ p ∈ l, isKey p.1 = true) → RpAll K S H m (l.map fun p => kV (kOf p.1)) (l.map (·.1)) []
  | [], _ => .nil m
  | p :: l, h => .cons (f := []) (g := []) (by show Rp K S H m (kV (kOf p.1)) p.1 []; rw [kV_kOf (h p (List.mem_cons_self ..))]; exact rp_imV m (key_imm (h p (List.mem_cons_self ..)))) (rps_key m fun q hq => h q (List.mem_cons_of_mem _ hq))
theorem fdk_mem {l : List (D × D)} (h : fdk l = true) {p : D × D} (hp : p ∈ l) : isKey p.1 = true ∧ p.2.imm = true := by
  unfold fdk at h
  rw [List.all_eq_true] at h
  have := h p hp
  rwa [Bool.and_eq_true] at this
theorem zip_kv : ∀ {m : Nat} {kvs : List (Key × V)} {ds : List D} {f : List Addr}, RpAll K S H m (kvs.map (·.2)) ds f → fdk (dzip kvs ds) = true → kvs = (dzip kvs ds).map kvOf ∧ f = []
  | m, [], ds, f, h, _ => by
    cases h
    exact ⟨rfl, rfl⟩
  | m, p :: kvs, ds, f, h, hf => by
    cases h with
    | cons h r =>
      unfold dzip at hf
      rw [List.map_cons, List.zip_cons_cons] at hf
      unfold fdk at hf
      rw [List.all_cons, Bool.and_eq_true, Bool.and_eq_true] at hf
      obtain ⟨e1, e2⟩ := imV_of h hf.1.2
      obtain ⟨e3, e4⟩ := zip_kv r hf.2
      refine ⟨?_, by rw [e2, e4]; rfl⟩
      unfold dzip
      rw [List.map_cons, List.zip_cons_cons, List.map_cons, ← e3]
      unfold kvOf
      rw [kOf_kD, ← e1]
theorem kv_zip : ∀ {l : List (D × D)}, fdk l = true → dzip (l.map kvOf) (l.map (·.2)) = l
  | [], _ => rfl
  | p :: l, h => by
    have h0 := fdk_mem h (List.mem_cons_self ..)
    have ih := kv_zip (l := l) (by unfold fdk at h ⊢; rw [List.all_cons, Bool.and_eq_true] at h; exact h.2)
    unfold dzip at ih ⊢
    rw [List.map_cons, List.map_cons, List.map_cons, List.zip_cons_cons, ih]
    unfold kvOf
    rw [kD_kOf h0.1]
theorem fdk_at {m : Nat} {v : V} {l : List (D × D)} {g : List Addr} (h : Rp K S H m v (.dic false l) g) (hf : fdk l = true) :
    ∃ a, v = .ref a ∧ Rd H a (.dK (l.map kvOf)) ∧ (m = 0 → g = [] ∧ S a) ∧ (m ≠ 0 → H a = some (.dK (l.map kvOf)) ∧ g = [a]) := by
  generalize hd : D.dic false l = d at h
  cases h with
  | dk0 q s r =>
    obtain ⟨_, rfl⟩ := D.dic.inj hd
    obtain ⟨e1, _⟩ := zip_kv r hf
    exact ⟨_, rfl, by unfold dzip at e1; rw [← e1]; exact q, fun _ => ⟨rfl, s⟩, fun z => absurd rfl z⟩
  | dk1 q r =>
    obtain ⟨_, rfl⟩ := D.dic.inj hd
    obtain ⟨e1, e2⟩ := zip_kv r hf
    unfold dzip at e1
    rw [← e1, e2]
    exact ⟨_, rfl, .inl q, fun z => (nomatch z), fun _ => ⟨q, rfl⟩⟩
  | dt0 q s r => cases (D.dic.inj hd).1
  | dt1 q r => cases (D.dic.inj hd).1
  | _ => cases hd
theorem vals_eq {l : List (D × D)} : (l.map kvOf).map (·.2) = l.map fun p => imV p.2 := by rw [List.map_map]; rfl
theorem of_fdk {a : Addr} (m : Nat) {l : List (D × D)} (hf : fdk l = true) (h : H a = some (.dK (l.map kvOf))) : Rp K S H (m + 1) (.ref a) (.dic false l) [a] := by
  have r : RpAll K S H m ((l.map kvOf).map (·.2)) (l.map (·.2)) [] := by
    rw [vals_eq]
    exact rps_imV m fun p hp => (fdk_mem hf hp).2
  have := Rp.dk1 h r
  have e := kv_zip hf
  unfold dzip at e
  rwa [e] at this
theorem of_fdk0 {a : Addr} {l : List (D × D)} (hf : fdk l = true) (h : Rd H a (.dK (l.map kvOf))) (s : S a) : Rp K S H 0 (.ref a) (.dic false l) [] := by
  have r : RpAll K S H 0 ((l.map kvOf).map (·.2)) (l.map (·.2)) [] := by
    rw [vals_eq]
    exact rps_imV 0 fun p hp => (fdk_mem hf hp).2
  have := Rp.dk0 h s r
  have e := kv_zip hf
  unfold dzip at e
  rwa [e] at this
theorem ret_fdk {f : List Addr} {Q : VK} {l : List (D × D)} {m : Nat} (ok : Ok S H f) (hf : fdk l = true) (hQ : ∀ w H' S' h, Grow S H f S' h H' → VOk K S' H' ⟨false, m + 1, .dic false l⟩ w h → Ok S' H' h → Q w H') (p : Addr) (hp : H p = none) : Q (.ref p) (upd H p (.dK (l.map kvOf))) :=
  hQ _ _ S [p] (new_grow ok hp (fun _ z => z) (fun _ => .inl) fun b hb => .inr (List.mem_singleton.mp hb)) (by rw [VOk.own]; exact of_fdk m hf upd_same) (new_okp ok.nil hp trivial)
/-! list(d), dict(ps) -/
theorem kListD_op : OpN K (fun xs H Q => ∃ (a : Addr) (kvs : List (Key × V)), xs = [.ref a] ∧ Rd H a (.dK kvs) ∧ ∀ p, H p = none → Q (.ref p) (upd H p (.lst (kvs.map fun kv => kV kv.1)))) kListD := by
  refine opn_one (fun xs z e => ?_) fun S H x v f z Q h ok e hQ => ?_
  · unfold kListD at e
    split at e
    · exact ⟨_, rfl⟩
    · cases e
  · unfold kListD at e
    split at e
    · rename_i l ex
      obtain rfl : x = _ := (List.cons.inj ex).1
      split at e
      · rename_i hf
        obtain rfl := Option.some.inj e
        obtain ⟨g, hr⟩ := h.rp
        obtain ⟨a, rfl, hd, _, _⟩ := fdk_at hr hf
        refine ⟨a, _, rfl, hd, fun p hp => ?_⟩
        rw [List.map_map]
        exact ret_lst ok (fun _ z => z) (fun _ => .inl) ok.nil (by simp) (rps_key 0 fun p hp => (fdk_mem hf hp).1) hQ p hp
      · cases e
    · cases e
theorem same_kOf {a b : D} (ha : isKey a = true) (hb : isKey b = true) : D.same a b = decide (kOf a = kOf b) := by
  rw [← kD_kOf ha, ← kD_kOf hb, same_kD, kOf_kD, kOf_kD]
theorem put_kv {l : List (D × D)} {p : D × D} (hf : fdk l = true) (hk : isKey p.1 = true) : putK (l.map kvOf) (kOf p.1) (imV p.2) = (dPut l p.1 p.2).map kvOf := by
  have e : ((l.map kvOf).any fun kv => decide (kv.1 = kOf p.1)) = l.any fun q => q.1.same p.1 := by
    rw [List.any_map]
    induction l with
    | nil => rfl
    | cons q l ih =>
      rw [List.any_cons, List.any_cons, ih (by unfold fdk at hf ⊢; rw [List.all_cons, Bool.and_eq_true] at hf; exact hf.2), same_kOf (fdk_mem hf (List.mem_cons_self ..)).1 hk]
      rfl
  unfold putK dPut
  rw [e]
  split
  · rw [List.map_map, List.map_map]
    refine List.map_congr_left fun q hq => ?_
    show (if kOf q.1 = kOf p.1 then (kOf q.1, imV p.2) else kvOf q) = kvOf (if q.1.same p.1 = true then (q.1, p.2) else q)
    rw [same_kOf (fdk_mem hf hq).1 hk]
    by_cases c : kOf q.1 = kOf p.1
    · rw [if_pos c, if_pos (decide_eq_true c)]; rfl
    · rw [if_neg c, if_neg (by rw [decide_eq_false c]; simp)]
  · rw [List.map_append]
    rfl
theorem merge_kv : ∀ {ps l : List (D × D)}, fdk l = true → fdk ps = true → mergeK (l.map kvOf) (ps.map kvOf) = (ps.foldl (fun acc p => dPut acc p.1 p.2) l).map kvOf
  | [], _, _, _ => rfl
  | p :: ps, l, h, g => by
    have g0 := fdk_mem g (List.mem_cons_self ..)
    have g1 : fdk ps = true := by unfold fdk at g ⊢; rw [List.all_cons, Bool.and_eq_true] at g; exact g.2
    have := merge_kv (ps := ps) (fdk_put h g0.1 g0.2) g1
    rw [List.foldl_cons, ← this, ← put_kv h g0.1]
    rfl
theorem pairs_rp : ∀ {m : Nat} {vs : List V} {ds : List D} {ps : List (D × D)} {f : List Addr}, RpAll K S H m vs ds f → pairsOf ds = some ps → fdk ps = true →
    ∃ as : List Addr, vs = as.map V.ref ∧ Paired (fun p kv => SqT K H p [kV kv.1, kv.2]) as (ps.map kvOf)
  | _, _, [], ps, _, h, e, _ => by
    cases h
    obtain rfl := Option.some.inj e
    exact ⟨[], rfl, .nil⟩
  | m, _, d :: ds, ps, _, h, e, hf => by
    cases h with
    | cons h r =>
      unfold pairsOf at e
      split at e
      · cases (‹_› : (_ : List D) = [])
      · rename_i k v' ds' ed
        obtain ⟨rfl, rfl⟩ := List.cons.inj ed
        cases q : pairsOf ds with
        | none => rw [q] at e; cases e
        | some ps' =>
          rw [q] at e
          obtain rfl := Option.some.inj e
          have hf0 := fdk_mem hf (List.mem_cons_self ..)
          obtain ⟨as, e1, e2⟩ := pairs_rp r q (by unfold fdk at hf ⊢; rw [List.all_cons, Bool.and_eq_true] at hf; exact hf.2)
          obtain ⟨a, xs, rfl, h1, h2⟩ := h.tup
          cases h2 with
          | cons r1 r2 =>
            cases r2 with
            | cons r2 r3 =>
              cases r3
              obtain ⟨rfl, _⟩ := imV_of r1 (key_imm hf0.1)
              obtain ⟨rfl, _⟩ := imV_of r2 hf0.2
              refine ⟨a :: as, by rw [e1]; rfl, .cons ?_ e2⟩
              show SqT K H a [kV (kOf k), imV v']
              rw [kV_kOf hf0.1]
              exact h1
      · cases e
theorem kDct_op : OpN K (fun xs H Q => ∃ (a : Addr) (ps : List Addr) (kvs : List (Key × V)), xs = [.ref a] ∧ SqL K H a (ps.map V.ref) ∧ Paired (fun p kv => SqT K H p [kV kv.1, kv.2]) ps kvs ∧
    ∀ p, H p = none → Q (.ref p) (upd H p (.dK (mergeK [] kvs)))) kDct := by
  refine opn_one (fun xs z e => ?_) fun S H x v f z Q h ok e hQ => ?_
  · unfold kDct at e
    split at e
    · exact ⟨_, rfl⟩
    · cases e
  · unfold kDct at e
    split at e
    · rename_i ds ex
      obtain rfl : x = _ := (List.cons.inj ex).1
      split at e
      · rename_i ps ep
        split at e
        · rename_i hf
          obtain rfl := Option.some.inj e
          obtain ⟨g, hr⟩ := h.rp
          obtain ⟨a, xs, g', rfl, q1, q2, _, _⟩ := hr.lst
          obtain ⟨as, rfl, hp⟩ := pairs_rp q2 ep hf
          refine ⟨a, as, _, rfl, q1, hp, fun p hp => ?_⟩
          have := merge_kv (ps := ps) (l := []) rfl hf
          rw [List.map_nil] at this
          rw [this]
          exact ret_fdk ok (fdk_make hf) hQ p hp
        · cases e
      · cases e
    · cases e
theorem look_kv {k : D} (hk : isKey k = true) : ∀ {l : List (D × D)} {d : D}, fdk l = true → dLook l k = some d → valV (l.map kvOf) (kOf k) = some (imV d) ∧ d.imm = true
  | [], _, _, h => by cases h
  | p :: l, d, hf, h => by
    have h0 := fdk_mem hf (List.mem_cons_self ..)
    unfold dLook at h
    rw [List.find?_cons, same_kOf h0.1 hk] at h
    by_cases c : kOf p.1 = kOf k
    · rw [decide_eq_true c] at h
      have : p.2 = d := by simpa using h
      rw [← this]
      exact ⟨valV_pos c, h0.2⟩
    · rw [decide_eq_false c] at h
      have ih := look_kv hk (l := l) (d := d) (by unfold fdk at hf ⊢; rw [List.all_cons, Bool.and_eq_true] at hf; exact hf.2) (by unfold dLook; exact h)
      exact ⟨(valV_neg c).trans ih.1, ih.2⟩
theorem drop_kv {k : D} (hk : isKey k = true) {l : List (D × D)} (hf : fdk l = true) : dropK (l.map kvOf) (kOf k) = (l.filter fun p => !p.1.same k).map kvOf := by
  unfold dropK
  rw [List.filter_map]
  congr 1
  refine List.filter_congr fun p hp => ?_
  show decide (kOf p.1 ≠ kOf k) = !p.1.same k
  rw [same_kOf (fdk_mem hf hp).1 hk]
  simp
/-- an address of the dict alone is written -/
theorem own_write {F F0 : List Addr} {σ : List (Option V)} {ρ : Vs.Env} {a : Addr} {u : HO} (ok : Ok S H F) (pf : F.Perm (a :: F0)) (hm : Mut (some u)) : Step S F H S F (upd H a u) ∧ Ok S (upd H a u) F ∧ (EnvRp K S H σ ρ F0 → EnvRp K S (upd H a u) σ ρ F0) := by
  have haF : a ∈ F := pf.mem_iff.mpr (List.mem_cons_self ..)
  have ok1 : Ok S H ([a] ++ F0) := ok.perm pf
  refine ⟨⟨fun b o e hb => ?_, fun _ z => z, fun b hb => .inl hb, fun b hb => .inl hb⟩, ⟨ok.nd, fun b hb => ?_, ok.ns, fun b hb => ?_⟩, fun E => ?_⟩
  · rw [upd_ne (fun z => hb (by rw [z]; exact haF))]; exact e
  · by_cases c : b = a
    · rw [c, upd_same]; exact hm
    · rw [upd_ne c]; exact ok.mu b hb
  · by_cases c : b = a
    · rw [c, upd_same]; simp
    · rw [upd_ne c]; exact ok.tr b hb
  · refine E.step (⟨fun b o e hb => ?_, fun _ z => z, fun b hb => .inl hb, fun b hb => .inl hb⟩ : Step S [a] H S [a] (upd H a u)) ok1.head fun b hb z => ?_
    · rw [upd_ne (fun z => hb (by rw [z]; exact List.mem_singleton.mpr rfl))]; exact e
    · rw [List.mem_singleton.mp z] at hb
      exact ok1.apart a (List.mem_singleton.mpr rfl) hb
end
section
variable {ct : Str → Addr} {lent : List Bool} {X : Cx} {p apos cpos pos : Pos}
theorem s_popD {i : Nat} {x : Str} {e : Expr} {ge : M} (he : SE ct X e ge) (m : M1 X (.Name x p) "pop" apos e cpos := by exact ⟨rfl, rfl, rfl, rfl⟩) (hN : X.N[i]? = some x := by rfl) (hv : Vis X.env.scope x := by first | exact Or.inl rfl | exact Or.inr (Or.inl rfl) | exact Or.inr (Or.inr rfl)) (hd : (x == ("__debug__" : Str)) = false := by decide)
    (hcd : (x == ("__classdict__" : Str)) = false := by decide) : SE ct X (.Call (.Attribute (.Name x p) "pop" apos) [e] [] cpos) (popD i ge) := by
  refine ⟨fun W tk => ?_⟩
  obtain ⟨te, pe, re⟩ := he.run W tk
  refine ⟨_, pe_dpop1 (pv i hN hv hd hcd) pe m, fun S F H σ ρ Q E ok G => ?_⟩
  unfold popD at G
  split at G
  · rename_i m0 l0 q0
    obtain ⟨v0, f0', G0, h1, hz0, _, _⟩ := E.take q0
    obtain ⟨a, kvs0, _, _, rfl, _, hq0, _⟩ := hz0.dicK
    refine ⟨.ref a, h1, a, rfl, .inl ⟨_, hq0⟩, re S F H σ ρ _ E ok ?_⟩
    refine good_bind G fun y o w S1 F1 H1 g _ t1 hy E1 k1 G => ?_
    split at G
    · rename_i m l ql
      split at G
      · rename_i c
        split at G
        · rename_i d qd
          have hyk : y.d = kD (kOf y.d) := (kD_kOf c.1).symm
          obtain ⟨rfl, rfl⟩ := hy.key hyk
          obtain ⟨v1, f1, G1, h1', h2, pf, E2⟩ := E1.take ql
          rw [h1] at h1'
          cases h1'
          obtain ⟨a', ea, _, _, z2⟩ := fdk_at h2 c.2
          cases ea
          obtain ⟨ha, rfl⟩ := z2 (by omega)
          have k1 : Ok S1 H1 F1 := by simpa using k1
          obtain ⟨e1, e2⟩ := look_kv c.1 c.2 qd
          refine ⟨_, kOf y.d, imV d, ha, rfl, e1, ?_⟩
          rw [drop_kv c.1 c.2]
          obtain ⟨w1, w2, w3⟩ := own_write (K := X.K) (σ := σ) (ρ := Vs.put (now o ρ) i none) (u := .dK ((l.filter fun p => !p.1.same y.d).map kvOf)) k1 pf trivial
          have E3 := (w3 E2).back h1 (of_fdk (K := X.K) (S := S1) m (fdk_filter (q := fun p => !p.1.same y.d) c.2) upd_same)
          replace G : Good X.K ct (VOk X.K) W S F H σ ρ (.ok ⟨false, 0, d⟩ (some (Vs.put (now o ρ) i (some (m + 1, .dic false (l.filter fun p => !p.1.same y.d)))))) Q := G
          refine G (imV d) S1 ([a] ++ G1) _ [] ?_ (by rw [VOk.own]; exact rp_imV 0 e2) E3 (by rw [List.nil_append]; exact w2.perm pf)
          show Step S F H S1 ([] ++ ([a] ++ G1)) _
          exact (t1.step.trans (w1.wide (fun b hb => by simpa using hb) fun b hb => .inl hb)).less fun b hb => pf.mem_iff.mpr (by simpa using hb)
        · exact G.elim
      · exact G.elim
    · exact G.elim
  · exact G.elim
/-! ### a dict that is locked -/
def Lk (i : Nat) (σ : L2.St) (H : Hp) : Prop := ∃ a od kvs, σ[i]? = some (some (V.ref a)) ∧ H a = some (.frz od (.dK kvs))
section
variable {K : PySem.W.Frag} {S : Addr → Prop} {H : Hp}
theorem lk_at {i : Nat} {σ : L2.St} {ρ : Vs.Env} {F : List Addr} {l : List (D × D)} (lk : Lk i σ H) (E : EnvRp K S H σ ρ F) (ql : look ρ i = some (0, .dic false l)) (hf : fdk l = true) : ∃ a od, σ[i]? = some (some (V.ref a)) ∧ H a = some (.frz od (.dK (l.map kvOf))) ∧ S a := by
  obtain ⟨a, od, kvs, h1, h2⟩ := lk
  obtain ⟨v, f, G, h3, h4, _, _⟩ := E.take ql
  rw [h1] at h3
  cases h3
  obtain ⟨a', ea, hr, z, _⟩ := fdk_at h4 hf
  cases ea
  refine ⟨a, od, h1, ?_, (z rfl).2⟩
  rcases hr with hr | ⟨o, hr⟩
  · rw [h2] at hr; cases hr
  · rw [h2] at hr; cases hr; exact h2
theorem it_dk {a : Addr} {od : Obj} {l : List (D × D)} (h : H a = some (.frz od (.dK (l.map kvOf)))) (s : S a) (hf : fdk l = true) : ItOk K S H (l.map (·.1)) (Itk a od (l.map kvOf)) [] := by
  refine ⟨rfl, fun S2 H2 t i => ⟨fun d hd => ?_, fun hi => ⟨t.kS _ _ s h, by rw [List.length_map] at hi ⊢; exact hi⟩⟩⟩
  rw [List.getElem?_map] at hd
  cases q : l[i]? with
  | none => rw [q] at hd; cases hd
  | some p =>
    rw [q] at hd
    obtain rfl := Option.some.inj hd
    have hi := (List.getElem?_eq_some_iff.mp q).1
    refine ⟨⟨t.kS _ _ s h, by rw [List.length_map]; exact hi⟩, fun x H3 hy => ?_⟩
    obtain ⟨rfl, k, w, e1, rfl⟩ := hy
    rw [List.getElem?_map, q] at e1
    have e1 := Option.some.inj e1
    have hk := (fdk_mem hf (List.mem_of_getElem? q)).1
    have : k = kOf p.1 := (congrArg Prod.fst e1).symm
    rw [this, kV_kOf hk]
    exact ⟨Same.refl _, rp_imV 0 (key_imm hk)⟩
theorem it_dv {a : Addr} {od : Obj} {l : List (D × D)} (h : H a = some (.frz od (.dK (l.map kvOf)))) (s : S a) (hf : fdk l = true) : ItOk K S H (l.map (·.2)) (Itd a od (l.map kvOf)) [] := by
  refine ⟨rfl, fun S2 H2 t i => ⟨fun d hd => ?_, fun hi => ⟨t.kS _ _ s h, by rw [List.length_map] at hi ⊢; exact hi⟩⟩⟩
  rw [List.getElem?_map] at hd
  cases q : l[i]? with
  | none => rw [q] at hd; cases hd
  | some p =>
    rw [q] at hd
    obtain rfl := Option.some.inj hd
    have hi := (List.getElem?_eq_some_iff.mp q).1
    refine ⟨⟨t.kS _ _ s h, by rw [List.length_map]; exact hi⟩, fun x H3 hy => ?_⟩
    obtain ⟨rfl, k, e1⟩ := hy
    rw [List.getElem?_map, q] at e1
    have e1 := Option.some.inj e1
    have : x = imV p.2 := (congrArg Prod.snd e1).symm
    rw [this]
    exact ⟨Same.refl _, rp_imV 0 (fdk_mem hf (List.mem_of_getElem? q)).2⟩
theorem it_di {a : Addr} {od : Obj} {l : List (D × D)} (h : H a = some (.frz od (.dK (l.map kvOf)))) (s : S a) (hf : fdk l = true) : ItOk K S H (l.map fun p => .tup [p.1, p.2]) (Iti a od (l.map kvOf)) [] := by
  refine ⟨rfl, fun S2 H2 t i => ⟨fun d hd => ?_, fun hi => ⟨t.kS _ _ s h, by rw [List.length_map] at hi ⊢; exact hi⟩⟩⟩
  rw [List.getElem?_map] at hd
  cases q : l[i]? with
  | none => rw [q] at hd; cases hd
  | some p =>
    rw [q] at hd
    obtain rfl := Option.some.inj hd
    have hi := (List.getElem?_eq_some_iff.mp q).1
    refine ⟨⟨t.kS _ _ s h, by rw [List.length_map]; exact hi⟩, fun x H3 hy => ?_⟩
    obtain ⟨T, k, w, e1, rfl, nT, rfl⟩ := hy
    rw [List.getElem?_map, q] at e1
    have e1 := Option.some.inj e1
    have hm := fdk_mem hf (List.mem_of_getElem? q)
    have ek : k = kOf p.1 := (congrArg Prod.fst e1).symm
    have ew : w = imV p.2 := (congrArg Prod.snd e1).symm
    refine ⟨same_upd nT, .tup0 (.inl (.inl upd_same)) ?_⟩
    rw [ek, ew, kV_kOf hm.1]
    exact .cons (f := []) (g := []) (rp_imV 0 (key_imm hm.1)) (.cons (f := []) (g := []) (rp_imV 0 hm.2) (.nil _))
end
/-- what is walked, the dict being locked -/
structure LI (ct : Str → Addr) (i : Nat) (X : Cx) (tg e : Expr) (g : MI) : Prop where
  run : ∀ W, Takes X W → ∃ wi, PI X tg e wi ∧ ∀ S F H σ ρ R, EnvRp X.K S H σ ρ F → Ok S H F → Lk i σ H → Good X.K ct (ItOk X.K) W S F H σ ρ (g ρ) R → wi σ H R
structure LE (ct : Str → Addr) (i : Nat) (X : Cx) (e : Expr) (g : M) : Prop where
  run : ∀ W, Takes X W → ∃ t, PE X e t ∧ ∀ S F H σ ρ Q, EnvRp X.K S H σ ρ F → Ok S H F → Lk i σ H → Good X.K ct (VOk X.K) W S F H σ ρ (g ρ) Q → t σ H Q
section
variable {ct : Str → Addr} {lent : List Bool} {X : Cx} {p apos cpos pos : Pos} {tg : Expr}
theorem li_keys (i : Nat) {x : Str} (hN : X.N[i]? = some x := by rfl) (hv : Vis X.env.scope x := by first | exact Or.inl rfl | exact Or.inr (Or.inl rfl) | exact Or.inr (Or.inr rfl)) (hd : (x == ("__debug__" : Str)) = false := by decide)
    (hcd : (x == ("__classdict__" : Str)) = false := by decide) : LI ct i X tg (.Name x p) (itDK i) := by
  refine ⟨fun W tk => ⟨_, pi_keys (pv i hN hv hd hcd), fun S F H σ ρ R E ok lk G => ?_⟩⟩
  unfold itDK at G
  split at G
  · rename_i l ql
    split at G
    · rename_i hf
      obtain ⟨a, od, h1, h2, h3⟩ := lk_at lk E ql hf
      exact ⟨.ref a, h1, a, od, rfl, .inl ⟨_, h2, G _ S F H [] Fit.nil (it_dk h2 h3 hf) E ok⟩⟩
    · exact G.elim
  · exact G.elim
theorem li_values (i : Nat) {x : Str} (hN : X.N[i]? = some x := by rfl) (hv : Vis X.env.scope x := by first | exact Or.inl rfl | exact Or.inr (Or.inl rfl) | exact Or.inr (Or.inr rfl)) (hd : (x == ("__debug__" : Str)) = false := by decide)
    (hcd : (x == ("__classdict__" : Str)) = false := by decide) (hbase : attributeBase (.Name x p) "values" X.env (eval (.Name x p) X.env) = eval (.Name x p) X.env := by rfl) (hline : (apos.endLine == cpos.line) = true := by rfl) : LI ct i X tg (.Call (.Attribute (.Name x p) "values" apos) [] [] cpos) (itDV i) := by
  refine ⟨fun W tk => ⟨_, pi_values (pv i hN hv hd hcd) hbase hline, fun S F H σ ρ R E ok lk G => ?_⟩⟩
  unfold itDV at G
  split at G
  · rename_i l ql
    split at G
    · rename_i hf
      obtain ⟨a, od, h1, h2, h3⟩ := lk_at lk E ql hf
      exact ⟨.ref a, h1, a, od, _, rfl, h2, G _ S F H [] Fit.nil (it_dv h2 h3 hf) E ok⟩
    · exact G.elim
  · exact G.elim
theorem li_items (i : Nat) {x : Str} {elts : List Expr} {kk : Nat} {tpos : Pos} (hN : X.N[i]? = some x := by rfl) (hv : Vis X.env.scope x := by first | exact Or.inl rfl | exact Or.inr (Or.inl rfl) | exact Or.inr (Or.inr rfl)) (hd : (x == ("__debug__" : Str)) = false := by decide)
    (hcd : (x == ("__classdict__" : Str)) = false := by decide) (hbase : attributeBase (.Name x p) "items" X.env (eval (.Name x p) X.env) = eval (.Name x p) X.env := by rfl) (hline : (apos.endLine == cpos.line) = true := by rfl) : LI ct i X (.Tuple elts kk tpos) (.Call (.Attribute (.Name x p) "items" apos) [] [] cpos) (itDI i) := by
  refine ⟨fun W tk => ⟨_, pi_items (pv i hN hv hd hcd) hbase hline, fun S F H σ ρ R E ok lk G => ?_⟩⟩
  unfold itDI at G
  split at G
  · rename_i l ql
    split at G
    · rename_i hf
      obtain ⟨a, od, h1, h2, h3⟩ := lk_at lk E ql hf
      exact ⟨.ref a, h1, a, od, _, rfl, h2, G _ S F H [] Fit.nil (it_di h2 h3 hf) E ok⟩
    · exact G.elim
  · exact G.elim
end
section
variable {ct : Str → Addr} {X : Cx} {pos : Pos} {elt tg iter : Expr} {ifs : List Expr} {scope : Scope} {own : List (Str × Nat)} {gi : MI} {gg : MG} {gt : MT} {ge : M}
theorem le_lcomp {n : Nat} (hc : X.calm = true) (hN : X.N.Nodup) (hi : LI ct n X tg iter gi) (ok : BlkOk X.N X.env.scope scope own)
    (hg : ∀ n i, SN ct (others n (own.map (·.2))) (blkX X scope i) tg gg) (ht : ∀ i, STs ct (blkX X scope i) ifs gt) (he : ∀ i, SE ct (blkX X scope i) elt ge) (hs : ∀ x, foldedSetIterable iter X.env x = pure x := by intro _; rfl) :
    LE ct n X (.ListComp elt [⟨tg, iter, ifs, 0⟩] scope pos) (comp gi gg gt ge (own.map (·.2))) := by
  refine ⟨fun W tk => ?_⟩
  obtain ⟨wi', g, tt, te, ⟨wi, h1, e⟩, h2, h3, h4, h5⟩ := comp_runG (ct := ct) (X := X) (gi := gi) (elt := elt) (tg := tg) (ifs := ifs) (scope := scope) (gg := gg) (gt := gt) (ge := ge) (PX := fun wi' => ∃ wi, PI X tg iter wi ∧ wi' = fun σ H R => Lk n σ H → wi σ H R) (Hi := fun _ => True) (own := own) hN (fun W tk => by
    obtain ⟨wi, p, r⟩ := hi.run W tk
    exact ⟨_, ⟨wi, p, rfl⟩, fun S F H σ ρ R E ok G lk => r S F H σ ρ R E ok lk G⟩) (fun n i _ => hg n i) (fun i _ => ht i) (fun i _ => he i) W tk
  subst e
  refine ⟨_, pe_lc hc hN h1 ok (fun s H C cl fp => h2 (s, H, C, cl, fp) trivial) (fun s H C cl fp => h3 (s, H, C, cl, fp) trivial) (fun s H C cl fp => h4 (s, H, C, cl, fp) trivial) hs, fun S F H σ ρ Q E okk lk G => ?_⟩
  exact h5 S F H σ ρ Q E okk G lk
end
section
variable {K : PySem.W.Frag} {S : Addr → Prop} {H : Hp} {a : Addr} {od : Obj} {kvs : List (Key × V)}
mutual
theorem Rp.unlk (hz : H a = some (.frz od (.dK kvs))) : ∀ {m : Nat} {v : V} {d : D} {f : List Addr}, d.flat = true → Rp K S H m v d f → Rp K (fun b => S b ∧ b ≠ a) (upd H a (.dK kvs)) m v d f
  | _, _, _, _, _, .non m => .non m
  | _, _, _, _, _, .bl m b => .bl m b
  | _, _, _, _, _, .int m i => .int m i
  | _, _, _, _, _, .str m x => .str m x
  | _, _, _, _, hf, .lst0 (a := b) h q r => by
    have hb : b ≠ a := fun e => by
      rw [e] at h
      rcases h with h | ⟨o, h⟩ <;> (rw [hz] at h; cases h)
    exact .lst0 (by unfold Rd at h ⊢; rw [upd_ne hb]; exact h) ⟨q, hb⟩ (RpAll.unlk hz hf r)
  | _, _, _, _, hf, .lstK h r => .lstK h (RpAll.unlk hz hf r)
  | _, _, _, _, hf, .lst1 (a := b) h r => by
    have hb : b ≠ a := fun e => by rw [e, hz] at h; cases h
    exact .lst1 (by rw [upd_ne hb]; exact h) (RpAll.unlk hz hf r)
  | _, _, _, _, hf, .tup0 (a := b) h r => by
    refine .tup0 ?_ (RpAll.unlk hz hf r)
    rcases h with (h | ⟨o, h⟩) | h
    · exact .inl (.inl (by rw [upd_ne (fun e => by rw [e, hz] at h; cases h)]; exact h))
    · exact .inl (.inr ⟨o, by rw [upd_ne (fun e => by rw [e, hz] at h; cases h)]; exact h⟩)
    · exact .inr h
  | _, _, _, _, hf, .tup1 (a := b) h r => .tup1 (by rw [upd_ne (fun e => by rw [e, hz] at h; cases h)]; exact h) (RpAll.unlk hz hf r)
  | _, _, _, _, hf, .dk0 .. => by cases hf
  | _, _, _, _, hf, .dk1 .. => by cases hf
  | _, _, _, _, hf, .dt0 .. => by cases hf
  | _, _, _, _, hf, .dt1 .. => by cases hf
  | _, _, _, _, hf, .exn0 .. => by cases hf
  | _, _, _, _, hf, .anyR .. => by cases hf
  | _, _, _, _, hf, .exn1 .. => by cases hf
theorem RpAll.unlk (hz : H a = some (.frz od (.dK kvs))) : ∀ {m : Nat} {v : List V} {d : List D} {f : List Addr}, flatAll d = true → RpAll K S H m v d f → RpAll K (fun b => S b ∧ b ≠ a) (upd H a (.dK kvs)) m v d f
  | _, _, _, _, _, .nil m => .nil m
  | _, _, _, _, hf, .cons h r => by
    simp only [flatAll, Bool.and_eq_true] at hf
    exact .cons (Rp.unlk hz hf.1 h) (RpAll.unlk hz hf.2 r)
end
/-- its own dict is locked: what stands else stays -/
theorem lock_env {F F0 : List Addr} {σ : List (Option V)} {ρ : Vs.Env} {u : HO} (ok : Ok S H F) (pf : F.Perm (a :: F0)) : Ok (fun b => S b ∨ b = a) (upd H a u) F0 ∧ (EnvRp K S H σ ρ F0 → EnvRp K (fun b => S b ∨ b = a) (upd H a u) σ ρ F0) := by
  have ok1 : Ok S H ([a] ++ F0) := ok.perm pf
  have ha0 : a ∉ F0 := fun hb => ok1.apart a (List.mem_singleton.mpr rfl) hb
  refine ⟨⟨ok1.tail.nd, fun b hb => ?_, fun b hb z => ?_, fun b hb => ?_⟩, fun E => ?_⟩
  · rw [upd_ne (fun z => ha0 (by rw [← z]; exact hb))]; exact ok1.tail.mu b hb
  · rcases z with z | z
    · exact ok1.tail.ns b hb z
    · exact ha0 (by rw [← z]; exact hb)
  · by_cases c : b = a
    · rw [c, upd_same]; simp
    · rw [upd_ne c]; exact ok.tr b (hb.resolve_right c)
  · refine E.step (⟨fun b o e hb => ?_, fun _ z => .inl z, fun b hb => (nomatch hb), fun b hb => hb.imp id fun z => .inl (List.mem_singleton.mpr z)⟩ : Step S [a] H (fun b => S b ∨ b = a) [] (upd H a u)) ok1.head fun b hb z => ?_
    · rw [upd_ne (fun z => hb (by rw [z]; exact List.mem_singleton.mpr rfl))]; exact e
    · rw [List.mem_singleton.mp z] at hb
      exact ha0 hb
end
section
variable {ct : Str → Addr} {X : Cx} {e : Expr} {ge : M}
theorem s_lkE {i : Nat} (h : LE ct i X e ge) : SE ct X e (lkE i ge) := by
  refine ⟨fun W tk => ?_⟩
  obtain ⟨t, p, r⟩ := h.run W tk
  refine ⟨_, pe_lock p, fun S F H σ ρ Q E ok G => ?_⟩
  unfold lkE at G
  split at G
  · rename_i m l ql
    split at G
    · rename_i hf
      obtain ⟨v0, f1, G0, h1, h2, pf, E2⟩ := E.take ql
      obtain ⟨a, rfl, _, _, z2⟩ := fdk_at h2 hf
      obtain ⟨ha, rfl⟩ := z2 (by omega)
      have pf : F.Perm (a :: G0) := pf
      have haF : a ∈ F := pf.mem_iff.mpr (List.mem_cons_self ..)
      have naS : ¬ S a := ok.ns a haF
      have naG : a ∉ G0 := (List.nodup_cons.mp (ok.perm pf).nd).1
      refine ⟨a, _, ha, trivial, fun od => ?_⟩
      obtain ⟨k1, w⟩ := lock_env (K := X.K) (σ := σ) (ρ := Vs.put ρ i none) (u := .frz od (.dK (l.map kvOf))) ok pf
      have E3 := (w E2).back h1 (of_fdk0 (K := X.K) (S := fun b => S b ∨ b = a) (H := upd H a (.frz od (.dK (l.map kvOf)))) hf (.inr ⟨od, upd_same⟩) (.inr rfl))
      refine r _ _ _ σ _ _ E3 (by simpa using k1) ⟨a, od, _, h1, upd_same⟩ ?_
      split at G
      · rename_i x qx
        split at G
        · rename_i c
          rw [qx]
          intro v S1 F1 H1 f t1 hv E4 k4
          obtain ⟨sm, u1, u2, hF1, n⟩ := t1
          rw [hF1] at k4
          have hz := sm _ _ (upd_same (H := H) (a := a) (o := .frz od (.dK (l.map kvOf))))
          refine ⟨hz, ?_⟩
          obtain ⟨xb, xm, xd⟩ := x
          obtain ⟨rfl, hfl⟩ := c
          rw [VOk.own] at hv
          have k4 : Ok S1 H1 (f ++ ([] ++ G0)) := k4
          rw [List.nil_append] at k4
          have smH : Same H (upd H1 a (.dK (l.map kvOf))) := fun b o q => by
            by_cases cb : b = a
            · rw [cb] at q ⊢
              rw [upd_same, ← q, ha]
            · rw [upd_ne cb]
              exact sm b o (by rw [upd_ne cb]; exact q)
          have nf : a ∉ f := fun z => by
            have := n a z
            rw [upd_same] at this
            cases this
          have sub : ∀ b, S b → S1 b ∧ b ≠ a := fun b hb => ⟨u1 b (.inl hb), fun e => naS (by rw [← e]; exact hb)⟩
          refine G v (fun b => S1 b ∧ b ≠ a) F _ f ⟨smH, sub, fun b hb => ?_, rfl, fun b hb => ?_⟩ (by rw [VOk.own]; exact hv.unlk hz hfl) ((E.same smH).more sub) ?_
          · rcases u2 b hb.1 with (z | z) | z
            · exact .inl z
            · exact absurd z hb.2
            · rw [upd_ne hb.2] at z; exact .inr z
          · have := n b hb
            rwa [upd_ne (fun z => nf (by rw [← z]; exact hb))] at this
          · have pp : (f ++ F).Perm (a :: (f ++ G0)) := (List.Perm.append_left f pf).trans List.perm_middle
            refine Ok.perm (F := a :: (f ++ G0)) ⟨List.nodup_cons.mpr ⟨fun z => ?_, k4.nd⟩, fun b hb => ?_, fun b hb z => ?_, fun b hb => ?_⟩ pp.symm
            · rcases List.mem_append.mp z with z | z
              · exact nf z
              · exact naG z
            · by_cases cb : b = a
              · rw [cb, upd_same]; trivial
              · rw [upd_ne cb]; exact k4.mu b ((List.mem_cons.mp hb).resolve_left cb)
            · exact k4.ns b ((List.mem_cons.mp hb).resolve_left z.2) z.1
            · rw [upd_ne hb.2]; exact k4.tr b hb.1
        · exact G.elim
      · exact G.elim
    · exact G.elim
  · exact G.elim
end
section
variable {K : PySem.W.Frag} {ct : Str → Addr} {lent : List Bool} {W : WX} {gi : MI} {gg : MG} {gb : MS} {wi : TI} {tg' : TG} {tb : TS}
theorem for_run (ri : ∀ S F H σ ρ R, EnvRp K S H σ ρ F → Ok S H F → Good K ct (ItOk K) W S F H σ ρ (gi ρ) R → wi σ H R)
    (rg : ∀ S F H σ ρ x v f D Q, VOk K S H x v f → EnvRp K S H σ ρ F → Ok S H (f ++ F) → (∀ σ' H', D.nx σ' H' → Q σ' H') → GoodS K ct lent W D S (f ++ F) H σ (gg x ρ) → tg' v σ H Q)
    (rb : ∀ S F H σ ρ D, EnvRp K S H σ ρ F → Ok S H F → GoodS K ct lent W D S F H σ (gb ρ) → tb D σ H) :
    ∀ S F H σ ρ D, EnvRp K S H σ ρ F → Ok S H F → GoodS K ct lent W D S F H σ (fors gi gg gb ρ) → tFor wi tg' tb D σ H := fun S F H σ ρ D E ok G => by
  refine ri S F H σ ρ _ E ok ?_
  refine good_go G fun ds o J S1 F1 H1 f st hJ E1 ok1 G => ?_
  obtain ⟨rfl, hJ⟩ := hJ
  replace ok1 : Ok S1 H1 F1 := ok1
  replace st : Step S F H S1 F1 H1 := st
  refine ⟨fun i m σ' H' => ∃ ρ' S' F', i + m = ds.length ∧ Step S1 F1 H1 S' F' H' ∧ EnvRp K S' H' σ' ρ' F' ∧ Ok S' H' F' ∧ Kp lent σ σ' ∧ GoodS K ct lent W D S' F' H' σ' (forL gg gb (ds.drop i) ρ'),
    ⟨ds.length, _, S1, F1, by omega, Step.refl, E1, ok1, Kp.refl, GoodS.from st Kp.refl G⟩, fun i m σ' H' hW => ?_⟩
  obtain ⟨ρ', S', F', em, st', E', ok', kp', G'⟩ := hW
  obtain ⟨j1, j2⟩ := hJ S' H' (st'.later ok1) i
  by_cases hi : i < ds.length
  · obtain ⟨d, hd⟩ : ∃ d, ds[i]? = some d := ⟨ds[i], List.getElem?_eq_getElem hi⟩
    obtain ⟨g1, g2⟩ := j1 d hd
    have ed : ds.drop i = d :: ds.drop (i + 1) := by
      have := List.drop_eq_getElem_cons hi
      rw [List.getElem?_eq_getElem hi] at hd
      rw [this, Option.some.inj hd]
    rw [ed] at G'
    refine .inr ⟨g1, fun σ2 H2 => ∃ ρ2 S2 F2, Step S1 F1 H1 S2 F2 H2 ∧ EnvRp K S2 H2 σ2 ρ2 F2 ∧ Ok S2 H2 F2 ∧ Kp lent σ σ2 ∧ GoodS K ct lent W D S2 F2 H2 σ2 (forL gg gb (ds.drop (i + 1)) ρ2), fun σ2 H2 hN => ?_, fun x H3 hy => ?_⟩
    · obtain ⟨ρ2, S2, F2, a1, a2, a3, a4, a5⟩ := hN
      exact ⟨m - 1, by omega, ρ2, S2, F2, by omega, a1, a2, a3, a4, a5⟩
    · obtain ⟨sm, rx⟩ := g2 x H3 hy
      have st3 : Step S' F' H' S' F' H3 := Step.of_same sm fun _ => .inl
      have G3 := GoodS.from st3 Kp.refl G'
      unfold forL at G3
      -- one turn
      let N : L2.St → Hp → Prop := fun σ2 H2 => ∃ ρ2 S2 F2, Step S1 F1 H1 S2 F2 H2 ∧ EnvRp K S2 H2 σ2 ρ2 F2 ∧ Ok S2 H2 F2 ∧ Kp lent σ σ2 ∧ GoodS K ct lent W D S2 F2 H2 σ2 (forL gg gb (ds.drop (i + 1)) ρ2)
      have turn : GoodS K ct lent W { D with nx := N, ct := N, bk := D.nx } S' F' H3 σ' ((gg ⟨false, 0, d⟩ ρ').seq gb) := by
        cases q : (gg ⟨false, 0, d⟩ ρ').seq gb with
        | nx ρ1 =>
          rw [q] at G3
          exact fun σ2 S2 F2 H2 t E2 o2 k2 => ⟨ρ1, S2, F2, (st'.trans st3).trans t, E2, o2, kp'.trans k2, GoodS.from t k2 G3⟩
        | ct ρ1 =>
          rw [q] at G3
          exact fun σ2 S2 F2 H2 t E2 o2 k2 => ⟨ρ1, S2, F2, (st'.trans st3).trans t, E2, o2, kp'.trans k2, GoodS.from t k2 G3⟩
        | brk ρ1 => rw [q] at G3; exact G3
        | ret pv ρ1 => rw [q] at G3; exact G3
        | ex e ρ1 => rw [q] at G3; exact G3
        | no => rw [q] at G3; exact G3
      refine rg S' F' H3 σ' ρ' ⟨false, 0, d⟩ x [] { D with nx := fun σ2 H2 => tb { D with nx := N, ct := N, bk := D.nx } σ2 H2, ct := N, bk := D.nx } _ (by rw [VOk.own]; exact rx) (E'.same sm) (ok'.same sm) (fun _ _ z => z) ?_
      cases q : gg ⟨false, 0, d⟩ ρ' with
      | nx ρ1 =>
        rw [q] at turn
        exact fun σ2 S2 F2 H2 t E2 o2 k2 => rb S2 F2 H2 σ2 ρ1 _ E2 o2 (GoodS.from t k2 turn)
      | _ => rw [q] at turn; exact turn
  · refine .inl ⟨j2 (by omega), ?_⟩
    rw [List.drop_eq_nil_of_le (by omega)] at G'
    exact G' σ' S' F' H' Step.refl E' ok' Kp.refl
end
structure LS (ct : Str → Addr) (lent : List Bool) (i : Nat) (X : Cx) (st : Stmt) (g : MS) : Prop where
  run : ∀ W, Takes X W → PassesOwn (model X.prog X.w) X.A X.env X.xe → ∃ t, PS X st t ∧ ∀ S F H σ ρ D, EnvRp X.K S H σ ρ F → Ok S H F → Lk i σ H → GoodS X.K ct lent W D S F H σ (g ρ) → t D σ H
section
variable {ct : Str → Addr} {lent : List Bool} {X : Cx} {body : List Stmt} {gb : MS} {pos : Pos}
theorem ls_for {n : Nat} {tg iter : Expr} {gi : MI} {gg : MG} (hc : X.calm = true) (hi : LI ct n X tg iter gi) (hg : SG ct lent X tg gg) (hb : SSs ct lent X body gb) (hs : ∀ x, foldedSetIterable iter X.env x = pure x := by intro _; rfl) :
    LS ct lent n X (.For tg iter body [] pos) (fors gi gg gb) := by
  refine ⟨fun W tk po => ?_⟩
  obtain ⟨wi, pi, ri⟩ := hi.run W tk
  obtain ⟨tg', pg, rg⟩ := hg.run W tk
  obtain ⟨tb, pb, rb⟩ := hb.run W tk po
  refine ⟨_, ps_for po hc pi pg pb hs, fun S F H σ ρ D E ok lk G => ?_⟩
  exact for_run (wi := fun σ H R => Lk n σ H → wi σ H R) (fun S F H σ ρ R E ok G lk => ri S F H σ ρ R E ok lk G) rg rb S F H σ ρ D E ok G lk
end
section
variable {K : PySem.W.Frag} {S : Addr → Prop} {H : Hp} {a : Addr} {od : Obj} {kvs : List (Key × V)}
mutual
theorem Rp.unlkS (hz : H a = some (.frz od (.dK kvs))) : ∀ {m : Nat} {v : V} {d : D} {f : List Addr}, Rp K S H m v d f → Rp K S (upd H a (.dK kvs)) m v d f
  | _, _, _, _, .non m => .non m
  | _, _, _, _, .bl m b => .bl m b
  | _, _, _, _, .int m i => .int m i
  | _, _, _, _, .str m x => .str m x
  | _, _, _, _, .lst0 (a := b) h q r => by
    have hb : b ≠ a := fun e => by
      rw [e] at h
      rcases h with h | ⟨o, h⟩ <;> (rw [hz] at h; cases h)
    exact .lst0 (by unfold Rd at h ⊢; rw [upd_ne hb]; exact h) q (RpAll.unlkS hz r)
  | _, _, _, _, .lstK h r => .lstK h (RpAll.unlkS hz r)
  | _, _, _, _, .lst1 (a := b) h r => .lst1 (by rw [upd_ne (fun e => by rw [e, hz] at h; cases h)]; exact h) (RpAll.unlkS hz r)
  | _, _, _, _, .tup0 (a := b) h r => by
    refine .tup0 ?_ (RpAll.unlkS hz r)
    rcases h with (h | ⟨o, h⟩) | h
    · exact .inl (.inl (by rw [upd_ne (fun e => by rw [e, hz] at h; cases h)]; exact h))
    · exact .inl (.inr ⟨o, by rw [upd_ne (fun e => by rw [e, hz] at h; cases h)]; exact h⟩)
    · exact .inr h
  | _, _, _, _, .tup1 (a := b) h r => .tup1 (by rw [upd_ne (fun e => by rw [e, hz] at h; cases h)]; exact h) (RpAll.unlkS hz r)
  | _, _, _, _, .dk0 (a := b) h q r => by
    refine .dk0 ?_ q (RpAll.unlkS hz r)
    by_cases hb : b = a
    · rw [hb] at h ⊢
      rcases h with h | ⟨o, h⟩
      · rw [hz] at h; cases h
      · rw [hz] at h; cases h; exact .inl upd_same
    · unfold Rd at h ⊢; rw [upd_ne hb]; exact h
  | _, _, _, _, .dk1 (a := b) h r => .dk1 (by rw [upd_ne (fun e => by rw [e, hz] at h; cases h)]; exact h) (RpAll.unlkS hz r)
  | _, _, _, _, .dt0 (a := b) h q r => .dt0 (by rw [upd_ne (fun e => by rw [e, hz] at h; cases h)]; exact h) q (RpAll.unlkS hz r)
  | _, _, _, _, .dt1 (a := b) h r => .dt1 (by rw [upd_ne (fun e => by rw [e, hz] at h; cases h)]; exact h) (RpAll.unlkS hz r)
  | _, _, _, _, .ob0 (a := b) h q oo r => .ob0 (by rw [upd_ne (fun e => by rw [e, hz] at h; cases h)]; exact h) q oo (RpAll.unlkS hz r)
  | _, _, _, _, .ob1 (a := b) h oo r => .ob1 (by rw [upd_ne (fun e => by rw [e, hz] at h; cases h)]; exact h) oo (RpAll.unlkS hz r)
  | _, _, _, _, .exn0 m a d c => .exn0 m a d c
  | _, _, _, _, .anyR m a => .anyR m a
  | _, _, _, _, .exn1 (d := b) h q r => .exn1 (by rw [upd_ne (fun e => by rw [e, hz] at h; cases h)]; exact h) q (RpAll.unlkS hz r)
theorem RpAll.unlkS (hz : H a = some (.frz od (.dK kvs))) : ∀ {m : Nat} {v : List V} {d : List D} {f : List Addr}, RpAll K S H m v d f → RpAll K S (upd H a (.dK kvs)) m v d f
  | _, _, _, _, .nil m => .nil m
  | _, _, _, _, .cons h r => .cons (Rp.unlkS hz h) (RpAll.unlkS hz r)
end
theorem EnvRp.unlkS (hz : H a = some (.frz od (.dK kvs))) {σ : List (Option V)} {ρ : Vs.Env} {F : List Addr} (h : EnvRp K S H σ ρ F) : EnvRp K S (upd H a (.dK kvs)) σ ρ F := by
  induction h with
  | nil => exact .nil
  | dead _ ih => exact .dead ih
  | live r _ q ih => exact .live (r.unlkS hz) ih q
theorem Ok.unlkS (hz : H a = some (.frz od (.dK kvs))) {F : List Addr} (h : Ok S H F) : Ok S (upd H a (.dK kvs)) F := by
  refine ⟨h.nd, fun b hb => ?_, h.ns, fun b hb => ?_⟩
  · by_cases c : b = a
    · rw [c, upd_same]; trivial
    · rw [upd_ne c]; exact h.mu b hb
  · by_cases c : b = a
    · rw [c, upd_same]; simp
    · rw [upd_ne c]; exact h.tr b hb
end
section
variable {ct : Str → Addr} {lent : List Bool} {X : Cx} {st : Stmt} {gs : MS}
theorem ss_lkS {i : Nat} (h : LS ct lent i X st gs) : SS ct lent X st (lkS i gs) := by
  refine ⟨fun W tk po => ?_⟩
  obtain ⟨t, p, r⟩ := h.run W tk po
  refine ⟨_, ps_lock p, fun S F H σ ρ D E ok G => ?_⟩
  unfold lkS at G
  split at G
  · rename_i m l ql
    split at G
    · rename_i hf
      obtain ⟨v0, f1, G0, h1, h2, pf, E2⟩ := E.take ql
      obtain ⟨a, rfl, _, _, z2⟩ := fdk_at h2 hf
      obtain ⟨ha, rfl⟩ := z2 (by omega)
      have pf : F.Perm (a :: G0) := pf
      have haF : a ∈ F := pf.mem_iff.mpr (List.mem_cons_self ..)
      have naG : a ∉ G0 := (List.nodup_cons.mp (ok.perm pf).nd).1
      refine ⟨a, _, ha, trivial, fun od => ?_⟩
      obtain ⟨k1, w⟩ := lock_env (K := X.K) (σ := σ) (ρ := Vs.put ρ i none) (u := .frz od (.dK (l.map kvOf))) ok pf
      have E3 := (w E2).back h1 (of_fdk0 (K := X.K) (S := fun b => S b ∨ b = a) (H := upd H a (.frz od (.dK (l.map kvOf)))) hf (.inr ⟨od, upd_same⟩) (.inr rfl))
      rw [List.nil_append] at E3
      have st0 : Step S F H (fun b => S b ∨ b = a) G0 (upd H a (.frz od (.dK (l.map kvOf)))) :=
        ⟨fun b o e hb => by rw [upd_ne (fun z => hb (by rw [z]; exact haF))]; exact e, fun _ z => .inl z, fun b hb => .inl (pf.mem_iff.mpr (List.mem_cons_of_mem _ hb)), fun b hb => hb.imp id fun z => .inl (by rw [z]; exact haF)⟩
      -- behind the lock
      have un : ∀ {S2 F2 H2}, Step (fun b => S b ∨ b = a) G0 (upd H a (.frz od (.dK (l.map kvOf)))) S2 F2 H2 → H2 a = some (.frz od (.dK (l.map kvOf))) ∧ Step S F H S2 F2 (upd H2 a (.dK (l.map kvOf))) := fun st => by
        refine ⟨st.keep _ _ upd_same naG, ?_⟩
        have s2 := st0.trans st
        refine ⟨fun b o e hb => ?_, s2.sub, s2.newF, s2.newS⟩
        rw [upd_ne (fun z => hb (by rw [z]; exact haF))]
        exact s2.keep b o e hb
      refine r _ _ _ σ _ _ E3 k1 ⟨a, od, _, h1, upd_same⟩ ?_
      cases q : gs (Vs.put ρ i (some (0, .dic false l))) with
      | nx ρ' =>
        rw [q] at G
        exact fun σ2 S2 F2 H2 st E4 k4 kp => ⟨(un st).1, G σ2 S2 F2 _ (un st).2 (E4.unlkS (un st).1) (k4.unlkS (un st).1) kp⟩
      | brk ρ' =>
        rw [q] at G
        exact fun σ2 S2 F2 H2 st E4 k4 kp => ⟨(un st).1, G σ2 S2 F2 _ (un st).2 (E4.unlkS (un st).1) (k4.unlkS (un st).1) kp⟩
      | ct ρ' =>
        rw [q] at G
        exact fun σ2 S2 F2 H2 st E4 k4 kp => ⟨(un st).1, G σ2 S2 F2 _ (un st).2 (E4.unlkS (un st).1) (k4.unlkS (un st).1) kp⟩
      | ret pv ρ' =>
        rw [q] at G
        exact fun v f σ2 S2 F2 H2 st hv E4 k4 kp => ⟨(un st).1, G v f σ2 S2 F2 _ (un st).2 (hv.unlkS (un st).1) (E4.unlkS (un st).1) (k4.unlkS (un st).1) kp⟩
      | ex e ρ' =>
        rw [q] at G
        exact fun C d σ2 S2 F2 H2 st E4 k4 kp x => G C d σ2 S2 F2 H2 (st0.trans st) E4 k4 kp x
      | no => rw [q] at G; exact G
    · exact G.elim
  · exact G.elim
end
theorem kAddO_op {K : PySem.W.Frag} : Op2 K (rAdd3 K) kAddO := fun S H x v f y u g z Q h1 h2 ok e hQ => by
  unfold kAddO at e
  split at e
  · rename_i m l n k
    split at e
    · rename_i c
      obtain rfl := Option.some.inj e
      rw [VOk.own] at h1 h2
      cases h1 with
      | lst1 ha r1 =>
        rename_i a xs f1
        cases h2 with
        | lst1 hb r2 =>
          rename_i b ys g1
          obtain ⟨p0, p1, pp, q1⟩ := r1.thin (min m n)
          obtain ⟨g0, g2, pg, q2⟩ := r2.thin (min m n)
          rw [show min m (min m n) = min m n by omega] at q1
          rw [show min n (min m n) = min m n by omega] at q2
          refine .inr (.inr ⟨a, b, xs, ys, rfl, rfl, .inl (.inl ha), .inl (.inl hb), by rw [r1.length, r2.length, ← lim_eq]; exact c, fun p hp => ?_⟩)
          have pall : ((a :: f1) ++ (b :: g1)).Perm ((p0 ++ g0) ++ (a :: b :: (p1 ++ g2))) := by
            have e1 : ((a :: f1) ++ (b :: g1)).Perm ((a :: (p0 ++ p1)) ++ (b :: (g0 ++ g2))) := List.Perm.append (List.Perm.cons a pp) (List.Perm.cons b pg)
            exact e1.trans (List.perm_iff_count.mpr fun z => by simp only [List.count_append, List.count_cons]; omega)
          have ok2 := ok.perm pall
          refine ret_lst (S' := fun z => S z ∨ z ∈ a :: b :: (p1 ++ g2)) (g := p0 ++ g0) ok (fun z hz => .inl hz) (fun z hz => hz.imp id fun q => pall.mem_iff.mpr (List.mem_append_right _ q)) ?_ (fun z hz => pall.mem_iff.mpr (List.mem_append_left _ hz)) ?_ hQ p hp
          · refine ⟨ok2.head.nd, ok2.head.mu, fun z hz q => q.elim (ok2.head.ns z hz) fun q => ok2.apart z hz q, fun z hz => hz.elim (ok2.tr z) fun q => ok2.mem (List.mem_append_right _ q)⟩
          · exact (q1.more fun z hz => hz.imp id fun q => List.mem_cons_of_mem _ (List.mem_cons_of_mem _ (List.mem_append_left _ q))).append (q2.more fun z hz => hz.imp id fun q => List.mem_cons_of_mem _ (List.mem_cons_of_mem _ (List.mem_append_right _ q)))
    · cases e
  · cases e
theorem s_addO {ct : Str → Addr} {X : Cx} {a b : Expr} {ga gb : M} {pos : Pos} (ha : SE ct X a ga) (hb : SE ct X b gb) : SE ct X (.BinOp a .Add b pos) (two ga gb kAddO) := s_op op_add3 kAddO_op ha hb
end
end Vs
set_option maxHeartbeats 4000000
/-! lists in lists: x[i][j].m(..), y = x[i]; y[j] = e, x[i][j] = e; a list of plain items, its own as deep as is wanted -/
namespace Vs
open PySem (Str PyData)
def bmp (k : Nat) : VV → Option VV
  | ⟨false, _ + 1, .lst l⟩ => if l.all D.imm = true then some ⟨false, k + 1, .lst l⟩ else none
  | _ => none
def bumpE (k : Nat) (e : M) : M := fun ρ => (e ρ).bind ρ fun x _ => .ofO (bmp k x)
/-- x[b1][b2].m(..) -/
def recvII (i : Nat) (b1 b2 : M) (as : MA) (k : PV → List VV → Option (VV × PV)) : M := fun ρ => match look ρ i with
  | some (m + 2, .lst l) => (match itemOf (b1 ρ) m l with
    | some (j1, l1) => (match itemOf (b2 ρ) m l1 with
      | some (j2, l2) => (match as ρ with
        | .ok xs none => (match k (m, .lst l2) xs with
          | some (r, pv') => if pv'.1 ≤ m then .ef r (put ρ i (some (pv'.1 + 2, .lst (l.set j1 (.lst (l1.set j2 pv'.2)))))) else .no
          | none => .no)
        | _ => .no)
      | none => .no)
    | none => .no)
  | _ => .no
/-- y = x[b1]; y[b2] = e -/
def aliS (i j : Nat) (b1 e b2 : M) : MS := fun ρ => if j < ρ.length then (match look ρ i with
  | some (m + 2, .lst l) => (match itemOf (b1 ρ) m l with
    | some (j1, l1) => (match e (put ρ j none) with
      | .ok x none => if x.d.imm = true then (match b2 (put ρ j none) with
        | .ok y none => (match y.d with
          | .int k => (match nix l1.length k with
            | some k1 => .nx (put (put ρ j none) i (some (m + 2, .lst (l.set j1 (.lst (l1.set k1 x.d))))))
            | none => .no)
          | _ => .no)
        | _ => .no) else .no
      | _ => .no)
    | none => .no)
  | _ => .no) else .no
theorem e_bumpE {k : Nat} {e : M} {ρ : Env} : bumpE k e ρ = (e ρ).bind ρ fun x _ => .ofO (bmp k x) := (rfl)
theorem e_recvII {i : Nat} {b1 b2 : M} {as : MA} {k : PV → List VV → Option (VV × PV)} {ρ : Env} : recvII i b1 b2 as k ρ = match look ρ i with
  | some (m + 2, .lst l) => (match itemOf (b1 ρ) m l with
    | some (j1, l1) => (match itemOf (b2 ρ) m l1 with
      | some (j2, l2) => (match as ρ with
        | .ok xs none => (match k (m, .lst l2) xs with
          | some (r, pv') => if pv'.1 ≤ m then .ef r (put ρ i (some (pv'.1 + 2, .lst (l.set j1 (.lst (l1.set j2 pv'.2)))))) else .no
          | none => .no)
        | _ => .no)
      | none => .no)
    | none => .no)
  | _ => .no := (rfl)
theorem e_aliS {i j : Nat} {b1 e b2 : M} {ρ : Env} : aliS i j b1 e b2 ρ = if j < ρ.length then (match look ρ i with
  | some (m + 2, .lst l) => (match itemOf (b1 ρ) m l with
    | some (j1, l1) => (match e (put ρ j none) with
      | .ok x none => if x.d.imm = true then (match b2 (put ρ j none) with
        | .ok y none => (match y.d with
          | .int k => (match nix l1.length k with
            | some k1 => .nx (put (put ρ j none) i (some (m + 2, .lst (l.set j1 (.lst (l1.set k1 x.d))))))
            | none => .no)
          | _ => .no)
        | _ => .no) else .no
      | _ => .no)
    | none => .no)
  | _ => .no) else .no := (rfl)
theorem bmp_nats {k m : Nat} {l : List D} (h : l.all D.imm = true) : bmp k ⟨false, m + 1, .lst l⟩ = some ⟨false, k + 1, .lst l⟩ := by
  unfold bmp
  simp only [h, if_true]
end Vs
set_option maxHeartbeats 4000000
namespace Vs
open PySem PySem.Spec PyProof.Rows L2
section
variable {ct : Str → Addr} {lent : List Bool} {X : Cx} {p pos pos1 pos2 pos3 : Pos}
theorem s_bump (k : Nat) {e : Expr} {g : M} (he : SE ct X e g) : SE ct X e (bumpE k g) := by
  refine ⟨fun W tk => ?_⟩
  obtain ⟨t, p, r⟩ := he.run W tk
  refine ⟨t, p, fun S F H σ ρ Q E ok G => r S F H σ ρ _ E ok ?_⟩
  unfold bumpE at G
  refine good_bind G fun x o v S1 F1 H1 f _ t1 h1 E1 k1 G => ?_
  cases q : bmp k x with
  | none => rw [q] at G; exact G.elim
  | some z =>
    rw [q] at G
    unfold bmp at q
    split at q
    · rename_i m l
      split at q
      · rename_i hi
        obtain rfl := (Option.some.inj q).symm
        rw [VOk.own] at h1
        refine G v S1 F1 H1 f (t1.thn (g := []) (o' := none) k1 Fit.nil (fun b hb => .inl hb) (Same.refl _)) ?_ (by rw [now_thn]; exact E1) k1
        rw [VOk.own]
        cases h1 with
        | lst1 ha rr =>
          obtain ⟨rfl, q'⟩ := rr.imms hi
          exact .lst1 ha (q' _ _ _)
      · cases q
    · cases q
theorem EnvRp.over {K : PySem.W.Frag} {S : Addr → Prop} {H : Hp} {σ : List (Option V)} {ρ : Vs.Env} {F : List Addr} (h : EnvRp K S H σ ρ F) : ∀ {i : Nat} {x : Option V}, look ρ i = none → EnvRp K S H (σ.set i x) ρ F := by
  induction h with
  | nil => intro i x _; exact .nil
  | dead h ih =>
    intro i x hl
    cases i with
    | zero => exact .dead h
    | succ i => exact .dead (ih hl)
  | live r h q ih =>
    intro i x hl
    cases i with
    | zero => cases hl
    | succ i => exact .live r (ih hl) q
theorem atI_of {zs : List V} {ds : List D} {jj : Int} {j : Nat} {u : V} (hl : zs.length = ds.length) (qn : nix ds.length jj = some j) (pu : zs[j]? = some u) : L2.atI zs jj = some u := by
  unfold L2.atI
  have e1 : ixN zs.length jj = some j := by rw [hl]; exact qn
  rw [e1]
  exact pu
/-- x = y[b1]; x[b2] = e -/
theorem ss_aliS {i j : Nat} {x y : Str} {b1 b2 e : Expr} {gb1 gb2 ge : M} {py px px2 pq : Pos} (hb1 : SE ct X b1 gb1) (he : SE ct X e ge) (hb2 : SE ct X b2 gb2)
    (hNd : X.N.Nodup) (hN : X.N[i]? = some y) (hv : Vis X.env.scope y) (hd : (y == ("__debug__" : Str)) = false) (hcd : (y == ("__classdict__" : Str)) = false)
    (hNx : X.N[j]? = some x) (hx : Loc X.env.scope x) (hvx : Vis X.env.scope x) (hdx : (x == ("__debug__" : Str)) = false) (hcdx : (x == ("__classdict__" : Str)) = false) (hl : lent[j]? ≠ some true) (hf : X.fn x = true ∨ X.env.scope.names.lookup x = some .local)
    (hij : i ≠ j) (hs1 : PlainIx b1)
    (hsA : swapsWithSole [.Name x px] (.Subscript (.Name y py) b1 pq) pos.line X.env = pure false) (hwA : swappedStores [.Name x px] (.Subscript (.Name y py) b1 pq) X.env = pure none)
    (hA : (assignEach [.Name x px] X.env).map (·.2) = [assign (.Name x px) X.env])
    (ha : ∀ v, assign (.Subscript (.Name x px2) b2 pos2) X.env v = (do
      let ov ← holding [v] (eval (.Name x px2) X.env)
      let iv ← holding [v, ov] (eval b2 X.env)
      standAt pos2
      holding [v, ov, iv] (setItem ov iv v)
      release [v, ov, iv] []))
    (hsB : swapsWithSole [.Subscript (.Name x px2) b2 pos2] e pos3.line X.env = pure false) (hwB : swappedStores [.Subscript (.Name x px2) b2 pos2] e X.env = pure none)
    (hB : (assignEach [.Subscript (.Name x px2) b2 pos2] X.env).map (·.2) = [assign (.Subscript (.Name x px2) b2 pos2) X.env]) :
    SS2 ct lent X (.Assign [.Name x px] (.Subscript (.Name y py) b1 pq) pos) (.Assign [.Subscript (.Name x px2) b2 pos2] e pos3) (aliS i j gb1 ge gb2) := by
  refine ⟨fun W tk po => ?_⟩
  obtain ⟨tb1, pb1, rb1⟩ := hb1.run W tk
  obtain ⟨tb2, pb2, rb2⟩ := hb2.run W tk
  obtain ⟨te, pe, re⟩ := he.run W tk
  refine ⟨_, _, ps_asg (pe_ix ix_seq (pv i hN hv hd hcd) pb1 hs1) (pg_name hNd hNx hx hf) hsA hwA hA, ps_asg pe (pg_sub (pv j hNx hvx hdx hcdx) pb2 set_list ha) hsB hwB hB, fun S F H σ ρ D E ok G => ?_⟩
  unfold aliS at G
  by_cases hjl : j < ρ.length
  · rw [if_pos hjl] at G
    split at G
    · rename_i m l ql
      split at G
      · rename_i j1 l1 qi
        obtain ⟨bb, mm, jj, qb, qn, qj⟩ := itemOf_some qi
        obtain ⟨v0, f0, G0, h1, h2, pf, E2⟩ := E.take ql
        cases h2 with
        | lst1 hla hri =>
          rename_i a zs f'
          refine ⟨.ref a, h1, rb1 S F H σ ρ _ E ok ?_⟩
          rw [qb]
          intro y1 S1 F1 H1 gi t1 hy E1 k1
          obtain rfl := hy.int'
          obtain rfl := hy.nil_int
          obtain ⟨sm1, u1, u1', rfl, _⟩ := id t1
          have hri1 := (hri.same sm1).more u1
          obtain ⟨u, g1, g, g2, pu, rfl, hu, hset, _⟩ := hri1.at qj
          refine .inl ⟨a, zs, jj, u, rfl, rfl, .inl (.inl (sm1 _ _ hla)), atI_of hri.length qn pu, ?_⟩
          show te (σ.set j (some u)) H1 _
          -- the value
          rw [now_none] at E1
          obtain ⟨f5, Fj, pj, Ej⟩ := E1.drop j
          have Ej2 := Ej.over (i := j) (x := some u) (look_put_none ρ j)
          have okj : Ok S1 H1 Fj := (Ok.perm (G := f5 ++ Fj) (by simpa using k1) pj).tail
          split at G
          · rename_i xv qe
            by_cases hxi : xv.d.imm = true
            · rw [if_pos hxi] at G
              split at G
              · rename_i yy qb2
                split at G
                · rename_i k qk
                  split at G
                  · rename_i k1' qk1
                    refine re S1 Fj H1 _ _ _ Ej2 okj ?_
                    rw [qe]
                    intro vx S2 F2 H2 gx t2 hvx2 E3 k2
                    obtain ⟨sm2, u2, u2', rfl, _⟩ := id t2
                    rw [now_none] at E3
                    have hxs : xv.stable = true := by unfold VV.stable; rw [hxi, Bool.or_true]
                    have hvr := hvx2.stab hxs
                    obtain ⟨rfl, hvr'⟩ := hvr.imm hxi
                    have hjσ : j < σ.length := by rw [E.len]; exact hjl
                    refine ⟨u, List.getElem?_set_self hjσ, rb2 S2 F2 H2 _ _ _ E3 (by simpa using k2) ?_⟩
                    rw [qb2]
                    intro w S3 F3 H3 gw t3 hw E4 k3
                    obtain ⟨sm3, u3, u3', rfl, _⟩ := id t3
                    rw [now_none] at E4
                    obtain ⟨yb, ym, yd⟩ := yy
                    obtain rfl : yd = .int k := qk
                    obtain rfl := hw.int'
                    obtain rfl := hw.nil_int
                    have k3 : Ok S3 H3 F3 := by simpa using k3
                    -- the slot again
                    obtain ⟨v3, f3, G3, h3, h4, pf3, E5⟩ := E4.take (i := i) (by rw [look_put_ne ρ none (Ne.symm hij)]; exact ql)
                    have hs3 : (σ.set j (some u))[i]? = some (some (.ref a)) := by rw [List.getElem?_set_ne (Ne.symm hij)]; exact h1
                    rw [hs3] at h3
                    cases h3
                    cases h4 with
                    | lst1 hla3 hri3 =>
                      rename_i zs3 ff3
                      have ez : zs3 = zs := by
                        have e1 := sm3 _ _ (sm2 _ _ (sm1 _ _ hla))
                        rw [e1] at hla3
                        cases hla3
                        rfl
                      subst ez
                      obtain ⟨u', g1', g', g2', pu', rfl, hu', hset', _⟩ := hri3.at qj
                      rw [pu] at pu'
                      cases pu'
                      cases hu' with
                      | lst1 hb3 hr3 =>
                        rename_i b ys gg
                        have hok : Ok S3 H3 ((a :: (g1' ++ (b :: gg) ++ g2')) ++ G3) := k3.perm pf3
                        have hbk : nix l1.length k = some k1' := qk1
                        have okb : Ok S3 H3 ([] ++ (b :: gg)) := by
                          have : Ok S3 H3 (a :: (g1' ++ (b :: gg) ++ g2')) := hok.head
                          exact this.sub (by
                            rw [List.nil_append]
                            exact ((List.sublist_append_right g1' (b :: gg)).trans (List.sublist_append_left _ _)).trans (List.sublist_cons_self _ _))
                        obtain ⟨S4, ff, w1, w2, w3⟩ := set_ok hb3 okb hr3 (hvr' S3 H3 0) (nix_lt hbk)
                        rw [if_pos hxi] at w2
                        have hl1 : j1 < l.length := (List.getElem?_eq_some_iff.mp qj).1
                        have hr0 := hset' .non .non [] (.non _)
                        obtain ⟨S5, F5, c1, c2, c3, c4⟩ := item_ok (gx := []) (g := b :: gg) (h := []) (u0 := a) (f := []) (Nat.le_refl (m + 1)) hl1 pu hla3 (by simpa using hok.head) hr0 (by simpa using w1) w2 (by simpa using w3)
                        have hj3 : ixN ys.length k = some k1' := by rw [hr3.length]; exact hbk
                        refine ⟨b, ys, k, k1', rfl, rfl, hb3, hj3, ?_⟩
                        have okc : Ok S3 H3 (([] ++ (a :: (g1' ++ (b :: gg) ++ g2'))) ++ G3) := by simpa using hok
                        have E6 : EnvRp X.K S5 _ (σ.set j (some (.ref b))) (Vs.put (Vs.put ρ j none) i none) G3 := E5.step c1 okc.head fun b hb z => okc.apart b z hb
                        have k4 : Ok S5 _ (G3 ++ ([] ++ F5)) := Ok.join c1 (okc.perm List.perm_append_comm) c3
                        have E7 := E6.back hs3 c2
                        have p5 : (G3 ++ ([] ++ F5)).Perm (F5 ++ G3) := by rw [List.nil_append]; exact List.perm_append_comm
                        refine G _ S5 (F5 ++ G3) _ ?_ E7 (k4.perm p5) (Kp.set hl)
                        have sA : Step S F1 H S1 F3 H1 := (t1.step).less fun b hb => by
                          rw [List.nil_append]
                          exact pj.mem_iff.mpr (List.mem_append_right _ hb)
                        have sB : Step S1 F3 H1 S2 F3 H2 := t2.step.less fun b hb => by simpa using hb
                        have sC : Step S2 F3 H2 S3 F3 H3 := t3.step.less fun b hb => by simpa using hb
                        refine ((sA.trans sB).trans sC).trans (c1.wide (fun b hb => pf3.mem_iff.mpr (List.mem_append_left _ (by simpa using hb))) fun b hb => ?_)
                        rcases List.mem_append.mp hb with z | z
                        · exact .inl (by simpa using z)
                        · exact .inr (pf3.mem_iff.mpr (List.mem_append_right _ z))
                  · exact G.elim
                · exact G.elim
              · exact G.elim
            · rw [if_neg hxi] at G
              exact G.elim
          · exact G.elim
      · exact G.elim
    · exact G.elim
  · rw [if_neg hjl] at G
    exact G.elim
theorem s_recvII {i : Nat} {x : Str} {b1 b2 : Expr} {es : List Expr} {gb1 gb2 : M} {ga : MA} {e : Expr} {p pb pb' : Pos} {r : V → List V → Hp → VK → Prop} {k : PV → List VV → Option (VV × PV)} (ho : Recv1 X.K r k) (hb1 : SE ct X b1 gb1) (hb2 : SE ct X b2 gb2) (ha : SA ct X es ga)
    (mk : ∀ {to t}, PE X (.Subscript (.Subscript (.Name x p) b1 pb) b2 pb') to → PA X es t → PE X e (tBM X.K "list" r to t))
    (hN : X.N[i]? = some x := by rfl) (hv : Vis X.env.scope x := by first | exact Or.inl rfl | exact Or.inr (Or.inl rfl) | exact Or.inr (Or.inr rfl)) (hd : (x == ("__debug__" : Str)) = false := by decide)
    (hcd : (x == ("__classdict__" : Str)) = false := by decide) (hs1 : PlainIx b1 := by exact fun _ _ => rfl) (hs2 : PlainIx b2 := by exact fun _ _ => rfl) : SE ct X e (recvII i gb1 gb2 ga k) := by
  refine ⟨fun W tk => ?_⟩
  obtain ⟨tb1, pb1, rb1⟩ := hb1.run W tk
  obtain ⟨tb2, pb2, rb2⟩ := hb2.run W tk
  obtain ⟨ta, pa, ra⟩ := ha.run W tk
  refine ⟨_, mk (pe_ix ix_seq (pe_ix ix_seq (pv i hN hv hd hcd) pb1 hs1) pb2 hs2) pa, fun S F H σ ρ Q E ok G => ?_⟩
  unfold recvII at G
  split at G
  · rename_i m l ql
    split at G
    · rename_i j1 l1 qi
      split at G
      · rename_i j2 l2 qi2
        obtain ⟨bb, mm, jj, qb, qn, qj⟩ := itemOf_some qi
        obtain ⟨bb2, mm2, jj2, qb2, qn2, qj2⟩ := itemOf_some qi2
        obtain ⟨v0, f0, G0, h1, h2, pf, E2⟩ := E.take ql
        split at G
        · rename_i xs qa
          split at G
          · rename_i z pv' qk
            split at G
            · rename_i hm
              cases h2 with
              | lst1 hla hri =>
                rename_i a zs f'
                refine ⟨.ref a, h1, rb1 S F H σ ρ _ E ok ?_⟩
                rw [qb]
                intro y S1 F1 H1 gi t1 hy E1 k1
                obtain rfl := hy.int'
                obtain rfl := hy.nil_int
                obtain ⟨sm1, w1, w1', rfl, _⟩ := id t1
                have hri1 := (hri.same sm1).more w1
                obtain ⟨u, g1, g, g2, pu, rfl, hu, hset, _⟩ := hri1.at qj
                refine .inl ⟨a, zs, jj, u, rfl, rfl, .inl (.inl (sm1 _ _ hla)), atI_of hri.length qn pu, ?_⟩
                cases hu with
                | lst1 hlb hrb =>
                  rename_i b ys gg
                  refine rb2 S1 F1 H1 σ ρ _ E1 k1 ?_
                  rw [qb2]
                  intro y2 S2 F2 H2 gi2 t2 hy2 E3 k2
                  obtain rfl := hy2.int'
                  obtain rfl := hy2.nil_int
                  obtain ⟨sm2, w2, w2', rfl, _⟩ := id t2
                  have hrb2 := (hrb.same sm2).more w2
                  obtain ⟨u2, e1, e, e2, pu2, rfl, hu2, hset2, _⟩ := hrb2.at qj2
                  refine .inl ⟨b, ys, jj2, u2, rfl, rfl, .inl (.inl (sm2 _ _ hlb)), atI_of hrb.length qn2 pu2, ?_, ?_⟩
                  · obtain ⟨aa, us, _, rfl, q1, _⟩ := hu2.lst
                    exact .inl ⟨rfl, us, q1⟩
                  · refine ra S2 F2 H2 σ ρ _ E3 k2 ?_
                    rw [qa]
                    intro vs S3 F3 H3 gx t3 hx E4 k3
                    obtain ⟨sm3, w3, w3', rfl, _⟩ := id t3
                    have hu3 := (hu2.same sm3).more w3
                    have hn3 := ((hset2 .non .non [] (.non _)).same sm3).more w3
                    have hn1 := ((((hset .non .non [] (.non _)).same sm2).more w2).same sm3).more w3
                    have E5 : EnvRp X.K S3 H3 σ (Vs.put ρ i none) G0 := (((((E2.same sm1).more w1).same sm2).more w2).same sm3).more w3
                    have k4 : Ok S3 H3 ((gx ++ (a :: (g1 ++ (b :: (e1 ++ e ++ e2)) ++ g2))) ++ G0) := by
                      rw [List.append_assoc]
                      exact k3.perm (List.Perm.append_left _ pf)
                    have sub2 : (e : List Addr).Sublist (b :: (e1 ++ e ++ e2)) := ((List.sublist_append_right e1 e).trans (List.sublist_append_left _ _)).trans (List.sublist_cons_self _ _)
                    have sub1 : (b :: (e1 ++ e ++ e2)).Sublist (a :: (g1 ++ (b :: (e1 ++ e ++ e2)) ++ g2)) := ((List.sublist_append_right g1 (b :: (e1 ++ e ++ e2))).trans (List.sublist_append_left _ _)).trans (List.sublist_cons_self _ _)
                    have kg2 : Ok S3 H3 (gx ++ (b :: (e1 ++ e ++ e2))) := k4.head.sub (List.Sublist.append (List.Sublist.refl _) sub1)
                    have kg : Ok S3 H3 (gx ++ e) := kg2.sub (List.Sublist.append (List.Sublist.refl _) sub2)
                    refine ho S3 H3 (m, .lst l2) u2 e xs vs gx z pv' Q hu3 hx kg qk fun w H' S' h f2 st hw hr ok' => ?_
                    have hl2 : j2 < l1.length := (List.getElem?_eq_some_iff.mp qj2).1
                    have hl1 : j1 < l.length := (List.getElem?_eq_some_iff.mp qj).1
                    obtain ⟨S4, F4, c1, c2, c3, c4⟩ := item_ok (u0 := a) (f := []) hm hl2 pu2 (sm3 _ _ (sm2 _ _ hlb)) kg2 hn3 st hr ok'
                    obtain ⟨S5, F5, d1, d2, d3, d4⟩ := item_ok (u0 := a) (f := []) (Nat.succ_le_succ hm) hl1 pu (sm3 _ _ (sm2 _ _ (sm1 _ _ hla))) k4.head hn1 c1 c2 c3
                    have E6 : EnvRp X.K S5 H' σ (Vs.put ρ i none) G0 := E5.step d1 k4.head fun b hb z => k4.apart b z hb
                    have k5 : Ok S5 H' (G0 ++ (h ++ F5)) := Ok.join d1 (k4.perm List.perm_append_comm) d3
                    have p5 : (G0 ++ (h ++ F5)).Perm (h ++ (F5 ++ G0)) := by
                      refine List.perm_append_comm.trans ?_
                      rw [List.append_assoc]
                    refine G w S5 (F5 ++ G0) H' h ?_ ((hw.more c4).more d4) (E6.back h1 d2) (k5.perm p5)
                    refine ((t1.step.trans t2.step).trans t3.step).trans (d1.wide (fun b hb => ?_) fun b hb => ?_)
                    · rcases List.mem_append.mp hb with z | z
                      · exact List.mem_append_left _ z
                      · exact List.mem_append_right _ (pf.mem_iff.mpr (List.mem_append_left _ z))
                    · rcases List.mem_append.mp (p5.mem_iff.mpr hb) with z | z
                      · exact .inr (List.mem_append_right _ (pf.mem_iff.mpr (List.mem_append_right _ z)))
                      · exact .inl z
            · exact G.elim
          · exact G.elim
        · exact G.elim
      · exact G.elim
    · exact G.elim
  · exact G.elim
end
end Vs
set_option maxHeartbeats 4000000
/-! d = dict(ps); if k not in d: ..; x = d[k] - keys None and whole numbers; d is not used behind it -/
namespace Vs
open PySem (Str PyData)
def nkEq : D → D → Bool
  | .non, .non => true | .int i, .int j => decide (i = j) | _, _ => false
def isNk : D → Bool
  | .non => true | .int _ => true | _ => false
def pairsN : List D → Option (List (D × D))
  | [] => some []
  | .tup [k, v] :: ds => if isNk k = true ∧ v.imm = true then (pairsN ds).map fun ps => (k, v) :: ps else none
  | _ => none
def lastN (k : D) : List (D × D) → Option D → Option D
  | [], a => a
  | p :: ps, a => lastN k ps (if nkEq p.1 k = true then some p.2 else a)
def look3 (j i : Nat) (ge : M) (gb : MS) (gg : MG) : MS := fun ρ => if i = j ∨ ρ.length ≤ j then .no else (ge ρ).go ρ fun x ρ1 => match x.d, look ρ1 i with
  | .lst ds, some (_, k) => if isNk k = true then (match pairsN ds with
    | some ps => (match lastN k ps none with
      | none => (match gb (put ρ1 j none) with | .nx _ => .no | fl => fl)
      | some v => gg ⟨false, 0, v⟩ (put ρ1 j none))
    | none => .no) else .no
  | _, _ => .no
theorem e_look3 {j i : Nat} {ge : M} {gb : MS} {gg : MG} {ρ : Env} : look3 j i ge gb gg ρ = if i = j ∨ ρ.length ≤ j then .no else (ge ρ).go ρ fun x ρ1 => match x.d, look ρ1 i with
  | .lst ds, some (_, k) => if isNk k = true then (match pairsN ds with
    | some ps => (match lastN k ps none with
      | none => (match gb (put ρ1 j none) with | .nx _ => .no | fl => fl)
      | some v => gg ⟨false, 0, v⟩ (put ρ1 j none))
    | none => .no) else .no
  | _, _ => .no := (rfl)
end Vs
set_option maxHeartbeats 4000000
/-! .. the rule. -/
namespace Vs
open PySem PySem.Spec PyProof.Rows L2
def nV : Option Key → V
  | none => .non | some k => kV k
theorem nV_is {P : Program} {w : World} {k : Option Key} {u : Value} (r : RelV (nV k) u) : (noneKind P w).is k u = true := by
  cases k with
  | none =>
    obtain rfl : u = Value.none := r
    rfl
  | some k => exact kV_is (P := P) (w := w) r
/-- a dict whose keys are None, ints and texts -/
def NkO (P : Program) (w : World) (a : Addr) (kvs : List (Option Key × V)) : HO := .ext fun h => (a == sysModules) = false ∧ ∃ vs, KV kvs vs ∧ h.DictOf (noneKind P w) a vs
def mergeN (acc : List (Option Key × V)) (l : List (Option Key × V)) : List (Option Key × V) := l.foldl (fun acc kv => putK acc kv.1 kv.2) acc
theorem KV.mergeN : ∀ {more : List (Option Key × V)} {rs : List (Option Key × Value)} {kvs : List (Option Key × V)} {vs : List (Option Key × Value)}, KV more rs → KV kvs vs → KV (Vs.mergeN kvs more) (merged vs rs)
  | _, _, _, _, .nil, h => h
  | _, _, _, _, .cons (a := a) (b := b) (l₁ := l1) (l₂ := l2) r t, h => by
    obtain ⟨k, x⟩ := a
    obtain ⟨k', y⟩ := b
    obtain ⟨e, ry⟩ := r
    have e : k = k' := e
    subst e
    exact (KV.mergeN t (h.put k ry) : KV (Vs.mergeN (putK _ k x) l1) (merged (stored _ k y) l2))
section
variable {X : Cx} {pins : List (Addr × Obj)} {σ : L2.St} {H : Hp} {s : Shared} {a : Addr} {kvs : List (Option Key × V)}
theorem nk_pairs (I : Inv X pins σ H s) : ∀ {ps : List Addr} {kvs : List (Option Key × V)}, Paired (fun p kv => SqT X.K H p [nV kv.1, kv.2]) ps kvs →
    ∃ prs : List (Value × Value), ∃ vs : List (Option Key × Value), KV kvs vs ∧ prs.length = ps.length ∧ vs.length = ps.length ∧ ∀ (j : Nat) (k v : Value), prs[j]? = some (k, v) → ∃ (b : Addr) (q : Option Key), ps[j]? = some b ∧ vs[j]? = some (q, v) ∧ IsTup s.heap b #[k, v] ∧ (noneKind X.prog X.w).is q k = true
  | _, _, .nil => ⟨[], [], .nil, rfl, rfl, fun j k v e => by simp at e⟩
  | _, _, .cons (a := p) (b := kv) h t => by
    obtain ⟨prs, vs, r, hl, hl2, hp⟩ := nk_pairs I t
    obtain ⟨its, rv, ht, _⟩ := I.tuple h
    obtain ⟨u, y, ei, ru, ry⟩ := vals2 rv
    subst ei
    refine ⟨(u, y) :: prs, (kv.1, y) :: vs, .cons ⟨rfl, ry⟩ r, by rw [List.length_cons, List.length_cons, hl], by rw [List.length_cons, List.length_cons, hl2], fun j k v e => ?_⟩
    cases j with
    | zero =>
      have e' : (u, y) = (k, v) := Option.some.inj e
      obtain ⟨rfl, rfl⟩ := Prod.mk.inj e'
      exact ⟨p, kv.1, rfl, rfl, ht, nV_is ru⟩
    | succ j =>
      obtain ⟨b, q, e1, e2, e3, e4⟩ := hp j k v (by simpa using e)
      exact ⟨b, q, by simpa using e1, by simpa using e2, e3, e4⟩
def rDctN (K : PySem.W.Frag) (P : Program) (w : World) : List V → Hp → VK → Prop := fun xs H Q => ∃ (a : Addr) (ps : List Addr) (kvs : List (Option Key × V)), xs = [.ref a] ∧ SqL K H a (ps.map V.ref) ∧ Paired (fun p kv => SqT K H p [nV kv.1, kv.2]) ps kvs ∧
    ∀ p, H p = none → Q (.ref p) (upd H p (NkO P w p (mergeN [] kvs)))
theorem call_dictN (hcalm : X.calm = true) : CallR X (.type "dict") (rDctN X.K X.prog X.w) := by
  intro pins s σ H xs us Q I r q
  obtain ⟨a, ps, kvs, ex, hq, hp, q⟩ := q
  subst ex
  obtain ⟨u, eu, rx⟩ := vals1 r
  subst eu
  cases rx
  obtain ⟨its, rv, pl, hz⟩ := I.list hq
  have ei := refs_at rv
  subst ei
  rw [List.length_map] at hz
  obtain ⟨prs, vs, rel, hl, hl2, hpr⟩ := nk_pairs I hp
  obtain ⟨o, n, ho, hc, hd, hdat⟩ := pl
  refine PySem.call_dict_pairs (knd := noneKind X.prog X.w) (kvs := vs) (PairArg.list a (ps.map Value.ref).toArray (fun j => ps.getD j 0) prs) (I.ok.hd hcalm) ⟨⟨o, n, ho, hc, hd, hdat⟩, by simp [hl], fun j k v e => ?_⟩ ⟨by rw [hl2, hl], fun j k v e => ?_⟩ (by rw [hl]; exact hz) fun h' tk hd' k => ?_
  · obtain ⟨b, q', e1, e2, e3, e4⟩ := hpr j k v e
    have eb : ps.getD j 0 = b := by rw [List.getD_eq_getElem?_getD, e1]; rfl
    show _ ∧ PairAt s.heap (ps.getD j 0) k v
    rw [eb]
    exact ⟨by simp [e1], .inl e3⟩
  · obtain ⟨b, q', e1, e2, e3, e4⟩ := hpr j k v e
    exact ⟨q', e2, e4⟩
  · have hm : (s.heap.objs.size == sysModules) = false := beq_eq_false_iff_ne.mpr (Nat.ne_of_gt I.big)
    have k' : ∀ b o, s.heap.get? b = some o → h'.get? b = some o := fun b o e => k b o (fun z => nomatch z) e
    have hok : ObjOk X.prog X.w (upd H s.heap.objs.size (NkO X.prog X.w s.heap.objs.size (mergeN [] kvs))) h' s.heap.objs.size (NkO X.prog X.w s.heap.objs.size (mergeN [] kvs)) := by
      refine ⟨⟨hm, _, KV.mergeN rel .nil, hd'⟩, ?_, fun h1 h2 p kk => ?_⟩
      · obtain ⟨ob, _, _, e, _⟩ := hd'
        exact ⟨ob, e⟩
      · obtain ⟨p1, vs', p2, p3⟩ := p
        exact ⟨p1, vs', p2, p3.at' kk⟩
    exact ⟨.ref s.heap.objs.size, upd H s.heap.objs.size (NkO X.prog X.w s.heap.objs.size (mergeN [] kvs)), I.laid (t' := tk) k' (Nat.le_refl _) hok, rfl, q _ (I.hok.fresh (Nat.le_refl _))⟩
theorem nk_rd (I : Inv X pins σ H s) (e : H a = some (NkO X.prog X.w a kvs)) : (a == sysModules) = false ∧ ∃ vs, KV kvs vs ∧ s.heap.DictOf (noneKind X.prog X.w) a vs := (I.hok a _ e).1
def rNkNot (P : Program) (w : World) : R2 := fun x y H Q => ∃ (a : Addr) (kvs : List (Option Key × V)) (k : Option Key), x = nV k ∧ y = .ref a ∧ H a = some (NkO P w a kvs) ∧ Q (.bl (!(valV kvs k).isSome)) H
theorem or_nknot : OpR X (compareOp .NotIn) (rNkNot X.prog X.w) := by
  intro pins s σ H x y v u Q I rx ry h
  obtain ⟨a, kvs, k, rfl, rfl, ha, q⟩ := h
  cases ry
  obtain ⟨hd, vs, rel, dd⟩ := nk_rd I ha
  refine wpAny_notIn_of (nV_is rx) hd dd.mapOf ?_
  rw [← (rel.val k).isSome_eq]
  exact ⟨.bl (!(valV kvs k).isSome), H, I.tok _, rfl, q⟩
def rNkGet (P : Program) (w : World) : R2 := fun x y H Q => ∃ (a : Addr) (kvs : List (Option Key × V)) (k : Option Key) (v : V), x = .ref a ∧ y = nV k ∧ H a = some (NkO P w a kvs) ∧ valV kvs k = some v ∧ Q v H
end
section
variable {X : Cx} {o i : Expr} {to ti : TE} {pos : Pos}
theorem pe_nkget (ho : PE X o to) (hi : PE X i ti) (hs : NoSl i) : PE X (.Subscript o i pos) (tOp (rNkGet X.prog X.w) to ti) := by
  refine ⟨fun pins s σ H Q I h => ?_⟩
  refine subD_of PySem.F.slot_dict_getitem.lookup hs (L2.thn (ho.run pins s σ H _ I h) fun u s1 ⟨x, H1, I1, rx, q1⟩ => L2.thn (hi.run pins s1 σ H1 _ I1 q1) fun iv s2 ⟨y, H2, I2, ry, q2⟩ => ?_)
  obtain ⟨a, kvs, k, v, ex, ey, g, l, q2⟩ := q2
  subst ex ey
  obtain rfl : u = Value.ref a := rx
  obtain ⟨hd, vs, rel, dd⟩ := nk_rd I2 g
  refine ⟨dd.typeIs, ?_⟩
  obtain ⟨w', hw, rw'⟩ := RelO.some_of (v := v) (o := valueAt vs k) (by rw [← l]; exact rel.val k)
  exact wpAny_getItem_of (nV_is ry) dd.mapOf hw ⟨v, H2, I2.tok _, rw', q2⟩
end
/-! data -/
def nkO : D → Option Key
  | .int i => some (.inl i) | _ => none
def nkv (p : D × D) : Option Key × V := (nkO p.1, imV p.2)
theorem nV_nkO {d : D} (h : isNk d = true) : nV (nkO d) = imV d := by cases d <;> first | rfl | cases h
theorem nk_imm {d : D} (h : isNk d = true) : d.imm = true := by cases d <;> first | rfl | cases h
theorem nk_same {a b : D} (ha : isNk a = true) (hb : isNk b = true) : nkEq a b = decide (nkO a = nkO b) := by
  cases a <;> first | cases ha | skip
  all_goals (cases b <;> first | cases hb | skip)
  all_goals simp [nkEq, nkO]
section
variable {K : PySem.W.Frag} {S : Addr → Prop} {H : Hp}
theorem nk_pairs_rp : ∀ {m : Nat} {vs : List V} {ds : List D} {ps : List (D × D)} {f : List Addr}, RpAll K S H m vs ds f → pairsN ds = some ps →
    (∀ p ∈ ps, isNk p.1 = true ∧ p.2.imm = true) ∧ ∃ as : List Addr, vs = as.map V.ref ∧ Paired (fun p kv => SqT K H p [nV kv.1, kv.2]) as (ps.map nkv)
  | _, _, [], ps, _, h, e => by
    cases h
    obtain rfl := Option.some.inj e
    exact ⟨by simp, [], rfl, .nil⟩
  | m, _, d :: ds, ps, _, h, e => by
    cases h with
    | cons h r =>
      unfold pairsN at e
      split at e
      · cases (‹_› : (_ : List D) = [])
      · rename_i k v' ds' ed
        obtain ⟨rfl, rfl⟩ := List.cons.inj ed
        split at e
        · rename_i hk
          cases q : pairsN ds with
          | none => rw [q] at e; cases e
          | some ps' =>
            rw [q] at e
            obtain rfl := Option.some.inj e
            obtain ⟨a0, as, e1, e2⟩ := nk_pairs_rp r q
            obtain ⟨a, xs, rfl, h1, h2⟩ := h.tup
            cases h2 with
            | cons r1 r2 =>
              cases r2 with
              | cons r2 r3 =>
                cases r3
                obtain ⟨rfl, _⟩ := imV_of r1 (nk_imm hk.1)
                obtain ⟨rfl, _⟩ := imV_of r2 hk.2
                refine ⟨fun p hp => (List.mem_cons.mp hp).elim (fun z => by rw [z]; exact hk) (a0 p), a :: as, by rw [e1]; rfl, .cons ?_ e2⟩
                show SqT K H a [nV (nkO k), imV v']
                rw [nV_nkO hk.1]
                exact h1
        · cases e
      · cases e
theorem last_val {k : D} (hk : isNk k = true) : ∀ {ps : List (D × D)} {acc : List (Option Key × V)} {o : Option D}, (∀ p ∈ ps, isNk p.1 = true ∧ p.2.imm = true) → valV acc (nkO k) = o.map imV → valV (mergeN acc (ps.map nkv)) (nkO k) = (lastN k ps o).map imV
  | [], _, _, _, h => h
  | p :: ps, acc, o, hp, h => by
    have h0 := hp p (List.mem_cons_self ..)
    show valV (mergeN (putK acc (nkO p.1) (imV p.2)) (ps.map nkv)) (nkO k) = (lastN k ps (if nkEq p.1 k = true then some p.2 else o)).map imV
    refine last_val hk (fun q hq => hp q (List.mem_cons_of_mem _ hq)) ?_
    rw [valV_put, nk_same h0.1 hk]
    by_cases c : nkO k = nkO p.1
    · rw [if_pos c, if_pos (decide_eq_true c.symm)]; rfl
    · rw [if_neg c, if_neg (by rw [decide_eq_false (fun z => c z.symm)]; simp), h]
theorem last_imm {k : D} : ∀ {ps : List (D × D)} {o : Option D}, (∀ p ∈ ps, isNk p.1 = true ∧ p.2.imm = true) → (∀ d, o = some d → d.imm = true) → ∀ d, lastN k ps o = some d → d.imm = true
  | [], _, _, h, d, e => h d e
  | p :: ps, o, hp, h, d, e => by
    refine last_imm (ps := ps) (fun q hq => hp q (List.mem_cons_of_mem _ hq)) (fun d' e' => ?_) d e
    split at e'
    · rw [← Option.some.inj e']; exact (hp p (List.mem_cons_self ..)).2
    · exact h d' e'
end
section
variable {ct : Str → Addr} {lent : List Bool} {X : Cx} {p pos pos1 pos2 pos3 : Pos}
theorem ss_look3 {i j : Nat} {nx it : Str} {e tg : Expr} {ge : M} {gb : MS} {gg : MG} {body : List Stmt} {px pi1 pi2 pn1 pn2 pd pc p2 p3 : Pos} (hcalm : X.calm = true)
    (he : SE ct X e ge) (hb : SSs ct lent X body gb) (hg : SG ct lent X tg gg)
    (hgl : Gl X "dict") (hm : X.mg "dict" = none) (hbv : bootBuiltins "dict" = some (.type "dict")) (hse : starEach [e] X.env = (false, eval e X.env) :: starEach [] X.env) (hpl : (backTo p2 (starEach [] X.env)).any (·.1) = false)
    (hNd : X.N.Nodup) (hNj : X.N[j]? = some nx) (hxj : Loc X.env.scope nx) (hvj : Vis X.env.scope nx) (hdj : (nx == ("__debug__" : Str)) = false) (hcj : (nx == ("__classdict__" : Str)) = false) (hlj : lent[j]? ≠ some true) (hfj : X.fn nx = true ∨ X.env.scope.names.lookup nx = some .local)
    (hNi : X.N[i]? = some it) (hvi : Vis X.env.scope it) (hdi : (it == ("__debug__" : Str)) = false) (hci : (it == ("__classdict__" : Str)) = false)
    (hsA : swapsWithSole [.Name nx px] (.Call (.Name "dict" pd) [e] [] p2) pos1.line X.env = pure false) (hwA : swappedStores [.Name nx px] (.Call (.Name "dict" pd) [e] [] p2) X.env = pure none)
    (hA : (assignEach [.Name nx px] X.env).map (·.2) = [assign (.Name nx px) X.env])
    (hmk : behindInMarks .NotIn (.Name nx pn1) = false) (hs3 : NoSl (.Name it pi2))
    (hsB : swapsWithSole [tg] (.Subscript (.Name nx pn2) (.Name it pi2) p3) pos3.line X.env = pure false) (hwB : swappedStores [tg] (.Subscript (.Name nx pn2) (.Name it pi2) p3) X.env = pure none)
    (hB : (assignEach [tg] X.env).map (·.2) = [assign tg X.env]) :
    SSs ct lent X [.Assign [.Name nx px] (.Call (.Name "dict" pd) [e] [] p2) pos1, .If (.Compare (.Name it pi1) [.NotIn] [.Name nx pn1] pc) body [] pos2, .Assign [tg] (.Subscript (.Name nx pn2) (.Name it pi2) p3) pos3] (look3 j i ge gb gg) := by
  refine ⟨fun W tk po => ?_⟩
  obtain ⟨te, pe, re⟩ := he.run W tk
  obtain ⟨tb, pb, rb⟩ := hb.run W tk po
  obtain ⟨tg', pg, rg⟩ := hg.run W tk
  refine ⟨_, pss_cons (ps_asg (pe_callTy (call_dictN hcalm) hgl hm hbv (pa_cons pe pa_nil hse) (by decide) (by decide) hse hpl) (pg_name hNd hNj hxj hfj) hsA hwA hA)
    (pss_cons (ps_if (pt_cmpR or_nknot (pv i hNi hvi hdi hci) (pv j hNj hvj hdj hcj) hmk) pb pss_nil) (pss_one (ps_asg (pe_nkget (pv j hNj hvj hdj hcj) (pv i hNi hvi hdi hci) hs3) pg hsB hwB hB))), fun S F H σ ρ D E ok G => ?_⟩
  unfold look3 at G
  by_cases hc : i = j ∨ ρ.length ≤ j
  · rw [if_pos hc] at G; exact G.elim
  rw [if_neg hc] at G
  have hij : i ≠ j := fun z => hc (.inl z)
  have hjl : j < ρ.length := by omega
  refine re S F H σ ρ _ E ok ?_
  refine good_go G fun x o y S1 F1 H1 f st h E1 ok1 G => ?_
  split at G
  · rename_i ds m k ed el
    split at G
    · rename_i hk
      split at G
      · rename_i ps ep
        obtain ⟨gx, hr⟩ := h.rp
        rw [ed] at hr
        obtain ⟨a, xs, g', rfl, q1, q2, _, _⟩ := hr.lst
        obtain ⟨hps, as, rfl, hpp⟩ := nk_pairs_rp q2 ep
        refine ⟨a, as, _, rfl, q1, hpp, fun d hd => ?_⟩
        obtain ⟨vi', fi, Gi, h1, h2, _, _⟩ := E1.take el
        obtain ⟨rfl, _⟩ := imV_of h2 (nk_imm hk)
        have sm := same_upd (o := NkO X.prog X.w d (mergeN [] (ps.map nkv))) hd
        have hD : (upd H1 d (NkO X.prog X.w d (mergeN [] (ps.map nkv)))) d = some (NkO X.prog X.w d (mergeN [] (ps.map nkv))) := upd_same
        generalize upd H1 d (NkO X.prog X.w d (mergeN [] (ps.map nkv))) = H2 at *
        have hlen : σ.length = ρ.length := E.len
        have hjs : j < σ.length := by omega
        have sj : (σ.set j (some (.ref d)))[j]? = some (some (.ref d)) := List.getElem?_set_self hjs
        have si : (σ.set j (some (.ref d)))[i]? = some (some (imV k)) := by rw [List.getElem?_set_ne (fun z => hij z.symm)]; exact h1
        obtain ⟨f5, G5, p5, E5⟩ := E1.drop j
        have Eb : EnvRp X.K S1 H2 (σ.set j (some (.ref d))) (put (now o ρ) j none) G5 := (E5.over (look_put_none (now o ρ) j)).same sm
        have ok5 : Ok S1 H2 G5 := ((ok1.tail.perm p5).tail).same sm
        have stp : Step S F H S1 G5 H2 := (st.less (F'' := F1) fun b hb => List.mem_append_right _ hb).trans (Step.of_same sm fun b hb => .inl (p5.mem_iff.mpr (List.mem_append_right _ hb)))
        have kp : Kp lent σ (σ.set j (some (.ref d))) := Kp.set hlj
        have hlv := last_val hk (acc := []) (o := none) hps rfl
        refine ⟨_, si, _, sj, d, _, nkO k, (nV_nkO hk).symm, rfl, hD, ?_⟩
        cases ql : lastN k ps none with
        | none =>
          rw [ql] at G hlv
          rw [hlv]
          refine ⟨_, rfl, ?_⟩
          refine rb S1 G5 H2 _ _ _ Eb ok5 ?_
          have G2 : GoodS X.K ct lent W D S F H σ (match gb (put (now o ρ) j none) with | .nx _ => .no | fl => fl) := G
          cases qg : gb (put (now o ρ) j none) with
          | nx _ => rw [qg] at G2; exact G2.elim
          | brk _ => rw [qg] at G2; exact GoodS.from stp kp G2
          | ct _ => rw [qg] at G2; exact GoodS.from stp kp G2
          | ret _ _ => rw [qg] at G2; exact GoodS.from stp kp G2
          | ex _ _ => rw [qg] at G2; exact GoodS.from stp kp G2
          | no => rw [qg] at G2; exact G2.elim
        | some v =>
          rw [ql] at G hlv
          rw [hlv]
          refine ⟨_, rfl, ?_⟩
          have him := last_imm (k := k) (o := none) hps (fun d e => nomatch e) v ql
          refine ⟨_, sj, _, si, d, _, nkO k, imV v, rfl, (nV_nkO hk).symm, hD, hlv, ?_⟩
          refine rg S1 G5 H2 _ _ ⟨false, 0, v⟩ (imV v) [] D D.nx ?_ Eb (by simpa using ok5) (fun _ _ z => z) (by simpa using GoodS.from stp kp G)
          rw [VOk.own]
          exact rp_imV 0 him
      · exact G.elim
    · exact G.elim
  · exact G.elim
end
end Vs
set_option maxHeartbeats 4000000
namespace Lw
open PySem Vs
noncomputable def b_l_cells : MS := (ret (two (slc (fz 1 [0] (v 0)) none (some (v 1))) (two (argsk (args [(cst (vi 0))]) kLst) (argsk (args [(two (v 0) (argsk (args []) kLst) kEq)]) kInt) kMul) kAdd))
noncomputable def m_l_cells : List PV → RF := fnM 2 [true, true] b_l_cells
noncomputable def b_l_draw : MS := (sq (ifs (tst (two (two (v 0) (cst (vi 0)) kIx) (cst (vi 0)) kGt) blOf) (sq (asg (two (argsk (args [(two (v 0) (cst (vi 0)) kIx)]) kInt) (v 1) kMod) (gname 2))
    (sq (asg (two (two (v 0) (cst (vi 0)) kIx) (v 1) kDiv) (gset 0 (cst (vi 0))))
    (retv 2))) skip)
    (sq (asg (two (fz 2 [0] (two (v 0) (cst (vi 2)) kIx)) (cst (vi 1)) kAdd) (gset 0 (cst (vi 2))))
    (sq (asg (two (argsk (args [(two (two (two (two (v 0) (cst (vi 1)) kIx) (cst (vi 3)) kPow) (two (cst (vi 814736231)) (two (v 0) (cst (vi 2)) kIx) kMul) kAdd) (cst (vi 11)) kAdd)]) kInt) (two (two (cst (vi 10)) (cst (vi 32)) kPow) (cst (vi 49)) kAdd) kMod) (gset 0 (cst (vi 1))))
    (ret (two (argsk (args [(two (two (v 0) (cst (vi 1)) kIx) (two (cst (vi 10)) (cst (vi 8)) kPow) kDiv)]) kInt) (v 1) kMod)))))
noncomputable def m_l_draw : List PV → RF := fnM 3 [true, true] b_l_draw
noncomputable def b_l_mixed : MS := (sq (par 2 3 (args [(argsk (args [(fz 1 [1] (v 1))]) kList), (argsk (args []) kLst)]))
    (sq (whiles (tst (two (v 2) (argsk (args []) kLst) kNe) blOf) (ex (recv 3 (args [(recv 2 (args [(call m_l_draw [] [.lend 0, .val (argsk (args [(v 2)]) kLen)])]) rPopAt)]) rAppend)))
    (retv 3)))
noncomputable def m_l_mixed : List PV → RF := fnM 4 [true, true] b_l_mixed
noncomputable def b_l_book : MS := (sq (par 2 3 (args [(call m_l_draw [] [.lend 0, .val (cst (vi 4))]), (argsk (args []) kLst)]))
    (sq (fors (itN kR1 (args [(v 1)])) (gname 4) (sq (asg (call m_l_mixed [] [.lend 0, .val (one (v 1) fun x => kRange [x])]) (gname 5))
    (sq (asg (two (fz 0 [4] (v 4)) (call m_l_draw [] [.lend 0, .val (two (v 1) (v 4) kSub)]) kAdd) (gname 6))
    (sq (asg (argsk (args []) kLst) (gname 7))
    (sq (fors (itN kR1 (args [(v 1)])) (gname 8) (ex (recv 7 (args [(ift (tst (two (v 8) (v 4) kEq) blOf) (fz 0 [6] (v 6)) (two (v 8) (argsk (args [(chain (v 4) (v 8) (v 6) (fun i j => decide (i < j)) (fun i j => decide (i ≤ j)))]) kInt) kSub))]) rAppend)))
    (ex (recv 3 (args [(two (argsk (args [(fz 0 [5] (v 5)), (fz 0 [7] (v 7)), (one (v 1) fun x => kRange [x]), (fz 0 [7] (v 7))]) kLst) (two (argsk (args [(cst (vi 0)), (cst (vi 1)), (cst (vi 2)), (call m_l_draw [] [.lend 0, .val (cst (vi 4))])]) kLst) (v 2) kIx) kIx)]) rAppend)))))))
    (retv 3)))
noncomputable def m_l_book : List PV → RF := fnM 9 [true, true] b_l_book
noncomputable def b_l_lives : MS := (pre [] [0] (sq (asg (argsk (args [(two (argsk (args [(cst (vi 0))]) kLst) (argsk (args [(v 0)]) kLen) kMul), (cst (vi 1))]) kTup) (gtup [(gname 1), (gname 2)]))
    (sq (asg (cst (vi 1)) (gset 1 (cst (vi 0))))
    (sq (pre [3, 4] [2] (whiles (tst (two (cst (vi 0)) (v 1) kIn) blOf) (tdy [3, 4] [2] (sq (asg (two (fz 1 [2] (v 2)) (cst (vi 1)) kAdd) (gname 2))
    (pre [3, 4] [2] (fors (itN kR2 (args [(cst (vi 1)), (argsk (args [(v 0)]) kLen)])) (gname 3) (tdy [3, 4] [] (sq (asg (two (argsk (args [(two (v 3) (cst (vi 1)) kSub)]) kLst) (comp (itN kR1 (args [(argsk (args [(v 0)]) kLen)])) (gname 5) (tst (two (v 5) (v 3) kNe) blOf) (fz 2 [0] (two (two (v 0) (v 5) kIx) (v 3) kIx)) [5]) kAdd) (gname 4))
    (ifs (tand (tst (two (two (v 1) (v 3) kIx) (cst (vi 0)) kEq) blOf) (tst (two (soft [4] (comp (it1 kL (v 4)) (gname 6) (tst (chain (cst (vi 0)) (two (v 1) (v 6) kIx) (v 2) (fun i j => decide (i < j)) (fun i j => decide (i < j))) blOf) (fz 0 [6] (v 6)) [6])) (argsk (args []) kLst) kNe) blOf)) (asg (fz 0 [2] (v 2)) (gset 1 (v 3))) skip)))))))))
    (retv 1)))))
noncomputable def q_l_lives_0 : MS := (tdy [3, 4] [] (sq (asg (two (argsk (args [(two (v 3) (cst (vi 1)) kSub)]) kLst) (comp (itN kR1 (args [(argsk (args [(v 0)]) kLen)])) (gname 5) (tst (two (v 5) (v 3) kNe) blOf) (fz 2 [0] (two (two (v 0) (v 5) kIx) (v 3) kIx)) [5]) kAdd) (gname 4))
    (ifs (tand (tst (two (two (v 1) (v 3) kIx) (cst (vi 0)) kEq) blOf) (tst (two (soft [4] (comp (it1 kL (v 4)) (gname 6) (tst (chain (cst (vi 0)) (two (v 1) (v 6) kIx) (v 2) (fun i j => decide (i < j)) (fun i j => decide (i < j))) blOf) (fz 0 [6] (v 6)) [6])) (argsk (args []) kLst) kNe) blOf)) (asg (fz 0 [2] (v 2)) (gset 1 (v 3))) skip)))
noncomputable def w_l_lives_0 : MS := (pre [3, 4] [2] (fors (itN kR2 (args [(cst (vi 1)), (argsk (args [(v 0)]) kLen)])) (gname 3) q_l_lives_0))
noncomputable def q_l_lives_1 : MS := (tdy [3, 4] [2] (sq (asg (two (fz 1 [2] (v 2)) (cst (vi 1)) kAdd) (gname 2))
    w_l_lives_0))
noncomputable def u_l_lives_0 : MT := (tst (two (cst (vi 0)) (v 1) kIn) blOf)
noncomputable def w_l_lives_1 : MS := (pre [3, 4] [2] (whiles u_l_lives_0 q_l_lives_1))
noncomputable def t_l_lives_0 : MS := (asg (argsk (args [(two (argsk (args [(cst (vi 0))]) kLst) (argsk (args [(v 0)]) kLen) kMul), (cst (vi 1))]) kTup) (gtup [(gname 1), (gname 2)]))
noncomputable def t_l_lives_1 : MS := (asg (cst (vi 1)) (gset 1 (cst (vi 0))))
noncomputable def t_l_lives_2 : MS := w_l_lives_1
noncomputable def t_l_lives_3 : MS := (retv 1)
theorem b_l_lives_eq : b_l_lives = (pre [] [0] (sq t_l_lives_0
    (sq t_l_lives_1
    (sq t_l_lives_2
    t_l_lives_3)))) := rfl
noncomputable def m_l_lives : List PV → RF := fnM 7 [true] b_l_lives
noncomputable def b_l_same (me : List PV → RF) : MS := (sq (ifs (tst (two (v 1) (cst vn) kIs) blOf) (ret (two (v 0) (cst vn) kIs)) skip)
    (sq (ifs (tst (one (v 1) (kIsi2 .list .tuple)) blOf) (sq (ifs (tor (tnot (tst (one (v 0) (kIsi2 .list .tuple)) blOf)) (tst (two (one (v 0) (kIsi .list)) (one (v 1) (kIsi .list)) kNe) blOf)) (ret (cst (vb false))) skip)
    (sq (ifs (tst (two (argsk (args [(v 0)]) kLen) (argsk (args [(v 1)]) kLen) kNe) blOf) (ret (cst (vb false))) skip)
    (ret (argsk (args [(soft [1, 0] (comp (itN kZ (args [(v 0), (v 1)])) (gtup [(gname 2), (gname 3)]) yes (call me [] [.lend 2, .lend 3]) [2, 3]))]) kAll)))) skip)
    (ret (vand (two (one (v 0) (kIsi .bool)) (one (v 1) (kIsi .bool)) kEq) (two (v 0) (v 1) kEq)))))
noncomputable def m_l_same : Nat → List PV → RF
  | 0 => fun _ => .no
  | k + 1 => fnM 4 [true, true] (b_l_same (m_l_same k))
noncomputable def b_l_step : MS := (pre [] [0, 1, 2] (sq (ifs (tst (two (v 2) (v 1) kIn) blOf) (sq (par 3 4 (args [(argsk (args [(fz 1 [1] (v 1))]) kList), (meth isL (v 1) (args [(v 2)]) kIndex)]))
    (sq (pre [5] [4] (fors (itN kR1 (args [(argsk (args [(v 1)]) kLen)])) (gname 5) (tdy [5] [] (asg (fz 1 [1] (two (v 1) (v 5) kIx)) (gset 3 (two (two (v 0) (v 4) kIx) (v 5) kIx))))))
    (ret (argsk (args [(cst (vb true)), (fz 0 [3] (v 3))]) kTup)))) skip)
    (ret (argsk (args [(cst (vb false)), (two (slc (fz 1 [1] (v 1)) (some (cst (vi 1))) none) (argsk (args [(fz 0 [2] (v 2))]) kLst) kAdd)]) kTup))))
noncomputable def q_l_step_0 : MS := (tdy [5] [] (asg (fz 1 [1] (two (v 1) (v 5) kIx)) (gset 3 (two (two (v 0) (v 4) kIx) (v 5) kIx))))
noncomputable def w_l_step_0 : MS := (pre [5] [4] (fors (itN kR1 (args [(argsk (args [(v 1)]) kLen)])) (gname 5) q_l_step_0))
theorem b_l_step_eq : b_l_step = (pre [] [0, 1, 2] (sq (ifs (tst (two (v 2) (v 1) kIn) blOf) (sq (par 3 4 (args [(argsk (args [(fz 1 [1] (v 1))]) kList), (meth isL (v 1) (args [(v 2)]) kIndex)]))
    (sq w_l_step_0
    (ret (argsk (args [(cst (vb true)), (fz 0 [3] (v 3))]) kTup)))) skip)
    (ret (argsk (args [(cst (vb false)), (two (slc (fz 1 [1] (v 1)) (some (cst (vi 1))) none) (argsk (args [(fz 0 [2] (v 2))]) kLst) kAdd)]) kTup)))) := rfl
noncomputable def m_l_step : List PV → RF := fnM 6 [true, true, true] b_l_step
noncomputable def b_l_walk : MS := (pre [] [0, 1] (sq (par 3 4 (args [(one (argsk (args [(v 0)]) kLen) fun x => kRange [x]), (cst (vi 100))]))
    (sq (pre [5, 6] [3, 4] (forsV 2 wOne (gname 5) (tdy [5, 6] [3, 4] (sq (ifs (tst (two (v 1) (v 3) kNotIn) blOf) (ret (cst (vs "odd"))) skip)
    (sq (ifs (tst (two (v 5) (cst (vs "own")) kEq) blOf) (asg (fz 0 [1] (v 1)) (gname 6)) (ifs (tst (two (v 5) (cst vn) kIs) blOf) (par 6 4 (args [(fz 0 [4] (v 4)), (two (fz 1 [4] (v 4)) (cst (vi 1)) kAdd)])) (ifs (tor (tnot (tst (chain (cst (vi 0)) (v 5) (argsk (args [(v 0)]) kLen) (fun i j => decide (i ≤ j)) (fun i j => decide (i < j))) blOf)) (tst (two (two (v 3) (v 5) kIx) (v 1) kEq) blOf)) (ret (cst (vs "odd"))) (asg (fz 1 [3] (two (v 3) (v 5) kIx)) (gname 6)))))
    (asg (two (call m_l_step [] [.lend 0, .lend 3, .lend 6]) (cst (vi 1)) kIx) (gname 3))))) (fors (it1 kL (fz 0 [2] (v 2))) (gname 5) (tdy [5, 6] [3, 4] (sq (ifs (tst (two (v 1) (v 3) kNotIn) blOf) (ret (cst (vs "odd"))) skip)
    (sq (ifs (tst (two (v 5) (cst (vs "own")) kEq) blOf) (asg (fz 0 [1] (v 1)) (gname 6)) (ifs (tst (two (v 5) (cst vn) kIs) blOf) (par 6 4 (args [(fz 0 [4] (v 4)), (two (fz 1 [4] (v 4)) (cst (vi 1)) kAdd)])) (ifs (tor (tnot (tst (chain (cst (vi 0)) (v 5) (argsk (args [(v 0)]) kLen) (fun i j => decide (i ≤ j)) (fun i j => decide (i < j))) blOf)) (tst (two (two (v 3) (v 5) kIx) (v 1) kEq) blOf)) (ret (cst (vs "odd"))) (asg (fz 1 [3] (two (v 3) (v 5) kIx)) (gname 6)))))
    (asg (two (call m_l_step [] [.lend 0, .lend 3, .lend 6]) (cst (vi 1)) kIx) (gname 3))))))))
    (ret (ift (tst (two (v 1) (v 3) kIn) blOf) (meth isL (v 3) (args [(v 1)]) kIndex) (cst (vs "gone")))))))
noncomputable def q_l_walk_0 : MS := (tdy [5, 6] [3, 4] (sq (ifs (tst (two (v 1) (v 3) kNotIn) blOf) (ret (cst (vs "odd"))) skip)
    (sq (ifs (tst (two (v 5) (cst (vs "own")) kEq) blOf) (asg (fz 0 [1] (v 1)) (gname 6)) (ifs (tst (two (v 5) (cst vn) kIs) blOf) (par 6 4 (args [(fz 0 [4] (v 4)), (two (fz 1 [4] (v 4)) (cst (vi 1)) kAdd)])) (ifs (tor (tnot (tst (chain (cst (vi 0)) (v 5) (argsk (args [(v 0)]) kLen) (fun i j => decide (i ≤ j)) (fun i j => decide (i < j))) blOf)) (tst (two (two (v 3) (v 5) kIx) (v 1) kEq) blOf)) (ret (cst (vs "odd"))) (asg (fz 1 [3] (two (v 3) (v 5) kIx)) (gname 6)))))
    (asg (two (call m_l_step [] [.lend 0, .lend 3, .lend 6]) (cst (vi 1)) kIx) (gname 3)))))
noncomputable def w_l_walk_0 : MS := (pre [5, 6] [3, 4] (forsV 2 wOne (gname 5) q_l_walk_0 (fors (it1 kL (fz 0 [2] (v 2))) (gname 5) q_l_walk_0)))
theorem b_l_walk_eq : b_l_walk = (pre [] [0, 1] (sq (par 3 4 (args [(one (argsk (args [(v 0)]) kLen) fun x => kRange [x]), (cst (vi 100))]))
    (sq w_l_walk_0
    (ret (ift (tst (two (v 1) (v 3) kIn) blOf) (meth isL (v 3) (args [(v 1)]) kIndex) (cst (vs "gone"))))))) := rfl
noncomputable def m_l_walk : List PV → RF := fnM 7 [true, true, true] b_l_walk
noncomputable def b_p_is_integer : MS := (sq (ifs (tor (tnot (tst (one (v 0) (kIsi .int)) blOf)) (tst (one (v 0) (kIsi .bool)) blOf)) (ret (cst (vb false))) skip)
    (ret (vand (vor (two (v 1) (cst vn) kIs) (two (v 0) (v 1) kGe)) (vor (two (v 2) (cst vn) kIs) (two (v 0) (v 2) kLe)))))
noncomputable def m_p_is_integer : List PV → RF := fnM 3 [true, true, true] b_p_is_integer
noncomputable def b_p_check_place : MS := (pre [] [0] (ifs (tnot (tst (call m_p_is_integer [] [.lend 1, .val (cst (vi 0)), .val (two (argsk (args [(v 0)]) kLen) (cst (vi 1)) kSub)]) blOf)) (fun _ => .no) skip))
noncomputable def m_p_check_place : List PV → RF := fnM 2 [true, true] b_p_check_place
noncomputable def b_p_is_permutation_of : MS := (sq (ifs (tor (tnot (tst (one (v 0) (kIsi .list)) blOf)) (tor (tst (two (argsk (args [(v 0)]) kLen) (v 1) kNe) blOf) (tnot (tst (argsk (args [(soft [0] (comp (it1 kL (v 0)) (gname 2) yes (call m_p_is_integer [(0, .non), (0, .non)] [.lend 2]) [2]))]) kAll) blOf)))) (ret (cst (vb false))) skip)
    (ret (two (argsk (args [(v 0)]) kSorted) (one (v 1) fun x => kRange [x]) kEq)))
noncomputable def m_p_is_permutation_of : List PV → RF := fnM 3 [true, true] b_p_is_permutation_of
noncomputable def b_p_check_rule : MS := (sq (ifs (tor (tnot (tst (one (v 0) (kIsi .list)) blOf)) (tnot (tst (chain (cst ⟨false, 0, (.int 2)⟩) (argsk (args [(v 0)]) kLen) (cst ⟨false, 0, (.int 12)⟩) (fun i j => decide (i ≤ j)) (fun i j => decide (i ≤ j))) blOf))) (fun _ => .no) skip)
    (forsV 0 wEnum (gtup [(gname 1), (gname 2)]) (ifs (tnot (tst (call m_p_is_permutation_of [] [.lend 2, .val (argsk (args [(v 0)]) kLen)]) blOf)) (fun _ => .no) skip) (fors (itN kE (args [(fz 0 [0] (v 0))])) (gtup [(gname 1), (gname 2)]) (ifs (tnot (tst (call m_p_is_permutation_of [] [.lend 2, .val (argsk (args [(v 0)]) kLen)]) blOf)) (fun _ => .no) skip))))
noncomputable def m_p_check_rule : List PV → RF := fnM 3 [true] b_p_check_rule
noncomputable def b_p_is_item : MS := (ret (vor (two (v 0) (cst vn) kIs) (call m_p_is_integer [(0, .non), (0, .non)] [.lend 0])))
noncomputable def m_p_is_item : List PV → RF := fnM 1 [true] b_p_is_item
noncomputable def b_p_moves_at : MS := (pre [] [0, 1] (sq (asg (comp (itN kR1 (args [(argsk (args [(v 0)]) kLen)])) (gname 3) (tst (two (v 3) (v 1) kNe) blOf) (argsk (args [(fz 0 [3] (v 3)), (fz 2 [0] (two (two (v 0) (v 3) kIx) (v 1) kIx))]) kTup) [3]) (gname 2))
    (ret (argsk (argC (argsk (args [(cst vn), (ift (tst (two (v 1) (cst (vi 0)) kGt) blOf) (two (v 1) (cst (vi 1)) kSub) (cst vn))]) kTup) (argS (fz 1 [2] (v 2)) argN)) kLst))))
noncomputable def m_p_moves_at : List PV → RF := fnM 4 [true, true] b_p_moves_at
noncomputable def b_p_place_behind : MS := (pre [] [0, 1] (sq (asg (fz 0 [1] (v 1)) (gname 3))
    (sq (pre [4, 5] [] (forsV 2 wOne (gname 4) (tdy [4, 5] [] (sq (ifs (tst (two (v 3) (cst vn) kIs) blOf) (ret (one (cst (vi 1)) kNeg)) skip)
    (ifs (tst (two (v 4) (cst ⟨false, 0, (.str "own")⟩) kEq) blOf) (asg (fz 2 [0] (two (two (v 0) (v 3) kIx) (v 3) kIx)) (gname 3)) (look3 5 4 (call m_p_moves_at [] [.lend 0, .lend 3]) (ret (one (cst (vi 1)) kNeg)) (gname 3))))) (fors (it1 kL (fz 0 [2] (v 2))) (gname 4) (tdy [4, 5] [] (sq (ifs (tst (two (v 3) (cst vn) kIs) blOf) (ret (one (cst (vi 1)) kNeg)) skip)
    (ifs (tst (two (v 4) (cst ⟨false, 0, (.str "own")⟩) kEq) blOf) (asg (fz 2 [0] (two (two (v 0) (v 3) kIx) (v 3) kIx)) (gname 3)) (look3 5 4 (call m_p_moves_at [] [.lend 0, .lend 3]) (ret (one (cst (vi 1)) kNeg)) (gname 3))))))))
    (retv 3))))
noncomputable def q_p_place_behind_0 : MS := (tdy [4, 5] [] (sq (ifs (tst (two (v 3) (cst vn) kIs) blOf) (ret (one (cst (vi 1)) kNeg)) skip)
    (ifs (tst (two (v 4) (cst ⟨false, 0, (.str "own")⟩) kEq) blOf) (asg (fz 2 [0] (two (two (v 0) (v 3) kIx) (v 3) kIx)) (gname 3)) (look3 5 4 (call m_p_moves_at [] [.lend 0, .lend 3]) (ret (one (cst (vi 1)) kNeg)) (gname 3)))))
noncomputable def w_p_place_behind_0 : MS := (pre [4, 5] [] (forsV 2 wOne (gname 4) q_p_place_behind_0 (fors (it1 kL (fz 0 [2] (v 2))) (gname 4) q_p_place_behind_0)))
theorem b_p_place_behind_eq : b_p_place_behind = (pre [] [0, 1] (sq (asg (fz 0 [1] (v 1)) (gname 3))
    (sq w_p_place_behind_0
    (retv 3)))) := rfl
noncomputable def m_p_place_behind : List PV → RF := fnM 6 [true, true, true] b_p_place_behind
noncomputable def b_p_is_way_out : MS := (pre [] [0, 1] (sq (ex (call m_p_check_rule [] [.lend 0]))
    (sq (ex (call m_p_check_place [] [.lend 0, .lend 1]))
    (sq (ifs (tor (tnot (tst (one (v 2) (kIsi .list)) blOf)) (tnot (tst (argsk (args [(soft [2] (comp (it1 kL (v 2)) (gname 3) yes (call m_p_is_item [] [.lend 3]) [3]))]) kAll) blOf))) (ret (cst (vb false))) skip)
    (ret (two (call m_p_place_behind [] [.lend 0, .lend 1, .lend 2]) (cst vn) kIs))))))
noncomputable def t_p_is_way_out_0 : MS := (ex (call m_p_check_rule [] [.lend 0]))
noncomputable def t_p_is_way_out_1 : MS := (ex (call m_p_check_place [] [.lend 0, .lend 1]))
noncomputable def t_p_is_way_out_2 : MS := (ifs (tor (tnot (tst (one (v 2) (kIsi .list)) blOf)) (tnot (tst (argsk (args [(soft [2] (comp (it1 kL (v 2)) (gname 3) yes (call m_p_is_item [] [.lend 3]) [3]))]) kAll) blOf))) (ret (cst (vb false))) skip)
noncomputable def t_p_is_way_out_3 : MS := (ret (two (call m_p_place_behind [] [.lend 0, .lend 1, .lend 2]) (cst vn) kIs))
theorem b_p_is_way_out_eq : b_p_is_way_out = (pre [] [0, 1] (sq t_p_is_way_out_0
    (sq t_p_is_way_out_1
    (sq t_p_is_way_out_2
    t_p_is_way_out_3)))) := rfl
noncomputable def m_p_is_way_out : List PV → RF := fnM 4 [true, true, true] b_p_is_way_out
noncomputable def b_p_shortest_out : MS := (pre [] [0, 1] (sq (par 2 3 (args [(ddisp (v 1) (argsk (args []) kLst)), (argsk (args [(fz 0 [1] (v 1))]) kLst)]))
    (pre [4, 5, 6, 7] [3] (whiles (tst (cst (vb true)) blOf) (tdy [4, 5, 6, 7] [3] (sq (asg (argsk (args []) kLst) (gname 4))
    (sq (pre [5, 6, 7] [3] (forsV 3 wOne (gname 5) (tdy [5, 6, 7] [] (pre [6, 7] [3, 5] (fors (it1 kL (call m_p_moves_at [] [.lend 0, .lend 5])) (gtup [(gname 6), (gname 7)]) (tdy [6, 7] [] (sq (ifs (tst (two (v 7) (cst vn) kIs) blOf) (ret (argsk (argS (fz 2 [2] (two (v 2) (v 5) kIxD)) (argC (fz 0 [6] (v 6)) argN)) kLst)) skip)
    (ifs (tst (two (v 7) (v 2) kNotInD) blOf) (sq (asg (argsk (argS (fz 2 [2] (two (v 2) (v 5) kIxD)) (argC (fz 0 [6] (v 6)) argN)) kLst) (gsetD 2 (v 7)))
    (ex (recv 4 (args [(fz 0 [7] (v 7))]) rAppend))) skip)))))) (fors (it1 kL (fz 0 [3] (v 3))) (gname 5) (tdy [5, 6, 7] [] (pre [6, 7] [3, 5] (fors (it1 kL (call m_p_moves_at [] [.lend 0, .lend 5])) (gtup [(gname 6), (gname 7)]) (tdy [6, 7] [] (sq (ifs (tst (two (v 7) (cst vn) kIs) blOf) (ret (argsk (argS (fz 2 [2] (two (v 2) (v 5) kIxD)) (argC (fz 0 [6] (v 6)) argN)) kLst)) skip)
    (ifs (tst (two (v 7) (v 2) kNotInD) blOf) (sq (asg (argsk (argS (fz 2 [2] (two (v 2) (v 5) kIxD)) (argC (fz 0 [6] (v 6)) argN)) kLst) (gsetD 2 (v 7)))
    (ex (recv 4 (args [(fz 0 [7] (v 7))]) rAppend))) skip)))))))))
    (asg (fz 0 [4] (v 4)) (gname 3)))))))))
noncomputable def q_p_shortest_out_0 : MS := (tdy [6, 7] [] (sq (ifs (tst (two (v 7) (cst vn) kIs) blOf) (ret (argsk (argS (fz 2 [2] (two (v 2) (v 5) kIxD)) (argC (fz 0 [6] (v 6)) argN)) kLst)) skip)
    (ifs (tst (two (v 7) (v 2) kNotInD) blOf) (sq (asg (argsk (argS (fz 2 [2] (two (v 2) (v 5) kIxD)) (argC (fz 0 [6] (v 6)) argN)) kLst) (gsetD 2 (v 7)))
    (ex (recv 4 (args [(fz 0 [7] (v 7))]) rAppend))) skip)))
noncomputable def w_p_shortest_out_0 : MS := (pre [6, 7] [3, 5] (fors (it1 kL (call m_p_moves_at [] [.lend 0, .lend 5])) (gtup [(gname 6), (gname 7)]) q_p_shortest_out_0))
noncomputable def q_p_shortest_out_1 : MS := (tdy [5, 6, 7] [] w_p_shortest_out_0)
noncomputable def w_p_shortest_out_1 : MS := (pre [5, 6, 7] [3] (forsV 3 wOne (gname 5) q_p_shortest_out_1 (fors (it1 kL (fz 0 [3] (v 3))) (gname 5) q_p_shortest_out_1)))
noncomputable def q_p_shortest_out_2 : MS := (tdy [4, 5, 6, 7] [3] (sq (asg (argsk (args []) kLst) (gname 4))
    (sq w_p_shortest_out_1
    (asg (fz 0 [4] (v 4)) (gname 3)))))
noncomputable def u_p_shortest_out_0 : MT := (tst (cst (vb true)) blOf)
noncomputable def w_p_shortest_out_2 : MS := (pre [4, 5, 6, 7] [3] (whiles u_p_shortest_out_0 q_p_shortest_out_2))
theorem b_p_shortest_out_eq : b_p_shortest_out = (pre [] [0, 1] (sq (par 2 3 (args [(ddisp (v 1) (argsk (args []) kLst)), (argsk (args [(fz 0 [1] (v 1))]) kLst)]))
    w_p_shortest_out_2)) := rfl
noncomputable def m_p_shortest_out : List PV → RF := fnM 8 [true, true] b_p_shortest_out
noncomputable def b_p_life : MS := (pre [] [0, 1] (sq (ex (call m_p_check_rule [] [.lend 0]))
    (sq (ex (call m_p_check_place [] [.lend 0, .lend 1]))
    (ret (argsk (args [(call m_p_shortest_out [] [.lend 0, .lend 1])]) kLen)))))
noncomputable def m_p_life : List PV → RF := fnM 2 [true, true] b_p_life
noncomputable def b_p_way_out : MS := (pre [] [0, 1] (sq (ex (call m_p_check_rule [] [.lend 0]))
    (sq (ex (call m_p_check_place [] [.lend 0, .lend 1]))
    (ret (call m_p_shortest_out [] [.lend 0, .lend 1])))))
noncomputable def m_p_way_out : List PV → RF := fnM 2 [true, true] b_p_way_out
noncomputable def b_l_right : MS := (pre [] [1] (sq (asg (argsk (args [(call m_l_book [] [.lend 0, .lend 1]), (call m_l_draw [] [.lend 0, .lend 1])]) kTup) (gtup [(gname 2), (gname 3)]))
    (sq (par 4 5 (args [(argsk (args [(v 2)]) kRepr), (call m_l_lives [] [.lend 2])]))
    (sq (ifs (tor (tnot (tst (call (m_l_same 3) [] [.val (comp (itN kR1 (args [(v 1)])) (gname 6) yes (call m_p_life [] [.lend 2, .lend 6]) [6]), .lend 5]) blOf)) (tst (two (call (byK [1, 0] [1, 0] m_p_life) [] [.lend 3, .lend 2]) (two (v 5) (v 3) kIx) kNe) blOf)) (ret (cst (vb false))) skip)
    (sq (pre [6, 7] [2, 3, 4, 5] (fors (itN kR1 (args [(v 1)])) (gname 6) (tdy [6, 7] [] (sq (asg (ift (tst (two (v 6) (v 3) kNe) blOf) (call m_p_way_out [] [.lend 2, .lend 6]) (call (byK [1, 0] [1, 0] m_p_way_out) [] [.lend 6, .lend 2])) (gname 7))
    (sq (ifs (tor (tnot (tst (one (v 7) (kIsi .list)) blOf)) (tor (tst (two (argsk (args [(v 7)]) kLen) (two (v 5) (v 6) kIx) kNe) blOf) (tst (two (call m_l_walk [] [.lend 2, .lend 6, .lend 7]) (cst (vs "gone")) kNe) blOf))) (ret (cst (vb false))) skip)
    (sq (ifs (tst (two (soft [7] (comp (it1 kL (v 7)) (gname 8) (tand (tst (two (v 8) (cst vn) kIsNot) blOf) (tst (one (v 8) (kIsi .bool)) blOf)) (fz 0 [8] (v 8)) [8])) (argsk (args []) kLst) kNe) blOf) (ret (cst (vb false))) skip)
    (sq (ifs (tor (tnot (tst (call m_p_is_way_out [] [.lend 2, .lend 6, .lend 7]) blOf)) (tst (two (two (v 7) (one (cst (vi 1)) kNeg) kIx) (cst vn) kIsNot) blOf)) (ret (cst (vb false))) skip)
    (ex (recv 7 (args [(cst vn)]) rAppend)))))))))
    (ret (vand (two (call m_p_way_out [] [.lend 2, .lend 3]) (call m_p_way_out [] [.lend 2, .lend 3]) kEq) (two (argsk (args [(v 2)]) kRepr) (v 4) kEq))))))))
noncomputable def r_l_right_0 : MS := (asg (ift (tst (two (v 6) (v 3) kNe) blOf) (call m_p_way_out [] [.lend 2, .lend 6]) (call (byK [1, 0] [1, 0] m_p_way_out) [] [.lend 6, .lend 2])) (gname 7))
noncomputable def r_l_right_1 : MS := (ifs (tor (tnot (tst (one (v 7) (kIsi .list)) blOf)) (tor (tst (two (argsk (args [(v 7)]) kLen) (two (v 5) (v 6) kIx) kNe) blOf) (tst (two (call m_l_walk [] [.lend 2, .lend 6, .lend 7]) (cst (vs "gone")) kNe) blOf))) (ret (cst (vb false))) skip)
noncomputable def r_l_right_2 : MS := (ifs (tst (two (soft [7] (comp (it1 kL (v 7)) (gname 8) (tand (tst (two (v 8) (cst vn) kIsNot) blOf) (tst (one (v 8) (kIsi .bool)) blOf)) (fz 0 [8] (v 8)) [8])) (argsk (args []) kLst) kNe) blOf) (ret (cst (vb false))) skip)
noncomputable def r_l_right_3 : MS := (ifs (tor (tnot (tst (call m_p_is_way_out [] [.lend 2, .lend 6, .lend 7]) blOf)) (tst (two (two (v 7) (one (cst (vi 1)) kNeg) kIx) (cst vn) kIsNot) blOf)) (ret (cst (vb false))) skip)
noncomputable def r_l_right_4 : MS := (ex (recv 7 (args [(cst vn)]) rAppend))
noncomputable def q_l_right_0 : MS := (tdy [6, 7] [] (sq r_l_right_0
    (sq r_l_right_1
    (sq r_l_right_2
    (sq r_l_right_3
    r_l_right_4)))))
noncomputable def w_l_right_0 : MS := (pre [6, 7] [2, 3, 4, 5] (fors (itN kR1 (args [(v 1)])) (gname 6) q_l_right_0))
noncomputable def t_l_right_0 : MS := (asg (argsk (args [(call m_l_book [] [.lend 0, .lend 1]), (call m_l_draw [] [.lend 0, .lend 1])]) kTup) (gtup [(gname 2), (gname 3)]))
noncomputable def t_l_right_1 : MS := (par 4 5 (args [(argsk (args [(v 2)]) kRepr), (call m_l_lives [] [.lend 2])]))
noncomputable def t_l_right_2 : MS := (ifs (tor (tnot (tst (call (m_l_same 3) [] [.val (comp (itN kR1 (args [(v 1)])) (gname 6) yes (call m_p_life [] [.lend 2, .lend 6]) [6]), .lend 5]) blOf)) (tst (two (call (byK [1, 0] [1, 0] m_p_life) [] [.lend 3, .lend 2]) (two (v 5) (v 3) kIx) kNe) blOf)) (ret (cst (vb false))) skip)
noncomputable def t_l_right_3 : MS := w_l_right_0
noncomputable def t_l_right_4 : MS := (ret (vand (two (call m_p_way_out [] [.lend 2, .lend 3]) (call m_p_way_out [] [.lend 2, .lend 3]) kEq) (two (argsk (args [(v 2)]) kRepr) (v 4) kEq)))
theorem b_l_right_eq : b_l_right = (pre [] [1] (sq t_l_right_0
    (sq t_l_right_1
    (sq t_l_right_2
    (sq t_l_right_3
    t_l_right_4))))) := rfl
noncomputable def m_l_right : List PV → RF := fnM 9 [true, true] b_l_right
noncomputable def b_l_source : MS := (ret (argsk (args [(argsk (args [(cst (vi 0)), (two (v 0) (two (cst (vi 10)) (cst (vi 18)) kPow) kSub)]) kMax), (two (two (two (two (argsk (args [(v 0)]) kInt) (two (two (cst (vi 10)) (cst (vi 39)) kPow) (cst (vi 3)) kAdd) kMod) (cst (vi 3)) kPow) (two (cst (vi 6700417)) (v 1) kMul) kAdd) (cst (vi 223606797749978969)) kAdd), (cst (vi 0))]) kLst))
noncomputable def m_l_source : List PV → RF := fnM 2 [true, true] b_l_source
noncomputable def b_p_law : MS := (pre [] [0] (sq (pre [1, 2, 3, 4] [] (fors (itN kE (args [(call m_l_cells [] [.lend 0, .val (cst (vi 5))])])) (gtup [(gname 1), (gname 2)]) (tdy [1, 2, 3, 4] [] (sq (asg (call m_l_source [] [.lend 2, .lend 1]) (gname 3))
    (pre [4] [1] (fors (it1 kL (two (argsk (args [(two (cst (vi 2)) (call m_l_draw [] [.lend 3, .val (cst (vi 4))]) kAdd), (two (cst (vi 2)) (call m_l_draw [] [.lend 3, .val (cst (vi 6))]) kAdd)]) kLst) (two (argsk (args [(two (cst (vi 8)) (call m_l_draw [] [.lend 3, .val (cst (vi 5))]) kAdd)]) kLst) (argsk (args [(two (v 1) (cst (vi 0)) kEq)]) kInt) kMul) kAdd)) (gname 4) (tdy [4] [] (ifs (tnot (tst (call m_l_right [] [.lend 3, .lend 4]) blOf)) (ret (cst (vb false))) skip))))))))
    (sq (asg (argsk (args [(argsk (args [(cst (vi 0)), (cst (vi 1)), (cst (vi 2))]) kLst), (argsk (args [(cst (vi 0)), (cst (vi 1)), (cst (vi 2))]) kLst), (argsk (args [(cst (vi 0)), (cst (vi 1)), (cst (vi 2))]) kLst)]) kLst) (gname 5))
    (ret (two (argsk (args [(call m_p_life [] [.lend 5, .val (cst (vi 2))]), (call m_p_way_out [] [.lend 5, .val (cst (vi 1))]), (call m_p_way_out [] [.val (argsk (args [(argsk (args [(cst (vi 0)), (cst (vi 1))]) kLst), (argsk (args [(cst (vi 1)), (cst (vi 0))]) kLst)]) kLst), .val (cst (vi 0))])]) kLst) (argsk (args [(cst (vi 3)), (argsk (args [(cst vn), (cst vn)]) kLst), (argsk (args [(cst vn)]) kLst)]) kLst) kEq)))))
noncomputable def q_p_law_0 : MS := (tdy [4] [] (ifs (tnot (tst (call m_l_right [] [.lend 3, .lend 4]) blOf)) (ret (cst (vb false))) skip))
noncomputable def w_p_law_0 : MS := (pre [4] [1] (fors (it1 kL (two (argsk (args [(two (cst (vi 2)) (call m_l_draw [] [.lend 3, .val (cst (vi 4))]) kAdd), (two (cst (vi 2)) (call m_l_draw [] [.lend 3, .val (cst (vi 6))]) kAdd)]) kLst) (two (argsk (args [(two (cst (vi 8)) (call m_l_draw [] [.lend 3, .val (cst (vi 5))]) kAdd)]) kLst) (argsk (args [(two (v 1) (cst (vi 0)) kEq)]) kInt) kMul) kAdd)) (gname 4) q_p_law_0))
noncomputable def q_p_law_1 : MS := (tdy [1, 2, 3, 4] [] (sq (asg (call m_l_source [] [.lend 2, .lend 1]) (gname 3))
    w_p_law_0))
noncomputable def w_p_law_1 : MS := (pre [1, 2, 3, 4] [] (fors (itN kE (args [(call m_l_cells [] [.lend 0, .val (cst (vi 5))])])) (gtup [(gname 1), (gname 2)]) q_p_law_1))
theorem b_p_law_eq : b_p_law = (pre [] [0] (sq w_p_law_1
    (sq (asg (argsk (args [(argsk (args [(cst (vi 0)), (cst (vi 1)), (cst (vi 2))]) kLst), (argsk (args [(cst (vi 0)), (cst (vi 1)), (cst (vi 2))]) kLst), (argsk (args [(cst (vi 0)), (cst (vi 1)), (cst (vi 2))]) kLst)]) kLst) (gname 5))
    (ret (two (argsk (args [(call m_p_life [] [.lend 5, .val (cst (vi 2))]), (call m_p_way_out [] [.lend 5, .val (cst (vi 1))]), (call m_p_way_out [] [.val (argsk (args [(argsk (args [(cst (vi 0)), (cst (vi 1))]) kLst), (argsk (args [(cst (vi 1)), (cst (vi 0))]) kLst)]) kLst), .val (cst (vi 0))])]) kLst) (argsk (args [(cst (vi 3)), (argsk (args [(cst vn), (cst vn)]) kLst), (argsk (args [(cst vn)]) kLst)]) kLst) kEq))))) := rfl
noncomputable def m_p_law : List PV → RF := fnM 6 [true] b_p_law
end Lw
set_option maxHeartbeats 4000000
namespace Lw
open PySem PySem.Spec PyProof.Rows L2 Vs
def top (i : Nat) : Stmt := PySem.Challenge.pw_goesnext_k56_lives_and_ways_out.main.body.getD i (.Pass ⟨0, 0, 0, 0⟩)
abbrev s_l_cells : Stmt := top 24
abbrev N_l_cells : List Str := ["_law_script", "_law_most"]
theorem nd_l_cells : N_l_cells.Nodup := by decide +kernel
theorem sc_l_cells : FnScope N_l_cells ["_law_script", "_law_most"] (defScope s_l_cells) := ⟨rfl, rfl, rfl, nd_l_cells, rfl, by decide +kernel, by decide +kernel⟩
abbrev s_l_draw : Stmt := top 23
abbrev N_l_draw : List Str := ["_law_source_here", "_law_wide", "_law_digit"]
theorem nd_l_draw : N_l_draw.Nodup := by decide +kernel
theorem sc_l_draw : FnScope N_l_draw ["_law_source_here", "_law_wide"] (defScope s_l_draw) := ⟨rfl, rfl, rfl, nd_l_draw, rfl, by decide +kernel, by decide +kernel⟩
abbrev s_l_mixed : Stmt := top 26
abbrev N_l_mixed : List Str := ["_law_source_here", "_law_some", "_law_left", "_law_found"]
theorem nd_l_mixed : N_l_mixed.Nodup := by decide +kernel
theorem sc_l_mixed : FnScope N_l_mixed ["_law_source_here", "_law_some"] (defScope s_l_mixed) := ⟨rfl, rfl, rfl, nd_l_mixed, rfl, by decide +kernel, by decide +kernel⟩
abbrev s_l_book : Stmt := top 27
abbrev N_l_book : List Str := ["_law_source_here", "_law_many", "_law_way", "_law_found", "_law_spot", "_law_order_here", "_law_goal_here", "_law_up", "_law_at"]
theorem nd_l_book : N_l_book.Nodup := by decide +kernel
theorem sc_l_book : FnScope N_l_book ["_law_source_here", "_law_many"] (defScope s_l_book) := ⟨rfl, rfl, rfl, nd_l_book, rfl, by decide +kernel, by decide +kernel⟩
abbrev s_l_lives : Stmt := top 31
abbrev N_l_lives : List Str := ["_law_book_here", "_law_found", "_law_many", "_law_spot", "_law_near", "_law_hit", "_law_one"]
theorem nd_l_lives : N_l_lives.Nodup := by decide +kernel
theorem sc_l_lives : FnScope N_l_lives ["_law_book_here"] (defScope s_l_lives) := ⟨rfl, rfl, rfl, nd_l_lives, rfl, by decide +kernel, by decide +kernel⟩
abbrev s_l_same : Stmt := top 25
abbrev N_l_same : List Str := ["_law_found", "_law_expected", "_law_one", "_law_other"]
theorem nd_l_same : N_l_same.Nodup := by decide +kernel
theorem sc_l_same : FnScope N_l_same ["_law_found", "_law_expected"] (defScope s_l_same) := ⟨rfl, rfl, rfl, nd_l_same, rfl, by decide +kernel, by decide +kernel⟩
abbrev s_l_step : Stmt := top 28
abbrev N_l_step : List Str := ["_law_book_here", "_law_line", "_law_number", "_law_moved_here", "_law_at", "_law_spot"]
theorem nd_l_step : N_l_step.Nodup := by decide +kernel
theorem sc_l_step : FnScope N_l_step ["_law_book_here", "_law_line", "_law_number"] (defScope s_l_step) := ⟨rfl, rfl, rfl, nd_l_step, rfl, by decide +kernel, by decide +kernel⟩
abbrev s_l_walk : Stmt := top 30
abbrev N_l_walk : List Str := ["_law_book_here", "_law_at", "_law_items", "_law_line", "_law_fresh", "_law_item", "_law_number"]
theorem nd_l_walk : N_l_walk.Nodup := by decide +kernel
theorem sc_l_walk : FnScope N_l_walk ["_law_book_here", "_law_at", "_law_items"] (defScope s_l_walk) := ⟨rfl, rfl, rfl, nd_l_walk, rfl, by decide +kernel, by decide +kernel⟩
abbrev s_p_is_integer : Stmt := top 5
abbrev N_p_is_integer : List Str := ["value", "least", "most"]
theorem nd_p_is_integer : N_p_is_integer.Nodup := by decide +kernel
theorem sc_p_is_integer : FnScope N_p_is_integer ["value", "least", "most"] (defScope s_p_is_integer) := ⟨rfl, rfl, rfl, nd_p_is_integer, rfl, by decide +kernel, by decide +kernel⟩
abbrev s_p_check_place : Stmt := top 13
abbrev N_p_check_place : List Str := ["rule", "value"]
theorem nd_p_check_place : N_p_check_place.Nodup := by decide +kernel
theorem sc_p_check_place : FnScope N_p_check_place ["rule", "value"] (defScope s_p_check_place) := ⟨rfl, rfl, rfl, nd_p_check_place, rfl, by decide +kernel, by decide +kernel⟩
abbrev s_p_is_permutation_of : Stmt := top 6
abbrev N_p_is_permutation_of : List Str := ["value", "size", "item"]
theorem nd_p_is_permutation_of : N_p_is_permutation_of.Nodup := by decide +kernel
theorem sc_p_is_permutation_of : FnScope N_p_is_permutation_of ["value", "size"] (defScope s_p_is_permutation_of) := ⟨rfl, rfl, rfl, nd_p_is_permutation_of, rfl, by decide +kernel, by decide +kernel⟩
abbrev s_p_check_rule : Stmt := top 10
abbrev N_p_check_rule : List Str := ["value", "index", "item"]
theorem nd_p_check_rule : N_p_check_rule.Nodup := by decide +kernel
theorem sc_p_check_rule : FnScope N_p_check_rule ["value"] (defScope s_p_check_rule) := ⟨rfl, rfl, rfl, nd_p_check_rule, rfl, by decide +kernel, by decide +kernel⟩
abbrev s_p_is_item : Stmt := top 18
abbrev N_p_is_item : List Str := ["value"]
theorem nd_p_is_item : N_p_is_item.Nodup := by decide +kernel
theorem sc_p_is_item : FnScope N_p_is_item ["value"] (defScope s_p_is_item) := ⟨rfl, rfl, rfl, nd_p_is_item, rfl, by decide +kernel, by decide +kernel⟩
abbrev s_p_moves_at : Stmt := top 14
abbrev N_p_moves_at : List Str := ["rule", "place", "hits", "hit"]
theorem nd_p_moves_at : N_p_moves_at.Nodup := by decide +kernel
theorem sc_p_moves_at : FnScope N_p_moves_at ["rule", "place"] (defScope s_p_moves_at) := ⟨rfl, rfl, rfl, nd_p_moves_at, rfl, by decide +kernel, by decide +kernel⟩
abbrev s_p_place_behind : Stmt := top 19
abbrev N_p_place_behind : List Str := ["rule", "place", "items", "here", "item", "nexts"]
theorem nd_p_place_behind : N_p_place_behind.Nodup := by decide +kernel
theorem sc_p_place_behind : FnScope N_p_place_behind ["rule", "place", "items"] (defScope s_p_place_behind) := ⟨rfl, rfl, rfl, nd_p_place_behind, rfl, by decide +kernel, by decide +kernel⟩
abbrev s_p_is_way_out : Stmt := top 20
abbrev N_p_is_way_out : List Str := ["rule", "place", "value", "item"]
theorem nd_p_is_way_out : N_p_is_way_out.Nodup := by decide +kernel
theorem sc_p_is_way_out : FnScope N_p_is_way_out ["rule", "place", "value"] (defScope s_p_is_way_out) := ⟨rfl, rfl, rfl, nd_p_is_way_out, rfl, by decide +kernel, by decide +kernel⟩
abbrev s_p_shortest_out : Stmt := top 15
abbrev N_p_shortest_out : List Str := ["rule", "place", "ways", "waiting", "later", "here", "item", "there"]
theorem nd_p_shortest_out : N_p_shortest_out.Nodup := by decide +kernel
theorem sc_p_shortest_out : FnScope N_p_shortest_out ["rule", "place"] (defScope s_p_shortest_out) := ⟨rfl, rfl, rfl, nd_p_shortest_out, rfl, by decide +kernel, by decide +kernel⟩
abbrev s_p_life : Stmt := top 16
abbrev N_p_life : List Str := ["rule", "place"]
theorem nd_p_life : N_p_life.Nodup := by decide +kernel
theorem sc_p_life : FnScope N_p_life ["rule", "place"] (defScope s_p_life) := ⟨rfl, rfl, rfl, nd_p_life, rfl, by decide +kernel, by decide +kernel⟩
abbrev s_p_way_out : Stmt := top 17
abbrev N_p_way_out : List Str := ["rule", "place"]
theorem nd_p_way_out : N_p_way_out.Nodup := by decide +kernel
theorem sc_p_way_out : FnScope N_p_way_out ["rule", "place"] (defScope s_p_way_out) := ⟨rfl, rfl, rfl, nd_p_way_out, rfl, by decide +kernel, by decide +kernel⟩
abbrev s_l_right : Stmt := top 32
abbrev N_l_right : List Str := ["_law_source_here", "_law_many", "_law_book_here", "_law_spot", "_law_kept", "_law_due", "_law_at", "_law_told", "_law_item"]
theorem nd_l_right : N_l_right.Nodup := by decide +kernel
theorem sc_l_right : FnScope N_l_right ["_law_source_here", "_law_many"] (defScope s_l_right) := ⟨rfl, rfl, rfl, nd_l_right, rfl, by decide +kernel, by decide +kernel⟩
abbrev s_l_source : Stmt := top 22
abbrev N_l_source : List Str := ["_law_cell", "_law_nth"]
theorem nd_l_source : N_l_source.Nodup := by decide +kernel
theorem sc_l_source : FnScope N_l_source ["_law_cell", "_law_nth"] (defScope s_l_source) := ⟨rfl, rfl, rfl, nd_l_source, rfl, by decide +kernel, by decide +kernel⟩
abbrev s_p_law : Stmt := top 33
abbrev N_p_law : List Str := ["_law_script", "_law_nth", "_law_cell", "_law_source_here", "_law_many", "_law_still"]
theorem nd_p_law : N_p_law.Nodup := by decide +kernel
theorem sc_p_law : FnScope N_p_law ["_law_script"] (defScope s_p_law) := ⟨rfl, rfl, rfl, nd_p_law, rfl, by decide +kernel, by decide +kernel⟩
structure Txt (K : PySem.W.Frag) (mg : Str → Option Value) : Prop where
  z_all : mg "all" = none
  z_bool : mg "bool" = none
  z_dict : mg "dict" = none
  z_enumerate : mg "enumerate" = none
  z_int : mg "int" = none
  z_isinstance : mg "isinstance" = none
  z_len : mg "len" = none
  z_list : mg "list" = none
  z_max : mg "max" = none
  z_range : mg "range" = none
  z_repr : mg "repr" = none
  z_sorted : mg "sorted" = none
  z_tuple : mg "tuple" = none
  z_zip : mg "zip" = none
  w_LEAST_PLACES : Konst K mg "LEAST_PLACES" (.int 2)
  w_MOST_PLACES : Konst K mg "MOST_PLACES" (.int 12)
  w_OWN : Konst K mg "OWN" (.str "own")
section
variable {P : Program} {w : World} {K : PySem.W.Frag} {mg : Str → Option Value} {base : Heap} {ct : Str → Addr}
theorem bl_book_2 {f : Addr} {fd : FuncData} (F : FunD K "_law_book" "_law_book" (defArgs s_l_book) (defBody s_l_book) (defScope s_l_book) [] [] f fd) : L2.Binds K fd ["_law_source_here", "_law_many"] [] := binds_0 F fun _ _ _ _ _ _ us hl => match us, hl with | [_, _], _ => rfl
theorem bl_cells_2 {f : Addr} {fd : FuncData} (F : FunD K "_law_cells" "_law_cells" (defArgs s_l_cells) (defBody s_l_cells) (defScope s_l_cells) [] [] f fd) : L2.Binds K fd ["_law_script", "_law_most"] [] := binds_0 F fun _ _ _ _ _ _ us hl => match us, hl with | [_, _], _ => rfl
theorem bl_draw_2 {f : Addr} {fd : FuncData} (F : FunD K "_law_draw" "_law_draw" (defArgs s_l_draw) (defBody s_l_draw) (defScope s_l_draw) [] [] f fd) : L2.Binds K fd ["_law_source_here", "_law_wide"] [] := binds_0 F fun _ _ _ _ _ _ us hl => match us, hl with | [_, _], _ => rfl
theorem bl_lives_1 {f : Addr} {fd : FuncData} (F : FunD K "_law_lives" "_law_lives" (defArgs s_l_lives) (defBody s_l_lives) (defScope s_l_lives) [] [] f fd) : L2.Binds K fd ["_law_book_here"] [] := binds_0 F fun _ _ _ _ _ _ us hl => match us, hl with | [_], _ => rfl
theorem bl_mixed_2 {f : Addr} {fd : FuncData} (F : FunD K "_law_mixed" "_law_mixed" (defArgs s_l_mixed) (defBody s_l_mixed) (defScope s_l_mixed) [] [] f fd) : L2.Binds K fd ["_law_source_here", "_law_some"] [] := binds_0 F fun _ _ _ _ _ _ us hl => match us, hl with | [_, _], _ => rfl
theorem bl_right_2 {f : Addr} {fd : FuncData} (F : FunD K "_law_right" "_law_right" (defArgs s_l_right) (defBody s_l_right) (defScope s_l_right) [] [] f fd) : L2.Binds K fd ["_law_source_here", "_law_many"] [] := binds_0 F fun _ _ _ _ _ _ us hl => match us, hl with | [_, _], _ => rfl
theorem bl_same_2 {f : Addr} {fd : FuncData} (F : FunD K "_law_same" "_law_same" (defArgs s_l_same) (defBody s_l_same) (defScope s_l_same) [] [] f fd) : L2.Binds K fd ["_law_found", "_law_expected"] [] := binds_0 F fun _ _ _ _ _ _ us hl => match us, hl with | [_, _], _ => rfl
theorem bl_source_2 {f : Addr} {fd : FuncData} (F : FunD K "_law_source" "_law_source" (defArgs s_l_source) (defBody s_l_source) (defScope s_l_source) [] [] f fd) : L2.Binds K fd ["_law_cell", "_law_nth"] [] := binds_0 F fun _ _ _ _ _ _ us hl => match us, hl with | [_, _], _ => rfl
theorem bl_step_3 {f : Addr} {fd : FuncData} (F : FunD K "_law_step" "_law_step" (defArgs s_l_step) (defBody s_l_step) (defScope s_l_step) [] [] f fd) : L2.Binds K fd ["_law_book_here", "_law_line", "_law_number"] [] := binds_0 F fun _ _ _ _ _ _ us hl => match us, hl with | [_, _, _], _ => rfl
theorem bl_walk_3 {f : Addr} {fd : FuncData} (F : FunD K "_law_walk" "_law_walk" (defArgs s_l_walk) (defBody s_l_walk) (defScope s_l_walk) [] [] f fd) : L2.Binds K fd ["_law_book_here", "_law_at", "_law_items"] [] := binds_0 F fun _ _ _ _ _ _ us hl => match us, hl with | [_, _, _], _ => rfl
theorem bp_check_place_2 {f : Addr} {fd : FuncData} (F : FunD K "check_place" "check_place" (defArgs s_p_check_place) (defBody s_p_check_place) (defScope s_p_check_place) [] [] f fd) : L2.Binds K fd ["rule", "value"] [] := binds_0 F fun _ _ _ _ _ _ us hl => match us, hl with | [_, _], _ => rfl
theorem bp_check_rule_1 {f : Addr} {fd : FuncData} (F : FunD K "check_rule" "check_rule" (defArgs s_p_check_rule) (defBody s_p_check_rule) (defScope s_p_check_rule) [] [] f fd) : L2.Binds K fd ["value"] [] := binds_0 F fun _ _ _ _ _ _ us hl => match us, hl with | [_], _ => rfl
theorem bp_is_integer_1 {f : Addr} {fd : FuncData} (F : FunD K "is_integer" "is_integer" (defArgs s_p_is_integer) (defBody s_p_is_integer) (defScope s_p_is_integer) [.non, .non] [] f fd) : ∃ ds, Vals (([.non, .non] : List V).drop 0) ds ∧ L2.Binds K fd ["value", "least", "most"] ds := binds_D 1 0 (by simp) rfl F fun _ _ _ _ _ _ _ us its h1 h2 => match us, its, h1, h2 with | [_], [_, _], _, _ => ⟨_, rfl, rfl⟩
theorem bp_is_integer_3 {f : Addr} {fd : FuncData} (F : FunD K "is_integer" "is_integer" (defArgs s_p_is_integer) (defBody s_p_is_integer) (defScope s_p_is_integer) [.non, .non] [] f fd) : ∃ ds, Vals (([.non, .non] : List V).drop 2) ds ∧ L2.Binds K fd ["value", "least", "most"] ds := binds_D 3 2 (by simp) rfl F fun _ _ _ _ _ _ _ us its h1 h2 => match us, its, h1, h2 with | [_, _, _], [_, _], _, _ => ⟨_, rfl, rfl⟩
theorem bp_is_item_1 {f : Addr} {fd : FuncData} (F : FunD K "is_item" "is_item" (defArgs s_p_is_item) (defBody s_p_is_item) (defScope s_p_is_item) [] [] f fd) : L2.Binds K fd ["value"] [] := binds_0 F fun _ _ _ _ _ _ us hl => match us, hl with | [_], _ => rfl
theorem bp_is_permutation_of_2 {f : Addr} {fd : FuncData} (F : FunD K "is_permutation_of" "is_permutation_of" (defArgs s_p_is_permutation_of) (defBody s_p_is_permutation_of) (defScope s_p_is_permutation_of) [] [] f fd) : L2.Binds K fd ["value", "size"] [] := binds_0 F fun _ _ _ _ _ _ us hl => match us, hl with | [_, _], _ => rfl
theorem bp_is_way_out_3 {f : Addr} {fd : FuncData} (F : FunD K "is_way_out" "is_way_out" (defArgs s_p_is_way_out) (defBody s_p_is_way_out) (defScope s_p_is_way_out) [] [] f fd) : L2.Binds K fd ["rule", "place", "value"] [] := binds_0 F fun _ _ _ _ _ _ us hl => match us, hl with | [_, _, _], _ => rfl
theorem bp_life_0_place_rule {f : Addr} {fd : FuncData} (F : FunD K "life" "life" (defArgs s_p_life) (defBody s_p_life) (defScope s_p_life) [] [] f fd) : BindK K fd ["rule", "place"] ["place", "rule"] [] [1, 0] := bindK_0 F 0 rfl fun _ _ _ _ _ _ us ws h1 h2 => match us, ws, h1, h2 with | [], [_, _], _, _ => rfl
theorem bp_life_2 {f : Addr} {fd : FuncData} (F : FunD K "life" "life" (defArgs s_p_life) (defBody s_p_life) (defScope s_p_life) [] [] f fd) : L2.Binds K fd ["rule", "place"] [] := binds_0 F fun _ _ _ _ _ _ us hl => match us, hl with | [_, _], _ => rfl
theorem bp_moves_at_2 {f : Addr} {fd : FuncData} (F : FunD K "moves_at" "moves_at" (defArgs s_p_moves_at) (defBody s_p_moves_at) (defScope s_p_moves_at) [] [] f fd) : L2.Binds K fd ["rule", "place"] [] := binds_0 F fun _ _ _ _ _ _ us hl => match us, hl with | [_, _], _ => rfl
theorem bp_place_behind_3 {f : Addr} {fd : FuncData} (F : FunD K "place_behind" "place_behind" (defArgs s_p_place_behind) (defBody s_p_place_behind) (defScope s_p_place_behind) [] [] f fd) : L2.Binds K fd ["rule", "place", "items"] [] := binds_0 F fun _ _ _ _ _ _ us hl => match us, hl with | [_, _, _], _ => rfl
theorem bp_shortest_out_2 {f : Addr} {fd : FuncData} (F : FunD K "shortest_out" "shortest_out" (defArgs s_p_shortest_out) (defBody s_p_shortest_out) (defScope s_p_shortest_out) [] [] f fd) : L2.Binds K fd ["rule", "place"] [] := binds_0 F fun _ _ _ _ _ _ us hl => match us, hl with | [_, _], _ => rfl
theorem bp_way_out_0_place_rule {f : Addr} {fd : FuncData} (F : FunD K "way_out" "way_out" (defArgs s_p_way_out) (defBody s_p_way_out) (defScope s_p_way_out) [] [] f fd) : BindK K fd ["rule", "place"] ["place", "rule"] [] [1, 0] := bindK_0 F 0 rfl fun _ _ _ _ _ _ us ws h1 h2 => match us, ws, h1, h2 with | [], [_, _], _, _ => rfl
theorem bp_way_out_2 {f : Addr} {fd : FuncData} (F : FunD K "way_out" "way_out" (defArgs s_p_way_out) (defBody s_p_way_out) (defScope s_p_way_out) [] [] f fd) : L2.Binds K fd ["rule", "place"] [] := binds_0 F fun _ _ _ _ _ _ us hl => match us, hl with | [_, _], _ => rfl
theorem fn_l_cells {a : Addr} {fd : FuncData} (T : Txt K mg) (F : FunD K "_law_cells" "_law_cells" (defArgs s_l_cells) (defBody s_l_cells) (defScope s_l_cells) [] [] a fd)  : Fn P w K mg base ct 1 a fd ["_law_script", "_law_most"] m_l_cells := by
  refine fn_ofD F sc_l_cells (by decide) rfl fun cdv A outer s H E hr hgd => ?_
  exact (ss_one (ss_ret (s_add (s_slc (s_fz (s_v 0)) so_none (so_some (s_v 1))) (s_mul (s_lst (sa_cons s_int sa_nil)) (s_ty call_int1 kInt_op (by rfl) T.z_int (by decide +kernel) (by decide) (by decide) (sa_cons (s_eq hr (s_v 0) (s_lst sa_nil)) sa_nil))))))
theorem fn_l_draw {a : Addr} {fd : FuncData} (T : Txt K mg) (F : FunD K "_law_draw" "_law_draw" (defArgs s_l_draw) (defBody s_l_draw) (defScope s_l_draw) [] [] a fd)  : Fn P w K mg base ct 1 a fd ["_law_source_here", "_law_wide"] m_l_draw := by
  refine fn_ofD F sc_l_draw (by decide) rfl fun cdv A outer s H E hr hgd => ?_
  exact (ss_cons (ss_if (t_gt (s_ix (s_v 0) s_int) s_int) (ss_cons (ss_asg (s_mod (s_ty call_int1 kInt_op (by rfl) T.z_int (by decide +kernel) (by decide) (by decide) (sa_cons (s_ix (s_v 0) s_int) sa_nil)) (s_v 1)) (sg_name nd_l_draw (i := 2) rfl (Or.inl rfl) (by decide)))
    (ss_cons (ss_asg (s_div (s_ix (s_v 0) s_int) (s_v 1)) (sg_set s_int (i := 0)))
    (ss_one (ss_retv 2)))) ss_nil)
    (ss_cons (ss_asg (s_add (s_fz (s_ix (s_v 0) s_int)) s_int) (sg_set s_int (i := 0)))
    (ss_cons (ss_asg (s_mod (s_ty call_int1 kInt_op (by rfl) T.z_int (by decide +kernel) (by decide) (by decide) (sa_cons (s_add (s_add (s_pow (s_ix (s_v 0) s_int) s_int) (s_mul s_int (s_ix (s_v 0) s_int))) s_int) sa_nil)) (s_add (s_pow s_int s_int) s_int)) (sg_set s_int (i := 0)))
    (ss_one (ss_ret (s_mod (s_ty call_int1 kInt_op (by rfl) T.z_int (by decide +kernel) (by decide) (by decide) (sa_cons (s_div (s_ix (s_v 0) s_int) (s_pow s_int s_int)) sa_nil)) (s_v 1)))))))
theorem fn_l_mixed {a : Addr} {fd : FuncData} (T : Txt K mg) (F : FunD K "_law_mixed" "_law_mixed" (defArgs s_l_mixed) (defBody s_l_mixed) (defScope s_l_mixed) [] [] a fd) {a_l_draw : Addr} {fd_l_draw : FuncData} (G_l_draw : Fn P w K mg base ct 1 a_l_draw fd_l_draw ["_law_source_here", "_law_wide"] m_l_draw) (g_l_draw : mg "_law_draw" = some (.ref a_l_draw)) (k_l_draw : PySem.W.keepIn K (.ref a_l_draw) = true) {dbl_draw_2 : List Value} (bl_draw_2 : L2.Binds K fd_l_draw ["_law_source_here", "_law_wide"] dbl_draw_2) (vbl_draw_2 : Vals [] dbl_draw_2) : Fn P w K mg base ct 2 a fd ["_law_source_here", "_law_some"] m_l_mixed := by
  refine fn_ofD F sc_l_mixed (by decide) rfl fun cdv A outer s H E hr hgd => ?_
  exact (ss_cons (ss_par rfl nd_l_mixed (i := 2) (j := 3) rfl rfl (by decide) (by decide) (by decide) rfl rfl (sa_cons (s_ty call_list_of kList_op (by rfl) T.z_list (by decide +kernel) (by decide) (by decide) (sa_cons (s_fz (s_v 1)) sa_nil)) (sa_cons (s_lst sa_nil) sa_nil)) (by rfl))
    (ss_cons (ss_while (t_ne hr (s_v 2) (s_lst sa_nil)) (ss_one (ss_expr (s_recv rAppend_rc (sa_cons (s_recv rPopAt_rc (sa_cons (s_call G_l_draw hgd (hr.mono (by decide)) (by rfl) g_l_draw k_l_draw bl_draw_2 vbl_draw_2 .nil (sc_lend 0 (sc_val (s_bi call_len4 kLen_op (by rfl) T.z_len (by decide +kernel) (by decide) (by decide) (sa_cons (s_v 2) sa_nil)) sc_nil)) rfl) sa_nil) (i := 2) (fun po pa => pe_bm PySem.F.plainAttrs_list PySem.F.slot_list_pop PySem.F.type_list_pop mt_popAt po pa)) sa_nil) (i := 3) (fun po pa => pe_bm PySem.F.plainAttrs_list PySem.F.slot_list_append PySem.F.type_list_append mt_append po pa)))))
    (ss_one (ss_retv 3))))
theorem fn_l_book {a : Addr} {fd : FuncData} (T : Txt K mg) (F : FunD K "_law_book" "_law_book" (defArgs s_l_book) (defBody s_l_book) (defScope s_l_book) [] [] a fd) {a_l_draw : Addr} {fd_l_draw : FuncData} (G_l_draw : Fn P w K mg base ct 1 a_l_draw fd_l_draw ["_law_source_here", "_law_wide"] m_l_draw) (g_l_draw : mg "_law_draw" = some (.ref a_l_draw)) (k_l_draw : PySem.W.keepIn K (.ref a_l_draw) = true) {a_l_mixed : Addr} {fd_l_mixed : FuncData} (G_l_mixed : Fn P w K mg base ct 2 a_l_mixed fd_l_mixed ["_law_source_here", "_law_some"] m_l_mixed) (g_l_mixed : mg "_law_mixed" = some (.ref a_l_mixed)) (k_l_mixed : PySem.W.keepIn K (.ref a_l_mixed) = true) {dbl_draw_2 : List Value} (bl_draw_2 : L2.Binds K fd_l_draw ["_law_source_here", "_law_wide"] dbl_draw_2) (vbl_draw_2 : Vals [] dbl_draw_2) {dbl_mixed_2 : List Value} (bl_mixed_2 : L2.Binds K fd_l_mixed ["_law_source_here", "_law_some"] dbl_mixed_2) (vbl_mixed_2 : Vals [] dbl_mixed_2) : Fn P w K mg base ct 3 a fd ["_law_source_here", "_law_many"] m_l_book := by
  refine fn_ofD F sc_l_book (by decide) rfl fun cdv A outer s H E hr hgd => ?_
  exact (ss_cons (ss_par rfl nd_l_book (i := 2) (j := 3) rfl rfl (by decide) (by decide) (by decide) rfl rfl (sa_cons (s_call G_l_draw hgd (hr.mono (by decide)) (by rfl) g_l_draw k_l_draw bl_draw_2 vbl_draw_2 .nil (sc_lend 0 (sc_val s_int sc_nil)) rfl) (sa_cons (s_lst sa_nil) sa_nil)) (by rfl))
    (ss_cons (ss_for rfl (i_range1 (by rfl) T.z_range (sa_cons (s_v 1) sa_nil)) (sg_name nd_l_book (i := 4) rfl (Or.inl rfl) (by decide)) (ss_cons (ss_asg (s_call G_l_mixed hgd (hr.mono (by decide)) (by rfl) g_l_mixed k_l_mixed bl_mixed_2 vbl_mixed_2 .nil (sc_lend 0 (sc_val (s_listRg rfl (by rfl) T.z_list (by rfl) T.z_range (s_v 1)) sc_nil)) rfl) (sg_name nd_l_book (i := 5) rfl (Or.inl rfl) (by decide)))
    (ss_cons (ss_asg (s_add (s_fz (s_v 4)) (s_call G_l_draw hgd (hr.mono (by decide)) (by rfl) g_l_draw k_l_draw bl_draw_2 vbl_draw_2 .nil (sc_lend 0 (sc_val (s_sub (s_v 1) (s_v 4)) sc_nil)) rfl)) (sg_name nd_l_book (i := 6) rfl (Or.inl rfl) (by decide)))
    (ss_cons (ss_asg (s_lst sa_nil) (sg_name nd_l_book (i := 7) rfl (Or.inl rfl) (by decide)))
    (ss_cons (ss_for rfl (i_range1 (by rfl) T.z_range (sa_cons (s_v 1) sa_nil)) (sg_name nd_l_book (i := 8) rfl (Or.inl rfl) (by decide)) (ss_one (ss_expr (s_recv rAppend_rc (sa_cons (s_ift (t_eq hr (s_v 8) (s_v 4)) (s_fz (s_v 6)) (s_sub (s_v 8) (s_ty call_int1 kInt_op (by rfl) T.z_int (by decide +kernel) (by decide) (by decide) (sa_cons (s_chain op_lt op_le (s_v 4) (s_v 8) (s_v 6)) sa_nil)))) sa_nil) (i := 7) (fun po pa => pe_bm PySem.F.plainAttrs_list PySem.F.slot_list_append PySem.F.type_list_append mt_append po pa)))))
    (ss_one (ss_expr (s_recv rAppend_rc (sa_cons (s_ix (s_lst (sa_cons (s_fz (s_v 5)) (sa_cons (s_fz (s_v 7)) (sa_cons (s_listRg rfl (by rfl) T.z_list (by rfl) T.z_range (s_v 1)) (sa_cons (s_fz (s_v 7)) sa_nil))))) (s_ix (s_lst (sa_cons s_int (sa_cons s_int (sa_cons s_int (sa_cons (s_call G_l_draw hgd (hr.mono (by decide)) (by rfl) g_l_draw k_l_draw bl_draw_2 vbl_draw_2 .nil (sc_lend 0 (sc_val s_int sc_nil)) rfl) sa_nil))))) (s_v 2))) sa_nil) (i := 3) (fun po pa => pe_bm PySem.F.plainAttrs_list PySem.F.slot_list_append PySem.F.type_list_append mt_append po pa)))))))))
    (ss_one (ss_retv 3))))
theorem fn_l_lives {a : Addr} {fd : FuncData} (T : Txt K mg) (F : FunD K "_law_lives" "_law_lives" (defArgs s_l_lives) (defBody s_l_lives) (defScope s_l_lives) [] [] a fd)  : Fn P w K mg base ct 1 a fd ["_law_book_here"] m_l_lives := by
  refine fn_ofD F sc_l_lives (by decide) rfl fun cdv A outer s H E hr hgd => ?_
  exact (sss_pre (ss_cons (ss_asg (s_tup (sa_cons (s_mul (s_lst (sa_cons s_int sa_nil)) (s_bi call_len4 kLen_op (by rfl) T.z_len (by decide +kernel) (by decide) (by decide) (sa_cons (s_v 0) sa_nil))) (sa_cons s_int sa_nil))) (sg_tup (sgs_cons (sg_name nd_l_lives (i := 1) rfl (Or.inr rfl) (by decide)) (sgs_cons (sg_name nd_l_lives (i := 2) rfl (Or.inr rfl) (by decide)) sgs_nil fun a b => pgs_cons a b) fun a b => pgs_cons a b) (fun p => pg_tup rfl p) rfl))
    (ss_cons (ss_asg s_int (sg_set s_int (i := 1)))
    (ss_cons (ss_pre (ss_while (t_in hr s_int (s_v 1)) (sss_tdy (ss_cons (ss_asg (s_add (s_fz (s_v 2)) s_int) (sg_name nd_l_lives (i := 2) rfl (Or.inr rfl) (by decide)))
    (ss_one (ss_pre (ss_for rfl (i_range2 (by rfl) T.z_range (sa_cons s_int (sa_cons (s_bi call_len4 kLen_op (by rfl) T.z_len (by decide +kernel) (by decide) (by decide) (sa_cons (s_v 0) sa_nil)) sa_nil))) (sg_name nd_l_lives (i := 3) rfl (Or.inr rfl) (by decide)) (sss_tdy (ss_cons (ss_asg (s_add (s_lst (sa_cons (s_sub (s_v 3) s_int) sa_nil)) (s_comp (own := [("_law_hit", 5)]) rfl nd_l_lives (i_range1 (by rfl) T.z_range (sa_cons (s_bi call_len4 kLen_op (by rfl) T.z_len (by decide +kernel) (by decide) (by decide) (sa_cons (s_v 0) sa_nil)) sa_nil)) (blkOk_by (N := N_l_lives) (by kernel_rfl)) (fun n i => (sn_name nd_l_lives (i := 5) rfl (by first | exact Or.inl rfl | exact Or.inr rfl) (others_own (by decide)))) (fun i => sts_one (t_ne hr (s_v 5) (s_v 3))) (fun i => (s_fz (s_ix (s_ix (s_v 0) (s_v 5)) (s_v 3)))))) (sg_name nd_l_lives (i := 4) rfl (Or.inl rfl) (by decide)))
    (ss_one (ss_if (w_pt (w_and (t_eq hr (s_ix (s_v 1) (s_v 3)) s_int) (w_and1 (t_ne hr (s_soft (s_comp (own := [("_law_one", 6)]) rfl nd_l_lives (i_list (s_v 4)) (blkOk_by (N := N_l_lives) (by kernel_rfl)) (fun n i => (sn_name nd_l_lives (i := 6) rfl (by first | exact Or.inl rfl | exact Or.inr rfl) (others_own (by decide)))) (fun i => sts_one (t_chain op_lt op_lt s_int (s_ix (s_v 1) (s_v 6)) (s_v 2))) (fun i => (s_fz (s_v 6))))) (s_lst sa_nil))))) (ss_one (ss_asg (s_fz (s_v 2)) (sg_set (s_v 3) (i := 1)))) ss_nil)))))))))))
    (ss_one (ss_retv 1))))))
theorem fn_l_same {a : Addr} {fd : FuncData} (T : Txt K mg) (F : FunD K "_law_same" "_law_same" (defArgs s_l_same) (defBody s_l_same) (defScope s_l_same) [] [] a fd) (g_l_same : mg "_law_same" = some (.ref a)) (k_l_same : PySem.W.keepIn K (.ref a) = true) {dbl_same_2 : List Value} (bl_same_2 : L2.Binds K fd ["_law_found", "_law_expected"] dbl_same_2) (vbl_same_2 : Vals [] dbl_same_2) : ∀ k, Fn P w K mg base ct (1 + k) a fd ["_law_found", "_law_expected"] (m_l_same k)
  | 0 => Fn.none
  | k + 1 => by
    have ih := fn_l_same T F g_l_same k_l_same bl_same_2 vbl_same_2 k
    show Fn P w K mg base ct ((1 + k) + 1) a fd ["_law_found", "_law_expected"] (fnM 4 [true, true] (b_l_same (m_l_same k)))
    refine fn_ofD F sc_l_same (by decide) rfl fun cdv A outer s H E hr hgd => ?_
    exact (ss_cons (ss_if (t_is (s_v 1) s_non) (ss_one (ss_ret (s_is (s_v 0) s_non))) ss_nil)
    (ss_cons (ss_if (t_val (s_isi2 .list .tuple (by rfl) T.z_isinstance (by rfl) T.z_list PyProof.Rows.boot_list (by decide) (by decide) (by rfl) T.z_tuple PyProof.Rows.boot_tuple (by decide) (by decide) (s_v 1))) (ss_cons (ss_if (w_pt (w_or (t_not (t_val (s_isi2 .list .tuple (by rfl) T.z_isinstance (by rfl) T.z_list PyProof.Rows.boot_list (by decide) (by decide) (by rfl) T.z_tuple PyProof.Rows.boot_tuple (by decide) (by decide) (s_v 0)))) (w_or1 (t_ne hr (s_isi .list (by rfl) T.z_isinstance (by rfl) T.z_list PyProof.Rows.boot_list (by decide) (by decide) (s_v 0)) (s_isi .list (by rfl) T.z_isinstance (by rfl) T.z_list PyProof.Rows.boot_list (by decide) (by decide) (s_v 1)))))) (ss_one (ss_ret s_bl)) ss_nil)
    (ss_cons (ss_if (t_ne hr (s_bi call_len4 kLen_op (by rfl) T.z_len (by decide +kernel) (by decide) (by decide) (sa_cons (s_v 0) sa_nil)) (s_bi call_len4 kLen_op (by rfl) T.z_len (by decide +kernel) (by decide) (by decide) (sa_cons (s_v 1) sa_nil))) (ss_one (ss_ret s_bl)) ss_nil)
    (ss_one (ss_ret (s_bi (cr_all rfl) kAll_op (by rfl) T.z_all (by decide +kernel) (by decide) (by decide) (sa_cons (s_soft (s_comp (own := [("_law_one", 2), ("_law_other", 3)]) rfl nd_l_same (i_zip (by rfl) T.z_zip (sa_cons (s_v 0) (sa_cons (s_v 1) sa_nil))) (blkOk_by (N := N_l_same) (by kernel_rfl)) (fun n i => (sn_tup (sns_cons (sn_name nd_l_same (i := 2) rfl (by first | exact Or.inl rfl | exact Or.inr rfl) (others_own (by decide))) (sns_cons (sn_name nd_l_same (i := 3) rfl (by first | exact Or.inl rfl | exact Or.inr rfl) (others_own (by decide))) sns_nil fun a b => pgs_cons a b) fun a b => pgs_cons a b) (fun p => pg_tup rfl p) rfl)) (fun i => sts_nil) (fun i => (by exact (s_call ih hgd (hr.mono (by omega)) (by rfl) g_l_same k_l_same bl_same_2 vbl_same_2 .nil (sc_lend 2 (sc_lend 3 sc_nil)) rfl))))) sa_nil)))))) ss_nil)
    (ss_one (ss_ret (s_and (s_eq hr (s_isi .bool (by rfl) T.z_isinstance (by rfl) T.z_bool PyProof.Rows.boot_bool (by decide) (by decide) (s_v 0)) (s_isi .bool (by rfl) T.z_isinstance (by rfl) T.z_bool PyProof.Rows.boot_bool (by decide) (by decide) (s_v 1))) (s_one (s_eq hr (s_v 0) (s_v 1))))))))
theorem fn_l_step {a : Addr} {fd : FuncData} (T : Txt K mg) (F : FunD K "_law_step" "_law_step" (defArgs s_l_step) (defBody s_l_step) (defScope s_l_step) [] [] a fd)  : Fn P w K mg base ct 1 a fd ["_law_book_here", "_law_line", "_law_number"] m_l_step := by
  refine fn_ofD F sc_l_step (by decide) rfl fun cdv A outer s H E hr hgd => ?_
  exact (sss_pre (ss_cons (ss_if (t_in hr (s_v 2) (s_v 1)) (ss_cons (ss_par rfl nd_l_step (i := 3) (j := 4) rfl rfl (by decide) (by decide) (by decide) rfl rfl (sa_cons (s_ty call_list_of kList_op (by rfl) T.z_list (by decide +kernel) (by decide) (by decide) (sa_cons (s_fz (s_v 1)) sa_nil)) (sa_cons (s_methL kIndex_mt (s_v 1) (sa_cons (s_v 2) sa_nil) fun po pa => pe_bm PySem.F.plainAttrs_list PySem.F.slot_list_index PySem.F.type_list_index (mt_indexD (units_of hr)) po pa) sa_nil)) (by rfl))
    (ss_cons (ss_pre (ss_for rfl (i_range1 (by rfl) T.z_range (sa_cons (s_bi call_len4 kLen_op (by rfl) T.z_len (by decide +kernel) (by decide) (by decide) (sa_cons (s_v 1) sa_nil)) sa_nil)) (sg_name nd_l_step (i := 5) rfl (Or.inl rfl) (by decide)) (sss_tdy (ss_one (ss_asg (s_fz (s_ix (s_v 1) (s_v 5))) (sg_set (s_ix (s_ix (s_v 0) (s_v 4)) (s_v 5)) (i := 3)))))))
    (ss_one (ss_ret (s_tup (sa_cons s_bl (sa_cons (s_fz (s_v 3)) sa_nil))))))) ss_nil)
    (ss_one (ss_ret (s_tup (sa_cons s_bl (sa_cons (s_add (s_slc (s_fz (s_v 1)) (so_some s_int) so_none) (s_lst (sa_cons (s_fz (s_v 2)) sa_nil))) sa_nil)))))))
theorem fn_l_walk {a : Addr} {fd : FuncData} (T : Txt K mg) (F : FunD K "_law_walk" "_law_walk" (defArgs s_l_walk) (defBody s_l_walk) (defScope s_l_walk) [] [] a fd) {a_l_step : Addr} {fd_l_step : FuncData} (G_l_step : Fn P w K mg base ct 1 a_l_step fd_l_step ["_law_book_here", "_law_line", "_law_number"] m_l_step) (g_l_step : mg "_law_step" = some (.ref a_l_step)) (k_l_step : PySem.W.keepIn K (.ref a_l_step) = true) {dbl_step_3 : List Value} (bl_step_3 : L2.Binds K fd_l_step ["_law_book_here", "_law_line", "_law_number"] dbl_step_3) (vbl_step_3 : Vals [] dbl_step_3) : Fn P w K mg base ct 2 a fd ["_law_book_here", "_law_at", "_law_items"] m_l_walk := by
  refine fn_ofD F sc_l_walk (by decide) rfl fun cdv A outer s H E hr hgd => ?_
  exact (sss_pre (ss_cons (ss_par rfl nd_l_walk (i := 3) (j := 4) rfl rfl (by decide) (by decide) (by decide) rfl rfl (sa_cons (s_listRg rfl (by rfl) T.z_list (by rfl) T.z_range (s_bi call_len4 kLen_op (by rfl) T.z_len (by decide +kernel) (by decide) (by decide) (sa_cons (s_v 0) sa_nil))) (sa_cons s_int sa_nil)) (by rfl))
    (ss_cons (ss_pre (ss_forV 2 live_one rfl (pi_liveL 2) (i_list (s_fz (s_v 2))) (sg_name nd_l_walk (i := 5) rfl (Or.inl rfl) (by decide)) (sss_tdy (ss_cons (ss_if (t_notin hr (s_v 1) (s_v 3)) (ss_one (ss_ret s_str)) ss_nil)
    (ss_cons (ss_if (t_eq hr (s_v 5) s_str) (ss_one (ss_asg (s_fz (s_v 1)) (sg_name nd_l_walk (i := 6) rfl (Or.inl rfl) (by decide)))) (ss_one (ss_if (t_is (s_v 5) s_non) (ss_one (ss_par rfl nd_l_walk (i := 6) (j := 4) rfl rfl (by decide) (by decide) (by decide) rfl rfl (sa_cons (s_fz (s_v 4)) (sa_cons (s_add (s_fz (s_v 4)) s_int) sa_nil)) (by rfl))) (ss_one (ss_if (w_pt (w_or (t_not (t_chain op_le op_lt s_int (s_v 5) (s_bi call_len4 kLen_op (by rfl) T.z_len (by decide +kernel) (by decide) (by decide) (sa_cons (s_v 0) sa_nil)))) (w_or1 (t_eq hr (s_ix (s_v 3) (s_v 5)) (s_v 1))))) (ss_one (ss_ret s_str)) (ss_one (ss_asg (s_fz (s_ix (s_v 3) (s_v 5))) (sg_name nd_l_walk (i := 6) rfl (Or.inl rfl) (by decide)))))))))
    (ss_one (ss_asg (s_ix (s_call G_l_step hgd (hr.mono (by decide)) (by rfl) g_l_step k_l_step bl_step_3 vbl_step_3 .nil (sc_lend 0 (sc_lend 3 (sc_lend 6 sc_nil))) rfl) s_int) (sg_name nd_l_walk (i := 3) rfl (Or.inl rfl) (by decide)))))))))
    (ss_one (ss_ret (s_ift (t_in hr (s_v 1) (s_v 3)) (s_methL kIndex_mt (s_v 3) (sa_cons (s_v 1) sa_nil) fun po pa => pe_bm PySem.F.plainAttrs_list PySem.F.slot_list_index PySem.F.type_list_index (mt_indexD (units_of hr)) po pa) s_str))))))
theorem fn_p_is_integer {a : Addr} {fd : FuncData} (T : Txt K mg) (F : FunD K "is_integer" "is_integer" (defArgs s_p_is_integer) (defBody s_p_is_integer) (defScope s_p_is_integer) [.non, .non] [] a fd)  : Fn P w K mg base ct 1 a fd ["value", "least", "most"] m_p_is_integer := by
  refine fn_ofD F sc_p_is_integer (by decide) rfl fun cdv A outer s H E hr hgd => ?_
  exact (ss_cons (ss_if (w_pt (w_or (t_not (t_val (s_isi .int (by rfl) T.z_isinstance (by rfl) T.z_int PyProof.Rows.boot_int (by decide) (by decide) (s_v 0)))) (w_or1 (t_val (s_isi .bool (by rfl) T.z_isinstance (by rfl) T.z_bool PyProof.Rows.boot_bool (by decide) (by decide) (s_v 0)))))) (ss_one (ss_ret s_bl)) ss_nil)
    (ss_one (ss_ret (s_and (s_or (s_is (s_v 1) s_non) (s_one (s_ge (s_v 0) (s_v 1)))) (s_one (s_or (s_is (s_v 2) s_non) (s_one (s_le (s_v 0) (s_v 2)))))))))
theorem fn_p_check_place {a : Addr} {fd : FuncData} (T : Txt K mg) (F : FunD K "check_place" "check_place" (defArgs s_p_check_place) (defBody s_p_check_place) (defScope s_p_check_place) [] [] a fd) {a_p_is_integer : Addr} {fd_p_is_integer : FuncData} (G_p_is_integer : Fn P w K mg base ct 1 a_p_is_integer fd_p_is_integer ["value", "least", "most"] m_p_is_integer) (g_p_is_integer : mg "is_integer" = some (.ref a_p_is_integer)) (k_p_is_integer : PySem.W.keepIn K (.ref a_p_is_integer) = true) {dbp_is_integer_3 : List Value} (bp_is_integer_3 : L2.Binds K fd_p_is_integer ["value", "least", "most"] dbp_is_integer_3) (vbp_is_integer_3 : Vals [] dbp_is_integer_3) : Fn P w K mg base ct 2 a fd ["rule", "value"] m_p_check_place := by
  refine fn_ofD F sc_p_check_place (by decide) rfl fun cdv A outer s H E hr hgd => ?_
  exact (sss_pre (ss_one (ss_if (t_not (t_val (s_call G_p_is_integer hgd (hr.mono (by decide)) (by rfl) g_p_is_integer k_p_is_integer bp_is_integer_3 vbp_is_integer_3 .nil (sc_lend 1 (sc_val s_int (sc_val (s_sub (s_bi call_len4 kLen_op (by rfl) T.z_len (by decide +kernel) (by decide) (by decide) (sa_cons (s_v 0) sa_nil)) s_int) sc_nil))) rfl))) (ss_one ss_no) ss_nil)))
theorem fn_p_is_permutation_of {a : Addr} {fd : FuncData} (T : Txt K mg) (F : FunD K "is_permutation_of" "is_permutation_of" (defArgs s_p_is_permutation_of) (defBody s_p_is_permutation_of) (defScope s_p_is_permutation_of) [] [] a fd) {a_p_is_integer : Addr} {fd_p_is_integer : FuncData} (G_p_is_integer : Fn P w K mg base ct 1 a_p_is_integer fd_p_is_integer ["value", "least", "most"] m_p_is_integer) (g_p_is_integer : mg "is_integer" = some (.ref a_p_is_integer)) (k_p_is_integer : PySem.W.keepIn K (.ref a_p_is_integer) = true) {dbp_is_integer_1 : List Value} (bp_is_integer_1 : L2.Binds K fd_p_is_integer ["value", "least", "most"] dbp_is_integer_1) (vbp_is_integer_1 : Vals [.non, .non] dbp_is_integer_1) : Fn P w K mg base ct 2 a fd ["value", "size"] m_p_is_permutation_of := by
  refine fn_ofD F sc_p_is_permutation_of (by decide) rfl fun cdv A outer s H E hr hgd => ?_
  exact (ss_cons (ss_if (w_pt (w_or (t_not (t_val (s_isi .list (by rfl) T.z_isinstance (by rfl) T.z_list PyProof.Rows.boot_list (by decide) (by decide) (s_v 0)))) (w_or (t_ne hr (s_bi call_len4 kLen_op (by rfl) T.z_len (by decide +kernel) (by decide) (by decide) (sa_cons (s_v 0) sa_nil)) (s_v 1)) (w_or1 (t_not (t_val (s_bi (cr_all rfl) kAll_op (by rfl) T.z_all (by decide +kernel) (by decide) (by decide) (sa_cons (s_soft (s_comp (own := [("item", 2)]) rfl nd_p_is_permutation_of (i_list (s_v 0)) (blkOk_by (N := N_p_is_permutation_of) (by kernel_rfl)) (fun n i => (sn_name nd_p_is_permutation_of (i := 2) rfl (by first | exact Or.inl rfl | exact Or.inr rfl) (others_own (by decide)))) (fun i => sts_nil) (fun i => (s_call G_p_is_integer hgd (hr.mono (by decide)) (by rfl) g_p_is_integer k_p_is_integer bp_is_integer_1 vbp_is_integer_1 (.cons ⟨rfl, fun _ _ => .non _⟩ (.cons ⟨rfl, fun _ _ => .non _⟩ .nil)) (sc_lend 2 sc_nil) rfl)))) sa_nil)))))))) (ss_one (ss_ret s_bl)) ss_nil)
    (ss_one (ss_ret (s_eq hr (s_bi cr_sorted kSorted_op (by rfl) T.z_sorted (by decide +kernel) (by decide) (by decide) (sa_cons (s_v 0) sa_nil)) (s_listRg rfl (by rfl) T.z_list (by rfl) T.z_range (s_v 1))))))
theorem fn_p_check_rule {a : Addr} {fd : FuncData} (T : Txt K mg) (F : FunD K "check_rule" "check_rule" (defArgs s_p_check_rule) (defBody s_p_check_rule) (defScope s_p_check_rule) [] [] a fd) {a_p_is_permutation_of : Addr} {fd_p_is_permutation_of : FuncData} (G_p_is_permutation_of : Fn P w K mg base ct 2 a_p_is_permutation_of fd_p_is_permutation_of ["value", "size"] m_p_is_permutation_of) (g_p_is_permutation_of : mg "is_permutation_of" = some (.ref a_p_is_permutation_of)) (k_p_is_permutation_of : PySem.W.keepIn K (.ref a_p_is_permutation_of) = true) {dbp_is_permutation_of_2 : List Value} (bp_is_permutation_of_2 : L2.Binds K fd_p_is_permutation_of ["value", "size"] dbp_is_permutation_of_2) (vbp_is_permutation_of_2 : Vals [] dbp_is_permutation_of_2) : Fn P w K mg base ct 3 a fd ["value"] m_p_check_rule := by
  refine fn_ofD F sc_p_check_rule (by decide) rfl fun cdv A outer s H E hr hgd => ?_
  exact (ss_cons (ss_if (w_pt (w_or (t_not (t_val (s_isi .list (by rfl) T.z_isinstance (by rfl) T.z_list PyProof.Rows.boot_list (by decide) (by decide) (s_v 0)))) (w_or1 (t_not (t_chain op_le op_le (s_globC T.w_LEAST_PLACES (by rfl)) (s_bi call_len4 kLen_op (by rfl) T.z_len (by decide +kernel) (by decide) (by decide) (sa_cons (s_v 0) sa_nil)) (s_globC T.w_MOST_PLACES (by rfl))))))) (ss_one ss_no) ss_nil)
    (ss_one (ss_forV 0 live_enum rfl (pi_liveE 0 (by rfl) T.z_enumerate) (i_enum (by rfl) T.z_enumerate (sa_cons (s_fz (s_v 0)) sa_nil)) (sg_tup (sgs_cons (sg_name nd_p_check_rule (i := 1) rfl (Or.inl rfl) (by decide)) (sgs_cons (sg_name nd_p_check_rule (i := 2) rfl (Or.inl rfl) (by decide)) sgs_nil fun a b => pgs_cons a b) fun a b => pgs_cons a b) (fun p => pg_tup rfl p) rfl) (ss_one (ss_if (t_not (t_val (s_call G_p_is_permutation_of hgd (hr.mono (by decide)) (by rfl) g_p_is_permutation_of k_p_is_permutation_of bp_is_permutation_of_2 vbp_is_permutation_of_2 .nil (sc_lend 2 (sc_val (s_bi call_len4 kLen_op (by rfl) T.z_len (by decide +kernel) (by decide) (by decide) (sa_cons (s_v 0) sa_nil)) sc_nil)) rfl))) (ss_one ss_no) ss_nil)))))
theorem fn_p_is_item {a : Addr} {fd : FuncData} (T : Txt K mg) (F : FunD K "is_item" "is_item" (defArgs s_p_is_item) (defBody s_p_is_item) (defScope s_p_is_item) [] [] a fd) {a_p_is_integer : Addr} {fd_p_is_integer : FuncData} (G_p_is_integer : Fn P w K mg base ct 1 a_p_is_integer fd_p_is_integer ["value", "least", "most"] m_p_is_integer) (g_p_is_integer : mg "is_integer" = some (.ref a_p_is_integer)) (k_p_is_integer : PySem.W.keepIn K (.ref a_p_is_integer) = true) {dbp_is_integer_1 : List Value} (bp_is_integer_1 : L2.Binds K fd_p_is_integer ["value", "least", "most"] dbp_is_integer_1) (vbp_is_integer_1 : Vals [.non, .non] dbp_is_integer_1) : Fn P w K mg base ct 2 a fd ["value"] m_p_is_item := by
  refine fn_ofD F sc_p_is_item (by decide) rfl fun cdv A outer s H E hr hgd => ?_
  exact (ss_one (ss_ret (s_or (s_is (s_v 0) s_non) (s_one (s_call G_p_is_integer hgd (hr.mono (by decide)) (by rfl) g_p_is_integer k_p_is_integer bp_is_integer_1 vbp_is_integer_1 (.cons ⟨rfl, fun _ _ => .non _⟩ (.cons ⟨rfl, fun _ _ => .non _⟩ .nil)) (sc_lend 0 sc_nil) rfl)))))
theorem fn_p_moves_at {a : Addr} {fd : FuncData} (T : Txt K mg) (F : FunD K "moves_at" "moves_at" (defArgs s_p_moves_at) (defBody s_p_moves_at) (defScope s_p_moves_at) [] [] a fd)  : Fn P w K mg base ct 1 a fd ["rule", "place"] m_p_moves_at := by
  refine fn_ofD F sc_p_moves_at (by decide) rfl fun cdv A outer s H E hr hgd => ?_
  exact (sss_pre (ss_cons (ss_setc (own := [("hit", 3)]) (i := 2) rfl nd_p_moves_at rfl rfl (by decide) (sw_true rfl rfl rfl (by decide +kernel)) (i_range1 (by rfl) T.z_range (sa_cons (s_bi call_len4 kLen_op (by rfl) T.z_len (by decide +kernel) (by decide) (by decide) (sa_cons (s_v 0) sa_nil)) sa_nil)) (blkOk_by (N := N_p_moves_at) (by kernel_rfl)) (fun n i => (sn_name nd_p_moves_at (i := 3) rfl (by first | exact Or.inl rfl | exact Or.inr rfl) (others_own (by decide)))) (fun i => sts_one (t_ne hr (s_v 3) (s_v 1))) (fun i => (s_tup (sa_cons (s_fz (s_v 3)) (sa_cons (s_fz (s_ix (s_ix (s_v 0) (s_v 3)) (s_v 1))) sa_nil)))))
    (ss_one (ss_ret (s_lst (sa_consC (s_tup (sa_cons s_non (sa_cons (s_ift (t_gt (s_v 1) s_int) (s_sub (s_v 1) s_int) s_non) sa_nil))) (sa_star (s_fz (s_v 2)) sa_nilN)))))))
theorem fn_p_place_behind {a : Addr} {fd : FuncData} (T : Txt K mg) (F : FunD K "place_behind" "place_behind" (defArgs s_p_place_behind) (defBody s_p_place_behind) (defScope s_p_place_behind) [] [] a fd) {a_p_moves_at : Addr} {fd_p_moves_at : FuncData} (G_p_moves_at : Fn P w K mg base ct 1 a_p_moves_at fd_p_moves_at ["rule", "place"] m_p_moves_at) (g_p_moves_at : mg "moves_at" = some (.ref a_p_moves_at)) (k_p_moves_at : PySem.W.keepIn K (.ref a_p_moves_at) = true) {dbp_moves_at_2 : List Value} (bp_moves_at_2 : L2.Binds K fd_p_moves_at ["rule", "place"] dbp_moves_at_2) (vbp_moves_at_2 : Vals [] dbp_moves_at_2) : Fn P w K mg base ct 2 a fd ["rule", "place", "items"] m_p_place_behind := by
  refine fn_ofD F sc_p_place_behind (by decide) rfl fun cdv A outer s H E hr hgd => ?_
  exact (sss_pre (ss_cons (ss_asg (s_fz (s_v 1)) (sg_name nd_p_place_behind (i := 3) rfl (Or.inl rfl) (by decide)))
    (ss_cons (ss_pre (ss_forV 2 live_one rfl (pi_liveL 2) (i_list (s_fz (s_v 2))) (sg_name nd_p_place_behind (i := 4) rfl (Or.inl rfl) (by decide)) (sss_tdy (ss_cons (ss_if (t_is (s_v 3) s_non) (ss_one (ss_ret (s_neg s_int))) ss_nil)
    (ss_one (ss_if (t_eq hr (s_v 4) (s_globC T.w_OWN (by rfl))) (ss_one (ss_asg (s_fz (s_ix (s_ix (s_v 0) (s_v 3)) (s_v 3))) (sg_name nd_p_place_behind (i := 3) rfl (Or.inl rfl) (by decide)))) (ss_look3 (i := 4) (j := 5) rfl (s_call G_p_moves_at hgd (hr.mono (by decide)) (by rfl) g_p_moves_at k_p_moves_at bp_moves_at_2 vbp_moves_at_2 .nil (sc_lend 0 (sc_lend 3 sc_nil)) rfl) (ss_one (ss_ret (s_neg s_int))) (sg_name nd_p_place_behind (i := 3) rfl (Or.inl rfl) (by decide)) (by rfl) T.z_dict (by decide +kernel) (by rfl) (by rfl) nd_p_place_behind rfl (Or.inl rfl) (by first | exact Or.inl rfl | exact Or.inr (Or.inl rfl) | exact Or.inr (Or.inr rfl)) (by decide) (by decide) (by decide) (by first | exact .inl rfl | exact .inr rfl | assumption) rfl (by first | exact Or.inl rfl | exact Or.inr (Or.inl rfl) | exact Or.inr (Or.inr rfl)) (by decide) (by decide) (by rfl) (by rfl) (by rfl) (by rfl) (by exact fun _ _ => rfl) (by rfl) (by rfl) (by rfl))))))))
    (ss_one (ss_retv 3)))))
theorem fn_p_is_way_out {a : Addr} {fd : FuncData} (T : Txt K mg) (F : FunD K "is_way_out" "is_way_out" (defArgs s_p_is_way_out) (defBody s_p_is_way_out) (defScope s_p_is_way_out) [] [] a fd) {a_p_check_place : Addr} {fd_p_check_place : FuncData} (G_p_check_place : Fn P w K mg base ct 2 a_p_check_place fd_p_check_place ["rule", "value"] m_p_check_place) (g_p_check_place : mg "check_place" = some (.ref a_p_check_place)) (k_p_check_place : PySem.W.keepIn K (.ref a_p_check_place) = true) {a_p_check_rule : Addr} {fd_p_check_rule : FuncData} (G_p_check_rule : Fn P w K mg base ct 3 a_p_check_rule fd_p_check_rule ["value"] m_p_check_rule) (g_p_check_rule : mg "check_rule" = some (.ref a_p_check_rule)) (k_p_check_rule : PySem.W.keepIn K (.ref a_p_check_rule) = true) {a_p_is_item : Addr} {fd_p_is_item : FuncData} (G_p_is_item : Fn P w K mg base ct 2 a_p_is_item fd_p_is_item ["value"] m_p_is_item) (g_p_is_item : mg "is_item" = some (.ref a_p_is_item)) (k_p_is_item : PySem.W.keepIn K (.ref a_p_is_item) = true) {a_p_place_behind : Addr} {fd_p_place_behind : FuncData} (G_p_place_behind : Fn P w K mg base ct 2 a_p_place_behind fd_p_place_behind ["rule", "place", "items"] m_p_place_behind) (g_p_place_behind : mg "place_behind" = some (.ref a_p_place_behind)) (k_p_place_behind : PySem.W.keepIn K (.ref a_p_place_behind) = true) {dbp_check_place_2 : List Value} (bp_check_place_2 : L2.Binds K fd_p_check_place ["rule", "value"] dbp_check_place_2) (vbp_check_place_2 : Vals [] dbp_check_place_2) {dbp_check_rule_1 : List Value} (bp_check_rule_1 : L2.Binds K fd_p_check_rule ["value"] dbp_check_rule_1) (vbp_check_rule_1 : Vals [] dbp_check_rule_1) {dbp_is_item_1 : List Value} (bp_is_item_1 : L2.Binds K fd_p_is_item ["value"] dbp_is_item_1) (vbp_is_item_1 : Vals [] dbp_is_item_1) {dbp_place_behind_3 : List Value} (bp_place_behind_3 : L2.Binds K fd_p_place_behind ["rule", "place", "items"] dbp_place_behind_3) (vbp_place_behind_3 : Vals [] dbp_place_behind_3) : Fn P w K mg base ct 4 a fd ["rule", "place", "value"] m_p_is_way_out := by
  refine fn_ofD F sc_p_is_way_out (by decide) rfl fun cdv A outer s H E hr hgd => ?_
  exact (sss_pre (ss_cons (ss_expr (s_call G_p_check_rule hgd (hr.mono (by decide)) (by rfl) g_p_check_rule k_p_check_rule bp_check_rule_1 vbp_check_rule_1 .nil (sc_lend 0 sc_nil) rfl))
    (ss_cons (ss_expr (s_call G_p_check_place hgd (hr.mono (by decide)) (by rfl) g_p_check_place k_p_check_place bp_check_place_2 vbp_check_place_2 .nil (sc_lend 0 (sc_lend 1 sc_nil)) rfl))
    (ss_cons (ss_if (w_pt (w_or (t_not (t_val (s_isi .list (by rfl) T.z_isinstance (by rfl) T.z_list PyProof.Rows.boot_list (by decide) (by decide) (s_v 2)))) (w_or1 (t_not (t_val (s_bi (cr_all rfl) kAll_op (by rfl) T.z_all (by decide +kernel) (by decide) (by decide) (sa_cons (s_soft (s_comp (own := [("item", 3)]) rfl nd_p_is_way_out (i_list (s_v 2)) (blkOk_by (N := N_p_is_way_out) (by kernel_rfl)) (fun n i => (sn_name nd_p_is_way_out (i := 3) rfl (by first | exact Or.inl rfl | exact Or.inr rfl) (others_own (by decide)))) (fun i => sts_nil) (fun i => (s_call G_p_is_item hgd (hr.mono (by decide)) (by rfl) g_p_is_item k_p_is_item bp_is_item_1 vbp_is_item_1 .nil (sc_lend 3 sc_nil) rfl)))) sa_nil))))))) (ss_one (ss_ret s_bl)) ss_nil)
    (ss_one (ss_ret (s_is (s_call G_p_place_behind hgd (hr.mono (by decide)) (by rfl) g_p_place_behind k_p_place_behind bp_place_behind_3 vbp_place_behind_3 .nil (sc_lend 0 (sc_lend 1 (sc_lend 2 sc_nil))) rfl) s_non)))))))
theorem fn_p_shortest_out {a : Addr} {fd : FuncData} (T : Txt K mg) (F : FunD K "shortest_out" "shortest_out" (defArgs s_p_shortest_out) (defBody s_p_shortest_out) (defScope s_p_shortest_out) [] [] a fd) {a_p_moves_at : Addr} {fd_p_moves_at : FuncData} (G_p_moves_at : Fn P w K mg base ct 1 a_p_moves_at fd_p_moves_at ["rule", "place"] m_p_moves_at) (g_p_moves_at : mg "moves_at" = some (.ref a_p_moves_at)) (k_p_moves_at : PySem.W.keepIn K (.ref a_p_moves_at) = true) {dbp_moves_at_2 : List Value} (bp_moves_at_2 : L2.Binds K fd_p_moves_at ["rule", "place"] dbp_moves_at_2) (vbp_moves_at_2 : Vals [] dbp_moves_at_2) : Fn P w K mg base ct 2 a fd ["rule", "place"] m_p_shortest_out := by
  refine fn_ofD F sc_p_shortest_out (by decide) rfl fun cdv A outer s H E hr hgd => ?_
  exact (sss_pre (ss_cons (ss_par rfl nd_p_shortest_out (i := 2) (j := 3) rfl rfl (by decide) (by decide) (by decide) rfl rfl (sa_cons (s_ddisp (s_v 1) (s_lst sa_nil)) (sa_cons (s_lst (sa_cons (s_fz (s_v 1)) sa_nil)) sa_nil)) (by rfl))
    (ss_one (ss_pre (ss_while (t_val s_bl) (sss_tdy (ss_cons (ss_asg (s_lst sa_nil) (sg_name nd_p_shortest_out (i := 4) rfl (Or.inl rfl) (by decide)))
    (ss_cons (ss_pre (ss_forV 3 live_one rfl (pi_liveL 3) (i_list (s_fz (s_v 3))) (sg_name nd_p_shortest_out (i := 5) rfl (Or.inl rfl) (by decide)) (sss_tdy (ss_one (ss_pre (ss_for rfl (i_list (s_call G_p_moves_at hgd (hr.mono (by decide)) (by rfl) g_p_moves_at k_p_moves_at bp_moves_at_2 vbp_moves_at_2 .nil (sc_lend 0 (sc_lend 5 sc_nil)) rfl)) (sg_tup (sgs_cons (sg_name nd_p_shortest_out (i := 6) rfl (Or.inl rfl) (by decide)) (sgs_cons (sg_name nd_p_shortest_out (i := 7) rfl (Or.inl rfl) (by decide)) sgs_nil fun a b => pgs_cons a b) fun a b => pgs_cons a b) (fun p => pg_tup rfl p) rfl) (sss_tdy (ss_cons (ss_if (t_is (s_v 7) s_non) (ss_one (ss_ret (s_lst (sa_star (s_fz (s_dget hr (s_v 2) (s_v 5) (fun _ _ => rfl))) (sa_consC (s_fz (s_v 6)) sa_nilN))))) ss_nil)
    (ss_one (ss_if (t_dnotin hr (s_v 7) (s_v 2)) (ss_cons (ss_asg (s_lst (sa_star (s_fz (s_dget hr (s_v 2) (s_v 5) (fun _ _ => rfl))) (sa_consC (s_fz (s_v 6)) sa_nilN))) (sg_dset hr (s_v 7) (i := 2)))
    (ss_one (ss_expr (s_recv rAppend_rc (sa_cons (s_fz (s_v 7)) sa_nil) (i := 4) (fun po pa => pe_bm PySem.F.plainAttrs_list PySem.F.slot_list_append PySem.F.type_list_append mt_append po pa))))) ss_nil))))))))))
    (ss_one (ss_asg (s_fz (s_v 4)) (sg_name nd_p_shortest_out (i := 3) rfl (Or.inl rfl) (by decide))))))))))))
theorem fn_p_life {a : Addr} {fd : FuncData} (T : Txt K mg) (F : FunD K "life" "life" (defArgs s_p_life) (defBody s_p_life) (defScope s_p_life) [] [] a fd) {a_p_check_place : Addr} {fd_p_check_place : FuncData} (G_p_check_place : Fn P w K mg base ct 2 a_p_check_place fd_p_check_place ["rule", "value"] m_p_check_place) (g_p_check_place : mg "check_place" = some (.ref a_p_check_place)) (k_p_check_place : PySem.W.keepIn K (.ref a_p_check_place) = true) {a_p_check_rule : Addr} {fd_p_check_rule : FuncData} (G_p_check_rule : Fn P w K mg base ct 3 a_p_check_rule fd_p_check_rule ["value"] m_p_check_rule) (g_p_check_rule : mg "check_rule" = some (.ref a_p_check_rule)) (k_p_check_rule : PySem.W.keepIn K (.ref a_p_check_rule) = true) {a_p_shortest_out : Addr} {fd_p_shortest_out : FuncData} (G_p_shortest_out : Fn P w K mg base ct 2 a_p_shortest_out fd_p_shortest_out ["rule", "place"] m_p_shortest_out) (g_p_shortest_out : mg "shortest_out" = some (.ref a_p_shortest_out)) (k_p_shortest_out : PySem.W.keepIn K (.ref a_p_shortest_out) = true) {dbp_check_place_2 : List Value} (bp_check_place_2 : L2.Binds K fd_p_check_place ["rule", "value"] dbp_check_place_2) (vbp_check_place_2 : Vals [] dbp_check_place_2) {dbp_check_rule_1 : List Value} (bp_check_rule_1 : L2.Binds K fd_p_check_rule ["value"] dbp_check_rule_1) (vbp_check_rule_1 : Vals [] dbp_check_rule_1) {dbp_shortest_out_2 : List Value} (bp_shortest_out_2 : L2.Binds K fd_p_shortest_out ["rule", "place"] dbp_shortest_out_2) (vbp_shortest_out_2 : Vals [] dbp_shortest_out_2) : Fn P w K mg base ct 4 a fd ["rule", "place"] m_p_life := by
  refine fn_ofD F sc_p_life (by decide) rfl fun cdv A outer s H E hr hgd => ?_
  exact (sss_pre (ss_cons (ss_expr (s_call G_p_check_rule hgd (hr.mono (by decide)) (by rfl) g_p_check_rule k_p_check_rule bp_check_rule_1 vbp_check_rule_1 .nil (sc_lend 0 sc_nil) rfl))
    (ss_cons (ss_expr (s_call G_p_check_place hgd (hr.mono (by decide)) (by rfl) g_p_check_place k_p_check_place bp_check_place_2 vbp_check_place_2 .nil (sc_lend 0 (sc_lend 1 sc_nil)) rfl))
    (ss_one (ss_ret (s_bi call_len4 kLen_op (by rfl) T.z_len (by decide +kernel) (by decide) (by decide) (sa_cons (s_call G_p_shortest_out hgd (hr.mono (by decide)) (by rfl) g_p_shortest_out k_p_shortest_out bp_shortest_out_2 vbp_shortest_out_2 .nil (sc_lend 0 (sc_lend 1 sc_nil)) rfl) sa_nil)))))))
theorem fn_p_way_out {a : Addr} {fd : FuncData} (T : Txt K mg) (F : FunD K "way_out" "way_out" (defArgs s_p_way_out) (defBody s_p_way_out) (defScope s_p_way_out) [] [] a fd) {a_p_check_place : Addr} {fd_p_check_place : FuncData} (G_p_check_place : Fn P w K mg base ct 2 a_p_check_place fd_p_check_place ["rule", "value"] m_p_check_place) (g_p_check_place : mg "check_place" = some (.ref a_p_check_place)) (k_p_check_place : PySem.W.keepIn K (.ref a_p_check_place) = true) {a_p_check_rule : Addr} {fd_p_check_rule : FuncData} (G_p_check_rule : Fn P w K mg base ct 3 a_p_check_rule fd_p_check_rule ["value"] m_p_check_rule) (g_p_check_rule : mg "check_rule" = some (.ref a_p_check_rule)) (k_p_check_rule : PySem.W.keepIn K (.ref a_p_check_rule) = true) {a_p_shortest_out : Addr} {fd_p_shortest_out : FuncData} (G_p_shortest_out : Fn P w K mg base ct 2 a_p_shortest_out fd_p_shortest_out ["rule", "place"] m_p_shortest_out) (g_p_shortest_out : mg "shortest_out" = some (.ref a_p_shortest_out)) (k_p_shortest_out : PySem.W.keepIn K (.ref a_p_shortest_out) = true) {dbp_check_place_2 : List Value} (bp_check_place_2 : L2.Binds K fd_p_check_place ["rule", "value"] dbp_check_place_2) (vbp_check_place_2 : Vals [] dbp_check_place_2) {dbp_check_rule_1 : List Value} (bp_check_rule_1 : L2.Binds K fd_p_check_rule ["value"] dbp_check_rule_1) (vbp_check_rule_1 : Vals [] dbp_check_rule_1) {dbp_shortest_out_2 : List Value} (bp_shortest_out_2 : L2.Binds K fd_p_shortest_out ["rule", "place"] dbp_shortest_out_2) (vbp_shortest_out_2 : Vals [] dbp_shortest_out_2) : Fn P w K mg base ct 4 a fd ["rule", "place"] m_p_way_out := by
  refine fn_ofD F sc_p_way_out (by decide) rfl fun cdv A outer s H E hr hgd => ?_
  exact (sss_pre (ss_cons (ss_expr (s_call G_p_check_rule hgd (hr.mono (by decide)) (by rfl) g_p_check_rule k_p_check_rule bp_check_rule_1 vbp_check_rule_1 .nil (sc_lend 0 sc_nil) rfl))
    (ss_cons (ss_expr (s_call G_p_check_place hgd (hr.mono (by decide)) (by rfl) g_p_check_place k_p_check_place bp_check_place_2 vbp_check_place_2 .nil (sc_lend 0 (sc_lend 1 sc_nil)) rfl))
    (ss_one (ss_ret (s_call G_p_shortest_out hgd (hr.mono (by decide)) (by rfl) g_p_shortest_out k_p_shortest_out bp_shortest_out_2 vbp_shortest_out_2 .nil (sc_lend 0 (sc_lend 1 sc_nil)) rfl))))))
theorem fn_l_right {a : Addr} {fd : FuncData} (T : Txt K mg) (F : FunD K "_law_right" "_law_right" (defArgs s_l_right) (defBody s_l_right) (defScope s_l_right) [] [] a fd) {a_l_book : Addr} {fd_l_book : FuncData} (G_l_book : Fn P w K mg base ct 3 a_l_book fd_l_book ["_law_source_here", "_law_many"] m_l_book) (g_l_book : mg "_law_book" = some (.ref a_l_book)) (k_l_book : PySem.W.keepIn K (.ref a_l_book) = true) {a_l_draw : Addr} {fd_l_draw : FuncData} (G_l_draw : Fn P w K mg base ct 1 a_l_draw fd_l_draw ["_law_source_here", "_law_wide"] m_l_draw) (g_l_draw : mg "_law_draw" = some (.ref a_l_draw)) (k_l_draw : PySem.W.keepIn K (.ref a_l_draw) = true) {a_l_lives : Addr} {fd_l_lives : FuncData} (G_l_lives : Fn P w K mg base ct 1 a_l_lives fd_l_lives ["_law_book_here"] m_l_lives) (g_l_lives : mg "_law_lives" = some (.ref a_l_lives)) (k_l_lives : PySem.W.keepIn K (.ref a_l_lives) = true) {a_l_same : Addr} {fd_l_same : FuncData} (G_l_same : Fn P w K mg base ct 4 a_l_same fd_l_same ["_law_found", "_law_expected"] (m_l_same 3)) (g_l_same : mg "_law_same" = some (.ref a_l_same)) (k_l_same : PySem.W.keepIn K (.ref a_l_same) = true) {a_l_walk : Addr} {fd_l_walk : FuncData} (G_l_walk : Fn P w K mg base ct 2 a_l_walk fd_l_walk ["_law_book_here", "_law_at", "_law_items"] m_l_walk) (g_l_walk : mg "_law_walk" = some (.ref a_l_walk)) (k_l_walk : PySem.W.keepIn K (.ref a_l_walk) = true) {a_p_is_way_out : Addr} {fd_p_is_way_out : FuncData} (G_p_is_way_out : Fn P w K mg base ct 4 a_p_is_way_out fd_p_is_way_out ["rule", "place", "value"] m_p_is_way_out) (g_p_is_way_out : mg "is_way_out" = some (.ref a_p_is_way_out)) (k_p_is_way_out : PySem.W.keepIn K (.ref a_p_is_way_out) = true) {a_p_life : Addr} {fd_p_life : FuncData} (G_p_life : Fn P w K mg base ct 4 a_p_life fd_p_life ["rule", "place"] m_p_life) (g_p_life : mg "life" = some (.ref a_p_life)) (k_p_life : PySem.W.keepIn K (.ref a_p_life) = true) {a_p_way_out : Addr} {fd_p_way_out : FuncData} (G_p_way_out : Fn P w K mg base ct 4 a_p_way_out fd_p_way_out ["rule", "place"] m_p_way_out) (g_p_way_out : mg "way_out" = some (.ref a_p_way_out)) (k_p_way_out : PySem.W.keepIn K (.ref a_p_way_out) = true) {dbl_book_2 : List Value} (bl_book_2 : L2.Binds K fd_l_book ["_law_source_here", "_law_many"] dbl_book_2) (vbl_book_2 : Vals [] dbl_book_2) {dbl_draw_2 : List Value} (bl_draw_2 : L2.Binds K fd_l_draw ["_law_source_here", "_law_wide"] dbl_draw_2) (vbl_draw_2 : Vals [] dbl_draw_2) {dbl_lives_1 : List Value} (bl_lives_1 : L2.Binds K fd_l_lives ["_law_book_here"] dbl_lives_1) (vbl_lives_1 : Vals [] dbl_lives_1) {dbl_same_2 : List Value} (bl_same_2 : L2.Binds K fd_l_same ["_law_found", "_law_expected"] dbl_same_2) (vbl_same_2 : Vals [] dbl_same_2) {dbl_walk_3 : List Value} (bl_walk_3 : L2.Binds K fd_l_walk ["_law_book_here", "_law_at", "_law_items"] dbl_walk_3) (vbl_walk_3 : Vals [] dbl_walk_3) {dbp_is_way_out_3 : List Value} (bp_is_way_out_3 : L2.Binds K fd_p_is_way_out ["rule", "place", "value"] dbp_is_way_out_3) (vbp_is_way_out_3 : Vals [] dbp_is_way_out_3) {dbp_life_0_place_rule : List Value} (bp_life_0_place_rule : BindK K fd_p_life ["rule", "place"] ["place", "rule"] dbp_life_0_place_rule [1, 0]) (vbp_life_0_place_rule : Vals [] dbp_life_0_place_rule) {dbp_life_2 : List Value} (bp_life_2 : L2.Binds K fd_p_life ["rule", "place"] dbp_life_2) (vbp_life_2 : Vals [] dbp_life_2) {dbp_way_out_0_place_rule : List Value} (bp_way_out_0_place_rule : BindK K fd_p_way_out ["rule", "place"] ["place", "rule"] dbp_way_out_0_place_rule [1, 0]) (vbp_way_out_0_place_rule : Vals [] dbp_way_out_0_place_rule) {dbp_way_out_2 : List Value} (bp_way_out_2 : L2.Binds K fd_p_way_out ["rule", "place"] dbp_way_out_2) (vbp_way_out_2 : Vals [] dbp_way_out_2) : Fn P w K mg base ct 5 a fd ["_law_source_here", "_law_many"] m_l_right := by
  refine fn_ofD F sc_l_right (by decide) rfl fun cdv A outer s H E hr hgd => ?_
  exact (sss_pre (ss_cons (ss_asg (s_tup (sa_cons (s_call G_l_book hgd (hr.mono (by decide)) (by rfl) g_l_book k_l_book bl_book_2 vbl_book_2 .nil (sc_lend 0 (sc_lend 1 sc_nil)) rfl) (sa_cons (s_call G_l_draw hgd (hr.mono (by decide)) (by rfl) g_l_draw k_l_draw bl_draw_2 vbl_draw_2 .nil (sc_lend 0 (sc_lend 1 sc_nil)) rfl) sa_nil))) (sg_tup (sgs_cons (sg_name nd_l_right (i := 2) rfl (Or.inr rfl) (by decide)) (sgs_cons (sg_name nd_l_right (i := 3) rfl (Or.inl rfl) (by decide)) sgs_nil fun a b => pgs_cons a b) fun a b => pgs_cons a b) (fun p => pg_tup rfl p) rfl))
    (ss_cons (ss_par rfl nd_l_right (i := 4) (j := 5) rfl rfl (by decide) (by decide) (by decide) rfl rfl (sa_cons (s_bi (call_repr2 hgd (units_of hr)) kRepr_op (by rfl) T.z_repr (by decide +kernel) (by decide) (by decide) (sa_cons (s_v 2) sa_nil)) (sa_cons (s_call G_l_lives hgd (hr.mono (by decide)) (by rfl) g_l_lives k_l_lives bl_lives_1 vbl_lives_1 .nil (sc_lend 2 sc_nil) rfl) sa_nil)) (by rfl))
    (ss_cons (ss_if (w_pt (w_or (t_not (t_val (s_call G_l_same hgd (hr.mono (by decide)) (by rfl) g_l_same k_l_same bl_same_2 vbl_same_2 .nil (sc_val (s_comp (own := [("_law_at", 6)]) rfl nd_l_right (i_range1 (by rfl) T.z_range (sa_cons (s_v 1) sa_nil)) (blkOk_by (N := N_l_right) (by kernel_rfl)) (fun n i => (sn_name nd_l_right (i := 6) rfl (by first | exact Or.inl rfl | exact Or.inr rfl) (others_own (by decide)))) (fun i => sts_nil) (fun i => (s_call G_p_life hgd (hr.mono (by decide)) (by rfl) g_p_life k_p_life bp_life_2 vbp_life_2 .nil (sc_lend 2 (sc_lend 6 sc_nil)) rfl))) (sc_lend 5 sc_nil)) rfl))) (w_or1 (t_ne hr (s_callK0 G_p_life hgd (hr.mono (by decide)) (by rfl) g_p_life k_p_life bp_life_0_place_rule vbp_life_0_place_rule .nil (⟨by decide, by decide, fun l hl => match l, hl with | [_, _], _ => rfl⟩ : Ord 2 [1, 0] [1, 0]) (skw_lend 3 (skw_lend 2 skw_nil)) rfl rfl) (s_ix (s_v 5) (s_v 3)))))) (ss_one (ss_ret s_bl)) ss_nil)
    (ss_cons (ss_pre (ss_for rfl (i_range1 (by rfl) T.z_range (sa_cons (s_v 1) sa_nil)) (sg_name nd_l_right (i := 6) rfl (Or.inl rfl) (by decide)) (sss_tdy (ss_cons (ss_asg (s_ift (t_ne hr (s_v 6) (s_v 3)) (s_call G_p_way_out hgd (hr.mono (by decide)) (by rfl) g_p_way_out k_p_way_out bp_way_out_2 vbp_way_out_2 .nil (sc_lend 2 (sc_lend 6 sc_nil)) rfl) (s_callK0 G_p_way_out hgd (hr.mono (by decide)) (by rfl) g_p_way_out k_p_way_out bp_way_out_0_place_rule vbp_way_out_0_place_rule .nil (⟨by decide, by decide, fun l hl => match l, hl with | [_, _], _ => rfl⟩ : Ord 2 [1, 0] [1, 0]) (skw_lend 6 (skw_lend 2 skw_nil)) rfl rfl)) (sg_name nd_l_right (i := 7) rfl (Or.inl rfl) (by decide)))
    (ss_cons (ss_if (w_pt (w_or (t_not (t_val (s_isi .list (by rfl) T.z_isinstance (by rfl) T.z_list PyProof.Rows.boot_list (by decide) (by decide) (s_v 7)))) (w_or (t_ne hr (s_bi call_len4 kLen_op (by rfl) T.z_len (by decide +kernel) (by decide) (by decide) (sa_cons (s_v 7) sa_nil)) (s_ix (s_v 5) (s_v 6))) (w_or1 (t_ne hr (s_call G_l_walk hgd (hr.mono (by decide)) (by rfl) g_l_walk k_l_walk bl_walk_3 vbl_walk_3 .nil (sc_lend 2 (sc_lend 6 (sc_lend 7 sc_nil))) rfl) s_str))))) (ss_one (ss_ret s_bl)) ss_nil)
    (ss_cons (ss_if (t_ne hr (s_soft (s_comp (own := [("_law_item", 8)]) rfl nd_l_right (i_list (s_v 7)) (blkOk_by (N := N_l_right) (by kernel_rfl)) (fun n i => (sn_name nd_l_right (i := 8) rfl (by first | exact Or.inl rfl | exact Or.inr rfl) (others_own (by decide)))) (fun i => sts_one (w_pt (w_and (t_isnot (s_v 8) s_non) (w_and1 (t_val (s_isi .bool (by rfl) T.z_isinstance (by rfl) T.z_bool PyProof.Rows.boot_bool (by decide) (by decide) (s_v 8))))))) (fun i => (s_fz (s_v 8))))) (s_lst sa_nil)) (ss_one (ss_ret s_bl)) ss_nil)
    (ss_cons (ss_if (w_pt (w_or (t_not (t_val (s_call G_p_is_way_out hgd (hr.mono (by decide)) (by rfl) g_p_is_way_out k_p_is_way_out bp_is_way_out_3 vbp_is_way_out_3 .nil (sc_lend 2 (sc_lend 6 (sc_lend 7 sc_nil))) rfl))) (w_or1 (t_isnot (s_ix (s_v 7) (s_neg s_int)) s_non)))) (ss_one (ss_ret s_bl)) ss_nil)
    (ss_one (ss_expr (s_recv rAppend_rc (sa_cons s_non sa_nil) (i := 7) (fun po pa => pe_bm PySem.F.plainAttrs_list PySem.F.slot_list_append PySem.F.type_list_append mt_append po pa)))))))))))
    (ss_one (ss_ret (s_and (s_eq hr (s_call G_p_way_out hgd (hr.mono (by decide)) (by rfl) g_p_way_out k_p_way_out bp_way_out_2 vbp_way_out_2 .nil (sc_lend 2 (sc_lend 3 sc_nil)) rfl) (s_call G_p_way_out hgd (hr.mono (by decide)) (by rfl) g_p_way_out k_p_way_out bp_way_out_2 vbp_way_out_2 .nil (sc_lend 2 (sc_lend 3 sc_nil)) rfl)) (s_one (s_eq hr (s_bi (call_repr2 hgd (units_of hr)) kRepr_op (by rfl) T.z_repr (by decide +kernel) (by decide) (by decide) (sa_cons (s_v 2) sa_nil)) (s_v 4)))))))))))
theorem fn_l_source {a : Addr} {fd : FuncData} (T : Txt K mg) (F : FunD K "_law_source" "_law_source" (defArgs s_l_source) (defBody s_l_source) (defScope s_l_source) [] [] a fd)  : Fn P w K mg base ct 1 a fd ["_law_cell", "_law_nth"] m_l_source := by
  refine fn_ofD F sc_l_source (by decide) rfl fun cdv A outer s H E hr hgd => ?_
  exact (ss_one (ss_ret (s_lst (sa_cons (s_bi (call_max2 rfl) kMax_op (by rfl) T.z_max (by decide +kernel) (by decide) (by decide) (sa_cons s_int (sa_cons (s_sub (s_v 0) (s_pow s_int s_int)) sa_nil))) (sa_cons (s_add (s_add (s_pow (s_mod (s_ty call_int1 kInt_op (by rfl) T.z_int (by decide +kernel) (by decide) (by decide) (sa_cons (s_v 0) sa_nil)) (s_add (s_pow s_int s_int) s_int)) s_int) (s_mul s_int (s_v 1))) s_int) (sa_cons s_int sa_nil))))))
theorem fn_p_law {a : Addr} {fd : FuncData} (T : Txt K mg) (F : FunD K "law" "law" (defArgs s_p_law) (defBody s_p_law) (defScope s_p_law) [] [] a fd) {a_l_cells : Addr} {fd_l_cells : FuncData} (G_l_cells : Fn P w K mg base ct 1 a_l_cells fd_l_cells ["_law_script", "_law_most"] m_l_cells) (g_l_cells : mg "_law_cells" = some (.ref a_l_cells)) (k_l_cells : PySem.W.keepIn K (.ref a_l_cells) = true) {a_l_draw : Addr} {fd_l_draw : FuncData} (G_l_draw : Fn P w K mg base ct 1 a_l_draw fd_l_draw ["_law_source_here", "_law_wide"] m_l_draw) (g_l_draw : mg "_law_draw" = some (.ref a_l_draw)) (k_l_draw : PySem.W.keepIn K (.ref a_l_draw) = true) {a_l_right : Addr} {fd_l_right : FuncData} (G_l_right : Fn P w K mg base ct 5 a_l_right fd_l_right ["_law_source_here", "_law_many"] m_l_right) (g_l_right : mg "_law_right" = some (.ref a_l_right)) (k_l_right : PySem.W.keepIn K (.ref a_l_right) = true) {a_l_source : Addr} {fd_l_source : FuncData} (G_l_source : Fn P w K mg base ct 1 a_l_source fd_l_source ["_law_cell", "_law_nth"] m_l_source) (g_l_source : mg "_law_source" = some (.ref a_l_source)) (k_l_source : PySem.W.keepIn K (.ref a_l_source) = true) {a_p_life : Addr} {fd_p_life : FuncData} (G_p_life : Fn P w K mg base ct 4 a_p_life fd_p_life ["rule", "place"] m_p_life) (g_p_life : mg "life" = some (.ref a_p_life)) (k_p_life : PySem.W.keepIn K (.ref a_p_life) = true) {a_p_way_out : Addr} {fd_p_way_out : FuncData} (G_p_way_out : Fn P w K mg base ct 4 a_p_way_out fd_p_way_out ["rule", "place"] m_p_way_out) (g_p_way_out : mg "way_out" = some (.ref a_p_way_out)) (k_p_way_out : PySem.W.keepIn K (.ref a_p_way_out) = true) {dbl_cells_2 : List Value} (bl_cells_2 : L2.Binds K fd_l_cells ["_law_script", "_law_most"] dbl_cells_2) (vbl_cells_2 : Vals [] dbl_cells_2) {dbl_draw_2 : List Value} (bl_draw_2 : L2.Binds K fd_l_draw ["_law_source_here", "_law_wide"] dbl_draw_2) (vbl_draw_2 : Vals [] dbl_draw_2) {dbl_right_2 : List Value} (bl_right_2 : L2.Binds K fd_l_right ["_law_source_here", "_law_many"] dbl_right_2) (vbl_right_2 : Vals [] dbl_right_2) {dbl_source_2 : List Value} (bl_source_2 : L2.Binds K fd_l_source ["_law_cell", "_law_nth"] dbl_source_2) (vbl_source_2 : Vals [] dbl_source_2) {dbp_life_2 : List Value} (bp_life_2 : L2.Binds K fd_p_life ["rule", "place"] dbp_life_2) (vbp_life_2 : Vals [] dbp_life_2) {dbp_way_out_2 : List Value} (bp_way_out_2 : L2.Binds K fd_p_way_out ["rule", "place"] dbp_way_out_2) (vbp_way_out_2 : Vals [] dbp_way_out_2) : Fn P w K mg base ct 6 a fd ["_law_script"] m_p_law := by
  refine fn_ofD F sc_p_law (by decide) rfl fun cdv A outer s H E hr hgd => ?_
  exact (sss_pre (ss_cons (ss_pre (ss_for rfl (i_enum (by rfl) T.z_enumerate (sa_cons (s_call G_l_cells hgd (hr.mono (by decide)) (by rfl) g_l_cells k_l_cells bl_cells_2 vbl_cells_2 .nil (sc_lend 0 (sc_val s_int sc_nil)) rfl) sa_nil)) (sg_tup (sgs_cons (sg_name nd_p_law (i := 1) rfl (Or.inl rfl) (by decide)) (sgs_cons (sg_name nd_p_law (i := 2) rfl (Or.inl rfl) (by decide)) sgs_nil fun a b => pgs_cons a b) fun a b => pgs_cons a b) (fun p => pg_tup rfl p) rfl) (sss_tdy (ss_cons (ss_asg (s_call G_l_source hgd (hr.mono (by decide)) (by rfl) g_l_source k_l_source bl_source_2 vbl_source_2 .nil (sc_lend 2 (sc_lend 1 sc_nil)) rfl) (sg_name nd_p_law (i := 3) rfl (Or.inl rfl) (by decide)))
    (ss_one (ss_pre (ss_for rfl (i_list (s_add (s_lst (sa_cons (s_add s_int (s_call G_l_draw hgd (hr.mono (by decide)) (by rfl) g_l_draw k_l_draw bl_draw_2 vbl_draw_2 .nil (sc_lend 3 (sc_val s_int sc_nil)) rfl)) (sa_cons (s_add s_int (s_call G_l_draw hgd (hr.mono (by decide)) (by rfl) g_l_draw k_l_draw bl_draw_2 vbl_draw_2 .nil (sc_lend 3 (sc_val s_int sc_nil)) rfl)) sa_nil))) (s_mul (s_lst (sa_cons (s_add s_int (s_call G_l_draw hgd (hr.mono (by decide)) (by rfl) g_l_draw k_l_draw bl_draw_2 vbl_draw_2 .nil (sc_lend 3 (sc_val s_int sc_nil)) rfl)) sa_nil)) (s_ty call_int1 kInt_op (by rfl) T.z_int (by decide +kernel) (by decide) (by decide) (sa_cons (s_eq hr (s_v 1) s_int) sa_nil))))) (sg_name nd_p_law (i := 4) rfl (Or.inl rfl) (by decide)) (sss_tdy (ss_one (ss_if (t_not (t_val (s_call G_l_right hgd (hr.mono (by decide)) (by rfl) g_l_right k_l_right bl_right_2 vbl_right_2 .nil (sc_lend 3 (sc_lend 4 sc_nil)) rfl))) (ss_one (ss_ret s_bl)) ss_nil))))))))))
    (ss_cons (ss_asg (s_lst (sa_cons (s_lst (sa_cons s_int (sa_cons s_int (sa_cons s_int sa_nil)))) (sa_cons (s_lst (sa_cons s_int (sa_cons s_int (sa_cons s_int sa_nil)))) (sa_cons (s_lst (sa_cons s_int (sa_cons s_int (sa_cons s_int sa_nil)))) sa_nil)))) (sg_name nd_p_law (i := 5) rfl (Or.inl rfl) (by decide)))
    (ss_one (ss_ret (s_eq hr (s_lst (sa_cons (s_call G_p_life hgd (hr.mono (by decide)) (by rfl) g_p_life k_p_life bp_life_2 vbp_life_2 .nil (sc_lend 5 (sc_val s_int sc_nil)) rfl) (sa_cons (s_call G_p_way_out hgd (hr.mono (by decide)) (by rfl) g_p_way_out k_p_way_out bp_way_out_2 vbp_way_out_2 .nil (sc_lend 5 (sc_val s_int sc_nil)) rfl) (sa_cons (s_call G_p_way_out hgd (hr.mono (by decide)) (by rfl) g_p_way_out k_p_way_out bp_way_out_2 vbp_way_out_2 .nil (sc_val (s_lst (sa_cons (s_lst (sa_cons s_int (sa_cons s_int sa_nil))) (sa_cons (s_lst (sa_cons s_int (sa_cons s_int sa_nil))) sa_nil))) (sc_val s_int sc_nil)) rfl) sa_nil)))) (s_lst (sa_cons s_int (sa_cons (s_lst (sa_cons s_non (sa_cons s_non sa_nil))) (sa_cons (s_lst (sa_cons s_non sa_nil)) sa_nil))))))))))
end
end Lw
set_option maxHeartbeats 4000000
/-! Vs: mirrors are run by simp. -/
namespace Vs
open PySem (Str PyData)
section
variable {ρ : Env} {a b c : M} {i : Nat} {x y : VV}
@[simp] theorem e_cst : cst x ρ = .ok x none := (rfl)
@[simp] theorem e_v : v i ρ = match look ρ i with | some (m, d) => .ok ⟨!(m == 0), m, d⟩ none | none => .no := by
  unfold v
  cases look ρ i with
  | none => rfl
  | some z => rfl
@[simp] theorem e_two {k : VV → VV → Option VV} : two a b k ρ = (a ρ).bind ρ fun x ρ1 => (b ρ1).nxt x.stable fun y => .ofO (k x y) := (rfl)
@[simp] theorem e_one {k : VV → Option VV} : one a k ρ = (a ρ).bind ρ fun x _ => .ofO (k x) := (rfl)
@[simp] theorem e_args0 : args [] ρ = .ok [] none := (rfl)
@[simp] theorem e_args1 {as : List M} : args (a :: as) ρ = (a ρ).bind ρ fun x ρ1 => (args as ρ1).nxt x.stable fun xs => .pu (x :: xs) := (rfl)
@[simp] theorem e_argsk {as : MA} {k : List VV → Option VV} : argsk as k ρ = (as ρ).bind ρ fun xs _ => .ofO (k xs) := (rfl)
@[simp] theorem e_tst {t : D → Option Bool} : tst a t ρ = (a ρ).bind ρ fun x _ => .ofO (t x.d) := (rfl)
@[simp] theorem e_tand {s t : MT} : tand s t ρ = (s ρ).bind ρ fun x ρ1 => if x = true then t ρ1 else .pu false := (rfl)
@[simp] theorem e_tor {s t : MT} : tor s t ρ = (s ρ).bind ρ fun x ρ1 => if x = true then .pu true else t ρ1 := (rfl)
@[simp] theorem e_tnot {s : MT} : tnot s ρ = (s ρ).bind ρ fun x _ => .pu (!x) := (rfl)
@[simp] theorem e_ift {s : MT} : ift s a b ρ = (s ρ).bind ρ fun x ρ1 => if x = true then a ρ1 else b ρ1 := (rfl)
@[simp] theorem e_fz {k : Nat} {is : List Nat} : fz k is a ρ = if isThin k is ρ = true then a ρ else ((a (thin k is ρ)).aft (some (thin k is ρ))) := (rfl)
@[simp] theorem e_sq {s t : MS} : sq s t ρ = (s ρ).seq t := (rfl)
@[simp] theorem e_asg {g : MG} : asg a g ρ = (a ρ).go ρ fun x ρ1 => g x ρ1 := (rfl)
@[simp] theorem e_ex : ex a ρ = (a ρ).go ρ fun _ ρ1 => .nx ρ1 := (rfl)
@[simp] theorem e_ret : ret a ρ = (a ρ).go ρ fun x ρ1 => match x.kept with | some pv => .ret pv ρ1 | none => .no := (rfl)
@[simp] theorem e_retv : retv i ρ = match look ρ i with | some pv => .ret pv (put ρ i none) | none => .no := (rfl)
@[simp] theorem e_ifs {s : MT} {t u : MS} : ifs s t u ρ = (s ρ).go ρ fun x ρ1 => if x = true then t ρ1 else u ρ1 := (rfl)
@[simp] theorem e_skip : skip ρ = .nx ρ := (rfl)
@[simp] theorem e_gname : gname i x ρ = match x.kept with | some pv => .nx (put ρ i (some pv)) | none => .no := (rfl)
@[simp] theorem e_gset : gset i b x ρ = match look ρ i with
  | none => .no
  | some _ => (b ρ).go ρ fun y ρ1 => match look ρ1 i, y.d with
    | some (m + 1, .lst l), .int k => if x.stable = true then (match nix l.length k with
        | some j => .nx (put ρ1 i (some ((if x.d.imm = true then m else min m x.m) + 1, .lst (l.set j x.d))))
        | none => .no) else .no
    | _, _ => .no := rfl
@[simp] theorem e_gt {p q : Bool} {m n : Nat} {i j : Int} : kGt ⟨p, m, .int i⟩ ⟨q, n, .int j⟩ = some (vb (decide (j < i))) := (rfl)
@[simp] theorem e_lt {p q : Bool} {m n : Nat} {i j : Int} : kLt ⟨p, m, .int i⟩ ⟨q, n, .int j⟩ = some (vb (decide (i < j))) := (rfl)
@[simp] theorem e_le {p q : Bool} {m n : Nat} {i j : Int} : kLe ⟨p, m, .int i⟩ ⟨q, n, .int j⟩ = some (vb (decide (i ≤ j))) := (rfl)
@[simp] theorem e_ge {p q : Bool} {m n : Nat} {i j : Int} : kGe ⟨p, m, .int i⟩ ⟨q, n, .int j⟩ = some (vb (decide (j ≤ i))) := (rfl)
@[simp] theorem e_addI {p q : Bool} {m n : Nat} {i j : Int} : kAdd ⟨p, m, .int i⟩ ⟨q, n, .int j⟩ = some (vi (i + j)) := (rfl)
@[simp] theorem e_subI {p q : Bool} {m n : Nat} {i j : Int} : kSub ⟨p, m, .int i⟩ ⟨q, n, .int j⟩ = some (vi (i - j)) := (rfl)
theorem e_mulI {p q : Bool} {m n : Nat} {i j : Int} (h : i.natAbs < big) (h' : j.natAbs < big) : kMul ⟨p, m, .int i⟩ ⟨q, n, .int j⟩ = some (vi (i * j)) := if_pos (.inl ⟨h, h'⟩)
theorem e_mulS {p q : Bool} {m n : Nat} {i j : Int} (h : j.natAbs < 18446744073709551616) : kMul ⟨p, m, .int i⟩ ⟨q, n, .int j⟩ = some (vi (i * j)) := if_pos (.inr h)
theorem e_modI {p q : Bool} {m n : Nat} {i j : Int} (h : 0 < j) : kMod ⟨p, m, .int i⟩ ⟨q, n, .int j⟩ = some (vi (i % j)) := if_pos h
theorem e_divI {p q : Bool} {m n : Nat} {i j : Int} (h : 0 < j) (h' : j.natAbs < big) : kDiv ⟨p, m, .int i⟩ ⟨q, n, .int j⟩ = some (vi (i / j)) := if_pos ⟨h, h'⟩
theorem e_powI {p q : Bool} {m n : Nat} {i j : Int} (h : i.natAbs < big) (h1 : 0 ≤ j) (h2 : j ≤ 100) : kPow ⟨p, m, .int i⟩ ⟨q, n, .int j⟩ = some (vi (i ^ j.toNat)) := if_pos ⟨h, h1, h2⟩
@[simp] theorem e_int {p : Bool} {m : Nat} {i : Int} : kInt [⟨p, m, .int i⟩] = some (vi i) := (rfl)
@[simp] theorem e_absI {p : Bool} {m : Nat} {i : Int} : kAbs [⟨p, m, .int i⟩] = some (vi (if i < 0 then -i else i)) := (rfl)
@[simp] theorem e_ixL {p q : Bool} {m n : Nat} {l : List D} {i : Int} : kIx ⟨p, m, .lst l⟩ ⟨q, n, .int i⟩ = (atD l i).map (sub ⟨p, m, .lst l⟩) := (rfl)
@[simp] theorem e_at0 {d : D} {l : List D} : atD (d :: l) 0 = some d := by
  unfold atD nix
  rw [if_pos (by decide), if_pos (by simp only [List.length_cons]; omega)]
  rfl
@[simp] theorem e_at1 {d e : D} {l : List D} : atD (d :: e :: l) 1 = some e := by
  unfold atD nix
  rw [if_pos (by decide), if_pos (by simp only [List.length_cons]; omega)]
  rfl
@[simp] theorem e_at2 {d e f : D} {l : List D} : atD (d :: e :: f :: l) 2 = some f := by
  unfold atD nix
  rw [if_pos (by decide), if_pos (by simp only [List.length_cons]; omega)]
  rfl
@[simp] theorem e_sub {p : Bool} {m : Nat} {d e : D} : sub ⟨p, m, d⟩ e = ⟨p && !(m - 1 == 0), m - 1, e⟩ := (rfl)
theorem small_big {i : Int} (h0 : -(2 ^ 64) < i) (h : i < 2 ^ 64) : i.natAbs < big := big_of (k := 64) (by omega) (by decide)
end
/-- a comprehension whose items are had without changes -/
theorem compL_pure {own : List Nat} {g : MG} {e : M} {k : D → VV} : ∀ (ds : List D) (ρ : Env) (acc : List VV), (∀ d ∈ ds, ∃ ρ1, g ⟨false, 0, d⟩ ρ = .nx ρ1 ∧ e ρ1 = .ok (k d) none ∧ (k d).stable = true) → compL own g yes e ds ρ acc = .ok (acc ++ ds.map k) none
  | [], ρ, acc, _ => by
    unfold compL
    rw [List.map_nil, List.append_nil]
  | d :: ds, ρ, acc, h => by
    obtain ⟨ρ1, h1, h2, h3⟩ := h d (List.mem_cons_self ..)
    have ih := compL_pure (own := own) (g := g) (e := e) ds ρ (acc ++ [k d]) fun d hd => h d (List.mem_cons_of_mem _ hd)
    unfold compL
    rw [h1]
    have hy : yes ρ1 = .ok true none := rfl
    simp only [hy, now_none, h2, h3, if_true, thn_none, Option.map_none, R.aft_none, ih]
    rw [List.map_cons, List.append_assoc]
    rfl
/-- a comprehension whose items change something: P, by the turn -/
theorem compL_eff {own : List Nat} {g : MG} {e : M} {P : Nat → Env → List VV → Prop} : ∀ (ds : List D) (n : Nat) (ρ : Env) (acc : List VV),
    (∀ i d ρ acc, ds[i]? = some d → P (n + i) ρ acc → ∃ ρ1 x ρ2, g ⟨false, 0, d⟩ ρ = .nx ρ1 ∧ e ρ1 = .ok x (some ρ2) ∧ x.stable = true ∧ P (n + i + 1) (wipeE own ρ2) (acc ++ [x])) → P n ρ acc →
    ∃ xs o, compL own g yes e ds ρ acc = .ok xs o ∧ P (n + ds.length) (now o ρ) xs
  | [], n, ρ, acc, _, h => ⟨acc, none, rfl, h⟩
  | d :: ds, n, ρ, acc, hs, h => by
    obtain ⟨ρ1, x, ρ2, h1, h2, h3, h4⟩ := hs 0 d ρ acc rfl h
    obtain ⟨xs, o, h5, h6⟩ := compL_eff (own := own) (g := g) (e := e) ds (n + 1) (wipeE own ρ2) (acc ++ [x]) (fun i d' ρ acc hi hp => by
      have := hs (i + 1) d' ρ acc (by simpa using hi) (by rw [show n + (i + 1) = n + 1 + i by omega]; exact hp)
      rw [show n + (i + 1) + 1 = n + 1 + i + 1 by omega] at this
      exact this) h4
    refine ⟨xs, Vs.thn (some (wipeE own ρ2)) o, ?_, ?_⟩
    · unfold compL
      rw [h1]
      have hy : yes ρ1 = .ok true none := rfl
      simp only [hy, now_none, h2, h3, if_true, thn_some, Option.map_some, Option.map_none, now_some, h5, R.aft_ok, none_thn]
    · have e2 : now (Vs.thn (some (wipeE own ρ2)) o) ρ = now o (wipeE own ρ2) := by cases o <;> rfl
      rw [e2, List.length_cons, show n + (ds.length + 1) = n + 1 + ds.length by omega]
      exact h6
/-- a loop that goes through -/
theorem forL_inv {g : MG} {b : MS} {P : Nat → Env → Prop} : ∀ (ds : List D) (n : Nat) (ρ : Env), (∀ i d ρ, ds[i]? = some d → P (n + i) ρ → ∃ ρ', (g ⟨false, 0, d⟩ ρ).seq b = .nx ρ' ∧ P (n + i + 1) ρ') → P n ρ → ∃ ρ', forL g b ds ρ = .nx ρ' ∧ P (n + ds.length) ρ'
  | [], n, ρ, _, h => ⟨ρ, rfl, h⟩
  | d :: ds, n, ρ, hs, h => by
    obtain ⟨ρ1, h1, h2⟩ := hs 0 d ρ rfl h
    obtain ⟨ρ', h3, h4⟩ := forL_inv (g := g) (b := b) ds (n + 1) ρ1 (fun i d' ρ hi hp => by
      have := hs (i + 1) d' ρ (by simpa using hi) (by rw [show n + (i + 1) = n + 1 + i by omega]; exact hp)
      rw [show n + (i + 1) + 1 = n + 1 + i + 1 by omega] at this
      exact this) h2
    refine ⟨ρ', ?_, by rw [List.length_cons, show n + (ds.length + 1) = n + 1 + ds.length by omega]; exact h4⟩
    unfold forL
    rw [h1]
    exact h3
end Vs
set_option maxHeartbeats 4000000
/-! Vs: numbers in lists. -/
namespace Vs
open PySem (Str PyData)
/-! ### numbers in lists -/
def dnat (l : List Nat) : List D := l.map fun (i : Nat) => D.int (i : Int)
@[simp] theorem dnat_nil : dnat [] = [] := (rfl)
@[simp] theorem dnat_cons (a : Nat) (l : List Nat) : dnat (a :: l) = .int a :: dnat l := (rfl)
@[simp] theorem dnat_length (l : List Nat) : (dnat l).length = l.length := List.length_map ..
theorem dnat_append (l k : List Nat) : dnat (l ++ k) = dnat l ++ dnat k := List.map_append ..
theorem dnat_get (l : List Nat) (i : Nat) : (dnat l)[i]? = l[i]?.map fun (i : Nat) => D.int (i : Int) := List.getElem?_map ..
theorem dnat_set (l : List Nat) (i a : Nat) : (dnat l).set i (.int a) = dnat (l.set i a) := by
  unfold dnat
  rw [List.map_set]
theorem rng_dnat (n : Nat) : rng 0 (n : Int) = dnat (List.range n) := by
  unfold rng dnat
  rw [show ((n : Int) - 0).toNat = n by omega]
  exact List.map_congr_left fun i _ => by rw [Int.zero_add]
theorem nix_nat {n i : Nat} (h : i < n) : nix n (i : Int) = some i := by
  unfold nix
  rw [if_pos (by omega), if_pos (by omega)]
  rfl
theorem nix_last {n : Nat} (h : 0 < n) : nix n (-1) = some (n - 1) := by
  unfold nix
  rw [if_neg (by omega), if_pos (by omega)]
  congr 1
  omega
theorem at_nat {l : List D} {i : Nat} (h : i < l.length) : atD l (i : Int) = some l[i] := by
  unfold atD
  rw [nix_nat h]
  exact List.getElem?_eq_getElem h
theorem at_last {l : List D} (h : l ≠ []) : atD l (-1) = some (l.getLast h) := by
  unfold atD
  rw [nix_last (List.length_pos_iff.mpr h)]
  show l[l.length - 1]? = _
  rw [← List.getLast?_eq_getElem?, List.getLast?_eq_some_getLast h]
theorem at_dnat {l : List Nat} {i : Nat} (h : i < l.length) : atD (dnat l) (i : Int) = some (.int (l[i] : Nat)) := by
  rw [at_nat (by rw [dnat_length]; exact h)]
  unfold dnat
  rw [List.getElem_map]
theorem at_dnat' {l : List Nat} {i : Nat} (h : i < l.length) : atD (dnat l) (i : Int) = some (.int (l.getD i 0 : Nat)) := by
  rw [at_dnat h, List.getD_eq_getElem?_getD, List.getElem?_eq_getElem h]
  rfl
def nth (l : List Nat) (i : Nat) : Nat := l.getD i 0
theorem nth_eq {l : List Nat} {i : Nat} (h : i < l.length) : nth l i = l[i] := by
  unfold nth
  rw [List.getD_eq_getElem?_getD, List.getElem?_eq_getElem h]
  rfl
theorem nth_mem {l : List Nat} {i : Nat} (h : i < l.length) : nth l i ∈ l := by
  rw [nth_eq h]
  exact List.getElem_mem h
theorem at_nth {l : List Nat} {i : Nat} (h : i < l.length) : atD (dnat l) (i : Int) = some (.int (nth l i : Nat)) := by
  rw [at_dnat h, nth_eq h]
end Vs
set_option maxHeartbeats 4000000
/-! Vs: plain tools for the mirrors. -/
namespace Vs
open PySem (Str PyData)
section
variable {ρ : Env} {a b c : M} {i : Nat} {x y : VV}
@[simp] theorem e_call {f : List PV → RF} {df : List PV} {as : List AK} : call f df as ρ = (cargs as ρ).bind ρ fun avs ρ1 => callG f (avs ++ df.map .o) ρ1 (grab (avs ++ df.map .o) ρ1) := (rfl)
@[simp] theorem e_cargs0 : cargs [] ρ = .ok [] none := (rfl)
@[simp] theorem e_cargsL {as : List AK} : cargs (.lend i :: as) ρ = match look ρ i with
    | some _ => (cargs as ρ).bind ρ fun xs _ => .pu (.l i :: xs)
    | none => .no := rfl
@[simp] theorem e_cargsV {as : List AK} : cargs (.val a :: as) ρ = (a ρ).bind ρ fun x ρ1 => match x.kept with
    | some pv => (cargs as ρ1).bind ρ1 fun xs _ => .pu (.o pv :: xs)
    | none => .no := rfl
@[simp] theorem e_grab0 : grab [] ρ = some ([], ρ) := (rfl)
@[simp] theorem e_grabL {as : List AV} : grab (.l i :: as) ρ = match look ρ i with
    | some pv => (match grab as (put ρ i none) with | some (pvs, ρ') => some (pv :: pvs, ρ') | none => none)
    | none => none := rfl
@[simp] theorem e_grabO {as : List AV} {pv : PV} : grab (.o pv :: as) ρ = match grab as ρ with | some (pvs, ρ') => some (pv :: pvs, ρ') | none => none := (rfl)
@[simp] theorem e_callG {f : List PV → RF} {avs : List AV} {pvs : List PV} {ρ2 : Env} : callG f avs ρ (some (pvs, ρ2)) = if avs.all (AV.quiet ρ) = true then (f pvs).pure ρ else (f pvs).fin avs ρ2 := (rfl)
@[simp] theorem e_quietO {pv : PV} : AV.quiet ρ (.o pv) = true := (rfl)
@[simp] theorem e_quietL : AV.quiet ρ (.l i) = match look ρ i with | some pv => pv.cold | none => false := (rfl)
@[simp] theorem e_cold0 {d : D} : PV.cold (0, d) = true := (rfl)
@[simp] theorem e_coldS {m : Nat} {d : D} : PV.cold (m + 1, d) = d.imm := by unfold PV.cold; simp
@[simp] theorem e_coldI {m : Nat} {i : Int} : PV.cold (m, .int i) = true := by unfold PV.cold; simp
@[simp] theorem e_cold1 {d : D} : PV.cold (1, d) = d.imm := by unfold PV.cold; simp
@[simp] theorem e_cold2 {d : D} : PV.cold (2, d) = d.imm := by unfold PV.cold; simp
@[simp] theorem e_cold3 {d : D} : PV.cold (3, d) = d.imm := by unfold PV.cold; simp
@[simp] theorem e_fin {r : PV} {out : Env} {avs : List AV} : (RF.ok r out).fin avs ρ = .ok ⟨false, r.1, r.2⟩ (some (back avs out ρ)) := (rfl)
@[simp] theorem e_finx {e : Ex} {out : Env} {avs : List AV} : (RF.ex e out).fin avs ρ = .ex e (back avs out ρ) := (rfl)
@[simp] theorem e_pure {r : PV} {out : Env} : (RF.ok r out).pure ρ = .ok ⟨false, r.1, r.2⟩ none := (rfl)
@[simp] theorem e_purex {e : Ex} {out : Env} : (RF.ex e out).pure ρ = .ex e ρ := (rfl)
@[simp] theorem e_backL {as : List AV} {z : Option PV} {out : Env} : back (.l i :: as) (z :: out) ρ = back as out (put ρ i z) := (rfl)
@[simp] theorem e_backO {as : List AV} {pv : PV} {z : Option PV} {out : Env} : back (.o pv :: as) (z :: out) ρ = back as out ρ := (rfl)
@[simp] theorem e_back0 {out : Env} : back [] out ρ = ρ := by cases out <;> rfl
@[simp] theorem e_outs0 {r : Env} : outs [] r = [] := (rfl)
@[simp] theorem e_outsT {bs : List Bool} {z : Option PV} {r : Env} : outs (true :: bs) (z :: r) = z :: outs bs r := (rfl)
@[simp] theorem e_outsF {bs : List Bool} {z : Option PV} {r : Env} : outs (false :: bs) (z :: r) = none :: outs bs r := (rfl)
@[simp] theorem e_fnx {l : List Bool} : fnF l (.nx ρ) = .ok (0, .non) (outs l ρ) := (rfl)
@[simp] theorem e_fret {l : List Bool} {r : PV} : fnF l (.ret r ρ) = .ok r (outs l ρ) := (rfl)
@[simp] theorem e_fex {l : List Bool} {e : Ex} : fnF l (.ex e ρ) = .ex e (outs l ρ) := (rfl)
@[simp] theorem e_isThin0 {k : Nat} : isThin k [] ρ = true := (rfl)
@[simp] theorem e_isThin1 {k : Nat} {is : List Nat} : isThin k (i :: is) ρ = ((match look ρ i with | some (m, d) => decide (m ≤ k) || d.imm | none => true) && isThin k is ρ) := (rfl)
@[simp] theorem e_thin0 {k : Nat} : thin k [] ρ = ρ := (rfl)
@[simp] theorem e_thin1 {k : Nat} {is : List Nat} : thin k (i :: is) ρ = match look ρ i with
    | some (m, d) => thin k is (put ρ i (some (min m k, d)))
    | none => thin k is ρ := rfl
@[simp] theorem e_par {i j : Nat} {as : MA} : par i j as ρ = (as ρ).go ρ fun xs ρ1 => match xs with
  | [x, y] => (gname i x ρ1).seq fun ρ2 => gname j y ρ2
  | _ => .no := rfl
@[simp] theorem e_fors {it : MI} {g : MG} {body : MS} : fors it g body ρ = (it ρ).go ρ fun ds ρ1 => forL g body ds ρ1 := (rfl)
@[simp] theorem e_it1 {k : VV → Option (List D)} : it1 k a ρ = (a ρ).bind ρ fun x _ => .ofO (k x) := (rfl)
@[simp] theorem e_itN {k : List VV → Option (List D)} {as : MA} : itN k as ρ = (as ρ).bind ρ fun xs _ => .ofO (k xs) := (rfl)
@[simp] theorem e_comp {it : MI} {g : MG} {cs : MT} {own : List Nat} : comp it g cs a own ρ = (it ρ).bind ρ fun ds ρ1 => compF (compL own g cs a ds (wipeE own ρ1) []) := (rfl)
@[simp] theorem e_compF {xs : List VV} {o : Option Env} : compF (.ok xs o) = (R.ofO (kLst xs)).aft o := (rfl)
@[simp] theorem e_recv {as : MA} {k : PV → List VV → Option (VV × PV)} : recv i as k ρ = match look ρ i with
  | some (_, .lst _) => (as ρ).bind ρ fun xs ρ1 => (match look ρ1 i with
    | some pv => (match k pv xs with | some (r, pv') => .ef r (put ρ1 i (some pv')) | none => .no)
    | none => .no)
  | _ => .no := rfl
@[simp] theorem e_meth {ty : D → Bool} {as : MA} {k : VV → List VV → Option VV} : meth ty a as k ρ = (a ρ).bind ρ fun x ρ1 => if ty x.d = true then (as ρ1).nxt x.stable fun xs => .ofO (k x xs) else .no := (rfl)
@[simp] theorem e_slc {lo hi : Option M} : slc a lo hi ρ = (a ρ).bind ρ fun x ρ1 => (part lo ρ1).nxt false fun l => (part hi ρ1).nxt false fun u => .ofO (kSl x l u) := (rfl)
@[simp] theorem e_part0 : part none ρ = .ok none none := (rfl)
@[simp] theorem e_part1 : part (some a) ρ = (a ρ).bind ρ fun y _ => .ofO (intOf y) := (rfl)
@[simp] theorem e_intOf {p : Bool} {m : Nat} {i : Int} : intOf ⟨p, m, .int i⟩ = some (some i) := (rfl)
@[simp] theorem e_vand : vand a b ρ = (a ρ).bind ρ fun x ρ1 => match x.d with
  | .bl true => b ρ1 | .bl false => .pu (vb false) | _ => .no := rfl
@[simp] theorem e_vor : vor a b ρ = (a ρ).bind ρ fun x ρ1 => match x.d with
  | .bl true => .pu (vb true) | .bl false => b ρ1 | _ => .no := rfl
@[simp] theorem e_chain {φ ψ : Int → Int → Bool} : chain a b c φ ψ ρ = (a ρ).bind ρ fun x ρ1 => (b ρ1).bind ρ1 fun y ρ2 => match x.d, y.d with
  | .int i, .int j => if φ i j = true then (c ρ2).bind ρ2 fun w _ => (match w.d with | .int k => .pu (vb (ψ j k)) | _ => .no) else .pu (vb false)
  | _, _ => .no := rfl
@[simp] theorem e_soft {is : List Nat} : soft is a ρ = match a (thin 0 is ρ) with
  | .no => .no
  | .ok x none => if x.plain = true then .pu x else fz 0 is a ρ
  | _ => fz 0 is a ρ := rfl
@[simp] theorem e_yes : yes ρ = .ok true none := (rfl)
@[simp] theorem e_retN : retN ρ = .ret (0, .non) ρ := (rfl)
@[simp] theorem e_byK {is js : List Nat} {f : List PV → RF} {p : List PV} : byK is js f p = (f (sel is p)).outBy js := (rfl)
@[simp] theorem e_sel0 {α : Type} {l : List α} : sel [] l = [] := (rfl)
@[simp] theorem e_sel1 {α : Type} {is : List Nat} {l : List α} : sel (i :: is) l = match l[i]? with
    | some x => x :: sel is l
    | none => sel is l := rfl
@[simp] theorem e_outBy {js : List Nat} {r : PV} {out : Env} : (RF.ok r out).outBy js = .ok r (sel js out) := (rfl)
@[simp] theorem e_tstb {p : Bool} {m : Nat} {q : Bool} : blOf (VV.d ⟨p, m, .bl q⟩) = some q := (rfl)
/-! kernels -/
@[simp] theorem e_lenL {p : Bool} {m : Nat} {l : List D} : kLen [⟨p, m, .lst l⟩] = some (vi l.length) := (rfl)
@[simp] theorem e_lenT {p : Bool} {m : Nat} {l : List D} : kLen [⟨p, m, .tup l⟩] = some (vi l.length) := (rfl)
@[simp] theorem e_isi {p : Bool} {m : Nat} {t : Ty} {d : D} : kIsi t ⟨p, m, d⟩ = (d.isTy t).map vb := (rfl)
@[simp] theorem e_tyInt {t : Ty} {i : Int} : D.isTy t (.int i) = some (match t with | .int => true | _ => false) := (rfl)
@[simp] theorem e_tyBl {t : Ty} {i : Bool} : D.isTy t (.bl i) = some (match t with | .int => true | .bool => true | _ => false) := (rfl)
@[simp] theorem e_tyStr {t : Ty} {i : Str} : D.isTy t (.str i) = some (match t with | .str => true | _ => false) := (rfl)
@[simp] theorem e_tyNon {t : Ty} : D.isTy t .non = some false := (rfl)
@[simp] theorem e_tyLst {t : Ty} {l : List D} : D.isTy t (.lst l) = some (match t with | .list => true | _ => false) := (rfl)
@[simp] theorem e_tyTup {t : Ty} {l : List D} : D.isTy t (.tup l) = some (match t with | .tuple => true | _ => false) := (rfl)
@[simp] theorem e_tyDic {t : Ty} {q : Bool} {l : List (D × D)} : D.isTy t (.dic q l) = some (match t with | .dict => true | _ => false) := (rfl)
@[simp] theorem e_isN {p q : Bool} {m n : Nat} {d : D} : kIs ⟨p, m, d⟩ ⟨q, n, .non⟩ = some (vb d.isNon) := (rfl)
@[simp] theorem e_isnotN {p q : Bool} {m n : Nat} {d : D} : kIsNot ⟨p, m, d⟩ ⟨q, n, .non⟩ = some (vb (!d.isNon)) := (rfl)
@[simp] theorem e_isNonI {i : Int} : D.isNon (.int i) = false := (rfl)
@[simp] theorem e_isNonL {i : List D} : D.isNon (.lst i) = false := (rfl)
@[simp] theorem e_isNonN : D.isNon .non = true := (rfl)
@[simp] theorem e_neg {p : Bool} {m : Nat} {i : Int} : kNeg ⟨p, m, .int i⟩ = some (vi (-i)) := (rfl)
@[simp] theorem e_not {p : Bool} {m : Nat} {q : Bool} : kNot ⟨p, m, .bl q⟩ = some (vb (!q)) := (rfl)
@[simp] theorem e_max {p q : Bool} {m n : Nat} {i j : Int} : kMax [⟨p, m, .int i⟩, ⟨q, n, .int j⟩] = some (vi (if j > i then j else i)) := (rfl)
@[simp] theorem e_min {p q : Bool} {m n : Nat} {i j : Int} : kMin [⟨p, m, .int i⟩, ⟨q, n, .int j⟩] = some (vi (if j < i then j else i)) := (rfl)
theorem e_range1 {p : Bool} {m : Nat} {j : Int} (h : -(2 ^ 62) ≤ j) (h' : j < 2 ^ 62) : kR1 [⟨p, m, .int j⟩] = some (rng 0 j) := if_pos ⟨h, h'⟩
theorem e_range2 {p q : Bool} {m n : Nat} {i j : Int} (h1 : -(2 ^ 62) ≤ i) (h2 : i < 2 ^ 62) (h : -(2 ^ 62) ≤ j) (h' : j < 2 ^ 62) : kR2 [⟨p, m, .int i⟩, ⟨q, n, .int j⟩] = some (rng i j) := if_pos ⟨h1, h2, h, h'⟩
theorem e_listRange {p : Bool} {m : Nat} {j : Int} (h : -(2 ^ 62) ≤ j) (h' : j ≤ 16777216) : kRange [⟨p, m, .int j⟩] = some ⟨false, 1, .lst (rng 0 j)⟩ := if_pos ⟨h, h'⟩
@[simp] theorem e_kLo {m : Nat} {l : List D} : kL ⟨false, m, .lst l⟩ = some l := (rfl)
@[simp] theorem e_kL0 {p : Bool} {l : List D} : kL ⟨p, 0, .lst l⟩ = some l := if_pos (.inr rfl)
@[simp] theorem e_kTo {m : Nat} {l : List D} : kT ⟨false, m, .tup l⟩ = some l := (rfl)
@[simp] theorem e_kE0 {p : Bool} {l : List D} : kE [⟨p, 0, .lst l⟩] = some (enumD 0 l) := if_pos (.inr rfl)
@[simp] theorem e_kEo {m : Nat} {l : List D} : kE [⟨false, m, .lst l⟩] = some (enumD 0 l) := (rfl)
@[simp] theorem e_rng {i : Int} {n : Nat} (h : n ≤ 100) : True := trivial
theorem e_append {m : Nat} {l : List D} {x : VV} (h : x.stable = true) (h2 : l.length < lim) : rAppend (m + 1, .lst l) [x] = some (vn, ((if x.d.imm = true then m else min m x.m) + 1, .lst (l ++ [x.d]))) := if_pos ⟨h, h2⟩
theorem lim_num : lim = 16777216 := rfl
theorem e_kept {x : VV} (h : x.stable = true) : x.kept = some (x.m, x.d) := by unfold VV.kept; rw [if_pos h]
@[simp] theorem e_keptI {p : Bool} {m : Nat} {i : Int} : VV.kept ⟨p, m, .int i⟩ = some (m, .int i) := kept_bint _ _ _ rfl
@[simp] theorem e_keptB {p : Bool} {m : Nat} {i : Bool} : VV.kept ⟨p, m, .bl i⟩ = some (m, .bl i) := kept_bint _ _ _ rfl
@[simp] theorem e_keptS {p : Bool} {m : Nat} {i : Str} : VV.kept ⟨p, m, .str i⟩ = some (m, .str i) := kept_bint _ _ _ rfl
@[simp] theorem e_keptN {p : Bool} {m : Nat} : VV.kept ⟨p, m, .non⟩ = some (m, .non) := kept_bint _ _ _ rfl
@[simp] theorem e_stableI {p : Bool} {m : Nat} {i : Int} : VV.stable ⟨p, m, .int i⟩ = true := stable_imm _ _ _ rfl
@[simp] theorem e_stableB {p : Bool} {m : Nat} {i : Bool} : VV.stable ⟨p, m, .bl i⟩ = true := stable_imm _ _ _ rfl
@[simp] theorem e_stableS {p : Bool} {m : Nat} {i : Str} : VV.stable ⟨p, m, .str i⟩ = true := stable_imm _ _ _ rfl
@[simp] theorem e_stableN {p : Bool} {m : Nat} : VV.stable ⟨p, m, .non⟩ = true := stable_imm _ _ _ rfl
@[simp] theorem e_openO {m : Nat} {d : D} : VV.open ⟨false, m, d⟩ := .inl rfl
@[simp] theorem e_open0 {p : Bool} {d : D} : VV.open ⟨p, 0, d⟩ := .inr (Nat.zero_le _)
@[simp] theorem e_open1 {p : Bool} {d : D} : VV.open ⟨p, 1, d⟩ := .inr (Nat.le_refl _)
@[simp] theorem e_wipe0 : wipeE [] ρ = ρ := (rfl)
@[simp] theorem e_wipe1 {is : List Nat} : wipeE (i :: is) ρ = wipeE is (put ρ i none) := (rfl)
end
/-! ### what may be compared, written -/
/-- of a bounded size, no dict in it -/
structure Nice (k j : Nat) (d : D) : Prop where
  fl : d.flat = true
  cl : d.py.canLay0 = true
  dp : d.py.depth ≤ j
  bk : d.py.bulk ≤ k
  lv : d.py.leavesShort 100 = true
  sh : d.py.showable = true
structure NiceAll (k j : Nat) (l : List D) : Prop where
  fl : flatAll l = true
  cl : PyData.canLayAll0 (pyAll l) = true
  dp : PyData.depthAll (pyAll l) ≤ j
  bk : PyData.bulkAll (pyAll l) ≤ k
  lv : PyData.leavesShortAll 100 (pyAll l) = true
  sh : PyData.showableAll (pyAll l) = true
theorem Nice.le {k j k' j' : Nat} {d : D} (h : Nice k j d) (hk : k ≤ k') (hj : j ≤ j') : Nice k' j' d := ⟨h.fl, h.cl, Nat.le_trans h.dp hj, Nat.le_trans h.bk hk, h.lv, h.sh⟩
theorem Nice.non : Nice 0 0 .non := ⟨rfl, rfl, Nat.le_refl _, Nat.le_refl _, rfl, rfl⟩
theorem Nice.bl (b : Bool) : Nice 0 0 (.bl b) := ⟨rfl, rfl, Nat.le_refl _, Nat.le_refl _, rfl, rfl⟩
theorem Nice.int {i : Int} (h : i.natAbs < 10 ^ 90) : Nice 0 0 (.int i) := by
  refine ⟨rfl, rfl, Nat.le_refl _, Nat.le_refl _, ?_, ?_⟩
  rotate_left
  · show PyData.showable (.int i) = true
    rw [PyData.showable.eq_4]
    refine decide_eq_true ?_
    by_cases z : i.natAbs = 0
    · rw [z]; decide
    · rw [Nat.log2_lt z]
      exact Nat.lt_of_lt_of_le h (Nat.le_trans (by decide : 10 ^ 90 ≤ 2 ^ 300) (Nat.pow_le_pow_right (by decide) (by decide)))
  have h2 := PySem.int_text_length_le10 (a := i) (k := 90) (by decide) h
  have h1 : (PyData.shown (.int i)).length ≤ 100 := by
    rw [PyData.shown.eq_3]
    have e : (PySem.Str.ofString (toString i)).length = (toString i).length := PySem.ofString_length _
    omega
  show PyData.leavesShort 100 (.int i) = true
  unfold PyData.leavesShort
  exact decide_eq_true h1
theorem NiceAll.nil {k j : Nat} : NiceAll k j [] := ⟨rfl, rfl, Nat.zero_le _, Nat.zero_le _, rfl, rfl⟩
theorem NiceAll.cons {k j k' : Nat} {d : D} {l : List D} (h : Nice k j d) (g : NiceAll k' j l) : NiceAll (k + 1 + k') j (d :: l) := by
  obtain ⟨a1, a2, a3, a4, a5, a6⟩ := h
  obtain ⟨b1, b2, b3, b4, b5, b6⟩ := g
  refine ⟨by unfold flatAll; simp [a1, b1], ?_, ?_, ?_, ?_, ?_⟩
  · simp only [pyAll, PyData.canLayAll0, a2, b2, Bool.and_true]
  · simp only [pyAll, PyData.depthAll]; omega
  · simp only [pyAll, PyData.bulkAll]; omega
  · simp only [pyAll, PyData.leavesShortAll, a5, b5, Bool.and_true]
  · simp only [pyAll, PyData.showableAll, a6, b6, Bool.and_true]
theorem NiceAll.of {k j : Nat} : ∀ {l : List D}, (∀ d ∈ l, Nice k j d) → NiceAll ((k + 1) * l.length) j l
  | [], _ => .nil
  | d :: l, h => by
    have := NiceAll.cons (h d (List.mem_cons_self ..)) (NiceAll.of (l := l) fun e he => h e (List.mem_cons_of_mem _ he))
    rw [show k + 1 + (k + 1) * l.length = (k + 1) * (d :: l).length by rw [List.length_cons, Nat.mul_succ]; omega] at this
    exact this
theorem NiceAll.lst {k j : Nat} {l : List D} (h : NiceAll k j l) : Nice k (j + 1) (.lst l) := by
  obtain ⟨b1, b2, b3, b4, b5, b6⟩ := h
  refine ⟨by unfold D.flat; exact b1, ?_, ?_, ?_, ?_, ?_⟩
  · simp only [D.py, PyData.canLay0, b2]
  · simp only [D.py, PyData.depth]; omega
  · simp only [D.py, PyData.bulk]; omega
  · simp only [D.py, PyData.leavesShort, b5]
  · simp only [D.py, PyData.showable, b6]
theorem NiceAll.tup {k j : Nat} {l : List D} (h : NiceAll k j l) : Nice k (j + 1) (.tup l) := by
  obtain ⟨b1, b2, b3, b4, b5, b6⟩ := h
  refine ⟨by unfold D.flat; exact b1, ?_, ?_, ?_, ?_, ?_⟩
  · simp only [D.py, PyData.canLay0, b2]
  · simp only [D.py, PyData.depth]; omega
  · simp only [D.py, PyData.bulk]; omega
  · simp only [D.py, PyData.leavesShort, b5]
  · simp only [D.py, PyData.showable, b6]
theorem Nice.lstOf {k j n : Nat} {l : List D} (h : ∀ d ∈ l, Nice k j d) (hn : l.length ≤ n) : Nice ((k + 1) * n) (j + 1) (.lst l) := (NiceAll.of h).lst.le (Nat.mul_le_mul_left _ hn) (Nat.le_refl _)
theorem Nice.tupOf {k j n : Nat} {l : List D} (h : ∀ d ∈ l, Nice k j d) (hn : l.length ≤ n) : Nice ((k + 1) * n) (j + 1) (.tup l) := (NiceAll.of h).tup.le (Nat.mul_le_mul_left _ hn) (Nat.le_refl _)
theorem Nice.dnat {n : Nat} {l : List Nat} (h : ∀ i ∈ l, i < 10 ^ 90) (hn : l.length ≤ n) : Nice n 1 (.lst (dnat l)) := by
  have := Nice.lstOf (k := 0) (j := 0) (n := n) (l := Vs.dnat l) (fun d hd => by
    unfold Vs.dnat at hd
    obtain ⟨i, hi, rfl⟩ := List.mem_map.mp hd
    exact .int (by have := h i hi; omega)) (by rw [dnat_length]; exact hn)
  rw [Nat.zero_add, Nat.one_mul] at this
  exact this
theorem Nice.shp {k j : Nat} {d : D} (h : Nice k j d) (hj : j ≤ 64) : d.shp = true := by
  unfold D.shp PySem.SeqAt.shaped
  rw [h.fl, h.cl, Bool.true_and, Bool.true_and]
  exact decide_eq_true (Nat.le_trans h.dp hj)
theorem Nice.shw {k j : Nat} {d : D} (h : Nice k j d) (hk : k ≤ 100000) (hj : j ≤ 60) : d.shw = true := by
  unfold D.shw
  have h1 := PyData.shown_le_bulk 100 (by decide) d.py h.lv
  have h2 := h.bk
  rw [h.fl, h.sh, Bool.true_and, decide_eq_true (show d.py.shown.length ≤ lim by rw [lim_num]; omega), Bool.true_and]
  exact decide_eq_true (Nat.le_trans h.dp hj)
mutual
theorem D.eqv_refl : ∀ d : D, d.flat = true → PyData.eqv d.py d.py = true
  | .non, _ => rfl
  | .bl b, _ => by simp [D.py, PyData.eqv]
  | .int i, _ => by simp [D.py, PyData.eqv]
  | .str s, _ => by simp [D.py, PyData.eqv]
  | .lst l, h => by
    simp only [D.py, PyData.eqv]
    exact eqvAll_refl l (by simpa [D.flat] using h)
  | .tup l, h => by
    simp only [D.py, PyData.eqv]
    exact eqvAll_refl l (by simpa [D.flat] using h)
  | .dic _ l, h => by simp [D.flat] at h
  | .ins c l, h => by simp [D.flat] at h
theorem eqvAll_refl : ∀ l : List D, flatAll l = true → PyData.eqvAll (pyAll l) (pyAll l) = true
  | [], _ => rfl
  | d :: l, h => by
    unfold flatAll at h
    rw [Bool.and_eq_true] at h
    simp only [pyAll, PyData.eqvAll, D.eqv_refl d h.1, eqvAll_refl l h.2, Bool.and_true]
end
theorem strs2_self {d : D} : strs2 d d = none ∨ strs2 d d = some true := by
  cases d with
  | str a => right; unfold strs2; simp
  | _ => left; rfl
theorem e_eqSame {p q : Bool} {m n : Nat} {d : D} (h : d.shp = true) : kEq ⟨p, m, d⟩ ⟨q, n, d⟩ = some (vb true) := by
  unfold kEq
  rcases strs2_self (d := d) with e | e
  · simp only [e]
    rw [if_pos ⟨h, h⟩]
    have : d.eqv d = true := D.eqv_refl d (by unfold D.shp at h; rw [Bool.and_eq_true] at h; exact h.1)
    rw [this]
  · simp only [e]
theorem e_neSame {p q : Bool} {m n : Nat} {d : D} (h : d.shp = true) : kNe ⟨p, m, d⟩ ⟨q, n, d⟩ = some (vb false) := by
  unfold kNe
  rcases strs2_self (d := d) with e | e
  · simp only [e]
    rw [if_pos ⟨h, h⟩]
    have : d.eqv d = true := D.eqv_refl d (by unfold D.shp at h; rw [Bool.and_eq_true] at h; exact h.1)
    rw [this]
    rfl
  · simp only [e]
    rfl
@[simp] theorem e_eqStr {p q : Bool} {m n : Nat} {a b : Str} : kEq ⟨p, m, .str a⟩ ⟨q, n, .str b⟩ = some (vb (decide (a = b))) := (rfl)
@[simp] theorem e_neStr {p q : Bool} {m n : Nat} {a b : Str} : kNe ⟨p, m, .str a⟩ ⟨q, n, .str b⟩ = some (vb (!decide (a = b))) := (rfl)
@[simp] theorem eqv_ints {i j : Int} : D.eqv (.int i) (.int j) = decide (i = j) := by
  unfold D.eqv
  simp only [D.py, PyData.eqv]
  rfl
@[simp] theorem e_eqI {p q : Bool} {m n : Nat} {i j : Int} : kEq ⟨p, m, .int i⟩ ⟨q, n, .int j⟩ = some (vb (decide (i = j))) := by
  show (if D.shp (.int i) = true ∧ D.shp (.int j) = true then some (vb (D.eqv (.int i) (.int j))) else none) = _
  rw [if_pos ⟨rfl, rfl⟩, eqv_ints]
@[simp] theorem e_neI {p q : Bool} {m n : Nat} {i j : Int} : kNe ⟨p, m, .int i⟩ ⟨q, n, .int j⟩ = some (vb (!decide (i = j))) := by
  show (if D.shp (.int i) = true ∧ D.shp (.int j) = true then some (vb (!D.eqv (.int i) (.int j))) else none) = _
  rw [if_pos ⟨rfl, rfl⟩, eqv_ints]

mutual
/-- no bools in it -/
def D.nb : D → Bool
  | .bl _ => false | .lst l => nbAll l | .tup l => nbAll l | .dic _ _ => false | .ins _ _ => false
  | .non => true | .int _ => true | .str _ => true
def nbAll : List D → Bool
  | [] => true | d :: l => d.nb && nbAll l
end
mutual
theorem D.eqv_eq : ∀ {d e : D}, d.nb = true → e.nb = true → PyData.eqv d.py e.py = true → d = e
  | .non, e, _, h, g => by cases e <;> first | rfl | (simp [D.py, PyData.eqv] at g; done) | (simp [D.nb] at h; done)
  | .bl b, _, h, _, _ => by simp [D.nb] at h
  | .int i, e, _, h, g => by
    cases e with
    | int j => simp [D.py, PyData.eqv] at g; rw [g]
    | bl b => simp [D.nb] at h
    | dic l => simp [D.nb] at h
    | ins c l => simp [D.nb] at h
    | _ => simp [D.py, PyData.eqv] at g
  | .str i, e, _, h, g => by
    cases e with
    | str j => simp [D.py, PyData.eqv] at g; rw [g]
    | bl b => simp [D.nb] at h
    | dic l => simp [D.nb] at h
    | ins c l => simp [D.nb] at h
    | _ => simp [D.py, PyData.eqv] at g
  | .lst i, e, h', h, g => by
    cases e with
    | lst j =>
      simp only [D.py, PyData.eqv] at g
      rw [eqvAll_eq (by simpa [D.nb] using h') (by simpa [D.nb] using h) g]
    | bl b => simp [D.nb] at h
    | dic l => simp [D.nb] at h
    | ins c l => simp [D.nb] at h
    | _ => simp [D.py, PyData.eqv] at g
  | .tup i, e, h', h, g => by
    cases e with
    | tup j =>
      simp only [D.py, PyData.eqv] at g
      rw [eqvAll_eq (by simpa [D.nb] using h') (by simpa [D.nb] using h) g]
    | bl b => simp [D.nb] at h
    | dic l => simp [D.nb] at h
    | ins c l => simp [D.nb] at h
    | _ => simp [D.py, PyData.eqv] at g
  | .dic _ l, _, h, _, _ => by simp [D.nb] at h
  | .ins c l, _, h, _, _ => by simp [D.nb] at h
theorem eqvAll_eq : ∀ {l k : List D}, nbAll l = true → nbAll k = true → PyData.eqvAll (pyAll l) (pyAll k) = true → l = k
  | [], [], _, _, _ => rfl
  | [], _ :: _, _, _, g => by simp [pyAll, PyData.eqvAll] at g
  | _ :: _, [], _, _, g => by simp [pyAll, PyData.eqvAll] at g
  | d :: l, e :: k, h, h', g => by
    unfold nbAll at h h'
    rw [Bool.and_eq_true] at h h'
    simp only [pyAll, PyData.eqvAll, Bool.and_eq_true] at g
    rw [D.eqv_eq h.1 h'.1 g.1, eqvAll_eq h.2 h'.2 g.2]
end
theorem eqv_iff {d e : D} (h : d.nb = true) (h' : e.nb = true) (hf : d.flat = true) : d.eqv e = true ↔ d = e :=
  ⟨D.eqv_eq h h', fun g => by subst g; exact D.eqv_refl d hf⟩
theorem nb_dnat (l : List Nat) : (D.lst (dnat l)).nb = true := by
  simp only [D.nb]
  induction l with
  | nil => rfl
  | cons a l ih => simp only [dnat_cons, nbAll, D.nb, ih, Bool.and_true]
theorem flat_dnat (l : List Nat) : (D.lst (dnat l)).flat = true := by
  simp only [D.flat]
  induction l with
  | nil => rfl
  | cons a l ih => simp only [dnat_cons, flatAll, D.flat, ih, Bool.and_true]
theorem dnat_inj {l k : List Nat} (h : dnat l = dnat k) : l = k := by
  induction l generalizing k with
  | nil => cases k with
    | nil => rfl
    | cons b k => cases h
  | cons a l ih => cases k with
    | nil => cases h
    | cons b k =>
      rw [dnat_cons, dnat_cons] at h
      injection h with h1 h2
      injection h1 with h1
      rw [ih h2, Int.ofNat_inj.mp h1]
theorem eqv_dnat {l k : List Nat} : D.eqv (.lst (dnat l)) (.lst (dnat k)) = decide (l = k) := by
  by_cases h : l = k
  · subst h
    rw [decide_eq_true rfl]
    exact D.eqv_refl _ (flat_dnat l)
  · rw [decide_eq_false h]
    cases q : D.eqv (.lst (dnat l)) (.lst (dnat k)) with
    | false => rfl
    | true =>
      have := (eqv_iff (nb_dnat l) (nb_dnat k) (flat_dnat l)).mp q
      injection this with this
      exact absurd (dnat_inj this) h
/-! ### sorted -/
theorem sortI_is {l l' : List Int} (p : l'.Perm l) (s : l'.Pairwise (· ≤ ·)) : sortI l = l' := by
  unfold sortI
  have p2 : (l.mergeSort fun a b => decide (a ≤ b)).Perm l := List.mergeSort_perm l _
  have s2 : (l.mergeSort fun a b => decide (a ≤ b)).Pairwise fun a b => decide (a ≤ b) = true := List.pairwise_mergeSort (le := fun a b => decide (a ≤ b)) (fun a b c h1 h2 => by simp at *; omega) (fun a b => by simp; omega) l
  exact (List.Perm.eq_of_pairwise (le := (· ≤ ·)) (fun a b _ _ h1 h2 => by omega) s (s2.imp fun h => by simpa using h) (p.trans p2.symm)).symm
theorem intsOf_dnat : ∀ l : List Nat, intsOf (dnat l) = some (l.map fun (i : Nat) => (i : Int))
  | [] => rfl
  | a :: l => by
    rw [dnat_cons, intsOf, intsOf_dnat l]
    rfl
theorem dints_nat (l : List Nat) : dints (l.map fun (i : Nat) => (i : Int)) = dnat l := by
  unfold dints dnat
  rw [List.map_map]
  rfl
theorem range_sorted (n : Nat) : (List.range n).Pairwise (· ≤ ·) := List.pairwise_lt_range.imp fun h => Nat.le_of_lt h
theorem e_sorted' {p : Bool} {m : Nat} {l l' : List Nat} (h : l'.Perm l) (hs : l'.Pairwise (· ≤ ·)) (hn : l.length < 64) : kSorted [⟨p, m, .lst (dnat l)⟩] = some ⟨false, 1, .lst (dnat l')⟩ := by
  unfold kSorted
  show ((intsOf (dnat l)).bind fun bs => if bs.length < 64 then some (⟨false, 1, .lst (dints (sortI bs))⟩ : VV) else none) = _
  rw [intsOf_dnat, Option.bind_some, if_pos (by rw [List.length_map]; exact hn)]
  rw [sortI_is (l' := l'.map fun (i : Nat) => (i : Int)) (h.map _) (List.pairwise_map.mpr (hs.imp fun h => by omega)), dints_nat]
theorem e_sorted {p : Bool} {m n : Nat} {l : List Nat} (h : l.Perm (List.range n)) (hn : n < 64) : kSorted [⟨p, m, .lst (dnat l)⟩] = some ⟨false, 1, .lst (dnat (List.range n))⟩ :=
  e_sorted' h.symm (range_sorted n) (by rw [h.length_eq, List.length_range]; exact hn)
theorem e_listRange' {p : Bool} {m : Nat} {n : Nat} (h : n ≤ 16777216) : kRange [⟨p, m, .int n⟩] = some ⟨false, 1, .lst (dnat (List.range n))⟩ := by
  rw [e_listRange (by omega) (by omega), rng_dnat]
/-! ### lists of numbers, of lists of numbers, compared -/
/-- may be compared, so deep -/
structure Shp (j : Nat) (d : D) : Prop where
  fl : d.flat = true
  cl : d.py.canLay0 = true
  dp : d.py.depth ≤ j
theorem Shp.shp {j : Nat} {d : D} (h : Shp j d) (hj : j ≤ 64 := by decide) : d.shp = true := by
  unfold D.shp PySem.SeqAt.shaped
  rw [h.fl, h.cl, Bool.true_and, Bool.true_and]
  exact decide_eq_true (Nat.le_trans h.dp hj)
theorem Shp.int {i : Int} : Shp 0 (.int i) := ⟨rfl, rfl, Nat.le_refl _⟩
theorem Shp.bl {i : Bool} : Shp 0 (.bl i) := ⟨rfl, rfl, Nat.le_refl _⟩
theorem Shp.non : Shp 0 .non := ⟨rfl, rfl, Nat.le_refl _⟩
theorem Nice.toShp {k j : Nat} {d : D} (h : Nice k j d) : Shp j d := ⟨h.fl, h.cl, h.dp⟩
theorem Shp.le {j j' : Nat} {d : D} (h : Shp j d) (hj : j ≤ j') : Shp j' d := ⟨h.fl, h.cl, Nat.le_trans h.dp hj⟩
theorem shpAll {j : Nat} : ∀ {l : List D}, (∀ d ∈ l, Shp j d) → flatAll l = true ∧ PyData.canLayAll0 (pyAll l) = true ∧ PyData.depthAll (pyAll l) ≤ j
  | [], _ => ⟨rfl, rfl, Nat.zero_le _⟩
  | d :: l, h => by
    obtain ⟨a1, a2, a3⟩ := h d (List.mem_cons_self ..)
    obtain ⟨b1, b2, b3⟩ := shpAll (l := l) fun e he => h e (List.mem_cons_of_mem _ he)
    refine ⟨by unfold flatAll; simp [a1, b1], ?_, ?_⟩
    · simp only [pyAll, PyData.canLayAll0, a2, b2, Bool.and_true]
    · simp only [pyAll, PyData.depthAll]; omega
theorem Shp.lst {j : Nat} {l : List D} (h : ∀ d ∈ l, Shp j d) : Shp (j + 1) (.lst l) := by
  obtain ⟨b1, b2, b3⟩ := shpAll h
  refine ⟨by unfold D.flat; exact b1, ?_, ?_⟩
  · simp only [D.py, PyData.canLay0, b2]
  · simp only [D.py, PyData.depth]; omega
theorem Shp.tup {j : Nat} {l : List D} (h : ∀ d ∈ l, Shp j d) : Shp (j + 1) (.tup l) := by
  obtain ⟨b1, b2, b3⟩ := shpAll h
  refine ⟨by unfold D.flat; exact b1, ?_, ?_⟩
  · simp only [D.py, PyData.canLay0, b2]
  · simp only [D.py, PyData.depth]; omega
/-- a list of numbers -/
abbrev dn (l : List Nat) : D := .lst (dnat l)
theorem Shp.dn (l : List Nat) : Shp 1 (dn l) := Shp.lst fun d hd => by
  unfold dnat at hd
  obtain ⟨i, _, rfl⟩ := List.mem_map.mp hd
  exact .int
/-- a list of lists of numbers -/
abbrev dnn (l : List (List Nat)) : D := .lst (l.map dn)
theorem Shp.dnn (l : List (List Nat)) : Shp 2 (dnn l) := Shp.lst fun d hd => by
  obtain ⟨i, _, rfl⟩ := List.mem_map.mp hd
  exact .dn i
@[simp] theorem shp_dn (l : List Nat) : D.shp (.lst (dnat l)) = true := (Shp.dn l).shp
@[simp] theorem shp_dnn (l : List (List Nat)) : D.shp (.lst (l.map dn)) = true := (Shp.dnn l).shp
@[simp] theorem shp_int (i : Int) : D.shp (.int i) = true := (rfl)
@[simp] theorem shp_non : D.shp .non = true := (rfl)
@[simp] theorem shp_bl (b : Bool) : D.shp (.bl b) = true := (rfl)
theorem e_eqDn {p q : Bool} {m n : Nat} {l k : List Nat} : kEq ⟨p, m, .lst (dnat l)⟩ ⟨q, n, .lst (dnat k)⟩ = some (vb (decide (l = k))) := by
  show (if D.shp (dn l) = true ∧ D.shp (dn k) = true then some (vb (D.eqv (dn l) (dn k))) else none) = _
  rw [if_pos ⟨shp_dn l, shp_dn k⟩, eqv_dnat]
theorem e_neDn {p q : Bool} {m n : Nat} {l k : List Nat} : kNe ⟨p, m, .lst (dnat l)⟩ ⟨q, n, .lst (dnat k)⟩ = some (vb (!decide (l = k))) := by
  show (if D.shp (dn l) = true ∧ D.shp (dn k) = true then some (vb (!D.eqv (dn l) (dn k))) else none) = _
  rw [if_pos ⟨shp_dn l, shp_dn k⟩, eqv_dnat]
theorem find_dnat {x : Nat} : ∀ {l : List Nat}, x ∈ l → (dnat l).findIdx? (fun z => z.eqv (.int x)) = some (l.idxOf x)
  | [], h => by cases h
  | a :: l, h => by
    rw [dnat_cons, List.findIdx?_cons, eqv_ints]
    by_cases e : a = x
    · subst e
      rw [decide_eq_true rfl, if_pos rfl, List.idxOf_cons_self]
    · rw [decide_eq_false (by omega), if_neg (by decide), find_dnat (l := l) ((List.mem_cons.mp h).resolve_left fun z => e z.symm), List.idxOf_cons, beq_eq_false_iff_ne.mpr e]
      rfl
theorem e_index {p q : Bool} {m n : Nat} {l : List Nat} {x : Nat} (h : x ∈ l) : kIndex ⟨p, m, .lst (dnat l)⟩ [⟨q, n, .int x⟩] = some (vi (l.idxOf x : Nat)) := by
  unfold kIndex
  simp only [shp_dn, shp_int, and_self, if_true, find_dnat h]
theorem any_dnat {x : Nat} {l : List Nat} : ((dnat l).any fun z => z.eqv (.int x)) = decide (x ∈ l) := by
  induction l with
  | nil => rfl
  | cons a l ih =>
    rw [dnat_cons, List.any_cons, ih, eqv_ints]
    by_cases e : a = x
    · subst e; simp
    · rw [decide_eq_false (by omega : ¬ (a : Int) = (x : Int)), Bool.false_or]
      congr 1
      rw [List.mem_cons]
      exact propext ⟨.inr, fun h => h.resolve_left fun z => e z.symm⟩
theorem e_in {p q : Bool} {m n : Nat} {l : List Nat} {x : Nat} : kIn ⟨p, m, .int x⟩ ⟨q, n, .lst (dnat l)⟩ = some (vb (decide (x ∈ l))) := by
  unfold kIn
  simp only [shp_dn, shp_int, and_self, if_true, any_dnat]
theorem e_notin {p q : Bool} {m n : Nat} {l : List Nat} {x : Nat} : kNotIn ⟨p, m, .int x⟩ ⟨q, n, .lst (dnat l)⟩ = some (vb (!decide (x ∈ l))) := by
  unfold kNotIn
  simp only [shp_dn, shp_int, and_self, if_true, any_dnat]
@[simp] theorem ok_match {α : Type} {b : Bool} : (if b = true then (true : Bool) else false) = b := by cases b <;> rfl
/-! ### displays -/
theorem minM_imm : ∀ {xs : List VV}, (∀ x ∈ xs, x.d.imm = true) → minM xs = none
  | [], _ => rfl
  | x :: xs, h => by
    unfold minM
    rw [if_pos (h x (List.mem_cons_self ..)), minM_imm fun y hy => h y (List.mem_cons_of_mem _ hy)]
theorem kLst_imm {xs : List VV} (h : ∀ x ∈ xs, x.d.imm = true) (hn : xs.length ≤ lim) : kLst xs = some ⟨false, 1, .lst (xs.map VV.d)⟩ := by
  unfold kLst dmode
  rw [minM_imm h, if_pos]
  refine ⟨?_, hn⟩
  rw [List.all_eq_true]
  intro x hx
  unfold VV.stable
  rw [h x hx, Bool.or_true]
theorem minM_same {n : Nat} : ∀ {xs : List VV}, xs ≠ [] → (∀ x ∈ xs, x.d.imm = false ∧ x.m = n) → minM xs = some n
  | [], h, _ => absurd rfl h
  | [x], _, h => by
    obtain ⟨h1, h2⟩ := h x (List.mem_cons_self ..)
    unfold minM
    rw [h1, if_neg (by decide), h2]
    rfl
  | x :: y :: xs, _, h => by
    obtain ⟨h1, h2⟩ := h x (List.mem_cons_self ..)
    have ih := minM_same (n := n) (xs := y :: xs) (by simp) fun z hz => h z (List.mem_cons_of_mem _ hz)
    unfold minM
    rw [h1, if_neg (by decide), ih, h2]
    simp
theorem kLst_own {n : Nat} {xs : List VV} (h0 : xs ≠ []) (h : ∀ x ∈ xs, x.d.imm = false ∧ x.m = n ∧ x.b = false) (hn : xs.length ≤ lim) : kLst xs = some ⟨false, n + 1, .lst (xs.map VV.d)⟩ := by
  unfold kLst dmode
  rw [minM_same h0 (n := n) fun x hx => ⟨(h x hx).1, (h x hx).2.1⟩, if_pos]
  refine ⟨?_, hn⟩
  rw [List.all_eq_true]
  intro x hx
  unfold VV.stable
  rw [(h x hx).2.2]
  rfl
/-- a comprehension of numbers -/
theorem kLst_nats {xs : List Nat} {m : Nat} (hn : xs.length ≤ lim) : kLst (xs.map fun (i : Nat) => (⟨false, m, .int i⟩ : VV)) = some ⟨false, 1, .lst (dnat xs)⟩ := by
  rw [kLst_imm (fun x hx => by obtain ⟨i, _, rfl⟩ := List.mem_map.mp hx; rfl) (by rw [List.length_map]; exact hn), List.map_map]
  rfl
/-- a comprehension whose items are had without changes -/
theorem compL_map {α : Type} {own : List Nat} {g : MG} {e : M} {f : α → D} {k : α → VV} : ∀ (xs : List α) (ρ : Env) (acc : List VV), (∀ x ∈ xs, ∃ ρ1, g ⟨false, 0, f x⟩ ρ = .nx ρ1 ∧ e ρ1 = .ok (k x) none ∧ (k x).stable = true) → compL own g yes e (xs.map f) ρ acc = .ok (acc ++ xs.map k) none
  | [], ρ, acc, _ => by
    rw [List.map_nil]
    unfold compL
    rw [List.map_nil, List.append_nil]
  | d :: ds, ρ, acc, h => by
    obtain ⟨ρ1, h1, h2, h3⟩ := h d (List.mem_cons_self ..)
    have ih := compL_map (own := own) (g := g) (e := e) (f := f) ds ρ (acc ++ [k d]) fun d hd => h d (List.mem_cons_of_mem _ hd)
    rw [List.map_cons]
    unfold compL
    rw [h1]
    have hy : yes ρ1 = .ok true none := rfl
    simp only [hy, now_none, h2, h3, if_true, thn_none, Option.map_none, R.aft_none, ih]
    rw [List.map_cons, List.append_assoc]
    rfl
theorem compL_nat {own : List Nat} {g : MG} {e : M} {k : Nat → Nat} {ρ : Env} (l : List Nat) (h : ∀ x ∈ l, ∃ ρ1, g (vi x) ρ = .nx ρ1 ∧ e ρ1 = .ok (vi (k x)) none) : compL own g yes e (dnat l) ρ [] = .ok ((l.map k).map fun (i : Nat) => vi i) none := by
  unfold dnat
  rw [compL_map (k := fun x => vi (k x)) l ρ [] fun x hx => by
    obtain ⟨ρ1, h1, h2⟩ := h x hx
    exact ⟨ρ1, h1, h2, rfl⟩]
  rw [List.nil_append, List.map_map]
  rfl
theorem dnat_all (l : List Nat) : (dnat l).all D.imm = true := by
  unfold dnat
  rw [List.all_map]
  exact List.all_eq_true.mpr fun _ _ => rfl
@[simp] theorem plain_dn {l : List Nat} : VV.plain ⟨false, 1, .lst (dnat l)⟩ = true := by
  unfold VV.plain
  simp [dnat_all]
@[simp] theorem e_neNil {p q : Bool} {m n : Nat} : kNe ⟨p, m, .lst []⟩ ⟨q, n, .lst []⟩ = some (vb false) := e_neSame (d := .lst []) (shp_dn [])
@[simp] theorem e_eqNil {p q : Bool} {m n : Nat} : kEq ⟨p, m, .lst []⟩ ⟨q, n, .lst []⟩ = some (vb true) := e_eqSame (d := .lst []) (shp_dn [])
theorem dnat_eraseIdx (l : List Nat) (i : Nat) : (dnat l).eraseIdx i = dnat (l.eraseIdx i) := by
  unfold dnat
  rw [List.eraseIdx_eq_take_drop_succ, List.eraseIdx_eq_take_drop_succ, List.map_append, List.map_take, List.map_drop]
theorem perm_erase {α : Type} {l : List α} {i : Nat} (h : i < l.length) : (l[i] :: l.eraseIdx i).Perm l := by
  rw [List.eraseIdx_eq_take_drop_succ]
  refine List.perm_middle.symm.trans ?_
  rw [← List.drop_eq_getElem_cons h, List.take_append_drop]
/-- a comprehension whose items change something: P, by the turn; not empty -/
theorem compL_eff1 {own : List Nat} {g : MG} {e : M} (P : Nat → Env → List VV → Prop) (ds : List D) (ρ : Env) (hne : ds ≠ [])
    (hs : ∀ i d ρ acc, ds[i]? = some d → P i ρ acc → ∃ ρ1 x ρ2, g ⟨false, 0, d⟩ ρ = .nx ρ1 ∧ e ρ1 = .ok x (some ρ2) ∧ x.stable = true ∧ P (i + 1) (wipeE own ρ2) (acc ++ [x])) (h : P 0 ρ []) :
    ∃ xs ρ', compL own g yes e ds ρ [] = .ok xs (some ρ') ∧ P ds.length ρ' xs := by
  cases ds with
  | nil => exact absurd rfl hne
  | cons d ds =>
    obtain ⟨ρ1, x, ρ2, h1, h2, h3, h4⟩ := hs 0 d ρ [] rfl h
    obtain ⟨xs, o, h5, h6⟩ := compL_eff (own := own) (g := g) (e := e) (P := fun i ρ acc => P i ρ acc) ds 1 (wipeE own ρ2) ([] ++ [x]) (fun i d' ρ acc hi hp => by
      have := hs (i + 1) d' ρ acc (by simpa using hi) (by rw [show i + 1 = 1 + i by omega]; exact hp)
      rw [show i + 1 + 1 = 1 + i + 1 by omega] at this
      exact this) h4
    refine ⟨xs, now o (wipeE own ρ2), ?_, by rw [List.length_cons, show ds.length + 1 = 1 + ds.length by omega]; exact h6⟩
    unfold compL
    rw [h1]
    have hy : yes ρ1 = .ok true none := (rfl)
    simp only [hy, now_none, h2, h3, if_true, thn_some, Option.map_some, Option.map_none, now_some, h5, R.aft_ok, none_thn]
    cases o <;> rfl
/-- a loop that goes through -/
theorem forL_inv0 {g : MG} {b : MS} (P : Nat → Env → Prop) (ds : List D) (ρ : Env) (hs : ∀ i d ρ, ds[i]? = some d → P i ρ → ∃ ρ', (g ⟨false, 0, d⟩ ρ).seq b = .nx ρ' ∧ P (i + 1) ρ') (h : P 0 ρ) : ∃ ρ', forL g b ds ρ = .nx ρ' ∧ P ds.length ρ' := by
  have := forL_inv (g := g) (b := b) (P := P) ds 0 ρ (fun i d ρ hi hp => by
    rw [Nat.zero_add] at hp ⊢
    exact hs i d ρ hi hp) h
  rw [Nat.zero_add] at this
  exact this
/-- [d] * n -/
theorem e_rep {m : Nat} {d : D} {n k : Nat} {p : Bool} (h : n ≤ 1000000) : kMul ⟨false, m + 1, .lst [d]⟩ ⟨p, k, .int n⟩ = some ⟨false, 1, .lst (List.replicate n d)⟩ := by
  unfold kMul
  simp only
  rw [if_pos (by
    refine ⟨⟨by first | trivial | rfl, by show 0 < m + 1; omega⟩, by omega, by omega, ?_⟩
    rw [lim_num, List.length_singleton]
    omega)]
  rw [Int.toNat_natCast, List.flatten_replicate_singleton]
theorem dnat_replicate (n a : Nat) : dnat (List.replicate n a) = List.replicate n (.int a) := List.map_replicate ..
theorem rng_get {a b : Int} {k : Nat} {d : D} (h : (rng a b)[k]? = some d) : d = .int (a + k) ∧ k < (b - a).toNat := by
  unfold rng at h
  rw [List.getElem?_map] at h
  by_cases hk : k < (b - a).toNat
  · rw [List.getElem?_range hk] at h
    exact ⟨(Option.some.inj h).symm, hk⟩
  · rw [List.getElem?_eq_none (by rw [List.length_range]; omega)] at h
    cases h
theorem rng_len {a b : Int} : (rng a b).length = (b - a).toNat := by unfold rng; simp
/-! ### displays, written out -/
@[simp] theorem kLst_nil : kLst [] = some ⟨false, 1, .lst []⟩ := (rfl)
@[simp] theorem kLst_cons {x : VV} {xs : List VV} : kLst (x :: xs) = if (x :: xs).all VV.stable = true ∧ (x :: xs).length ≤ 16777216 then some ⟨false, match minM (x :: xs) with | none => 1 | some n => n + 1, .lst ((x :: xs).map VV.d)⟩ else none := (rfl)
@[simp] theorem kTup_nil : kTup [] = some ⟨false, 1, .tup []⟩ := (rfl)
@[simp] theorem kTup_cons {x : VV} {xs : List VV} : kTup (x :: xs) = if (x :: xs).all VV.stable = true ∧ (x :: xs).length ≤ 16777216 then some ⟨false, match minM (x :: xs) with | none => 1 | some n => n + 1, .tup ((x :: xs).map VV.d)⟩ else none := (rfl)
@[simp] theorem minM_nil : minM [] = none := (rfl)
@[simp] theorem minM_cons {x : VV} {xs : List VV} : minM (x :: xs) = if x.d.imm = true then minM xs else some (match minM xs with | none => x.m | some n => min x.m n) := (rfl)
/-- a loop that looks for what is not right -/
theorem forL_search {g : MG} {b : MS} {P : Env → Prop} {good : D → Bool} {r : PV} : ∀ (ds : List D) (ρ : Env),
    (∀ d ∈ ds, ∀ ρ, P ρ → (good d = true → ∃ ρ', (g ⟨false, 0, d⟩ ρ).seq b = .nx ρ' ∧ P ρ') ∧ (good d = false → ∃ ρ', (g ⟨false, 0, d⟩ ρ).seq b = .ret r ρ' ∧ P ρ')) → P ρ →
    (ds.all good = true → ∃ ρ', forL g b ds ρ = .nx ρ' ∧ P ρ') ∧ (ds.all good = false → ∃ ρ', forL g b ds ρ = .ret r ρ' ∧ P ρ')
  | [], ρ, _, h => ⟨fun _ => ⟨ρ, rfl, h⟩, fun z => by cases z⟩
  | d :: ds, ρ, hs, h => by
    obtain ⟨h1, h2⟩ := hs d (List.mem_cons_self ..) ρ h
    cases e : good d with
    | true =>
      obtain ⟨ρ1, e1, p1⟩ := h1 e
      obtain ⟨i1, i2⟩ := forL_search (good := good) (r := r) ds ρ1 (fun d hd => hs d (List.mem_cons_of_mem _ hd)) p1
      unfold forL
      rw [e1]
      refine ⟨fun z => i1 ?_, fun z => i2 ?_⟩
      · rw [List.all_cons, e, Bool.true_and] at z; exact z
      · rw [List.all_cons, e, Bool.true_and] at z; exact z
    | false =>
      obtain ⟨ρ1, e1, p1⟩ := h2 e
      unfold forL
      rw [e1]
      refine ⟨fun z => ?_, fun z => ⟨ρ1, rfl, p1⟩⟩
      rw [List.all_cons, e] at z
      cases z
/-- a comprehension with a test -/
theorem compL_filt {α : Type} {own : List Nat} {g : MG} {cs : MT} {e : M} {f : α → D} {c : α → Bool} {k : α → VV} : ∀ (xs : List α) (ρ : Env) (acc : List VV),
    (∀ x ∈ xs, ∃ ρ1, g ⟨false, 0, f x⟩ ρ = .nx ρ1 ∧ cs ρ1 = .ok (c x) none ∧ (c x = true → e ρ1 = .ok (k x) none ∧ (k x).stable = true)) →
    compL own g cs e (xs.map f) ρ acc = .ok (acc ++ (xs.filter c).map k) none
  | [], ρ, acc, _ => by
    rw [List.map_nil]
    unfold compL
    rw [List.filter_nil, List.map_nil, List.append_nil]
  | d :: ds, ρ, acc, h => by
    obtain ⟨ρ1, h1, h2, h3⟩ := h d (List.mem_cons_self ..)
    rw [List.map_cons]
    unfold compL
    rw [h1]
    cases hc : c d with
    | false =>
      have ih := compL_filt (own := own) (g := g) (cs := cs) (e := e) (f := f) (c := c) (k := k) ds ρ acc fun d hd => h d (List.mem_cons_of_mem _ hd)
      simp only [h2, hc, Option.map_none, now_none, R.aft_none, ih]
      rw [List.filter_cons, if_neg (by rw [hc]; simp)]
    | true =>
      obtain ⟨h4, h5⟩ := h3 hc
      have ih := compL_filt (own := own) (g := g) (cs := cs) (e := e) (f := f) (c := c) (k := k) ds ρ (acc ++ [k d]) fun d hd => h d (List.mem_cons_of_mem _ hd)
      simp only [h2, hc, now_none, h4, h5, if_true, thn_none, Option.map_none, R.aft_none, ih]
      rw [List.filter_cons, if_pos hc, List.map_cons, List.append_assoc]
      rfl
theorem cut_to {α : Type} {l : List α} {t : Nat} : cutD l none (some (t : Int)) = l.take t := by
  unfold cutD six
  simp only [List.drop_zero, Nat.sub_zero]
  rw [if_neg (by omega), Int.toNat_natCast]
  by_cases h : t ≤ l.length
  · rw [Nat.min_eq_left h]
  · rw [Nat.min_eq_right (by omega), List.take_length, List.take_of_length_le (by omega)]
theorem cut_from {α : Type} {l : List α} {t : Nat} : cutD l (some (t : Int)) none = l.drop t := by
  unfold cutD six
  simp only
  rw [if_neg (by omega), Int.toNat_natCast]
  by_cases h : t ≤ l.length
  · rw [Nat.min_eq_left h, List.take_of_length_le (by rw [List.length_drop]; omega)]
  · rw [Nat.min_eq_right (by omega), Nat.sub_self, List.take_zero, List.drop_eq_nil_of_le (by omega)]
theorem cut_all {α : Type} {l : List α} : cutD l none none = l := by
  unfold cutD six
  simp
theorem at_mem {l : List D} {i : Nat} (h : i < l.length) : ∃ d, atD l (i : Int) = some d ∧ d ∈ l := ⟨l[i], at_nat h, List.getElem_mem h⟩
theorem e_sl {p : Bool} {m : Nat} {l : List D} {lo hi : Option Int} (h : VV.open ⟨p, m, .lst l⟩) : kSl ⟨p, m, .lst l⟩ lo hi = some ⟨false, 1, .lst (cutD l lo hi)⟩ := if_pos h
theorem e_addL {p q : Bool} {m n : Nat} {l k : List D} (h1 : VV.open ⟨p, m, .lst l⟩) (h2 : VV.open ⟨q, n, .lst k⟩) (h : l.length + k.length ≤ 16777216) : kAdd ⟨p, m, .lst l⟩ ⟨q, n, .lst k⟩ = some ⟨false, 1, .lst (l ++ k)⟩ := if_pos ⟨h1, h2, h⟩
theorem e_rev {p : Bool} {m : Nat} {l : List D} (h : VV.open ⟨p, m, .lst l⟩) : kRev ⟨p, m, .lst l⟩ = some ⟨false, 1, .lst l.reverse⟩ := if_pos h
theorem e_list {p : Bool} {m : Nat} {l : List D} (h : VV.open ⟨p, m, .lst l⟩) : kList [⟨p, m, .lst l⟩] = some ⟨false, 1, .lst l⟩ := if_pos h
theorem e_tuple {p : Bool} {m : Nat} {l : List D} (h : VV.open ⟨p, m, .lst l⟩) : kTuple [⟨p, m, .lst l⟩] = some ⟨false, 1, .tup l⟩ := if_pos h
theorem cut_mid {α : Type} {l : List α} {a b : Nat} (ha : a ≤ l.length) (hb : b ≤ l.length) : cutD l (some (a : Int)) (some (b : Int)) = (l.drop a).take (b - a) := by
  unfold cutD six
  simp only
  rw [if_neg (by omega), if_neg (by omega), Int.toNat_natCast, Int.toNat_natCast, Nat.min_eq_left ha, Nat.min_eq_left hb]
theorem dnat_take (l : List Nat) (k : Nat) : (dnat l).take k = dnat (l.take k) := List.map_take.symm
theorem dnat_drop (l : List Nat) (k : Nat) : (dnat l).drop k = dnat (l.drop k) := List.map_drop.symm
theorem dnat_reverse (l : List Nat) : (dnat l).reverse = dnat l.reverse := List.map_reverse.symm
@[simp] theorem e_ixv2 {ρ : Env} {i : Nat} {b : M} : ixv2 i b ρ = match look ρ i with
  | none => .no
  | some _ => (b ρ).bind ρ fun y ρ1 => match look ρ1 i with
    | some (m, d) => .ofO (kIx ⟨true, m, d⟩ y)
    | none => .no := (rfl)
theorem cut_last {α : Type} {l : List α} : cutD l none (some (-1)) = l.take (l.length - 1) := by
  unfold cutD six
  simp only [List.drop_zero, Nat.sub_zero]
  rw [if_pos (by decide)]
  congr 1
  omega
end Vs
set_option maxHeartbeats 4000000
/-! Vs: permutations as lists of numbers. -/
namespace Vs
/-- a permutation of so many items -/
def Pm (n : Nat) (p : List Nat) : Prop := p.Perm (List.range n)
theorem Pm.len {n : Nat} {p : List Nat} (h : Pm n p) : p.length = n := by rw [List.Perm.length_eq h, List.length_range]
theorem Pm.nodup {n : Nat} {p : List Nat} (h : Pm n p) : p.Nodup := (List.Perm.nodup_iff h).mpr List.nodup_range
theorem Pm.lt {n : Nat} {p : List Nat} (h : Pm n p) {i : Nat} (hi : i ∈ p) : i < n := List.mem_range.mp (h.mem_iff.mp hi)
theorem Pm.mem {n : Nat} {p : List Nat} (h : Pm n p) {i : Nat} (hi : i < n) : i ∈ p := h.mem_iff.mpr (List.mem_range.mpr hi)
theorem Pm.nth_lt {n : Nat} {p : List Nat} (h : Pm n p) {i : Nat} (hi : i < n) : nth p i < n := h.lt (nth_mem (by rw [h.len]; exact hi))
theorem Pm.idx_lt {n : Nat} {p : List Nat} (h : Pm n p) {i : Nat} (hi : i < n) : p.idxOf i < n := by
  have := List.idxOf_lt_length_of_mem (h.mem hi)
  rw [h.len] at this
  exact this
theorem Pm.nth_idx {n : Nat} {p : List Nat} (h : Pm n p) {i : Nat} (hi : i < n) : nth p (p.idxOf i) = i := by
  rw [nth_eq (List.idxOf_lt_length_of_mem (h.mem hi))]
  exact List.getElem_idxOf _
theorem nth_inj {p : List Nat} (h : p.Nodup) {i j : Nat} (hi : i < p.length) (hj : j < p.length) (e : nth p i = nth p j) : i = j := by
  rw [nth_eq hi, nth_eq hj] at e
  have := List.pairwise_iff_getElem.mp h
  rcases Nat.lt_trichotomy i j with z | z | z
  · exact absurd e (this i j hi hj z)
  · exact z
  · exact absurd e.symm (this j i hj hi z)
theorem Pm.idx_nth {n : Nat} {p : List Nat} (h : Pm n p) {k : Nat} (hk : k < n) : p.idxOf (nth p k) = k := by
  have hk' : k < p.length := by rw [h.len]; exact hk
  have h1 := h.nth_idx (h.nth_lt hk)
  have h2 := h.idx_lt (h.nth_lt hk)
  exact nth_inj h.nodup (by rw [h.len]; exact h2) hk' h1
theorem nth_ext {l k : List Nat} (h : l.length = k.length) (hn : ∀ i, i < l.length → nth l i = nth k i) : l = k := by
  apply List.ext_getElem h
  intro i h1 h2
  have := hn i h1
  rw [nth_eq h1, nth_eq h2] at this
  exact this
theorem nth_map {l : List Nat} {f : Nat → Nat} {i : Nat} (h : i < l.length) : nth (l.map f) i = f (nth l i) := by
  rw [nth_eq (by rw [List.length_map]; exact h), nth_eq h, List.getElem_map]
theorem nth_range {n i : Nat} (h : i < n) : nth (List.range n) i = i := by
  rw [nth_eq (by rw [List.length_range]; exact h), List.getElem_range]
theorem Pm.of {n : Nat} {p : List Nat} (hl : p.length = n) (hd : p.Nodup) (hb : ∀ i ∈ p, i < n) : Pm n p := by
  have sub : p ⊆ List.range n := fun i hi => List.mem_range.mpr (hb i hi)
  have all : ∀ j, j < n → j ∈ p := fun j hj => by
    by_cases h : j ∈ p
    · exact h
    · have : (j :: p).length ≤ (List.range n).length := List.Nodup.length_le_of_subset (List.nodup_cons.mpr ⟨h, hd⟩) fun x hx => by
        rcases List.mem_cons.mp hx with rfl | z
        · exact List.mem_range.mpr hj
        · exact sub z
      rw [List.length_cons, List.length_range] at this
      omega
  refine List.perm_iff_count.mpr fun a => ?_
  have hr := List.nodup_range (n := n)
  by_cases ha : a < n
  · rw [List.Nodup.count hd, List.Nodup.count hr, if_pos (all a ha), if_pos (List.mem_range.mpr ha)]
  · rw [List.count_eq_zero.mpr fun z => ha (hb a z), List.count_eq_zero.mpr fun z => ha (List.mem_range.mp z)]
/-- first p, then q -/
def cmp (p q : List Nat) : List Nat := p.map (nth q)
theorem cmp_len {p q : List Nat} : (cmp p q).length = p.length := List.length_map ..
theorem nth_cmp {p q : List Nat} {i : Nat} (h : i < p.length) : nth (cmp p q) i = nth q (nth p i) := nth_map h
theorem Pm.cmp {n : Nat} {p q : List Nat} (hp : Pm n p) (hq : Pm n q) : Pm n (Vs.cmp p q) := by
  have e : q = (List.range n).map (nth q) := nth_ext (by rw [List.length_map, List.length_range, hq.len]) fun i hi => by
    rw [hq.len] at hi
    rw [nth_map (by rw [List.length_range]; exact hi), nth_range hi]
  have h1 : (p.map (nth q)).Perm ((List.range n).map (nth q)) := List.Perm.map _ hp
  rw [← e] at h1
  exact h1.trans hq
theorem Pm.id (n : Nat) : Pm n (List.range n) := List.Perm.refl _
/-- backwards -/
def inv (p : List Nat) : List Nat := (List.range p.length).map fun j => p.idxOf j
theorem inv_len {p : List Nat} : (inv p).length = p.length := by unfold inv; rw [List.length_map, List.length_range]
theorem nth_inv {p : List Nat} {i : Nat} (h : i < p.length) : nth (inv p) i = p.idxOf i := by
  unfold inv
  rw [nth_map (by rw [List.length_range]; exact h), nth_range h]
theorem Pm.inv {n : Nat} {p : List Nat} (hp : Pm n p) : Pm n (Vs.inv p) := by
  refine Pm.of (by rw [inv_len, hp.len]) ?_ ?_
  · unfold Vs.inv
    refine List.Pairwise.map _ (fun a b h => h) ?_ |> fun z => z
    rw [hp.len]
    refine List.Pairwise.imp_of_mem ?_ (List.nodup_range (n := n))
    intro a b ha hb hab e
    have h1 := hp.nth_idx (List.mem_range.mp ha)
    have h2 := hp.nth_idx (List.mem_range.mp hb)
    rw [e, h2] at h1
    exact hab h1.symm
  · intro i hi
    unfold Vs.inv at hi
    obtain ⟨j, hj, rfl⟩ := List.mem_map.mp hi
    rw [hp.len] at hj
    exact hp.idx_lt (List.mem_range.mp hj)
theorem Pm.ext {n : Nat} {p q : List Nat} (hp : p.length = n) (hq : q.length = n) (h : ∀ i, i < n → nth p i = nth q i) : p = q := nth_ext (by omega) fun i hi => h i (by omega)
theorem Pm.idx_inv {n : Nat} {p : List Nat} (hp : Pm n p) {i : Nat} (hi : i < n) : (Vs.inv p).idxOf i = nth p i := by
  have h := hp.inv.idx_nth (hp.nth_lt hi)
  rw [nth_inv (by rw [hp.len]; exact hp.nth_lt hi), hp.idx_nth hi] at h
  exact h
theorem Pm.idx_cmp {n : Nat} {p q : List Nat} (hp : Pm n p) (hq : Pm n q) {i : Nat} (hi : i < n) : (Vs.cmp p q).idxOf i = p.idxOf (q.idxOf i) := by
  have h1 := hp.idx_lt (hq.idx_lt hi)
  have h := (hp.cmp hq).idx_nth h1
  rw [nth_cmp (by rw [hp.len]; exact h1), hp.nth_idx (hq.idx_lt hi), hq.nth_idx hi] at h
  exact h
theorem cmp_assoc {n : Nat} {p q r : List Nat} (hp : Pm n p) (hq : Pm n q) : cmp (cmp p q) r = cmp p (cmp q r) :=
  Pm.ext (n := n) (by rw [cmp_len, cmp_len, hp.len]) (by rw [cmp_len, hp.len]) fun i hi => by
    rw [nth_cmp (by rw [cmp_len, hp.len]; exact hi), nth_cmp (by rw [hp.len]; exact hi), nth_cmp (by rw [hp.len]; exact hi), nth_cmp (by rw [hq.len]; exact hp.nth_lt hi)]
theorem inv_inv {n : Nat} {p : List Nat} (hp : Pm n p) : inv (inv p) = p :=
  Pm.ext (n := n) (by rw [inv_len, inv_len, hp.len]) hp.len fun i hi => by
    rw [nth_inv (by rw [inv_len, hp.len]; exact hi), hp.idx_inv hi]
theorem inv_cmp {n : Nat} {p q : List Nat} (hp : Pm n p) (hq : Pm n q) : inv (cmp p q) = cmp (inv q) (inv p) :=
  Pm.ext (n := n) (by rw [inv_len, cmp_len, hp.len]) (by rw [cmp_len, inv_len, hq.len]) fun i hi => by
    rw [nth_inv (by rw [cmp_len, hp.len]; exact hi), nth_cmp (by rw [inv_len, hq.len]; exact hi), nth_inv (p := q) (by rw [hq.len]; exact hi), nth_inv (p := p) (by rw [hp.len]; exact hq.idx_lt hi), hp.idx_cmp hq hi]
theorem cmp_inv {n : Nat} {p : List Nat} (hp : Pm n p) : cmp p (inv p) = List.range n :=
  Pm.ext (n := n) (by rw [cmp_len, hp.len]) List.length_range fun i hi => by
    rw [nth_cmp (by rw [hp.len]; exact hi), nth_inv (by rw [hp.len]; exact hp.nth_lt hi), hp.idx_nth hi, nth_range hi]
theorem inv_cmp_self {n : Nat} {p : List Nat} (hp : Pm n p) : cmp (inv p) p = List.range n :=
  Pm.ext (n := n) (by rw [cmp_len, inv_len, hp.len]) List.length_range fun i hi => by
    rw [nth_cmp (by rw [inv_len, hp.len]; exact hi), nth_inv (by rw [hp.len]; exact hi), hp.nth_idx hi, nth_range hi]
theorem cmp_id {n : Nat} {p : List Nat} (hp : Pm n p) : cmp p (List.range n) = p :=
  Pm.ext (n := n) (by rw [cmp_len, hp.len]) hp.len fun i hi => by
    rw [nth_cmp (by rw [hp.len]; exact hi), nth_range (hp.nth_lt hi)]
theorem id_cmp {n : Nat} {p : List Nat} (hp : Pm n p) : cmp (List.range n) p = p :=
  Pm.ext (n := n) (by rw [cmp_len, List.length_range]) hp.len fun i hi => by
    rw [nth_cmp (by rw [List.length_range]; exact hi), nth_range hi]
/-! ### items that are moved -/
/-- each item put where p says -/
def scat {α : Type} : List Nat → List α → List α → List α
  | i :: p, x :: xs, l => scat p xs (l.set i x)
  | _, _, l => l
theorem scat_len {α : Type} : ∀ (p : List Nat) (xs l : List α), (scat p xs l).length = l.length
  | [], _, l => rfl
  | i :: p, [], l => rfl
  | i :: p, x :: xs, l => by
    unfold scat
    rw [scat_len p xs, List.length_set]
theorem scat_other {α : Type} : ∀ (p : List Nat) (xs l : List α) (j : Nat), j ∉ p → (scat p xs l)[j]? = l[j]?
  | [], _, l, _, _ => rfl
  | i :: p, [], l, _, _ => rfl
  | i :: p, x :: xs, l, j, h => by
    unfold scat
    rw [scat_other p xs _ j fun z => h (List.mem_cons_of_mem _ z), List.getElem?_set_ne fun z => h (by rw [z]; exact List.mem_cons_self ..)]
theorem scat_at {α : Type} : ∀ (p : List Nat) (xs l : List α) (k : Nat), p.Nodup → (∀ i ∈ p, i < l.length) → k < p.length → k < xs.length → (scat p xs l)[nth p k]? = xs[k]?
  | [], _, _, _, _, _, h, _ => by simp at h
  | _ :: _, [], _, _, _, _, _, h => by simp at h
  | i :: p, x :: xs, l, 0, hd, hb, _, _ => by
    unfold scat
    have hi : i < l.length := hb i (List.mem_cons_self ..)
    rw [show nth (i :: p) 0 = i from rfl, scat_other p xs _ i (List.nodup_cons.mp hd).1, List.getElem?_set_self hi]
    rfl
  | i :: p, x :: xs, l, k + 1, hd, hb, h1, h2 => by
    unfold scat
    have : nth (i :: p) (k + 1) = nth p k := rfl
    rw [this, scat_at p xs (l.set i x) k (List.nodup_cons.mp hd).2 (fun j hj => by rw [List.length_set]; exact hb j (List.mem_cons_of_mem _ hj)) (by simpa using h1) (by simpa using h2)]
    rfl
/-- where each item goes when p moves it -/
def mv {α : Type} (p : List Nat) (xs : List α) : List α := scat p xs xs
theorem mv_len {α : Type} {p : List Nat} {xs : List α} : (mv p xs).length = xs.length := scat_len _ _ _
theorem scat_get {α : Type} {n : Nat} {p : List Nat} {xs l : List α} (hp : Pm n p) (hx : xs.length = n) (hl : l.length = n) {j : Nat} : (scat p xs l)[j]? = if j < n then xs[p.idxOf j]? else none := by
  split
  · rename_i h
    have := scat_at p xs l (p.idxOf j) hp.nodup (fun i hi => by rw [hl]; exact hp.lt hi) (by rw [hp.len]; exact hp.idx_lt h) (by rw [hx]; exact hp.idx_lt h)
    rw [hp.nth_idx h] at this
    exact this
  · exact List.getElem?_eq_none (by rw [scat_len, hl]; omega)
theorem mv_get {α : Type} {n : Nat} {p : List Nat} {xs : List α} (hp : Pm n p) (hx : xs.length = n) {j : Nat} : (mv p xs)[j]? = if j < n then xs[p.idxOf j]? else none := scat_get hp hx hx
theorem scat_mv {α : Type} {n : Nat} {p : List Nat} {xs l : List α} (hp : Pm n p) (hx : xs.length = n) (hl : l.length = n) : scat p xs l = mv p xs := by
  apply List.ext_getElem?
  intro j
  rw [mv_get hp hx, scat_get hp hx hl]
theorem mv_cmp {α : Type} {n : Nat} {p q : List Nat} {xs : List α} (hp : Pm n p) (hq : Pm n q) (hx : xs.length = n) : mv q (mv p xs) = mv (cmp p q) xs := by
  apply List.ext_getElem?
  intro j
  rw [mv_get hq (mv_len.trans hx), mv_get (hp.cmp hq) hx]
  split
  · rename_i h
    rw [mv_get hp hx, if_pos (hq.idx_lt h), hp.idx_cmp hq h]
  · rfl
theorem mv_id {α : Type} {n : Nat} {xs : List α} (hx : xs.length = n) : mv (List.range n) xs = xs := by
  apply List.ext_getElem?
  intro j
  rw [mv_get (.id n) hx]
  split
  · rename_i h
    have := (Pm.id n).idx_nth h
    rw [nth_range h] at this
    rw [this]
  · rw [List.getElem?_eq_none (by omega)]
theorem mv_range {n : Nat} {p : List Nat} (hp : Pm n p) : mv p (List.range n) = inv p := by
  apply List.ext_getElem?
  intro j
  rw [mv_get hp List.length_range]
  split
  · rename_i h
    rw [List.getElem?_range (hp.idx_lt h), List.getElem?_eq_getElem (by rw [inv_len, hp.len]; exact h), ← nth_eq, nth_inv (by rw [hp.len]; exact h)]
  · rw [List.getElem?_eq_none (by rw [inv_len, hp.len]; omega)]
theorem scat_map {α β : Type} (f : α → β) : ∀ (p : List Nat) (xs l : List α), (scat p xs l).map f = scat p (xs.map f) (l.map f)
  | [], _, l => rfl
  | i :: p, [], l => rfl
  | i :: p, x :: xs, l => by
    rw [List.map_cons]
    unfold scat
    rw [scat_map f p xs, List.map_set]
theorem mv_map {α β : Type} (f : α → β) (p : List Nat) (xs : List α) : (mv p xs).map f = mv p (xs.map f) := scat_map f p xs xs
theorem scat_step {α : Type} : ∀ (k : Nat) (p : List Nat) (xs l : List α) (x : α), k < p.length → xs[k]? = some x → scat (p.take (k + 1)) xs l = (scat (p.take k) xs l).set (nth p k) x
  | 0, i :: p, y :: xs, l, x, _, h => by
    obtain rfl : y = x := by simpa using h
    rfl
  | k + 1, i :: p, y :: xs, l, x, hp, h => by
    rw [List.take_succ_cons, List.take_succ_cons]
    unfold scat
    exact scat_step k p xs _ x (by simpa using hp) (by simpa using h)
  | 0, [], _, _, _, h, _ => by simp at h
  | k + 1, [], _, _, _, h, _ => by simp at h
  | 0, _ :: _, [], _, _, _, h => by simp at h
  | k + 1, _ :: _, [], _, _, _, h => by simp at h
theorem scat_dnat (p xs l : List Nat) : scat p (dnat xs) (dnat l) = dnat (scat p xs l) := (scat_map _ p xs l).symm
end Vs
set_option maxHeartbeats 4000000
set_option exponentiation.threshold 5000
namespace Lw
open PySem Vs
/-! the source of draws of the laws 53 to 70 -/
structure Sr where
  a : Int
  b : Int
  c : Int
def Sr.D (s : Sr) : D := .lst [.int s.a, .int s.b, .int s.c]
@[simp] theorem Sr.D_imm (s : Sr) : s.D.imm = false := rfl
def mix (b c : Int) : Int := (b ^ 3 + 814736231 * (c + 1) + 11) % 100000000000000000000000000000049
/-- a draw of so many; the source behind it -/
def drI (s : Sr) (n : Nat) : Int := if 0 < s.a then s.a % n else mix s.b s.c / 100000000 % n
def dr (s : Sr) (n : Nat) : Nat := (drI s n).toNat
def nx (s : Sr) (n : Nat) : Sr := if 0 < s.a then ⟨s.a / n, s.b, s.c⟩ else ⟨s.a, mix s.b s.c, s.c + 1⟩
/-- so many draws at most -/
structure Src (N : Nat) (s : Sr) : Prop where
  b0 : 0 ≤ s.b
  b1 : s.b < 2 ^ 400
  c0 : 0 ≤ s.c
  c1 : s.c ≤ N
theorem Src.le {N M : Nat} {s : Sr} (h : Src N s) (hm : N ≤ M) : Src M s := ⟨h.b0, h.b1, h.c0, by have := h.c1; omega⟩
theorem mix_ok (b c : Int) : 0 ≤ mix b c ∧ mix b c < 100000000000000000000000000000049 := ⟨Int.emod_nonneg _ (by decide), Int.emod_lt_of_pos _ (by decide)⟩
theorem Src.nx {N : Nat} {s : Sr} (h : Src N s) (n : Nat) : Src (N + 1) (nx s n) := by
  obtain ⟨h1, h2, h3, h4⟩ := h
  have hm := mix_ok s.b s.c
  unfold Lw.nx
  split
  · exact ⟨h1, h2, h3, by show s.c ≤ _; omega⟩
  · exact ⟨hm.1, by show mix s.b s.c < (2 : Int) ^ 400; exact Int.lt_of_lt_of_le hm.2 (by decide), by show 0 ≤ s.c + 1; omega, by show s.c + 1 ≤ _; omega⟩
theorem drI_nn {s : Sr} {n : Nat} (h : 0 < n) : 0 ≤ drI s n := by
  unfold drI
  split <;> exact Int.emod_nonneg _ (by omega)
theorem drI_lt {s : Sr} {n : Nat} (h : 0 < n) : drI s n < n := by
  unfold drI
  split <;> exact Int.emod_lt_of_pos _ (by omega)
theorem dr_lt {s : Sr} {n : Nat} (h : 0 < n) : dr s n < n := by
  have := drI_nn (s := s) h
  have := drI_lt (s := s) h
  unfold dr
  omega
theorem dr_I {s : Sr} {n : Nat} (h : 0 < n) : drI s n = (dr s n : Nat) := by
  have := drI_nn (s := s) h
  unfold dr
  omega
theorem draw_eq {N : Nat} {s : Sr} {n : Nat} (h : Src N s) (hN : N < 1000000 := by omega) (hn : 0 < n := by omega) (hn2 : n < 1000000000000000000000 := by omega) : m_l_draw [(1, s.D), (0, .int n)] = .ok (0, .int (dr s n : Nat)) [some (1, (nx s n).D), some (0, .int n)] := by
  obtain ⟨h1, h2, h3, h4⟩ := h
  rw [← dr_I hn]
  obtain ⟨a, b, c⟩ := s
  have hn' : (0 : Int) < n := by omega
  have hn3 : (n : Int).natAbs < big := big_of (k := 300) (by omega) (by decide)
  by_cases ha : 0 < a
  · unfold m_l_draw b_l_draw fnM Sr.D drI nx
    simp [ha, e_modI hn', e_divI hn' hn3, nix]
  · simp only at h1 h2 h3 h4
    have b1 : (814736231 : Int).natAbs < big := small_big (by decide) (by decide)
    have b3 : (10 : Int).natAbs < big := small_big (by decide) (by decide)
    have b4 : (100000000 : Int).natAbs < big := small_big (by decide) (by decide)
    have b5 : (c + 1).natAbs < big := small_big (by omega) (by omega)
    have b6 : b.natAbs < big := big_of (k := 500) (by
      have : (b.natAbs : Int) < 2 ^ 400 := by rw [Int.natAbs_of_nonneg h1]; exact h2
      exact Nat.lt_of_lt_of_le (Int.ofNat_lt.mp (by exact_mod_cast this)) (by decide +kernel : 2 ^ 400 ≤ 2 ^ 500)) (by decide)
    unfold drI nx mix
    unfold m_l_draw b_l_draw fnM Sr.D
    simp [ha, e_modI hn', e_mulI b1 b5, e_powI b6, e_powI b3, e_modI, e_divI (by decide : (0:Int) < 100000000) b4, nix]
def srcF (x : Int) (k : Nat) : Sr := ⟨if x - 10 ^ 18 > 0 then x - 10 ^ 18 else 0, (x % 1000000000000000000000000000000000000003) ^ 3 + 6700417 * k + 223606797749978969, 0⟩
theorem srcF_ok {x : Int} {k : Nat} (hk : k < 1000) : Src 0 (srcF x k) := by
  have r1 : 0 ≤ x % 1000000000000000000000000000000000000003 ∧ x % 1000000000000000000000000000000000000003 < 1000000000000000000000000000000000000003 := ⟨Int.emod_nonneg _ (by decide), Int.emod_lt_of_pos _ (by decide)⟩
  unfold srcF
  generalize x % 1000000000000000000000000000000000000003 = y at *
  obtain ⟨y, rfl⟩ := Int.eq_ofNat_of_zero_le r1.1
  have h3 : y ^ 3 ≤ 1000000000000000000000000000000000000003 ^ 3 := Nat.pow_le_pow_left (by omega) 3
  have e : ((y : Int)) ^ 3 = ((y ^ 3 : Nat) : Int) := by rw [Int.natCast_pow]
  refine ⟨?_, ?_, Int.le_refl 0, Int.le_refl 0⟩
  · show 0 ≤ (y : Int) ^ 3 + 6700417 * k + 223606797749978969
    rw [e]; omega
  · show (y : Int) ^ 3 + 6700417 * k + 223606797749978969 < (2 : Int) ^ 400
    rw [e]
    have h4 : 1000000000000000000000000000000000000003 ^ 3 + 6700417 * 1000 + 223606797749978969 < 2 ^ 400 := by decide +kernel
    generalize hB : (2 : Int) ^ 400 = B
    have hB' : B = ((2 ^ 400 : Nat) : Int) := by rw [← hB, Int.natCast_pow]; rfl
    rw [hB']
    generalize y ^ 3 = z at *
    generalize 1000000000000000000000000000000000000003 ^ 3 = w at *
    generalize 2 ^ 400 = u at *
    omega
theorem source_eq {x : Int} {k : Nat} {m m' : Nat} (hk : k < 1000) : m_l_source [(m, .int x), (m', .int k)] = .ok (1, (srcF x k).D) [some (m, .int x), some (m', .int k)] := by
  have b3 : (10 : Int).natAbs < big := small_big (by decide) (by decide)
  have b5 : (k : Int).natAbs < big := small_big (by omega) (by omega)
  have b6 : (6700417 : Int).natAbs < big := small_big (by decide) (by decide)
  have r1 : ∀ z : Int, 0 ≤ z % 1000000000000000000000000000000000000003 ∧ z % 1000000000000000000000000000000000000003 < 1000000000000000000000000000000000000003 := fun z => ⟨Int.emod_nonneg _ (by decide), Int.emod_lt_of_pos _ (by decide)⟩
  have r2 : ∀ z : Int, (z % 1000000000000000000000000000000000000003).natAbs < big := fun z => big_of (k := 300) (by have := r1 z; omega) (by decide)
  unfold m_l_source b_l_source fnM Sr.D srcF
  simp [e_powI b3, e_powI (r2 _), e_modI, e_mulI b6 b5, kLst, VV.stable, VV.kept, dmode, minM, lim]
theorem e_popAt {m : Nat} {p : Bool} {n : Nat} {l : List Nat} {i : Nat} (h : i < l.length) (hl : l.length ≤ lim) : rPopAt (m + 1, .lst (dnat l)) [⟨p, n, .int i⟩] = some (⟨false, m, .int (nth l i : Nat)⟩, (m + 1, .lst (dnat (l.eraseIdx i)))) := by
  unfold rPopAt
  simp only [dnat_length, hl, if_true, nix_nat h, Option.bind_some, dnat_get, List.getElem?_eq_getElem h, Option.map_some, nth_eq h]
  rw [dnat_eraseIdx]
noncomputable def popC : MT := (tst (two (v 2) (argsk (args []) kLst) kNe) blOf)
noncomputable def popB : MS := (ex (recv 3 (args [(recv 2 (args [(call m_l_draw [] [.lend 0, .val (argsk (args [(v 2)]) kLen)])]) rPopAt)]) rAppend))
theorem pop_loop {x1 : Option PV} : ∀ (k : Nat) (s : Sr) (N : Nat) (l r : List Nat), l.length = k → Src N s → N + k < 1000000 → k < 900 → r.length + k < 1000 →
    ∃ (q : List Nat) (s' : Sr), q.Perm l ∧ Src (N + k) s' ∧ whiles popC popB [some (1, s.D), x1, some (1, .lst (dnat l)), some (1, .lst (dnat r))] = .nx [some (1, s'.D), x1, some (1, .lst []), some (1, .lst (dnat (r ++ q)))]
  | 0, s, N, l, r, hl, h, hN, hk, hr => by
    obtain rfl := List.length_eq_zero_iff.mp hl
    refine ⟨[], s, .refl _, h, ?_⟩
    rw [whiles_step]
    unfold popC
    simp
  | k + 1, s, N, l, r, hl, h, hN, hk, hr => by
    have hi : dr s l.length < l.length := dr_lt (by omega)
    have e1 := draw_eq (n := l.length) h
    have h1 := h.nx l.length
    generalize dr s l.length = i at hi e1
    generalize nx s l.length = s1 at e1 h1
    obtain ⟨q, s', q1, q2, ih⟩ := pop_loop (x1 := x1) k s1 (N + 1) (l.eraseIdx i) (r ++ [nth l i]) (by rw [List.length_eraseIdx_of_lt hi]; omega) h1 (by omega) (by omega) (by rw [List.length_append]; simp; omega)
    have hne : l ≠ [] := by intro z; rw [z] at hl; simp at hl
    have e2 : kNe ⟨true, 1, .lst (dnat l)⟩ ⟨false, 1, .lst []⟩ = some (vb true) := by
      rw [← dnat_nil, e_neDn]
      simp [hne]
    have e3 : rAppend (1, .lst (dnat r)) [⟨false, 0, .int (nth l i : Nat)⟩] = some (vn, (1, .lst (dnat (r ++ [nth l i])))) := by
      rw [e_append rfl (by rw [dnat_length, lim_num]; omega), dnat_append]
      rfl
    have e4 := e_popAt (m := 0) (p := false) (n := 0) hi (by rw [lim_num]; omega)
    refine ⟨nth l i :: q, s', ?_, q2.le (by omega), ?_⟩
    · rw [nth_eq hi]
      exact (q1.cons _).trans (perm_erase hi)
    · rw [List.append_assoc] at ih
      rw [whiles_step]
      generalize hw : whiles popC popB = w at ih ⊢
      unfold popC popB
      simp only [List.singleton_append] at ih
      generalize r ++ [nth l i] = r2 at *
      generalize nth l i = z at *
      simp [e2, e1, e4, e3, ih]
theorem mixed_eq {N m : Nat} {s : Sr} {l : List Nat} (hs : Src N s) (hm : m ≤ 1) (hl : l.length < 800) (hN : N < 900000 := by omega) : ∃ (q : List Nat) (s' : Sr), q.Perm l ∧ Src (N + l.length) s' ∧ m_l_mixed [(1, s.D), (m, .lst (dnat l))] = .ok (1, .lst (dnat q)) [some (1, s'.D), some (m, .lst (dnat l))] := by
  obtain ⟨q, s', q1, q2, e⟩ := pop_loop (x1 := some (m, .lst (dnat l))) l.length s N l [] rfl hs (by omega) (by omega) (by simp; omega)
  refine ⟨q, s', q1, q2, ?_⟩
  rw [List.nil_append, dnat_nil] at e
  have h3 : m = 0 ∨ m = 1 := by omega
  unfold popC popB at e
  unfold m_l_mixed fnM b_l_mixed
  rcases h3 with rfl | rfl <;> simp [kList, e]
end Lw
set_option maxHeartbeats 4000000
namespace Lw
open PySem Vs
/-! rules; permutations told by a function -/
structure IsRule (n : Nat) (R : List (List Nat)) : Prop where
  len : R.length = n
  pm : ∀ p ∈ R, Pm n p
def rmap (n : Nat) (f : Nat → Nat) : List Nat := (List.range n).map f
theorem rmap_len {n : Nat} {f : Nat → Nat} : (rmap n f).length = n := by unfold rmap; rw [List.length_map, List.length_range]
theorem rmap_nth {n i : Nat} {f : Nat → Nat} (h : i < n) : nth (rmap n f) i = f i := by
  rw [nth_eq (by rw [rmap_len]; exact h)]
  unfold rmap
  rw [List.getElem_map, List.getElem_range]
theorem nth_set {l : List Nat} {i j w : Nat} (hi : i < l.length) : nth (l.set j w) i = if i = j then w else nth l i := by
  rw [nth_eq (by rw [List.length_set]; exact hi)]
  by_cases c : j = i
  · subst c; rw [List.getElem_set_self, if_pos rfl]
  · rw [List.getElem_set_ne c, if_neg (fun e => c e.symm), nth_eq hi]
theorem rmap_set {n j w : Nat} {f g : Nat → Nat} (h : ∀ x, x < n → g x = if x = j then w else f x) : (rmap n f).set j w = rmap n g :=
  nth_ext (by rw [List.length_set, rmap_len, rmap_len]) fun i hi => by
    rw [List.length_set, rmap_len] at hi
    rw [nth_set (by rw [rmap_len]; exact hi), rmap_nth hi, rmap_nth hi, h i hi]
theorem rmap_id (n : Nat) : List.range n = rmap n fun x => x := by unfold rmap; simp
theorem rmap_pm {n : Nat} {f : Nat → Nat} (hb : ∀ x, x < n → f x < n) (hi : ∀ x y, x < n → y < n → x < y → f x ≠ f y) : Pm n (rmap n f) := by
  refine Pm.of rmap_len ?_ ?_
  · unfold rmap
    refine List.pairwise_map.mpr ((List.pairwise_lt_range (n := n)).imp_of_mem ?_)
    intro a b ha hb hab
    exact hi a b (List.mem_range.mp ha) (List.mem_range.mp hb) hab
  · intro i h
    obtain ⟨j, hj, rfl⟩ := List.mem_map.mp h
    exact hb j (List.mem_range.mp hj)
def liftF (i g x : Nat) : Nat := if x = i then g else if i < x ∧ x ≤ g then x - 1 else x
theorem lift_pm {n i g : Nat} (hi : i ≤ g) (hg : g < n) : Pm n (rmap n (liftF i g)) := by
  refine rmap_pm (fun x hx => ?_) fun x y hx hy hxy => ?_
  · unfold liftF
    split
    · exact hg
    · split <;> omega
  · unfold liftF
    split <;> split <;> (try split) <;> (try split) <;> omega
end Lw
set_option maxHeartbeats 4000000
namespace Lw
open PySem Vs
/-! the rules of the laws 53 to 70 -/
noncomputable def upB : MS := (ex (recv 7 (args [(ift (tst (two (v 8) (v 4) kEq) blOf) (fz 0 [6] (v 6)) (two (v 8) (argsk (args [(chain (v 4) (v 8) (v 6) (fun i j => decide (i < j)) (fun i j => decide (i ≤ j)))]) kInt) kSub))]) rAppend))
theorem up_ok {n k g : Nat} {x0 x1 x2 x3 x5 x8 : Option PV} (hn : n ≤ 1000) : ∃ y8, forL (gname 8) upB (rng 0 n) [x0, x1, x2, x3, some (0, .int (k : Int)), x5, some (0, .int (g : Int)), some (1, .lst []), x8] = .nx [x0, x1, x2, x3, some (0, .int (k : Int)), x5, some (0, .int (g : Int)), some (1, .lst (dnat (rmap n (liftF k g)))), y8] := by
  obtain ⟨ρ', e, y8, rfl⟩ := forL_inv0 (g := gname 8) (b := upB) (fun i ρ => ∃ y8, ρ = [x0, x1, x2, x3, some (0, .int (k : Int)), x5, some (0, .int (g : Int)), some (1, .lst (dnat ((List.range i).map (liftF k g)))), y8]) (rng 0 n) [x0, x1, x2, x3, some (0, .int (k : Int)), x5, some (0, .int (g : Int)), some (1, .lst []), x8]
    (fun i d ρ hd h => by
      obtain ⟨y8, rfl⟩ := h
      obtain ⟨rfl, hi⟩ := rng_get hd
      have hl : (dnat ((List.range i).map (liftF k g))).length < lim := by rw [dnat_length, List.length_map, List.length_range, lim_num]; omega
      have e1 : dnat ((List.range (i + 1)).map (liftF k g)) = dnat ((List.range i).map (liftF k g)) ++ [.int (liftF k g i : Nat)] := by rw [List.range_succ, List.map_append, dnat_append]; rfl
      refine ⟨[x0, x1, x2, x3, some (0, .int (k : Int)), x5, some (0, .int (g : Int)), some (1, .lst (dnat ((List.range (i + 1)).map (liftF k g)))), some (0, .int (0 + (i : Int)))], ?_, _, rfl⟩
      rw [e1]
      generalize dnat ((List.range i).map (liftF k g)) = r at *
      have ki : ∀ a b, kInt [⟨a, b, .bl true⟩] = some (vi 1) := fun a b => rfl
      have ki0 : ∀ a b, kInt [⟨a, b, .bl false⟩] = some (vi 0) := fun a b => rfl
      unfold upB liftF
      by_cases c1 : i = k
      · subst c1
        simp [rAppend, hl]
      · have c1' : ¬ (i : Int) = k := by omega
        by_cases c2 : k < i
        · have c2' : (k : Int) < i := by omega
          by_cases c3 : i ≤ g
          · have c3' : (i : Int) ≤ g := by omega
            have e2 : ((i - 1 : Nat) : Int) = (i : Int) - 1 := by omega
            simp [c1, c1', c2, c2', c3, c3', ki, ki0, rAppend, hl, e2]
          · have c3' : ¬ (i : Int) ≤ g := by omega
            simp [c1, c1', c2, c2', c3, c3', ki, ki0, rAppend, hl]
        · have c2' : ¬ (k : Int) < i := by omega
          simp [c1, c1', c2, c2', ki, ki0, rAppend, hl]) ⟨x8, rfl⟩
  rw [rng_len, show ((n : Int) - 0).toNat = n by omega] at e
  exact ⟨y8, e⟩
noncomputable def bookB : MS := (sq (asg (call m_l_mixed [] [.lend 0, .val (one (v 1) fun x => kRange [x])]) (gname 5))
    (sq (asg (two (fz 0 [4] (v 4)) (call m_l_draw [] [.lend 0, .val (two (v 1) (v 4) kSub)]) kAdd) (gname 6))
    (sq (asg (argsk (args []) kLst) (gname 7))
    (sq (fors (itN kR1 (args [(v 1)])) (gname 8) upB)
    (ex (recv 3 (args [(two (argsk (args [(fz 0 [5] (v 5)), (fz 0 [7] (v 7)), (one (v 1) fun x => kRange [x]), (fz 0 [7] (v 7))]) kLst) (two (argsk (args [(cst (vi 0)), (cst (vi 1)), (cst (vi 2)), (call m_l_draw [] [.lend 0, .val (cst (vi 4))])]) kLst) (v 2) kIx) kIx)]) rAppend))))))
theorem book_turn {N n k w : Nat} {s : Sr} {Rd : List D} {x5 x6 x7 x8 : Option PV} (hs : Src N s) (hN : N < 500000) (hn : n ≤ 12) (hk : k < n) (hw : w < 4) (hR : Rd.length < 1000) : ∃ (p : List Nat) (s' : Sr) (y5 y6 y7 y8 : Option PV), Pm n p ∧ Src (N + 20) s' ∧
    bookB [some (1, s.D), some (0, .int (n : Int)), some (0, .int (w : Int)), some (1, .lst Rd), some (0, .int (k : Int)), x5, x6, x7, x8] = .nx [some (1, s'.D), some (0, .int (n : Int)), some (0, .int (w : Int)), some (1, .lst (Rd ++ [.lst (dnat p)])), some (0, .int (k : Int)), y5, y6, y7, y8] := by
  obtain ⟨q, s1, q1, h1, e1⟩ := mixed_eq (m := 1) (l := List.range n) hs (by omega) (by rw [List.length_range]; omega) (by omega)
  rw [List.length_range] at h1
  have d2 := draw_eq (n := n - k) h1
  have h2 := h1.nx (n - k)
  have b2 : dr s1 (n - k) < n - k := dr_lt (by omega)
  rw [show ((n - k : Nat) : Int) = (n : Int) - k by omega] at d2
  generalize dr s1 (n - k) = g at d2 b2
  generalize nx s1 (n - k) = s2 at d2 h2
  have d3 : m_l_draw [(1, s2.D), (0, .int 4)] = .ok (0, .int (dr s2 4 : Nat)) [some (1, (nx s2 4).D), some (0, .int 4)] := draw_eq (n := 4) h2
  have h3 := h2.nx 4
  have b3 : dr s2 4 < 4 := dr_lt (by decide)
  generalize dr s2 4 = u at d3 b3
  generalize nx s2 4 = s3 at d3 h3
  have hup := lift_pm (n := n) (i := k) (g := k + g) (by omega) (by omega)
  obtain ⟨y8, e4⟩ := up_ok (n := n) (k := k) (g := k + g) (x0 := some (1, s2.D)) (x1 := some (0, .int (n : Int))) (x2 := some (0, .int (w : Int))) (x3 := some (1, .lst Rd)) (x5 := some (1, .lst (dnat q))) (x8 := x8) (by omega)
  rw [show ((k + g : Nat) : Int) = (k : Int) + g by omega] at e4
  obtain ⟨di, ei, hi⟩ := at_mem (l := [.int 0, .int 1, .int 2, .int (u : Int)]) (i := w) (by simpa using hw)
  obtain ⟨i, rfl, hi4⟩ : ∃ i : Nat, di = .int (i : Int) ∧ i < 4 := by
    simp only [List.mem_cons, List.not_mem_nil, or_false] at hi
    rcases hi with rfl | rfl | rfl | rfl
    · exact ⟨0, rfl, by omega⟩
    · exact ⟨1, rfl, by omega⟩
    · exact ⟨2, rfl, by omega⟩
    · exact ⟨u, rfl, b3⟩
  generalize rmap n (liftF k (k + g)) = r at *
  obtain ⟨d, ed, hd⟩ := at_mem (l := [.lst (dnat q), .lst (dnat r), .lst (dnat (List.range n)), .lst (dnat r)]) (i := i) (by simpa using hi4)
  obtain ⟨z, rfl, hz⟩ : ∃ z, d = .lst (dnat z) ∧ Pm n z := by
    simp only [List.mem_cons, List.not_mem_nil, or_false] at hd
    rcases hd with rfl | rfl | rfl | rfl
    · exact ⟨_, rfl, q1⟩
    · exact ⟨_, rfl, hup⟩
    · exact ⟨_, rfl, Pm.id n⟩
    · exact ⟨_, rfl, hup⟩
  refine ⟨z, s3, some (0, .lst (dnat q)), some (0, .int ((k : Int) + g)), some (0, .lst (dnat r)), y8, hz, h3.le (by omega), ?_⟩
  have hR' : Rd.length < lim := by rw [lim_num]; omega
  have rg := e_listRange' (p := false) (m := 0) (n := n) (by omega)
  have rg1 := e_range1 (p := false) (m := 0) (show -(2 ^ 62) ≤ (n : Int) by omega) (show (n : Int) < 2 ^ 62 by omega)
  generalize List.range n = rn at *
  unfold bookB
  generalize upB = ub at *
  simp [e1, d2, d3, e4, ei, ed, rg, rg1, rAppend, hR', VV.stable, VV.kept]
theorem book_eq {N n : Nat} {s : Sr} (hs : Src N s) (h0 : 0 < n) (hn : n ≤ 12) (hN : N < 400000) : ∃ (R : List (List Nat)) (s' : Sr), IsRule n R ∧ Src (N + 250) s' ∧ m_l_book [(1, s.D), (0, .int (n : Int))] = .ok (1, .lst (R.map dn)) [some (1, s'.D), some (0, .int (n : Int))] := by
  have d1 : m_l_draw [(1, s.D), (0, .int 4)] = .ok (0, .int (dr s 4 : Nat)) [some (1, (nx s 4).D), some (0, .int 4)] := draw_eq (n := 4) hs
  have h1 := hs.nx 4
  have b1 : dr s 4 < 4 := dr_lt (by decide)
  generalize dr s 4 = w at d1 b1
  generalize nx s 4 = s1 at d1 h1
  obtain ⟨ρ', e, R, s', x4, x5, x6, x7, x8, rfl, q1, q2, q3⟩ := forL_inv0 (g := gname 4) (b := bookB) (fun k ρ => ∃ (R : List (List Nat)) (s' : Sr) (x4 x5 x6 x7 x8 : Option PV), ρ = [some (1, s'.D), some (0, .int (n : Int)), some (0, .int (w : Int)), some (1, .lst (R.map dn)), x4, x5, x6, x7, x8] ∧ R.length = k ∧ (∀ p ∈ R, Pm n p) ∧ Src (N + 1 + 20 * k) s')
    (rng 0 n) [some (1, s1.D), some (0, .int (n : Int)), some (0, .int (w : Int)), some (1, .lst []), none, none, none, none, none]
    (fun k d ρ hd h => by
      obtain ⟨R, s', x4, x5, x6, x7, x8, rfl, q1, q2, q3⟩ := h
      obtain ⟨rfl, hk⟩ := rng_get hd
      obtain ⟨p, s2, y5, y6, y7, y8, hp, h2, e⟩ := book_turn (w := w) (x5 := x5) (x6 := x6) (x7 := x7) (x8 := x8) (Rd := R.map dn) (k := k) q3 (by omega) hn (by omega) b1 (by rw [List.length_map]; omega)
      refine ⟨_, by simp only [e_gname, e_keptI, seq_nx, put_z, put_s, Int.zero_add]; exact e, R ++ [p], s2, some (0, .int k), y5, y6, y7, y8, by simp, by simp [q1], ?_, h2.le (by omega)⟩
      intro p' hp'
      rcases List.mem_append.mp hp' with z | z
      · exact q2 p' z
      · rw [List.mem_singleton.mp z]; exact hp) ⟨[], s1, none, none, none, none, none, rfl, rfl, by simp, h1⟩
  rw [rng_len, show ((n : Int) - 0).toNat = n by omega] at q1 q3
  refine ⟨R, s', ⟨q1, q2⟩, q3.le (by omega), ?_⟩
  have rg1 := e_range1 (p := false) (m := 0) (show -(2 ^ 62) ≤ (n : Int) by omega) (show (n : Int) < 2 ^ 62 by omega)
  unfold bookB upB at e
  unfold m_l_book fnM b_l_book
  simp [d1, rg1, e]
end Lw
set_option maxHeartbeats 4000000
namespace Lw
open PySem Vs
/-! is_integer, is_permutation_of -/
theorem isint_eq {m : Nat} {i : Int} : m_p_is_integer [(m, .int i), (0, .non), (0, .non)] = .ok (0, .bl true) [some (m, .int i), some (0, .non), some (0, .non)] := by
  unfold m_p_is_integer fnM b_p_is_integer
  simp
theorem blsOf_all {n : Nat} : blsOf (List.replicate n (.bl true)) = some (List.replicate n true) := by
  induction n with
  | zero => rfl
  | succ n ih => rw [List.replicate_succ, blsOf, ih, List.replicate_succ]; rfl
theorem kAll_true {p : Bool} {m n : Nat} : kAll [⟨p, m, .lst (List.replicate n (.bl true))⟩] = some (vb true) := by
  unfold kAll
  show (blsOf (List.replicate n (.bl true))).map _ = _
  rw [blsOf_all]
  simp
theorem allint_eq {l : List Nat} {a1 : Option PV} (hn : l.length ≤ 16777216) : compL [2] (gname 2) yes (call m_p_is_integer [(0, .non), (0, .non)] [.lend 2]) (dnat l) [some (0, .lst (dnat l)), a1, none] [] = .ok (List.replicate l.length (vb true)) none := by
  unfold dnat
  rw [compL_map (k := fun _ => vb true) l _ _ fun i hi => ⟨_, rfl, by simp [isint_eq], rfl⟩, List.nil_append, List.map_const']
theorem kLst_bls {n : Nat} {b : Bool} (hn : n ≤ 16777216) : kLst (List.replicate n (vb b)) = some ⟨false, 1, .lst (List.replicate n (.bl b))⟩ := by
  rw [kLst_imm (fun x hx => by rw [(List.mem_replicate.mp hx).2]; rfl) (by rw [List.length_replicate, lim_num]; omega), List.map_replicate]
theorem plain_bls {n : Nat} {b : Bool} : VV.plain ⟨false, 1, .lst (List.replicate n (.bl b))⟩ = true := by
  unfold VV.plain
  simp
theorem isperm_eq {m n : Nat} {p : List Nat} (h : Pm n p) (hn : n < 60) : m_p_is_permutation_of [(m, .lst (dnat p)), (0, .int n)] = .ok (0, .bl true) [some (m, .lst (dnat p)), some (0, .int n)] := by
  have hl := h.len
  have e1 := allint_eq (l := p) (a1 := some (0, .int n)) (by omega)
  rw [hl] at e1
  unfold m_p_is_permutation_of fnM b_p_is_permutation_of
  simp [hl, e1, kLst_bls (show n ≤ 16777216 by omega), plain_bls, kAll_true, e_sorted h (show n < 64 by omega), e_listRange' (show n ≤ 16777216 by omega), e_eqDn]
end Lw
set_option maxHeartbeats 4000000
namespace Lw
open PySem Vs
theorem dnat_at {l : List Nat} {k : Nat} {d : D} (h : (dnat l)[k]? = some d) : k < l.length ∧ d = .int (nth l k : Nat) := by
  have hk : k < l.length := by
    have := (List.getElem?_eq_some_iff.mp h).1
    rwa [dnat_length] at this
  refine ⟨hk, ?_⟩
  rw [dnat_get, List.getElem?_eq_getElem hk] at h
  rw [nth_eq hk]
  exact (Option.some.inj h).symm
end Lw
set_option maxHeartbeats 4000000
namespace Lw
open PySem Vs
/-! blocks, rules and rows are checked; rows are moved -/
structure Row (n : Nat) (L : List Nat) : Prop where
  len : L.length = n
  nd : L.Nodup
  le : ∀ x ∈ L, x ≤ 1000000000
theorem nth_take {l : List Nat} {k : Nat} (h : l.Nodup) (hk : k < l.length) : nth l k ∉ l.take k := by
  intro hm
  obtain ⟨j, hj, e⟩ := List.mem_iff_getElem.mp hm
  rw [List.length_take] at hj
  rw [List.getElem_take] at e
  have := nth_inj h (i := j) (j := k) (by omega) hk (by rw [nth_eq (by omega)]; exact e)
  omega
theorem enumD_at : ∀ (ds : List D) (n i : Nat), (enumD n ds)[i]? = ds[i]?.map fun d => .tup [.int ((n + i : Nat) : Int), d]
  | [], n, i => by simp [enumD]
  | d :: ds, n, 0 => by simp [enumD]
  | d :: ds, n, i + 1 => by
    show (enumD (n + 1) ds)[i]? = ds[i]?.map _
    rw [enumD_at ds (n + 1) i]
    congr 1
    funext d
    rw [show n + 1 + i = n + (i + 1) by omega]
noncomputable def ruleB : MS := (ifs (tnot (tst (call m_p_is_permutation_of [] [.lend 2, .val (argsk (args [(v 0)]) kLen)]) blOf)) (fun _ => .no) skip)
theorem check_rule_eq {m n : Nat} {R : List (List Nat)} (hl : R.length = n) (hp : ∀ p ∈ R, Pm n p) (h2 : 2 ≤ n) (hn : n ≤ 12) : m_p_check_rule [(m, .lst (R.map dn))] = .ok (0, .non) [some (0, .lst (R.map dn))] := by
  have hll : (R.map dn).length = n := by rw [List.length_map, hl]
  obtain ⟨ρ', e1, x1, x2, rfl⟩ := forL_inv0 (g := gtup [(gname 1), (gname 2)]) (b := ruleB) (fun k ρ => ∃ x1 x2, ρ = [some (0, .lst (R.map dn)), x1, x2]) (enumD 0 (R.map dn)) [some (0, .lst (R.map dn)), none, none]
    (fun k d ρ hd h => by
      obtain ⟨x1, x2, rfl⟩ := h
      rw [enumD_at, List.getElem?_map] at hd
      have hk : k < R.length := by
        rcases Nat.lt_or_ge k R.length with z | z
        · exact z
        · rw [List.getElem?_eq_none z] at hd; cases hd
      rw [List.getElem?_eq_getElem hk] at hd
      have hd' : d = .tup [.int ((0 + k : Nat) : Int), .lst (dnat R[k])] := (Option.some.inj hd).symm
      subst hd'
      have e2 := isperm_eq (m := 0) (hp _ (List.getElem_mem hk)) (by omega)
      refine ⟨[some (0, .lst (R.map dn)), some (0, .int ((0 + k : Nat) : Int)), some (0, .lst (dnat R[k]))], ?_, _, _, rfl⟩
      generalize R[k] = q at *
      generalize R.map dn = Rd at *
      unfold ruleB
      simp [gtup, gall, hll, e2, VV.kept, VV.stable]) ⟨none, none, rfl⟩
  have h1 : (2 : Int) ≤ n := by omega
  have h2' : (n : Int) ≤ 12 := by omega
  have hf : ∀ g b o, forsV 0 wEnum g b o [some (m, .lst (R.map dn)), none, none] = o [some (m, .lst (R.map dn)), none, none] := fun g b o => by
    unfold forsV
    have : (R.map dn).all D.imm = false := by
      cases R with
      | nil => simp at hl; omega
      | cons p R => rfl
    simp only [look_z, this]
    rfl
  generalize R.map dn = Rd at *
  unfold ruleB at e1
  unfold m_p_check_rule fnM b_p_check_rule
  cases m with
  | zero => simp [hll, h1, h2', hf, e1]
  | succ m => simp [hll, h1, h2', hf, e1]
end Lw
set_option maxHeartbeats 4000000
namespace Lw
open PySem Vs
/-! equality at every level: of a thing with itself -/
theorem zip_self : ∀ ds : List D, zipD ds ds = ds.map fun d => D.tup [d, d]
  | [] => rfl
  | d :: ds => by rw [zipD, zip_self ds]; rfl
def SameOk (k : Nat) (d : D) : Prop := ∀ a b, m_l_same k [(a, d), (b, d)] = .ok (0, .bl true) [some (a, d), some (b, d)]
theorem same_int {k : Nat} (i : Int) : SameOk (k + 1) (.int i) := fun a b => by
  have e8 : kEq (vb false) (vb false) = some (vb true) := e_eqSame (d := .bl false) rfl
  unfold m_l_same b_l_same fnM
  simp [kIsi2, e8, VV.kept, VV.stable]
theorem e_allT {p : Bool} {m n : Nat} : kAll [⟨p, m, .lst (List.replicate n (.bl true))⟩] = some (vb true) := by
  have : ∀ n, blsOf (List.replicate n (D.bl true)) = some (List.replicate n true) := fun n => by
    induction n with
    | zero => rfl
    | succ n ih => rw [List.replicate_succ, blsOf, ih]; rfl
  unfold kAll
  simp only [this]
  simp
theorem rep_imm {n : Nat} : (List.replicate n (D.bl true)).all D.imm = true := by
  rw [List.all_eq_true]
  intro x hx
  rw [List.eq_of_mem_replicate hx]
  rfl
theorem same_comp {k : Nat} {ds : List D} {x0 x1 : Option PV} (h : ∀ d ∈ ds, SameOk k d) (hl : ds.length ≤ 1000) : compL [2, 3] (gtup [(gname 2), (gname 3)]) yes (call (m_l_same k) [] [.lend 2, .lend 3]) (zipD ds ds) [x0, x1, none, none] [] = .ok (ds.map fun _ => vb true) none := by
  rw [zip_self]
  have := compL_map (own := [2, 3]) (g := gtup [(gname 2), (gname 3)]) (e := call (m_l_same k) [] [.lend 2, .lend 3]) (f := fun d => D.tup [d, d]) (k := fun _ => vb true) ds [x0, x1, none, none] [] fun d hd => by
    have e := h d hd 0 0
    refine ⟨[x0, x1, some (0, d), some (0, d)], ?_, ?_, rfl⟩
    · simp [gtup, gall, gname, VV.kept, VV.stable]
    · simp [e]
  rw [List.nil_append] at this
  exact this
theorem kLst_T {ds : List D} (hl : ds.length ≤ 1000) : kLst (ds.map fun _ => vb true) = some ⟨false, 1, .lst (List.replicate ds.length (.bl true))⟩ := by
  rw [kLst_imm (fun x hx => by obtain ⟨_, _, rfl⟩ := List.mem_map.mp hx; rfl) (by rw [List.length_map, lim_num]; omega), List.map_map]
  congr 2
  rw [List.eq_replicate_iff.mpr ⟨List.length_map .., fun b hb => ?_⟩]
  obtain ⟨_, _, rfl⟩ := List.mem_map.mp hb
  rfl
theorem rep_plain {n : Nat} : VV.plain ⟨false, 1, .lst (List.replicate n (.bl true))⟩ = true := by
  unfold VV.plain
  simp only [rep_imm]
  rfl
theorem same_lst {k : Nat} {ds : List D} (h : ∀ d ∈ ds, SameOk k d) (hl : ds.length ≤ 1000) : SameOk (k + 1) (.lst ds) := fun a b => by
  have e1 := fun x0 x1 => same_comp (x0 := x0) (x1 := x1) h hl
  have e2 := kLst_T hl
  have e3 := fun p m => e_allT (p := p) (m := m) (n := ds.length)
  have e4 := rep_plain (n := ds.length)
  generalize (ds.map fun _ => vb true) = bs at *
  generalize List.replicate ds.length (D.bl true) = rs at *
  generalize hz : zipD ds ds = zs at *
  have e5 : ∀ a b p q, (p = false ∨ a = 0) → (q = false ∨ b = 0) → kZ [⟨p, a, .lst ds⟩, ⟨q, b, .lst ds⟩] = some zs := fun a b p q h1 h2 => by
    show (if (p = false ∨ a = 0) ∧ (q = false ∨ b = 0) then some (zipD ds ds) else none) = _
    rw [if_pos ⟨h1, h2⟩, hz]
  have e6 := e5 0 0 false false (.inl rfl) (.inl rfl)
  have e7 : ∀ (b c : Bool), kNe ⟨false, 0, .bl b⟩ ⟨false, 0, .bl c⟩ = some (vb (!decide (b = c))) := fun b c => by cases b <;> cases c <;> rfl
  unfold m_l_same b_l_same fnM
  cases a <;> cases b <;> simp [kIsi2, e1, e2, e3, e4, e6, hz, e7, VV.kept, VV.stable]
theorem same_ints {k : Nat} {l : List Int} (hl : l.length ≤ 1000) : SameOk (k + 2) (.lst (l.map .int)) := same_lst (fun d hd => by
  obtain ⟨i, _, rfl⟩ := List.mem_map.mp hd
  exact same_int i) (by rw [List.length_map]; exact hl)
theorem same_nats {k : Nat} {l : List Nat} (hl : l.length ≤ 1000) : SameOk (k + 2) (.lst (dnat l)) := same_lst (fun d hd => by
  obtain ⟨i, _, rfl⟩ := List.mem_map.mp hd
  exact same_int _) (by rw [dnat_length]; exact hl)
end Lw
set_option maxHeartbeats 4000000
namespace Vs
open PySem (Str PyData)
/-! lists of whole numbers -/
theorem nb_di (l : List Int) : (D.lst (dints l)).nb = true := by
  simp only [D.nb]
  induction l with
  | nil => rfl
  | cons a l ih => exact (show nbAll (D.int a :: dints l) = true by simp only [nbAll, D.nb, ih, Bool.and_true])
theorem shp_di (l : List Int) : (D.lst (dints l)).shp = true := (Shp.lst (j := 0) fun d hd => by
  obtain ⟨i, _, rfl⟩ := List.mem_map.mp hd
  exact .int).shp
theorem flat_di (l : List Int) : (D.lst (dints l)).flat = true := by
  simp only [D.flat]
  induction l with
  | nil => rfl
  | cons a l ih => exact (show flatAll (D.int a :: dints l) = true by simp only [flatAll, D.flat, ih, Bool.and_true])
theorem di_inj : ∀ {l k : List Int}, dints l = dints k → l = k
  | [], [], _ => rfl
  | [], _ :: _, h => by cases h
  | _ :: _, [], h => by cases h
  | a :: l, b :: k, h => by
    have h : D.int a :: dints l = D.int b :: dints k := h
    injection h with h1 h2
    injection h1 with h1
    rw [h1, di_inj h2]
theorem e_eqDi {p q : Bool} {m n : Nat} {l k : List Int} : kEq ⟨p, m, .lst (dints l)⟩ ⟨q, n, .lst (dints k)⟩ = some (vb (decide (l = k))) := by
  show (if D.shp (.lst (dints l)) = true ∧ D.shp (.lst (dints k)) = true then some (vb (D.eqv (.lst (dints l)) (.lst (dints k)))) else none) = _
  rw [if_pos ⟨shp_di l, shp_di k⟩]
  congr 1
  congr 1
  congr 1
  rw [Bool.eq_iff_iff, eqv_iff (nb_di l) (nb_di k) (flat_di l), decide_eq_true_eq]
  exact ⟨fun h => by injection h with h; exact di_inj h, fun h => by rw [h]⟩
theorem di_len (l : List Int) : (dints l).length = l.length := List.length_map ..
theorem di_take (l : List Int) (k : Nat) : (dints l).take k = dints (l.take k) := List.map_take.symm
theorem di_append (l k : List Int) : dints (l ++ k) = dints l ++ dints k := List.map_append ..
theorem enu_get : ∀ (l : List D) (n i : Nat), (enumD n l)[i]? = l[i]?.map fun d => .tup [.int ((n + i : Nat) : Int), d]
  | [], _, _ => rfl
  | d :: l, n, 0 => by simp [enumD]
  | d :: l, n, i + 1 => by
    rw [enumD, List.getElem?_cons_succ, enu_get l (n + 1) i, List.getElem?_cons_succ, show n + 1 + i = n + (i + 1) by omega]
theorem enu_len : ∀ (l : List D) (n : Nat), (enumD n l).length = l.length
  | [], _ => rfl
  | d :: l, n => by rw [enumD, List.length_cons, enu_len l (n + 1), List.length_cons]
/-- powers that are told -/
theorem pwr {a : Int} {k : Nat} {p q : Bool} {m n : Nat} (ha : a.natAbs < 2 ^ 64 := by decide) (hk : k ≤ 100 := by decide) : kPow ⟨p, m, .int a⟩ ⟨q, n, .int (k : Int)⟩ = some (vi (a ^ k)) := by
  rw [e_powI (small_big (by omega) (by omega)) (by omega) (by omega), Int.toNat_natCast]
theorem p18 {p q : Bool} {m n : Nat} : kPow ⟨p, m, .int 10⟩ ⟨q, n, .int 18⟩ = some (vi 1000000000000000000) := by
  have := pwr (a := 10) (k := 18) (p := p) (q := q) (m := m) (n := n)
  simpa using this
theorem p17 {p q : Bool} {m n : Nat} : kPow ⟨p, m, .int 10⟩ ⟨q, n, .int 17⟩ = some (vi 100000000000000000) := by
  have := pwr (a := 10) (k := 17) (p := p) (q := q) (m := m) (n := n)
  simpa using this
theorem p9 {p q : Bool} {m n : Nat} : kPow ⟨p, m, .int 10⟩ ⟨q, n, .int 9⟩ = some (vi 1000000000) := by
  have := pwr (a := 10) (k := 9) (p := p) (q := q) (m := m) (n := n)
  simpa using this
theorem p7 {p q : Bool} {m n : Nat} : kPow ⟨p, m, .int 10⟩ ⟨q, n, .int 7⟩ = some (vi 10000000) := by
  have := pwr (a := 10) (k := 7) (p := p) (q := q) (m := m) (n := n)
  simpa using this
theorem p6 {p q : Bool} {m n : Nat} : kPow ⟨p, m, .int 10⟩ ⟨q, n, .int 6⟩ = some (vi 1000000) := by
  have := pwr (a := 10) (k := 6) (p := p) (q := q) (m := m) (n := n)
  simpa using this
theorem now_some_thn {a ρ : Env} {o : Option Env} : now (thn (some a) o) ρ = now o a := by cases o <;> rfl
theorem p30 {p q : Bool} {m n : Nat} : kPow ⟨p, m, .int 10⟩ ⟨q, n, .int 30⟩ = some (vi 1000000000000000000000000000000) := by
  have := pwr (a := 10) (k := 30) (p := p) (q := q) (m := m) (n := n)
  simpa using this
end Vs
set_option maxHeartbeats 4000000
namespace Lw
open PySem Vs
/-! a comprehension that draws each item -/
theorem compL_draws {own : List Nat} {g : MG} {e : M} {B c : Nat} (E : Sr → Vs.Env) (good : Nat → Prop)
    (h : ∀ (d : D) (s : Sr) (N : Nat), (∃ i : Int, d = .int i) → Src N s → N < B → ∃ (x : Nat) (s1 : Sr) (ρ1 ρ2 : Vs.Env), Src (N + c) s1 ∧ good x ∧ g ⟨false, 0, d⟩ (E s) = .nx ρ1 ∧ e ρ1 = .ok (vi x) (some ρ2) ∧ wipeE own ρ2 = E s1) :
    ∀ (ds : List D) (acc : List Nat) (s : Sr) (N : Nat), (∀ d ∈ ds, ∃ i : Int, d = .int i) → Src N s → N + c * ds.length < B → (∀ x ∈ acc, good x) →
      ∃ (xs : List Nat) (s' : Sr) (o : Option Vs.Env), (∀ x ∈ xs, good x) ∧ xs.length = acc.length + ds.length ∧ Src (N + c * ds.length) s' ∧ compL own g yes e ds (E s) (acc.map fun (i : Nat) => vi i) = .ok (xs.map fun (i : Nat) => vi i) o ∧ now o (E s) = E s'
  | [], acc, s, N, _, hs, hN, ha => ⟨acc, s, none, ha, rfl, hs, rfl, rfl⟩
  | d :: ds, acc, s, N, hd, hs, hN, ha => by
    rw [List.length_cons, Nat.mul_succ] at hN ⊢
    obtain ⟨x, s1, ρ1, ρ2, a1, a2, a3, a4, a5⟩ := h d s N (hd d (List.mem_cons_self ..)) hs (by omega)
    obtain ⟨xs, s2, o, b1, b2, b3, b4, b5⟩ := compL_draws E good h ds (acc ++ [x]) s1 (N + c) (fun d hd' => hd d (List.mem_cons_of_mem _ hd')) a1 (by omega) fun y hy => (List.mem_append.mp hy).elim (ha y) fun z => by rw [List.mem_singleton.mp z]; exact a2
    rw [List.map_append, List.map_singleton] at b4
    refine ⟨xs, s2, Vs.thn (some (E s1)) o, b1, by rw [b2, List.length_append]; simp; omega, b3.le (by omega), ?_, by rw [now_some_thn]; exact b5⟩
    have hy : yes ρ1 = .ok true none := rfl
    unfold compL
    rw [a3]
    simp only [hy, now_none, a4, stable_own, if_true, thn_some, Option.map_some, a5, now_some, b4, R.aft_ok]
theorem rng_ints {a b : Int} : ∀ d ∈ rng a b, ∃ i : Int, d = .int i := fun d hd => by
  obtain ⟨k, hk⟩ := List.getElem?_of_mem hd
  obtain ⟨rfl, _⟩ := rng_get hk
  exact ⟨_, rfl⟩
end Lw
set_option maxHeartbeats 4000000
namespace Lw
open PySem Vs
/-! the first cells of a script (laws 53-70) -/
def cellsF (ns : List Int) (k : Nat) : List Int := if ns = [] then [0] else ns.take k
theorem cells_eq {ns : List Int} {k : Nat} (hn : ns.length ≤ 63) (hk : k ≤ 100) : m_l_cells [(0, .lst (dints ns)), (0, .int (k : Int))] = .ok (1, .lst (dints (cellsF ns k))) [some (0, .lst (dints ns)), some (0, .int (k : Int))] := by
  have e1 : cutD (dints ns) none (some (k : Int)) = dints (ns.take k) := by rw [cut_to, di_take]
  have e2 := fun p q m n => e_eqDi (p := p) (q := q) (m := m) (n := n) (l := ns) (k := [])
  have hd : dints [] = [] := rfl
  rw [hd] at e2
  by_cases h : ns = []
  · subst h
    have e3 := fun p => e_rep (m := 0) (d := .int 0) (n := 1) (k := 0) (p := p) (by omega)
    have e4 : (dints ([] : List Int)).take k = [] := by simp [dints]
    have e5 := e_addL (p := false) (q := false) (m := 1) (n := 1) (l := []) (k := [.int 0]) (.inl rfl) (.inl rfl) (by simp)
    simp at e1 e3 e5
    unfold m_l_cells fnM b_l_cells cellsF
    simp [e_pre, e_even, e1, e2, e3, e5, e_sl, kInt, dints, cutD, VV.kept, VV.stable]
  · have e3 := fun p => e_rep (m := 0) (d := .int 0) (n := 0) (k := 0) (p := p) (by omega)
    have e5 := e_addL (p := false) (q := false) (m := 1) (n := 1) (l := dints (ns.take k)) (k := []) (.inl rfl) (.inl rfl) (by rw [di_len, List.length_take]; simp; omega)
    rw [List.append_nil] at e5
    unfold cellsF
    rw [if_neg h]
    rw [decide_eq_false h] at e2
    simp at e3
    generalize dints (ns.take k) = dt at *
    generalize dints ns = dns at *
    unfold m_l_cells fnM b_l_cells
    simp [e_pre, e_even, e1, e2, e3, e5, e_sl, kInt, VV.kept, VV.stable]
theorem cells_at {ns : List Int} {b k : Nat} {d : D} (hd : (enumD 0 (dints (cellsF ns b)))[k]? = some d) : k < max 1 b ∧ ∃ c : Int, d = .tup [.int (k : Int), .int c] := by
  have hk : k < max 1 b := by
    have := (List.getElem?_eq_some_iff.mp hd).1
    rw [enu_len, di_len] at this
    unfold cellsF at this
    split at this
    · simp at this; omega
    · rw [List.length_take] at this; omega
  refine ⟨hk, ?_⟩
  rw [enu_get] at hd
  cases hc : (dints (cellsF ns b))[k]? with
  | none => rw [hc] at hd; cases hd
  | some c =>
    rw [hc] at hd
    cases hd
    unfold dints at hc
    rw [List.getElem?_map] at hc
    cases q : (cellsF ns b)[k]? with
    | none => rw [q] at hc; cases hc
    | some i =>
      rw [q] at hc
      cases hc
      exact ⟨i, by rw [Nat.zero_add]⟩
end Lw
set_option maxHeartbeats 4000000
/-! a loop over a list in a slot, of plain items or not, is the loop over its items -/
namespace Vs
open PySem (Str PyData)
theorem forV_forL {i : Nat} {g : MG} {b : MS} {ds : List D} {m0 : Nat} (P : Env → Prop) (hi : ds.all D.imm = true) (hl : ∀ ρ, P ρ → look ρ i = some (m0, .lst ds))
    (hs : ∀ d ∈ ds, ∀ ρ, P ρ → (∃ ρ', (g ⟨false, 0, d⟩ ρ).seq b = .nx ρ' ∧ P ρ') ∨ ∃ r ρ', (g ⟨false, 0, d⟩ ρ).seq b = .ret r ρ') :
    ∀ (n k : Nat) (ρ : Env), n + k = ds.length → P ρ → forV i wOne g b n k ρ = forL g b (ds.drop k) ρ
  | 0, k, ρ, hn, hP => by
    rw [List.drop_eq_nil_of_le (by omega)]
    unfold forV
    rw [hl ρ hP]
    simp only
    rw [if_pos (by omega)]
    rfl
  | n + 1, k, ρ, hn, hP => by
    have hk : k < ds.length := by omega
    have hd : ds[k]? = some ds[k] := List.getElem?_eq_getElem hk
    have hw : wOne k ds[k] = ds[k] := rfl
    rw [List.drop_eq_getElem_cons hk]
    unfold forV forL
    rw [hl ρ hP]
    simp only [hd, List.all_eq_true.mp hi _ (List.getElem_mem hk), if_true, hw]
    rcases hs _ (List.getElem_mem hk) ρ hP with ⟨ρ', e, hP'⟩ | ⟨r, ρ', e⟩
    · rw [e]
      exact forV_forL P hi hl hs n (k + 1) ρ' (by omega) hP'
    · rw [e]
theorem forsV_L {i : Nat} {g : MG} {b : MS} {it : MI} {ds : List D} {m0 : Nat} {ρ : Env} (P : Env → Prop) (hP : P ρ) (hl : ∀ ρ, P ρ → look ρ i = some (m0, .lst ds)) (hit : it ρ = .ok ds none)
    (hs : ∀ d ∈ ds, ∀ ρ, P ρ → (∃ ρ', (g ⟨false, 0, d⟩ ρ).seq b = .nx ρ' ∧ P ρ') ∨ ∃ r ρ', (g ⟨false, 0, d⟩ ρ).seq b = .ret r ρ') :
    forsV i wOne g b (fors it g b) ρ = forL g b ds ρ := by
  unfold forsV
  rw [hl ρ hP]
  simp only
  by_cases hi : ds.all D.imm = true
  · rw [if_pos hi]
    have := forV_forL P hi hl hs ds.length 0 ρ (by omega) hP
    rw [List.drop_zero] at this
    exact this
  · rw [if_neg hi]
    unfold fors
    rw [hit]
    rfl
theorem forsV_I {i : Nat} {g : MG} {b o : MS} {ds : List D} {m0 : Nat} {ρ : Env} (P : Env → Prop) (hP : P ρ) (hl : ∀ ρ, P ρ → look ρ i = some (m0, .lst ds)) (hi : ds.all D.imm = true)
    (hs : ∀ d ∈ ds, ∀ ρ, P ρ → (∃ ρ', (g ⟨false, 0, d⟩ ρ).seq b = .nx ρ' ∧ P ρ') ∨ ∃ r ρ', (g ⟨false, 0, d⟩ ρ).seq b = .ret r ρ') :
    forsV i wOne g b o ρ = forL g b ds ρ := by
  unfold forsV
  rw [hl ρ hP]
  simp only
  rw [if_pos hi]
  have := forV_forL P hi hl hs ds.length 0 ρ (by omega) hP
  rw [List.drop_zero] at this
  exact this
end Vs
set_option maxHeartbeats 4000000
namespace Lw
open PySem Vs
/-! where a block comes to by accesses to others -/
def cO : Option Int → D
  | none => .non | some i => .int i
/-- odd, gone, or a place -/
abbrev Pst := Option (Option Nat)
def stp (R : List (List Nat)) (n : Nat) : Pst → Option Int → Pst
  | none, _ => none
  | some none, _ => none
  | some (some p), none => some (if p = 0 then none else some (p - 1))
  | some (some p), some i => if 0 ≤ i ∧ i < n ∧ i ≠ p then some (some (nth (R.getD i.toNat []) p)) else none
def mvsD (R : List (List Nat)) (n p : Nat) : List D := .tup [.non, if p = 0 then .non else .int ((p : Int) - 1)] :: ((List.range n).filter fun i => decide (i ≠ p)).map fun (i : Nat) => .tup [.int (i : Int), .int (nth (R.getD i []) p : Nat)]
section
variable {n p : Nat} {R : List (List Nat)}
theorem rule_at' (hR : IsRule n R) {i : Nat} (hi : i < n) : atD (R.map dn) (i : Int) = some (.lst (dnat (R.getD i []))) ∧ Pm n (R.getD i []) := by
  have hi' : i < R.length := by rw [hR.len]; exact hi
  have e : R.getD i [] = R[i] := by rw [List.getD_eq_getElem?_getD, List.getElem?_eq_getElem hi']; rfl
  rw [e]
  refine ⟨?_, hR.pm _ (List.getElem_mem hi')⟩
  rw [at_nat (by rw [List.length_map]; exact hi')]
  simp [dn]
theorem moves_eq (hR : IsRule n R) (hn : n ≤ 12) (hp : p < n) : ∃ m, m_p_moves_at [(0, .lst (R.map dn)), (0, .int (p : Int))] = .ok (m, .lst (mvsD R n p)) [some (0, .lst (R.map dn)), some (0, .int (p : Int))] := by
  have hl : (R.map dn).length = n := by rw [List.length_map, hR.len]
  have c1 := compL_filt (own := [3]) (g := gname 3) (cs := (tst (two (v 3) (v 1) kNe) blOf)) (e := (argsk (args [(fz 0 [3] (v 3)), (fz 2 [0] (two (two (v 0) (v 3) kIx) (v 1) kIx))]) kTup)) (f := fun (i : Nat) => D.int (i : Int)) (c := fun i => decide (i ≠ p)) (k := fun i => ⟨false, 1, .tup [.int (i : Int), .int (nth (R.getD i []) p : Nat)]⟩) (List.range n) [some (0, .lst (R.map dn)), some (0, .int (p : Int)), none, none] [] (fun i hi => by
    have hi := List.mem_range.mp hi
    obtain ⟨a1, hq⟩ := rule_at' hR hi
    have a2 := at_nth (l := R.getD i []) (i := p) (by rw [hq.len]; exact hp)
    refine ⟨[some (0, .lst (R.map dn)), some (0, .int (p : Int)), none, some (0, .int (i : Int))], by simp, ?_, fun hc => ⟨?_, rfl⟩⟩
    · by_cases c : i = p
      · subst c; simp
      · have c' : ¬ (i : Int) = p := by omega
        simp [c, c']
    · generalize nth (R.getD i []) p = z at *
      generalize R.getD i [] = r at *
      generalize R.map dn = Rd at *
      simp [a1, a2, kTup, minM, dmode, lim_num])
  rw [List.nil_append] at c1
  have rg : ∀ b k, kR1 [⟨b, k, .int (n : Int)⟩] = some ((List.range n).map fun (i : Nat) => D.int (i : Int)) := fun b k => by
    rw [e_range1 (by omega) (by omega)]
    congr 1
    exact (rng_dnat n)
  have hlen : ((List.range n).filter fun i => decide (i ≠ p)).length ≤ n := by
    have := List.length_filter_le (fun i => decide (i ≠ p)) (List.range n)
    rw [List.length_range] at this
    exact this
  unfold mvsD
  generalize ((List.range n).filter fun i => decide (i ≠ p)) = hs at *
  have kl : ∃ k, (k = 1 ∨ k = 2) ∧ kLst (hs.map fun (i : Nat) => (⟨false, 1, .tup [.int (i : Int), .int (nth (R.getD i []) p : Nat)]⟩ : VV)) = some ⟨false, k, .lst (hs.map fun (i : Nat) => .tup [.int (i : Int), .int (nth (R.getD i []) p : Nat)])⟩ := by
    by_cases c : hs = []
    · subst c; exact ⟨1, .inl rfl, rfl⟩
    · refine ⟨2, .inr rfl, ?_⟩
      rw [kLst_own (n := 1) (by simpa using c) (fun x hx => by obtain ⟨i, _, rfl⟩ := List.mem_map.mp hx; exact ⟨rfl, rfl, rfl⟩) (by rw [List.length_map, lim_num]; omega), List.map_map]
      rfl
  obtain ⟨k, hk, kl⟩ := kl
  generalize ((List.range n).map fun (i : Nat) => D.int (i : Int)) = rn at *
  have hlen2 : (hs.map fun (i : Nat) => D.tup [.int (i : Int), .int (nth (R.getD i []) p : Nat)]).length ≤ 12 := by rw [List.length_map]; omega
  generalize (hs.map fun (i : Nat) => D.tup [.int (i : Int), .int (nth (R.getD i []) p : Nat)]) = hd at *
  generalize (hs.map fun (i : Nat) => (⟨false, 1, .tup [.int (i : Int), .int (nth (R.getD i []) p : Nat)]⟩ : VV)) = hv at *
  generalize R.map dn = Rd at *
  have star : ∀ q d, ∃ m, kLst (⟨false, 1, d⟩ :: hd.map fun x => (⟨false, q, x⟩ : VV)) = some ⟨false, m, .lst (d :: hd)⟩ := fun q d => by
    unfold kLst
    rw [if_pos ⟨by
      rw [List.all_eq_true]
      intro x hx
      unfold VV.stable
      rcases List.mem_cons.mp hx with rfl | hx
      · rfl
      · obtain ⟨z, _, rfl⟩ := List.mem_map.mp hx; rfl, by rw [List.length_cons, List.length_map, lim_num]; omega⟩]
    refine ⟨dmode (⟨false, 1, d⟩ :: hd.map fun x => (⟨false, q, x⟩ : VV)), ?_⟩
    rw [List.map_cons, List.map_map]
    congr 3
    exact congrArg (d :: ·) ((List.map_congr_left fun _ _ => rfl).trans (List.map_id _))
  obtain ⟨z, st⟩ := star 0 (.tup [.non, if p = 0 then .non else .int ((p : Int) - 1)])
  refine ⟨z, ?_⟩
  unfold m_p_moves_at fnM b_p_moves_at
  by_cases c : p = 0
  · have c' : ¬ 0 < p := by omega
    rw [if_pos c] at st ⊢
    rcases hk with rfl | rfl
    · simp [e_pre, e_even, hl, rg, c1, kl, argC, argS, argN, starD, st, c', -kLst_cons, VV.kept, VV.stable]
    · simp [e_pre, e_even, hl, rg, c1, kl, argC, argS, argN, starD, st, c', -kLst_cons, VV.kept, VV.stable]
  · have c' : 0 < p := by omega
    rw [if_neg c] at st ⊢
    rcases hk with rfl | rfl
    · simp [e_pre, e_even, hl, rg, c1, kl, argC, argS, argN, starD, st, c', -kLst_cons, VV.kept, VV.stable]
    · simp [e_pre, e_even, hl, rg, c1, kl, argC, argS, argN, starD, st, c', -kLst_cons, VV.kept, VV.stable]
end
end Lw
set_option maxHeartbeats 4000000
namespace Lw
open PySem Vs
/-! place_behind, is_way_out -/
section
variable {n p m : Nat} {R : List (List Nat)}
theorem pairs_map {f : Nat → Nat} : ∀ l : List Nat, pairsN (l.map fun (i : Nat) => .tup [.int (i : Int), .int (f i : Nat)]) = some (l.map fun (i : Nat) => (.int (i : Int), .int (f i : Nat)))
  | [] => rfl
  | i :: l => by
    rw [List.map_cons, List.map_cons, pairsN, pairs_map l]
    rfl
theorem pairs_mvs (R : List (List Nat)) (n p : Nat) : pairsN (mvsD R n p) = some ((.non, if p = 0 then .non else .int ((p : Int) - 1)) :: ((List.range n).filter fun i => decide (i ≠ p)).map fun (i : Nat) => (.int (i : Int), .int (nth (R.getD i []) p : Nat))) := by
  unfold mvsD
  rw [pairsN, pairs_map]
  by_cases c : p = 0
  · rw [if_pos c]; rfl
  · rw [if_neg c]; rfl
theorem last_non {f : Nat → Nat} {a : Option D} : ∀ l : List Nat, lastN .non (l.map fun (i : Nat) => (.int (i : Int), .int (f i : Nat))) a = a
  | [] => rfl
  | i :: l => by
    rw [List.map_cons, lastN]
    exact last_non l
theorem last_int {f : Nat → Nat} {j : Int} : ∀ (l : List Nat) (a : Option D), lastN (.int j) (l.map fun (i : Nat) => (.int (i : Int), .int (f i : Nat))) a = if 0 ≤ j ∧ j.toNat ∈ l then some (.int (f j.toNat : Nat)) else a
  | [], a => by simp [lastN]
  | i :: l, a => by
    rw [List.map_cons, lastN, last_int l]
    have hn : nkEq (.int (i : Int)) (.int j) = decide ((i : Int) = j) := rfl
    simp only [hn]
    by_cases c : (i : Int) = j
    · subst c
      simp
    · have c' : ¬ (j.toNat = i ∧ 0 ≤ j) := by omega
      by_cases c2 : 0 ≤ j
      · have : ¬ j.toNat = i := fun h => c' ⟨h, c2⟩
        simp [c, c2, this]
      · simp [c, c2]
def nxP : Nat → Option Int → D
  | p, none => if p = 0 then .non else .int ((p : Int) - 1)
  | _, some _ => .non
def cP : Option Nat → D
  | none => .non | some q => .int (q : Int)
theorem last_mvs (o : Option Int) : (match pairsN (mvsD R n p) with | some ps => lastN (cO o) ps none | none => none) = (stp R n (some (some p)) o).map cP := by
  rw [pairs_mvs]
  simp only
  cases o with
  | none =>
    show lastN .non _ _ = _
    rw [lastN]
    have : nkEq .non .non = true := rfl
    simp only [this, if_true]
    rw [last_non]
    by_cases c : p = 0
    · simp [stp, c, cP]
    · have : ((p - 1 : Nat) : Int) = (p : Int) - 1 := by omega
      simp [stp, c, cP, this]
  | some j =>
    show lastN (.int j) _ _ = _
    rw [lastN]
    have : nkEq .non (.int j) = false := rfl
    simp only [this]
    rw [last_int]
    simp only [List.mem_filter, List.mem_range, decide_eq_true_eq, stp]
    by_cases c : 0 ≤ j ∧ j < n ∧ j ≠ p
    · have c' : 0 ≤ j ∧ j.toNat < n ∧ j.toNat ≠ p := by omega
      rw [if_pos c, if_pos c']
      rfl
    · have c' : ¬ (0 ≤ j ∧ j.toNat < n ∧ j.toNat ≠ p) := by omega
      rw [if_neg c, if_neg c']
      rfl
theorem isNk_cO (o : Option Int) : isNk (cO o) = true := by cases o <;> rfl
theorem imm_cO (o : Option Int) : (cO o).imm = true := by cases o <;> rfl
theorem imm_cP (o : Option Nat) : (cP o).imm = true := by cases o <;> rfl
theorem stp_lt (hR : IsRule n R) {o : Option Int} {q : Nat} (hp : p < n) (h : stp R n (some (some p)) o = some (some q)) : q < n := by
  cases o with
  | none =>
    simp only [stp] at h
    split at h
    · cases h
    · cases h; omega
  | some j =>
    simp only [stp] at h
    split at h
    · cases h
      rename_i c
      have := (rule_at' hR (i := j.toNat) (by omega)).2
      exact this.lt (nth_mem (by rw [this.len]; exact hp))
    · cases h
def EP (Rd : List D) (p0 : Nat) (ds : PV) (c : Option Nat) : Vs.Env := [some (0, .lst Rd), some (0, .int (p0 : Int)), some ds, some (0, cP c), none, none]
theorem pl_none {Rd : List D} {p0 : Nat} {ds : PV} {d : D} : ∃ ρ4 ρ5, (gname 4 ⟨false, 0, d⟩ (EP Rd p0 ds none)).seq q_p_place_behind_0 = .ret (0, .int (-1)) [some (0, .lst Rd), some (0, .int (p0 : Int)), some ds, some (0, .non), ρ4, ρ5] := by
  refine ⟨some (0, d), none, ?_⟩
  unfold EP q_p_place_behind_0 cP
  simp [e_tdy, VV.kept, VV.stable]
theorem eq_own (o : Option Int) : ∀ a b c e, kEq ⟨a, b, cO o⟩ ⟨c, e, .str "own"⟩ = some (vb false) := fun a b c e => by
  have hs : (D.str (Str.ofString "own")).shp = true := by decide +kernel
  cases o with
  | none =>
    unfold cO kEq strs2 D.eqv
    simp [D.py, PyData.eqv, hs]
  | some i =>
    unfold cO kEq strs2 D.eqv
    simp [D.py, PyData.eqv, hs]
theorem pl_some (hR : IsRule n R) (hn : n ≤ 12) (hp : p < n) {p0 : Nat} {ds : PV} (o : Option Int) : match stp R n (some (some p)) o with
    | some c => (gname 4 ⟨false, 0, cO o⟩ (EP (R.map dn) p0 ds (some p))).seq q_p_place_behind_0 = .nx (EP (R.map dn) p0 ds c)
    | none => ∃ ρ3 ρ4 ρ5, (gname 4 ⟨false, 0, cO o⟩ (EP (R.map dn) p0 ds (some p))).seq q_p_place_behind_0 = .ret (0, .int (-1)) [some (0, .lst (R.map dn)), some (0, .int (p0 : Int)), some ds, ρ3, ρ4, ρ5] := by
  obtain ⟨z, e1⟩ := moves_eq hR hn hp
  have e2 := last_mvs (R := R) (n := n) (p := p) o
  have e3 := isNk_cO o
  have e4 := eq_own o
  have e5 := imm_cO o
  generalize cO o = d at *
  generalize stp R n (some (some p)) o = s at *
  obtain ⟨ps, e6⟩ : ∃ ps, pairsN (mvsD R n p) = some ps := ⟨_, pairs_mvs R n p⟩
  rw [e6] at e2
  simp only at e2
  generalize mvsD R n p = mv at *
  generalize R.map dn = Rd at *
  cases s with
  | none =>
    rw [Option.map_none] at e2
    simp only
    refine ⟨some (0, .int (p : Int)), some (0, d), none, ?_⟩
    unfold EP q_p_place_behind_0 cP
    simp [e_tdy, e_even, e_look3, e1, e2, e3, e4, e6, VV.kept, VV.stable]
  | some c =>
    rw [Option.map_some] at e2
    have e7 := imm_cP c
    simp only
    unfold EP q_p_place_behind_0
    show (gname 4 ⟨false, 0, d⟩ [some (0, .lst Rd), some (0, .int (p0 : Int)), some ds, some (0, .int (p : Int)), none, none]).seq _ = _
    generalize cP c = dc at *
    simp [e_tdy, e_even, e_look3, e1, e2, e3, e4, e6, e7, VV.kept, VV.stable]
def enP : Pst → D
  | none => .int (-1) | some c => cP c
theorem fold_none : ∀ l : List (Option Int), l.foldl (stp R n) none = none
  | [] => rfl
  | o :: l => fold_none l
theorem pl_loop (hR : IsRule n R) (hn : n ≤ 12) {p0 : Nat} {ds : PV} : ∀ (l : List (Option Int)) (c : Option Nat), (∀ q, c = some q → q < n) →
    (∃ c', l.foldl (stp R n) (some c) = some c' ∧ forL (gname 4) q_p_place_behind_0 (l.map cO) (EP (R.map dn) p0 ds c) = .nx (EP (R.map dn) p0 ds c')) ∨
    (l.foldl (stp R n) (some c) = none ∧ ∃ ρ3 ρ4 ρ5, forL (gname 4) q_p_place_behind_0 (l.map cO) (EP (R.map dn) p0 ds c) = .ret (0, .int (-1)) [some (0, .lst (R.map dn)), some (0, .int (p0 : Int)), some ds, ρ3, ρ4, ρ5])
  | [], c, _ => .inl ⟨c, rfl, rfl⟩
  | o :: l, none, _ => by
    refine .inr ⟨?_, ?_⟩
    · exact fold_none l
    · obtain ⟨ρ4, ρ5, e⟩ := pl_none (Rd := R.map dn) (p0 := p0) (ds := ds) (d := cO o)
      refine ⟨some (0, .non), ρ4, ρ5, ?_⟩
      rw [List.map_cons, forL, e]
  | o :: l, some p, hq => by
    have h := pl_some hR hn (hq p rfl) (p0 := p0) (ds := ds) o
    rw [List.map_cons, forL, List.foldl_cons]
    cases hs : stp R n (some (some p)) o with
    | none =>
      rw [hs] at h
      simp only at h
      obtain ⟨ρ3, ρ4, ρ5, e⟩ := h
      refine .inr ⟨fold_none l, ρ3, ρ4, ρ5, ?_⟩
      rw [e]
    | some c =>
      rw [hs] at h
      simp only at h
      rw [h]
      simp only
      exact pl_loop hR hn l c (fun q e => stp_lt hR (hq p rfl) (by rw [hs, e]))
theorem pb_eq (hR : IsRule n R) (hn : n ≤ 12) (hp : p < n) {m2 : Nat} (l : List (Option Int)) : m_p_place_behind [(0, .lst (R.map dn)), (0, .int (p : Int)), (m2, .lst (l.map cO))] = .ok (0, enP (l.foldl (stp R n) (some (some p)))) [some (0, .lst (R.map dn)), some (0, .int (p : Int)), some (m2, .lst (l.map cO))] := by
  have hf := forsV_I (i := 2) (g := gname 4) (b := q_p_place_behind_0) (o := fors (it1 kL (fz 0 [2] (v 2))) (gname 4) q_p_place_behind_0) (ds := l.map cO) (m0 := m2) (ρ := EP (R.map dn) p (m2, .lst (l.map cO)) (some p))
    (fun ρ => ∃ c : Option Nat, (∀ q, c = some q → q < n) ∧ ρ = EP (R.map dn) p (m2, .lst (l.map cO)) c) ⟨some p, fun q e => by cases e; exact hp, rfl⟩
    (fun ρ h => by obtain ⟨c, _, rfl⟩ := h; rfl) (List.all_eq_true.mpr fun x hx => by obtain ⟨o, _, rfl⟩ := List.mem_map.mp hx; exact imm_cO o) (fun d hd ρ h => by
      obtain ⟨c, hc, rfl⟩ := h
      obtain ⟨o, _, rfl⟩ := List.mem_map.mp hd
      cases c with
      | none =>
        obtain ⟨ρ4, ρ5, e⟩ := pl_none (Rd := R.map dn) (p0 := p) (ds := (m2, .lst (l.map cO))) (d := cO o)
        exact .inr ⟨_, _, e⟩
      | some q =>
        have h := pl_some hR hn (hc q rfl) (p0 := p) (ds := (m2, .lst (l.map cO))) o
        cases hs : stp R n (some (some q)) o with
        | none =>
          rw [hs] at h
          simp only at h
          obtain ⟨ρ3, ρ4, ρ5, e⟩ := h
          exact .inr ⟨_, _, e⟩
        | some c =>
          rw [hs] at h
          simp only at h
          exact .inl ⟨_, h, c, fun q' e => stp_lt hR (hc q rfl) (by rw [hs, e]), rfl⟩)
  have hl := pl_loop hR hn (p0 := p) (ds := (m2, .lst (l.map cO))) l (some p) (fun q e => by cases e; exact hp)
  generalize l.map cO = ds at *
  generalize R.map dn = Rd at *
  unfold m_p_place_behind fnM
  rw [b_p_place_behind_eq]
  unfold w_p_place_behind_0
  unfold EP cP at hf hl
  generalize q_p_place_behind_0 = q0 at *
  rcases hl with ⟨c', h1, h2⟩ | ⟨h1, ρ3, ρ4, ρ5, h2⟩
  · rw [h1]
    cases c' with
    | none =>
      simp only at h2 hf
      simp [e_pre, e_even, hf, h2, enP, cP, VV.kept, VV.stable]
    | some q =>
      simp only at h2 hf
      simp [e_pre, e_even, hf, h2, enP, cP, VV.kept, VV.stable]
  · rw [h1]
    simp only at h2 hf
    simp [e_pre, e_even, hf, h2, enP, cP, VV.kept, VV.stable]
end
end Lw
set_option maxHeartbeats 4000000
namespace Lw
open PySem Vs
/-! is_way_out of any value -/
section
variable {n p m : Nat} {R : List (List Nat)}
def kn : D → Bool
  | .ins _ _ => false | _ => true
def isIt : D → Bool
  | .non => true | .int _ => true | _ => false
theorem isint_rng {m : Nat} {i a b : Int} : m_p_is_integer [(m, .int i), (0, .int a), (0, .int b)] = .ok (0, .bl (decide (a ≤ i) && decide (i ≤ b))) [some (m, .int i), some (0, .int a), some (0, .int b)] := by
  unfold m_p_is_integer fnM b_p_is_integer
  by_cases c : a ≤ i <;> simp [c]
theorem check_place_eq (hp : p < n) (hR : IsRule n R) : m_p_check_place [(0, .lst (R.map dn)), (0, .int (p : Int))] = .ok (0, .non) [some (0, .lst (R.map dn)), some (0, .int (p : Int))] := by
  have e := isint_rng (m := 0) (i := (p : Int)) (a := 0) (b := (n : Int) - 1)
  have c1 : (0 : Int) ≤ p := by omega
  have c2 : (p : Int) ≤ (n : Int) - 1 := by omega
  rw [decide_eq_true c1, decide_eq_true c2] at e
  have hl : (R.map dn).length = n := by rw [List.length_map, hR.len]
  generalize R.map dn = Rd at *
  unfold m_p_check_place fnM b_p_check_place
  simp [e_pre, e_even, hl, e]
theorem isitem_eq {d : D} (h : kn d = true) : m_p_is_item [(0, d)] = .ok (0, .bl (isIt d)) [some (0, d)] := by
  have e : d.isNon = false → m_p_is_integer [(0, d), (0, .non), (0, .non)] = .ok (0, .bl (isIt d)) [some (0, d), some (0, .non), some (0, .non)] := fun hn => by
    unfold m_p_is_integer fnM b_p_is_integer isIt
    cases d with
    | non => simp at hn
    | ins _ _ => simp [kn] at h
    | bl b => simp
    | int i => simp
    | str i => simp
    | lst i => simp
    | tup i => simp
    | dic a b => simp
  cases hn : d.isNon with
  | true =>
    cases d with
    | non =>
      unfold m_p_is_item fnM b_p_is_item
      simp [e_pre, e_even, isIt]
    | _ => simp [D.isNon] at hn
  | false =>
    have e := e hn
    generalize isIt d = b at *
    unfold m_p_is_item fnM b_p_is_item
    simp [e_pre, e_even, hn, e]
theorem blsOf_map {α : Type} {f : α → Bool} : ∀ l : List α, blsOf (l.map fun d => .bl (f d)) = some (l.map f)
  | [] => rfl
  | a :: l => by
    rw [List.map_cons, blsOf, blsOf_map l]
    rfl
theorem bls_all {l : List D} {f : D → Bool} (hl : l.length ≤ 1001) : kLst (l.map fun d => vb (f d)) = some ⟨false, 1, .lst (l.map fun d => .bl (f d))⟩ ∧ VV.plain ⟨false, 1, .lst (l.map fun d => .bl (f d))⟩ = true ∧ kAll [⟨false, 1, .lst (l.map fun d => .bl (f d))⟩] = some (vb (l.all f)) := by
  refine ⟨?_, ?_, ?_⟩
  · rw [kLst_imm (fun x hx => by obtain ⟨d, _, rfl⟩ := List.mem_map.mp hx; rfl) (by rw [List.length_map, lim_num]; omega), List.map_map]
    rfl
  · unfold VV.plain
    simp
  · unfold kAll
    show (blsOf (l.map fun d => .bl (f d))).map _ = _
    rw [blsOf_map]
    simp [List.all_map]
theorem items_comp {ds : List D} {x0 x1 x2 : Option PV} (h : ∀ d ∈ ds, kn d = true) : compL [3] (gname 3) yes (call m_p_is_item [] [.lend 3]) ds [x0, x1, x2, none] [] = .ok (ds.map fun d => vb (isIt d)) none := by
  have := compL_map (own := [3]) (g := gname 3) (e := call m_p_is_item [] [.lend 3]) (f := id) (k := fun d => vb (isIt d)) ds [x0, x1, x2, none] [] fun d hd => ⟨[x0, x1, x2, some (0, d)], by simp [VV.kept, VV.stable], by simp [isitem_eq (h d hd)], rfl⟩
  rw [List.map_id, List.nil_append] at this
  exact this
def toO : D → Option Int
  | .int i => some i | _ => none
theorem cO_toO {d : D} (h : isIt d = true) : cO (toO d) = d := by
  cases d <;> first | rfl | simp [isIt] at h
theorem isIt_cO (o : Option Int) : isIt (cO o) = true := by cases o <;> rfl
theorem toO_cO (o : Option Int) : toO (cO o) = o := by cases o <;> rfl
def outs? (R : List (List Nat)) (n p : Nat) (l : List (Option Int)) : Bool := decide (l.foldl (stp R n) (some (some p)) = some none)
def wayT (R : List (List Nat)) (n p : Nat) : D → Bool
  | .lst ds => ds.all isIt && outs? R n p (ds.map toO)
  | _ => false
theorem isnon_enP (s : Pst) : (enP s).isNon = decide (s = some none) := by
  rcases s with _ | _ | q <;> simp [enP, cP]
theorem map_cO_toO {ds : List D} (h : ds.all isIt = true) : (ds.map toO).map cO = ds := by
  rw [List.map_map]
  exact (List.map_congr_left fun d hd => cO_toO (List.all_eq_true.mp h d hd)).trans (List.map_id _)
theorem iwo_lst {m m2 : Nat} (hR : IsRule n R) (h2 : 2 ≤ n) (hn : n ≤ 12) (hp : p < n) {l : List (Option Int)} (hl : l.length ≤ 1000) :
    m_p_is_way_out [(m, .lst (R.map dn)), (0, .int (p : Int)), (m2, .lst (l.map cO))] = .ok (0, .bl (outs? R n p l)) [some (0, .lst (R.map dn)), some (0, .int (p : Int)), some (m2, .lst (l.map cO))] := by
  have c1 := check_rule_eq (m := 0) hR.len hR.pm h2 hn
  have c2 := check_place_eq hp hR
  have hk : ∀ d ∈ l.map cO, kn d = true := fun d hd => by obtain ⟨o, _, rfl⟩ := List.mem_map.mp hd; cases o <;> rfl
  obtain ⟨f1, f2, f3⟩ := bls_all (l := l.map cO) (f := isIt) (by rw [List.length_map]; omega)
  have f0 := fun x0 x1 x2 => items_comp (x0 := x0) (x1 := x1) (x2 := x2) hk
  have ha : (l.map cO).all isIt = true := List.all_eq_true.mpr fun d hd => by obtain ⟨o, _, rfl⟩ := List.mem_map.mp hd; exact isIt_cO o
  rw [ha] at f3
  have e1 := pb_eq hR hn hp (m2 := m2) l
  have e2 := isnon_enP (l.foldl (stp R n) (some (some p)))
  unfold outs?
  generalize l.foldl (stp R n) (some (some p)) = z at *
  generalize l.map cO = ds at *
  generalize enP z = ez at *
  generalize (ds.map fun d => vb (isIt d)) = xs at *
  generalize (ds.map fun d => D.bl (isIt d)) = ys at *
  generalize R.map dn = Rd at *
  unfold m_p_is_way_out fnM
  rw [b_p_is_way_out_eq]
  unfold t_p_is_way_out_0 t_p_is_way_out_1 t_p_is_way_out_2 t_p_is_way_out_3
  cases m <;> cases m2 <;> simp [e_pre, e_even, c1, c2, f0, f1, f2, f3, e1, e2]
end
end Lw
set_option maxHeartbeats 4000000
namespace Lw
open PySem Vs
/-! rows behind hits -/
theorem mv_inv {n : Nat} {p L : List Nat} (hp : Pm n p) (hx : L.length = n) : mv p L = (inv p).map (nth L) := by
  refine nth_ext (by rw [mv_len, List.length_map, inv_len, hp.len, hx]) fun i hi => ?_
  rw [mv_len, hx] at hi
  have e := mv_get hp hx (j := i)
  rw [if_pos hi] at e
  have h1 := hp.idx_lt hi
  rw [nth_map (by rw [inv_len, hp.len]; exact hi), nth_inv (by rw [hp.len]; exact hi), nth_eq (by rw [mv_len, hx]; exact hi), nth_eq (by omega)]
  rw [List.getElem?_eq_getElem (by rw [mv_len, hx]; exact hi), List.getElem?_eq_getElem (by omega)] at e
  exact Option.some.inj e
theorem range_nth (L : List Nat) : (List.range L.length).map (nth L) = L :=
  nth_ext (by simp) fun i hi => by
    rw [List.length_map, List.length_range] at hi
    rw [nth_map (by rw [List.length_range]; exact hi), nth_range hi]
theorem mv_perm {n : Nat} {p L : List Nat} (hp : Pm n p) (hx : L.length = n) : (mv p L).Perm L := by
  rw [mv_inv hp hx]
  have := List.Perm.map (nth L) hp.inv
  rw [← hx, range_nth L] at this
  exact this
theorem Row.mv {n : Nat} {p L : List Nat} (h : Row n L) (hp : Pm n p) : Row n (Vs.mv p L) :=
  ⟨by rw [mv_len, h.len], (mv_perm hp h.len).nodup_iff.mpr h.nd, fun x hx => h.le x ((mv_perm hp h.len).mem_iff.mp hx)⟩
def hitF (R : List (List Nat)) (L : List Nat) (t : Nat) : List Nat := mv (R.getD (L.idxOf t) []) L
def runF (R : List (List Nat)) : List Nat → List Nat → List Nat
  | L, [] => L
  | L, t :: ts => runF R (hitF R L t) ts
theorem runF_snoc {R : List (List Nat)} : ∀ {ts L : List Nat} {t : Nat}, runF R L (ts ++ [t]) = hitF R (runF R L ts) t
  | [], L, t => rfl
  | a :: ts, L, t => runF_snoc (ts := ts)
theorem idx_lt {L : List Nat} {t : Nat} (h : t ∈ L) : L.idxOf t < L.length := List.idxOf_lt_length_of_mem h
theorem rule_at {n t : Nat} {R : List (List Nat)} {L : List Nat} (hR : IsRule n R) (hL : L.length = n) (ht : t ∈ L) : ∃ p, R.getD (L.idxOf t) [] = p ∧ Pm n p ∧ atD (R.map dn) (L.idxOf t : Int) = some (.lst (dnat p)) := by
  have h1 := idx_lt ht
  have h2 : L.idxOf t < R.length := by rw [hR.len]; omega
  refine ⟨R[L.idxOf t], ?_, hR.pm _ (List.getElem_mem h2), ?_⟩
  · rw [List.getD_eq_getElem?_getD, List.getElem?_eq_getElem h2]; rfl
  · rw [at_nat (by rw [List.length_map]; exact h2), List.getElem_map]
theorem hit_perm {n t : Nat} {R : List (List Nat)} {L : List Nat} (hR : IsRule n R) (hL : L.length = n) (ht : t ∈ L) : (hitF R L t).Perm L := by
  obtain ⟨p, e, hp, _⟩ := rule_at hR hL ht
  unfold hitF
  rw [e]
  exact mv_perm hp hL
theorem run_perm {n : Nat} {R : List (List Nat)} (hR : IsRule n R) : ∀ {ts L : List Nat}, L.length = n → (∀ t ∈ ts, t ∈ L) → (runF R L ts).Perm L
  | [], L, hL, h => List.Perm.refl _
  | t :: ts, L, hL, h => by
    have h1 := hit_perm hR hL (h t (List.mem_cons_self ..))
    exact (run_perm hR (ts := ts) (L := hitF R L t) (by rw [h1.length_eq, hL]) fun x hx => h1.mem_iff.mpr (h x (List.mem_cons_of_mem _ hx))).trans h1
theorem Row.run {n : Nat} {R : List (List Nat)} {L ts : List Nat} (hR : IsRule n R) (h : Row n L) (ht : ∀ t ∈ ts, t ∈ L) : Row n (runF R L ts) := by
  have p := run_perm hR h.len ht
  exact ⟨by rw [p.length_eq, h.len], p.nodup_iff.mpr h.nd, fun x hx => h.le x (p.mem_iff.mp hx)⟩
end Lw
set_option maxHeartbeats 4000000
namespace Lw
open PySem Vs
/-! the law's own access alone (laws 56 to 62) -/
def stepF (R : List (List Nat)) (L : List Nat) (t : Nat) : List Nat := if t ∈ L then hitF R L t else L.drop 1 ++ [t]
theorem lstep_eq {m m1 n t : Nat} {R : List (List Nat)} {L : List Nat} (hR : IsRule n R) (hn : n ≤ 12) (hL : L.length = n) :
    m_l_step [(m, .lst (R.map dn)), (m1, .lst (dnat L)), (0, .int (t : Int))] = .ok (if decide (t ∈ L) = true then 1 else 2, .tup [.bl (decide (t ∈ L)), .lst (dnat (stepF R L t))]) [some (0, .lst (R.map dn)), some (0, .lst (dnat L)), some (0, .int (t : Int))] := by
  have e6 : ∀ a b c d, kIn ⟨a, b, .int (t : Int)⟩ ⟨c, d, .lst (dnat L)⟩ = some (vb (decide (t ∈ L))) := fun a b c d => e_in
  by_cases ht : t ∈ L
  · obtain ⟨p, e1, hp, e3⟩ := rule_at hR hL ht
    have e5 : ∀ q m q' n', kIndex ⟨q, m, .lst (dnat L)⟩ [⟨q', n', .int (t : Int)⟩] = some (vi (L.idxOf t : Nat)) := fun q m q' n' => e_index ht
    have e7 : stepF R L t = mv p L := by unfold stepF hitF; rw [if_pos ht, e1]
    have e8 := e_list (p := true) (m := 0) (l := dnat L) (.inr (Nat.zero_le 1))
    have e8' := e_list (p := false) (m := 0) (l := dnat L) (.inl rfl)
    have loop : forL (gname 5) q_l_step_0 (rng 0 ((L.length : Nat) : Int)) [some (0, .lst (R.map dn)), some (0, .lst (dnat L)), some (0, .int (t : Int)), some (1, .lst (dnat L)), some (0, .int (L.idxOf t : Nat)), none] =
        .nx [some (0, .lst (R.map dn)), some (0, .lst (dnat L)), some (0, .int (t : Int)), some (1, .lst (dnat (mv p L))), some (0, .int (L.idxOf t : Nat)), none] := by
      have h := forL_eq (g := gname 5) (b := q_l_step_0) (rng 0 ((L.length : Nat) : Int)) (fun k => [some (0, .lst (R.map dn)), some (0, .lst (dnat L)), some (0, .int (t : Int)), some (1, .lst (dnat (scat (p.take k) L L))), some (0, .int (L.idxOf t : Nat)), none]) fun k d hd => by
        obtain ⟨rfl, hk⟩ := rng_get hd
        have hk : k < L.length := by omega
        have h1 := hp.nth_lt (i := k) (by omega)
        have h2 : (scat (p.take k) L L).length = n := by rw [scat_len, hL]
        have h4 := at_nth (l := p) (i := k) (by rw [hp.len]; omega)
        have h5 := at_nth (l := L) (i := k) hk
        have h6 := scat_step k p L L (nth L k) (by rw [hp.len]; omega) (by rw [nth_eq hk]; exact List.getElem?_eq_getElem hk)
        generalize L.idxOf t = i at *
        generalize R.map dn = Rd at *
        rw [h6, ← dnat_set]
        unfold q_l_step_0
        simp [e_tdy, e_even, e3, h2, h4, h5, nix_nat h1, VV.kept, VV.stable]
      have e2 : scat p L L = mv p L := rfl
      simp only [rng_len] at h
      rw [show (((L.length : Nat) : Int) - 0).toNat = p.length by rw [hp.len]; omega, List.take_length, e2, List.take_zero] at h
      exact h
    rw [e7]
    rw [decide_eq_true ht] at e6 ⊢
    have e9 := e_range1 (p := false) (m := 0) (j := ((L.length : Nat) : Int)) (by omega) (by omega)
    generalize L.idxOf t = i at *
    generalize R.map dn = Rd at *
    generalize mv p L = w at *
    unfold m_l_step fnM
    rw [b_l_step_eq]
    unfold w_l_step_0
    generalize q_l_step_0 = q0 at *
    simp [e_pre, e_even, isL, e5, e6, e8, e8', e9, loop, VV.kept, VV.stable]
  · have e7 : stepF R L t = L.drop 1 ++ [t] := by unfold stepF; rw [if_neg ht]
    have c1 : cutD (dnat L) (some 1) none = dnat (L.drop 1) := by
      have := cut_from (l := dnat L) (t := 1)
      rw [dnat_drop] at this
      exact this
    have e8 := e_addL (p := false) (q := false) (m := 1) (n := 1) (l := dnat (L.drop 1)) (k := [.int (t : Int)]) (.inl rfl) (.inl rfl) (by rw [dnat_length, List.length_drop]; simp; omega)
    rw [show dnat (L.drop 1) ++ [.int (t : Int)] = dnat (L.drop 1 ++ [t]) by rw [dnat_append]; rfl] at e8
    rw [e7]
    rw [decide_eq_false ht] at e6 ⊢
    generalize R.map dn = Rd at *
    generalize L.drop 1 ++ [t] = w at *
    generalize dnat (L.drop 1) = l1 at *
    unfold m_l_step fnM
    rw [b_l_step_eq]
    simp [e_pre, e_even, isL, e6, e8, e_sl, c1, VV.kept, VV.stable]
end Lw
set_option maxHeartbeats 4000000
namespace Lw
open PySem Vs
/-! the law's walk in a row of blocks -/
structure Rq (n : Nat) (L : List Nat) : Prop where
  len : L.length = n
  nd : L.Nodup
theorem Rq.mv {n : Nat} {p L : List Nat} (h : Rq n L) (hp : Pm n p) : Rq n (Vs.mv p L) :=
  ⟨by rw [mv_len, h.len], (mv_perm hp h.len).nodup_iff.mpr h.nd⟩
section
variable {n a f m m2 : Nat} {R : List (List Nat)} {L : List Nat}
def posOf (L : List Nat) (a : Nat) : Option Nat := if a ∈ L then some (L.idxOf a) else none
theorem idx_at {L : List Nat} (h : L.Nodup) {i : Nat} (hi : i < L.length) : L.idxOf (nth L i) = i := by
  rw [nth_eq hi]
  exact List.Nodup.idxOf_getElem h i hi
theorem pos_miss (hL : Rq n L) (h0 : 0 < n) (ha : a ∈ L) (hf : ∀ x ∈ L, x < f) : posOf (L.drop 1 ++ [f]) a = if L.idxOf a = 0 then none else some (L.idxOf a - 1) := by
  have hl := hL.len
  have hd := hL.nd
  have haf := hf a ha
  cases L with
  | nil => simp at ha
  | cons x T =>
    rw [List.drop_one, List.tail_cons]
    rw [List.nodup_cons] at hd
    by_cases c : x = a
    · subst c
      have h1 : x ∉ T ++ [f] := fun h => by
        rcases List.mem_append.mp h with z | z
        · exact hd.1 z
        · have := List.mem_singleton.mp z; omega
      rw [List.idxOf_cons_self]
      unfold posOf
      rw [if_neg h1, if_pos rfl]
    · have hT : a ∈ T := by
        rcases List.mem_cons.mp ha with z | z
        · exact absurd z.symm c
        · exact z
      have h1 : a ∈ T ++ [f] := List.mem_append_left _ hT
      have hx : (x == a) = false := by simpa using c
      rw [List.idxOf_cons, hx, cond_false]
      unfold posOf
      rw [if_pos h1, if_neg (by omega), List.idxOf_append, if_pos hT]
      rfl
theorem row_miss (hL : Rq n L) (h0 : 0 < n) (hf : ∀ x ∈ L, x < f) : Rq n (L.drop 1 ++ [f]) ∧ ∀ x ∈ L.drop 1 ++ [f], x < f + 1 := by
  refine ⟨⟨?_, ?_⟩, ?_⟩
  · rw [List.length_append, List.length_drop, hL.len]; simp; omega
  · rw [List.nodup_append]
    refine ⟨hL.nd.sublist (List.drop_sublist _ _), by simp, ?_⟩
    intro x hx y hy
    have := hf x (List.mem_of_mem_drop hx)
    rw [List.mem_singleton.mp hy]
    omega
  · intro x hx
    rcases List.mem_append.mp hx with z | z
    · have := hf x (List.mem_of_mem_drop z); omega
    · rw [List.mem_singleton.mp z]; omega
theorem pos_hit (hL : Rq n L) (ha : a ∈ L) {q : List Nat} (hq : Pm n q) : posOf (mv q L) a = some (nth q (L.idxOf a)) := by
  have hi : L.idxOf a < n := by rw [← hL.len]; exact List.idxOf_lt_length_of_mem ha
  have h1 := hq.nth_lt hi
  have hm := hL.mv hq
  have e := mv_get hq hL.len (j := nth q (L.idxOf a))
  rw [if_pos h1, hq.idx_nth hi] at e
  have e2 : L[L.idxOf a]? = some a := by
    rw [List.getElem?_eq_getElem (by rw [hL.len]; exact hi), List.getElem_idxOf]
  rw [e2] at e
  have h2 : nth q (L.idxOf a) < (mv q L).length := by rw [hm.len]; exact h1
  have e3 : nth (mv q L) (nth q (L.idxOf a)) = a := by
    rw [nth_eq h2]
    rw [List.getElem?_eq_getElem h2] at e
    exact Option.some.inj e
  have e4 := idx_at hm.nd h2
  rw [e3] at e4
  unfold posOf
  rw [if_pos ((mv_perm hq hL.len).mem_iff.mpr ha), e4]
def EW (Rd : List D) (a : Nat) (ds : PV) (L : List Nat) (f : Nat) : Vs.Env := [some (0, .lst Rd), some (0, .int (a : Int)), some ds, some (0, .lst (dnat L)), some (0, .int (f : Int)), none, none]
theorem wl_gone {Rd : List D} {ds : PV} {d : D} (ha : a ∉ L) : (gname 5 ⟨false, 0, d⟩ (EW Rd a ds L f)).seq q_l_walk_0 = .ret (0, .str "odd") [some (0, .lst Rd), some (0, .int (a : Int)), some ds, some (0, .lst (dnat L)), some (0, .int (f : Int)), some (0, d), none] := by
  have e1 : ∀ p q m n, kNotIn ⟨p, m, .int (a : Int)⟩ ⟨q, n, .lst (dnat L)⟩ = some (vb true) := fun p q m n => by rw [e_notin, decide_eq_false ha]; rfl
  unfold q_l_walk_0 EW
  simp [e_tdy, e_even, e1, VV.kept, VV.stable]
theorem wl_none {ds : PV} (hR : IsRule n R) (hn : n ≤ 12) (h0 : 0 < n) (hL : Rq n L) (hf : ∀ x ∈ L, x < f) (ha : a ∈ L) : (gname 5 ⟨false, 0, .non⟩ (EW (R.map dn) a ds L f)).seq q_l_walk_0 = .nx (EW (R.map dn) a ds (L.drop 1 ++ [f]) (f + 1)) := by
  have e1 : ∀ p q m n, kNotIn ⟨p, m, .int (a : Int)⟩ ⟨q, n, .lst (dnat L)⟩ = some (vb false) := fun p q m n => by rw [e_notin, decide_eq_true ha]; rfl
  have hfL : f ∉ L := fun h => by have := hf f h; omega
  have e2 := lstep_eq (m := 0) (m1 := 0) (t := f) hR hn hL.len
  have e3 := eq_own none
  unfold stepF at e2
  rw [if_neg hfL, decide_eq_false hfL] at e2
  have e4 : ((f + 1 : Nat) : Int) = (f : Int) + 1 := by omega
  unfold cO at e3
  unfold EW
  rw [e4]
  generalize dnat (L.drop 1 ++ [f]) = L2 at *
  unfold q_l_walk_0
  generalize R.map dn = Rd at *
  simp only at e3
  simp [e_tdy, e_even, e1, e2, e3, kIx, VV.kept, VV.stable]
theorem wl_some {ds : PV} (hR : IsRule n R) (hn : n ≤ 12) (hL : Rq n L) (ha : a ∈ L) (i : Int) : if 0 ≤ i ∧ i < n ∧ i ≠ L.idxOf a then
    (gname 5 ⟨false, 0, .int i⟩ (EW (R.map dn) a ds L f)).seq q_l_walk_0 = .nx (EW (R.map dn) a ds (mv (R.getD i.toNat []) L) f)
    else (gname 5 ⟨false, 0, .int i⟩ (EW (R.map dn) a ds L f)).seq q_l_walk_0 = .ret (0, .str "odd") [some (0, .lst (R.map dn)), some (0, .int (a : Int)), some ds, some (0, .lst (dnat L)), some (0, .int (f : Int)), some (0, .int i), none] := by
  have e1 : ∀ p q m n, kNotIn ⟨p, m, .int (a : Int)⟩ ⟨q, n, .lst (dnat L)⟩ = some (vb false) := fun p q m n => by rw [e_notin, decide_eq_true ha]; rfl
  have e3 := eq_own (some i)
  unfold cO at e3
  have hl : (R.map dn).length = n := by rw [List.length_map, hR.len]
  by_cases c1 : 0 ≤ i ∧ i < n
  · obtain ⟨j, rfl⟩ : ∃ j : Nat, i = (j : Int) := ⟨i.toNat, by omega⟩
    have hj : j < L.length := by rw [hL.len]; omega
    have a1 := at_nth hj
    have ht := nth_mem hj
    have hi := idx_at hL.nd hj
    have hb : (nth L j = a) ↔ ((j : Int) = L.idxOf a) := ⟨fun h => by rw [← h, hi], fun h => by
      have h' : j = L.idxOf a := by omega
      rw [nth_eq hj]
      subst h'
      exact List.getElem_idxOf _⟩
    have c2 : (j : Int) < n := c1.2
    have c3 : (0 : Int) ≤ j := c1.1
    by_cases c : nth L j = a
    · have c' := hb.mp c
      rw [if_neg (fun h => h.2.2 c')]
      unfold EW
      generalize R.map dn = Rd at *
      generalize dnat L = Ld at *
      simp only at e3
      unfold q_l_walk_0
      simp [e_tdy, e_even, hl, e1, e3, a1, c, c1, c2, c3, VV.kept, VV.stable]
    · have c' : ¬ (j : Int) = L.idxOf a := fun h => c (hb.mpr h)
      rw [if_pos ⟨c3, c2, c'⟩]
      have e2 := lstep_eq (m := 0) (m1 := 0) (t := nth L j) hR hn hL.len
      unfold stepF hitF at e2
      rw [if_pos ht, decide_eq_true ht, hi] at e2
      rw [Int.toNat_natCast]
      unfold EW
      generalize dnat (mv (R.getD j []) L) = L2 at *
      generalize nth L j = t at *
      have cI : ¬ (t : Int) = (a : Int) := by omega
      generalize R.map dn = Rd at *
      generalize dnat L = Ld at *
      simp only at e3
      unfold q_l_walk_0
      simp [e_tdy, e_even, hl, e1, e2, e3, a1, cI, c1, c2, c3, kIx, VV.kept, VV.stable]
  · rw [if_neg (fun h => c1 ⟨h.1, h.2.1⟩)]
    unfold EW
    generalize R.map dn = Rd at *
    generalize dnat L = Ld at *
    simp only at e3
    unfold q_l_walk_0
    by_cases c2 : 0 ≤ i
    · have c3 : ¬ i < n := fun h => c1 ⟨c2, h⟩
      simp [e_tdy, e_even, hl, e1, e3, c2, c3, VV.kept, VV.stable]
    · simp [e_tdy, e_even, hl, e1, e3, c2, VV.kept, VV.stable]
end
end Lw
set_option maxHeartbeats 4000000
namespace Lw
open PySem Vs
/-! walk and due -/
section
variable {n a f m m2 : Nat} {R : List (List Nat)} {L : List Nat}
/-- one access of the walk -/
theorem wl_step {ds : PV} (hR : IsRule n R) (hn : n ≤ 12) (h0 : 0 < n) (hL : Rq n L) (hf : ∀ x ∈ L, x < f) (o : Option Int) :
    (∃ L' f', Rq n L' ∧ (∀ x ∈ L', x < f') ∧ f' ≤ f + 1 ∧ stp R n (some (posOf L a)) o = some (posOf L' a) ∧ (gname 5 ⟨false, 0, cO o⟩ (EW (R.map dn) a ds L f)).seq q_l_walk_0 = .nx (EW (R.map dn) a ds L' f')) ∨
    (stp R n (some (posOf L a)) o = none ∧ ∃ ρ3 ρ4 ρ5 ρ6, (gname 5 ⟨false, 0, cO o⟩ (EW (R.map dn) a ds L f)).seq q_l_walk_0 = .ret (0, .str "odd") [some (0, .lst (R.map dn)), some (0, .int (a : Int)), some ds, ρ3, ρ4, ρ5, ρ6]) := by
  by_cases ha : a ∈ L
  · have hp : posOf L a = some (L.idxOf a) := if_pos ha
    rw [hp]
    cases o with
    | none =>
      have h1 := row_miss hL h0 hf
      exact .inl ⟨_, _, h1.1, h1.2, Nat.le_refl _, by rw [pos_miss hL h0 ha hf]; rfl, wl_none hR hn h0 hL hf ha⟩
    | some i =>
      have e := wl_some (ds := ds) (f := f) hR hn hL ha i
      have hs : stp R n (some (some (L.idxOf a))) (some i) = if 0 ≤ i ∧ i < n ∧ i ≠ L.idxOf a then some (some (nth (R.getD i.toNat []) (L.idxOf a))) else none := rfl
      rw [hs]
      by_cases c : 0 ≤ i ∧ i < n ∧ i ≠ L.idxOf a
      · rw [if_pos c] at e ⊢
        have hq := (rule_at' hR (i := i.toNat) (by omega)).2
        have hm := hL.mv hq
        exact .inl ⟨_, _, hm, fun x hx => hf x ((mv_perm hq hL.len).mem_iff.mp hx), Nat.le_succ _, by rw [pos_hit hL ha hq], e⟩
      · rw [if_neg c] at e ⊢
        exact .inr ⟨rfl, _, _, _, _, e⟩
  · have hp : posOf L a = none := if_neg ha
    rw [hp]
    exact .inr ⟨by cases o <;> rfl, _, _, _, _, wl_gone ha⟩
theorem wl_loop {ds : PV} (hR : IsRule n R) (hn : n ≤ 12) (h0 : 0 < n) : ∀ (l : List (Option Int)) (L : List Nat) (f : Nat), Rq n L → (∀ x ∈ L, x < f) →
    (∃ L' f', l.foldl (stp R n) (some (posOf L a)) = some (posOf L' a) ∧ forL (gname 5) q_l_walk_0 (l.map cO) (EW (R.map dn) a ds L f) = .nx (EW (R.map dn) a ds L' f')) ∨
    (l.foldl (stp R n) (some (posOf L a)) = none ∧ ∃ ρ3 ρ4 ρ5 ρ6, forL (gname 5) q_l_walk_0 (l.map cO) (EW (R.map dn) a ds L f) = .ret (0, .str "odd") [some (0, .lst (R.map dn)), some (0, .int (a : Int)), some ds, ρ3, ρ4, ρ5, ρ6])
  | [], L, f, _, _ => .inl ⟨L, f, rfl, rfl⟩
  | o :: l, L, f, hL, hf => by
    rw [List.map_cons, forL, List.foldl_cons]
    rcases wl_step (a := a) (ds := ds) hR hn h0 hL hf o with ⟨L', f', h1, h2, h3, h4, h5⟩ | ⟨h1, ρ3, ρ4, ρ5, ρ6, h2⟩
    · rw [h4, h5]
      exact wl_loop hR hn h0 l L' f' h1 h2
    · rw [h1, h2]
      exact .inr ⟨fold_none l, ρ3, ρ4, ρ5, ρ6, rfl⟩
def enW : Pst → D
  | none => .str "odd" | some none => .str "gone" | some (some q) => .int (q : Int)
theorem walk_eq (hR : IsRule n R) (h2 : 2 ≤ n) (hn : n ≤ 12) (ha : a < n) {l : List (Option Int)} :
    m_l_walk [(m, .lst (R.map dn)), (0, .int (a : Int)), (m2, .lst (l.map cO))] = .ok (0, enW (l.foldl (stp R n) (some (some a)))) [some (0, .lst (R.map dn)), some (0, .int (a : Int)), some (m2, .lst (l.map cO))] := by
  have r0 : Rq n (List.range n) := ⟨List.length_range, List.nodup_range⟩
  have f0 : ∀ x ∈ List.range n, x < 100 := fun x hx => by have := List.mem_range.mp hx; omega
  have p0 : posOf (List.range n) a = some a := by
    unfold posOf
    rw [if_pos (List.mem_range.mpr ha)]
    have := idx_at r0.nd (i := a) (by rw [List.length_range]; exact ha)
    rw [nth_eq (by rw [List.length_range]; exact ha), List.getElem_range] at this
    rw [this]
  have hff := forsV_I (i := 2) (g := gname 5) (b := q_l_walk_0) (ds := l.map cO) (m0 := m2) (o := fors (it1 kL (fz 0 [2] (v 2))) (gname 5) q_l_walk_0) (ρ := EW (R.map dn) a (m2, .lst (l.map cO)) (List.range n) 100)
    (fun ρ => ∃ (L : List Nat) (f : Nat), Rq n L ∧ (∀ x ∈ L, x < f) ∧ ρ = EW (R.map dn) a (m2, .lst (l.map cO)) L f) ⟨_, _, r0, f0, rfl⟩
    (fun ρ h => by obtain ⟨L, f, _, _, rfl⟩ := h; rfl) (List.all_eq_true.mpr fun x hx => by obtain ⟨o, _, rfl⟩ := List.mem_map.mp hx; exact imm_cO o) (fun d hd ρ h => by
      obtain ⟨L, f, hL, hf, rfl⟩ := h
      obtain ⟨o, _, rfl⟩ := List.mem_map.mp hd
      rcases wl_step (a := a) (ds := (m2, .lst (l.map cO))) hR hn (by omega) hL hf o with ⟨L', f', h1, h2, h3, h4, h5⟩ | ⟨h1, ρ3, ρ4, ρ5, ρ6, h2⟩
      · exact .inl ⟨_, h5, L', f', h1, h2, rfl⟩
      · exact .inr ⟨_, _, h2⟩)
  have hlp := wl_loop (a := a) (ds := (m2, .lst (l.map cO))) hR hn (by omega) l (List.range n) 100 r0 f0
  rw [p0] at hlp
  have hlen : (R.map dn).length = n := by rw [List.length_map, hR.len]
  have rg := e_listRange' (p := false) (m := 0) (n := n) (by omega)
  generalize l.map cO = ds at *
  generalize l.foldl (stp R n) (some (some a)) = z at *
  generalize R.map dn = Rd at *
  unfold m_l_walk fnM
  rw [b_l_walk_eq]
  unfold w_l_walk_0
  unfold EW at hff hlp
  have h100 : ((100 : Nat) : Int) = 100 := rfl
  rw [h100] at hff hlp
  rcases hlp with ⟨L', f', h1, h2⟩ | ⟨h1, ρ3, ρ4, ρ5, ρ6, h2⟩
  · rw [h1]
    have e1 : ∀ p q m n, kIn ⟨p, m, .int (a : Int)⟩ ⟨q, n, .lst (dnat L')⟩ = some (vb (decide (a ∈ L'))) := fun p q m n => e_in
    by_cases c : a ∈ L'
    · have e2 : ∀ p q m n, kIndex ⟨p, m, .lst (dnat L')⟩ [⟨q, n, .int (a : Int)⟩] = some (vi (L'.idxOf a : Nat)) := fun p q m n => e_index c
      have hz : posOf L' a = some (L'.idxOf a) := if_pos c
      rw [hz]
      rw [decide_eq_true c] at e1
      generalize L'.idxOf a = i at *
      generalize dnat L' = Ld at *
      generalize dnat (List.range n) = Lr at *
      generalize q_l_walk_0 = q0 at *
      cases m <;> simp [e_pre, e_even, hlen, rg, hff, h2, e1, e2, isL, enW, VV.kept, VV.stable]
    · have hz : posOf L' a = none := if_neg c
      rw [hz]
      rw [decide_eq_false c] at e1
      generalize dnat L' = Ld at *
      generalize dnat (List.range n) = Lr at *
      generalize q_l_walk_0 = q0 at *
      cases m <;> simp [e_pre, e_even, hlen, rg, hff, h2, e1, isL, enW, VV.kept, VV.stable]
  · rw [h1]
    generalize dnat (List.range n) = Lr at *
    generalize q_l_walk_0 = q0 at *
    cases m <;> simp [e_pre, e_even, hlen, rg, hff, h2, enW, VV.kept, VV.stable]
end
end Lw
set_option maxHeartbeats 4000000
namespace Lw
open PySem Vs
/-! the shortest way out: it ends, and is a list of None and places -/
abbrev Way := Nat × List (Option Int)
def lookW (W : List Way) (q : Nat) : Option (List (Option Int)) := (W.find? fun w => decide (w.1 = q)).map (·.2)
def dW (W : List Way) : List (D × D) := W.map fun w => (.int (w.1 : Int), .lst (w.2.map cO))
def keys (W : List Way) : List Nat := W.map (·.1)
section
variable {n p t μ h q : Nat} {R : List (List Nat)} {W W' : List Way} {lt : List Nat} {l : List (Option Int)}
theorem same_ii (a b : Nat) : D.same (.int (a : Int)) (.int (b : Int)) = decide (a = b) := by
  show decide ((a : Int) = (b : Int)) = _
  by_cases c : a = b
  · simp [c]
  · have h : ¬ (a : Int) = b := by omega
    rw [decide_eq_false c, decide_eq_false h]
theorem dlook_W (q : Nat) : ∀ W : List Way, dLook (dW W) (.int (q : Int)) = (lookW W q).map fun l => .lst (l.map cO)
  | [] => rfl
  | w :: W => by
    have ih := dlook_W q W
    unfold dLook dW lookW at *
    rw [List.map_cons, List.find?_cons, List.find?_cons]
    simp only [same_ii]
    by_cases c : w.1 = q
    · simp [c]
    · rw [decide_eq_false c]
      exact ih
theorem look_mem {q : Nat} : ∀ {W : List Way}, (lookW W q).isSome = decide (q ∈ keys W)
  | [] => rfl
  | w :: W => by
    have ih := look_mem (W := W) (q := q)
    unfold lookW keys at *
    rw [List.map_cons, List.find?_cons]
    by_cases c : w.1 = q
    · simp [c]
    · rw [decide_eq_false c]
      have c' : ¬ q = w.1 := fun h => c h.symm
      simp only [List.mem_cons, c', false_or]
      exact ih
theorem any_W : (dW W).any (fun p => p.1.same (.int (q : Int))) = decide (q ∈ keys W) := by
  unfold dW keys
  rw [List.any_map]
  rw [Bool.eq_iff_iff, List.any_eq_true, decide_eq_true_eq, List.mem_map]
  constructor
  · rintro ⟨w, hw, e⟩
    exact ⟨w, hw, by simpa [same_ii] using e⟩
  · rintro ⟨w, hw, e⟩
    exact ⟨w, hw, by simp [same_ii, e]⟩
theorem look_app_old (h : q ∈ keys W) (w : Way) : lookW (W ++ [w]) q = lookW W q := by
  have h1 := look_mem (q := q) (W := W)
  rw [decide_eq_true h] at h1
  unfold lookW at *
  rw [List.find?_append]
  cases e : W.find? fun w => decide (w.1 = q) with
  | none => rw [e] at h1; simp at h1
  | some x => rfl
theorem look_app_new (h : q ∉ keys W) : lookW (W ++ [(q, l)]) q = some l := by
  have h1 := look_mem (q := q) (W := W)
  rw [decide_eq_false h] at h1
  unfold lookW at *
  rw [List.find?_append]
  cases e : W.find? fun w => decide (w.1 = q) with
  | none => simp
  | some x => rw [e] at h1; simp at h1
theorem keys_app (w : Way) : keys (W ++ [w]) = keys W ++ [w.1] := by unfold keys; simp
theorem dW_app (w : Way) : dW (W ++ [w]) = dW W ++ [(.int (w.1 : Int), .lst (w.2.map cO))] := by unfold dW; simp
def Ext (W W' : List Way) : Prop := ∀ q l, lookW W q = some l → lookW W' q = some l
theorem mem_of_look (h : lookW W q = some l) : q ∈ keys W := by
  have h1 := look_mem (q := q) (W := W)
  rw [h] at h1
  simpa using h1.symm
theorem look_of_mem (h : q ∈ keys W) : ∃ l, lookW W q = some l := by
  have h1 := look_mem (q := q) (W := W)
  rw [decide_eq_true h] at h1
  exact Option.isSome_iff_exists.mp h1
theorem Ext.app (w : Way) : Ext W (W ++ [w]) := fun q l h => by rw [look_app_old (mem_of_look h)]; exact h
theorem Ext.mem (h : Ext W W') (hq : q ∈ keys W) : q ∈ keys W' := by
  obtain ⟨l, e⟩ := look_of_mem hq
  exact mem_of_look (h q l e)
theorem Ext.trans {W1 W2 W3 : List Way} (a : Ext W1 W2) (b : Ext W2 W3) : Ext W1 W3 := fun q l h => b q l (a q l h)
theorem Ext.rf : Ext W W := fun _ _ h => h
def okO (n : Nat) (o : Option Int) : Prop := ∀ i, o = some i → 0 ≤ i ∧ i < n
theorem look_app_inv {w : Way} {q : Nat} {l : List (Option Int)} (h : lookW (W ++ [w]) q = some l) : lookW W q = some l ∨ q = w.1 ∧ l = w.2 := by
  by_cases c : q ∈ keys W
  · rw [look_app_old c] at h
    exact .inl h
  · have h1 := look_mem (q := q) (W := W)
    rw [decide_eq_false c] at h1
    unfold lookW at *
    rw [List.find?_append] at h
    cases e : W.find? fun w => decide (w.1 = q) with
    | some x => rw [e] at h1; simp at h1
    | none =>
      rw [e] at h
      simp only [Option.none_or, List.find?_cons, List.find?_nil] at h
      by_cases c2 : w.1 = q
      · rw [decide_eq_true c2] at h
        exact .inr ⟨c2.symm, (Option.some.inj h).symm⟩
      · rw [decide_eq_false c2] at h
        cases h
def dM (x : Option Int × Option Nat) : D := .tup [cO x.1, cP x.2]
def msF (R : List (List Nat)) (n p : Nat) : List (Option Int × Option Nat) := (none, if p = 0 then none else some (p - 1)) :: ((List.range n).filter fun i => decide (i ≠ p)).map fun (i : Nat) => (some (i : Int), some (nth (R.getD i []) p))
theorem mvs_ms (R : List (List Nat)) (n p : Nat) : mvsD R n p = (msF R n p).map dM := by
  unfold mvsD msF
  rw [List.map_cons, List.map_map]
  congr 1
  by_cases c : p = 0
  · rw [if_pos c, if_pos c]; rfl
  · rw [if_neg c, if_neg c]
    have : ((p - 1 : Nat) : Int) = (p : Int) - 1 := by omega
    unfold dM cP cO
    simp only [this]
theorem ms_lt (hR : IsRule n R) (hp : p < n) : ∀ x ∈ msF R n p, ∀ q, x.2 = some q → q < n := by
  intro x hx q e
  unfold msF at hx
  rcases List.mem_cons.mp hx with rfl | z
  · simp only at e
    split at e
    · cases e
    · cases e; omega
  · obtain ⟨i, hi, rfl⟩ := List.mem_map.mp z
    have hi := List.mem_range.mp (List.mem_filter.mp hi).1
    cases e
    exact (rule_at' hR hi).2.nth_lt hp
theorem ms_ok (p : Nat) : ∀ x ∈ msF R n p, okO n x.1 := by
  intro x hx
  unfold msF at hx
  rcases List.mem_cons.mp hx with rfl | z
  · intro i e; cases e
  · obtain ⟨i, hi, rfl⟩ := List.mem_map.mp z
    have hi := List.mem_range.mp (List.mem_filter.mp hi).1
    intro j e
    cases e
    omega
def outIn (R : List (List Nat)) (n : Nat) : Nat → Nat → Bool
  | 0, _ => false
  | t + 1, q => (msF R n q).any fun x => match x.2 with
    | none => true
    | some q' => outIn R n t q'
theorem ms_stp (R : List (List Nat)) (n p : Nat) : ∀ x ∈ msF R n p, stp R n (some (some p)) x.1 = some x.2 := by
  intro x hx
  unfold msF at hx
  rcases List.mem_cons.mp hx with rfl | z
  · rfl
  · obtain ⟨i, hi, rfl⟩ := List.mem_map.mp z
    have h1 := List.mem_range.mp (List.mem_filter.mp hi).1
    have h2 : i ≠ p := by simpa using (List.mem_filter.mp hi).2
    show (if 0 ≤ (i : Int) ∧ (i : Int) < n ∧ (i : Int) ≠ p then _ else _) = _
    rw [if_pos (by omega)]
    rfl
theorem ms_of (R : List (List Nat)) (n p : Nat) {o : Option Int} {c : Option Nat} (h : stp R n (some (some p)) o = some c) : (o, c) ∈ msF R n p := by
  unfold msF
  cases o with
  | none =>
    cases h
    exact List.mem_cons_self ..
  | some i =>
    have h : (if 0 ≤ i ∧ i < n ∧ i ≠ p then some (some (nth (R.getD i.toNat []) p)) else none) = some c := h
    split at h
    · rename_i c0
      cases h
      refine List.mem_cons_of_mem _ (List.mem_map.mpr ⟨i.toNat, List.mem_filter.mpr ⟨List.mem_range.mpr (by omega), ?_⟩, ?_⟩)
      · have : i.toNat ≠ p := by omega
        simpa using this
      · rw [Int.toNat_of_nonneg c0.1]
    · cases h
theorem ms_none (R : List (List Nat)) (n p : Nat) {o : Option Int} (h : (o, none) ∈ msF R n p) : o = none := by
  unfold msF at h
  rcases List.mem_cons.mp h with e | z
  · exact (Prod.mk.inj e).1
  · obtain ⟨i, _, e⟩ := List.mem_map.mp z
    cases (Prod.mk.inj e).2
theorem out_mono : ∀ (t q : Nat), outIn R n t q = true → outIn R n (t + 1) q = true
  | 0, q, h => by cases h
  | t + 1, q, h => by
    unfold outIn at h ⊢
    rw [List.any_eq_true] at h ⊢
    obtain ⟨x, hx, e⟩ := h
    refine ⟨x, hx, ?_⟩
    obtain ⟨o, c⟩ := x
    cases c with
    | none => rfl
    | some q' => exact out_mono t q' e
theorem out_le {t e q : Nat} (h : outIn R n t q = false) (he : e ≤ t) : outIn R n e q = false := by
  induction t with
  | zero => rw [show e = 0 by omega]; rfl
  | succ t ih =>
    by_cases c : e = t + 1
    · rw [c]; exact h
    · refine ih ?_ (by omega)
      cases c2 : outIn R n t q with
      | false => rfl
      | true => rw [out_mono t q c2] at h; cases h
theorem fold_gone : ∀ l : List (Option Int), l ≠ [] → l.foldl (stp R n) (some none) = none
  | [], h => absurd rfl h
  | o :: l, _ => by
    show l.foldl (stp R n) (stp R n (some none) o) = none
    rw [show stp R n (some none) o = none by cases o <;> rfl]
    exact fold_none l
theorem out_of : ∀ (l : List (Option Int)) (q : Nat), l.foldl (stp R n) (some (some q)) = some none → outIn R n l.length q = true
  | [], q, h => by cases h
  | o :: l, q, h => by
    rw [List.foldl_cons] at h
    cases e : stp R n (some (some q)) o with
    | none => rw [e, fold_none l] at h; cases h
    | some c =>
      have hm := ms_of R n q e
      rw [e] at h
      rw [List.length_cons]
      unfold outIn
      rw [List.any_eq_true]
      refine ⟨_, hm, ?_⟩
      cases c with
      | none => rfl
      | some q' => exact out_of l q' h
def IsD (R : List (List Nat)) (n p d : Nat) : Prop := outIn R n d p = true ∧ ∀ e, e < d → outIn R n e p = false
theorem IsD.uniq {d e : Nat} (h : IsD R n p d) (k : IsD R n p e) : d = e := by
  rcases Nat.lt_trichotomy d e with c | c | c
  · have := k.2 d c; rw [h.1] at this; cases this
  · exact c
  · have := h.2 e c; rw [k.1] at this; cases this
/-- the state within layer t: the least place met was μ at its begin -/
structure SI (R : List (List Nat)) (n p : Nat) (ws : List Nat) (t μ : Nat) (W : List Way) (lt : List Nat) : Prop where
  nd : (keys W).Nodup
  kb : ∀ q ∈ keys W, q < n
  len : lt.length ≤ W.length
  lat : ∀ q ∈ lt, ∃ l, lookW W q = some l ∧ l.length = t + 1
  gd : ∀ q l, lookW W q = some l → ∀ o ∈ l, okO n o
  fo : ∀ q l, lookW W q = some l → l.foldl (stp R n) (some (some p)) = some (some q)
  ps : lookW W p = some []
  le : ∀ q l, lookW W q = some l → l.length ≤ t + 1
  dn : ∀ q l, lookW W q = some l → l.length < t → ∀ x ∈ msF R n q, ∃ q' l', x.2 = some q' ∧ lookW W q' = some l' ∧ l'.length ≤ l.length + 1
  wt : ∀ q l, lookW W q = some l → l.length = t → q ∈ ws
  lw : ∀ q l, lookW W q = some l → l.length = t + 1 → q ∈ lt
  mu : ∃ ν, (∀ q ∈ keys W, ν ≤ q) ∧ (ν = μ ∨ ν ∈ lt ∧ ν < μ)
variable {ws : List Nat}
theorem SI.no_out (hs : SI R n p ws t μ W lt) : ∀ (k q : Nat) (l : List (Option Int)), lookW W q = some l → l.length + k ≤ t → outIn R n k q = false
  | 0, q, l, _, _ => rfl
  | k + 1, q, l, h, hk => by
    have hd := hs.dn q l h (by omega)
    cases c : outIn R n (k + 1) q with
    | false => rfl
    | true =>
      unfold outIn at c
      rw [List.any_eq_true] at c
      obtain ⟨x, hx, e⟩ := c
      obtain ⟨q', l', e1, e2, e3⟩ := hd x hx
      rw [e1] at e
      simp only at e
      rw [SI.no_out hs k q' l' e2 (by omega)] at e
      cases e
theorem SI.wlen (hs : SI R n p ws t μ W lt) : W.length ≤ n := by
  have h1 : (keys W).length ≤ (List.range n).length := List.Nodup.length_le_of_subset hs.nd fun q hq => List.mem_range.mpr (hs.kb q hq)
  unfold keys at h1
  rw [List.length_map, List.length_range] at h1
  exact h1
theorem SI.app (hs : SI R n p ws t μ W lt) (hq : q ∉ keys W) (hn : q < n) (hl : l.length = t + 1) (hg : ∀ o ∈ l, okO n o) (hf : l.foldl (stp R n) (some (some p)) = some (some q)) : SI R n p ws t μ (W ++ [(q, l)]) (lt ++ [q]) where
  nd := by
    rw [keys_app, List.nodup_append]
    refine ⟨hs.nd, by simp, ?_⟩
    intro x hx y hy
    rw [List.mem_singleton.mp hy]
    intro e
    have e' : x = q := e
    exact hq (e' ▸ hx)
  kb := by
    intro x hx
    rw [keys_app] at hx
    rcases List.mem_append.mp hx with z | z
    · exact hs.kb x z
    · rw [List.mem_singleton.mp z]; exact hn
  len := by
    have := hs.len
    simp
    exact this
  lat := by
    intro x hx
    rcases List.mem_append.mp hx with z | z
    · obtain ⟨l', e, h'⟩ := hs.lat x z
      exact ⟨l', by rw [look_app_old (mem_of_look e)]; exact e, h'⟩
    · rw [List.mem_singleton.mp z]
      exact ⟨l, look_app_new hq, hl⟩
  gd := by
    intro x y h
    rcases look_app_inv h with z | ⟨rfl, rfl⟩
    · exact hs.gd x y z
    · exact hg
  fo := by
    intro x y h
    rcases look_app_inv h with z | ⟨rfl, rfl⟩
    · exact hs.fo x y z
    · exact hf
  ps := Ext.app _ _ _ hs.ps
  le := by
    intro x y h
    rcases look_app_inv h with z | ⟨rfl, rfl⟩
    · exact hs.le x y z
    · exact Nat.le_of_eq hl
  dn := by
    intro x y h hy z hz
    rcases look_app_inv h with u | ⟨_, u⟩
    · obtain ⟨q', l', e1, e2, e3⟩ := hs.dn x y u hy z hz
      exact ⟨q', l', e1, Ext.app _ _ _ e2, e3⟩
    · rw [u] at hy
      simp only at hy
      omega
  wt := by
    intro x y h hy
    rcases look_app_inv h with u | ⟨_, u⟩
    · exact hs.wt x y u hy
    · rw [u] at hy
      simp only at hy
      omega
  lw := by
    intro x y h hy
    rcases look_app_inv h with u | ⟨rfl, rfl⟩
    · exact List.mem_append_left _ (hs.lw x y u hy)
    · simp
  mu := by
    obtain ⟨ν, h1, h2⟩ := hs.mu
    by_cases c : q < ν
    · refine ⟨q, ?_, .inr ⟨by simp, ?_⟩⟩
      · intro x hx
        rw [keys_app] at hx
        rcases List.mem_append.mp hx with z | z
        · have := h1 x z; omega
        · rw [List.mem_singleton.mp z]; exact Nat.le_refl _
      · rcases h2 with z | ⟨_, z⟩ <;> omega
    · refine ⟨ν, ?_, ?_⟩
      · intro x hx
        rw [keys_app] at hx
        rcases List.mem_append.mp hx with z | z
        · exact h1 x z
        · rw [List.mem_singleton.mp z]
          show ν ≤ q
          omega
      · rcases h2 with z | ⟨z, z'⟩
        · exact .inl z
        · exact .inr ⟨List.mem_append_left _ z, z'⟩
/-- what is given back -/
structure RT (R : List (List Nat)) (n p : Nat) (l : List (Option Int)) : Prop where
  ok : ∀ o ∈ l, okO n o
  la : ∃ k, l = k ++ [none]
  go : l.foldl (stp R n) (some (some p)) = some none
  di : IsD R n p l.length
def ES (Rd : List D) (p : Nat) (W : List Way) (ws : List Nat) (lt : List Nat) (h : Nat) : Vs.Env := [some (0, .lst Rd), some (0, .int (p : Int)), some (2, .dic false (dW W)), some (0, .lst (dnat ws)), some (1, .lst (dnat lt)), some (0, .int (h : Int)), none, none]
theorem star_way (l : List (Option Int)) (o : Option Int) (hl : l.length ≤ 1000) : kLst ((l.map cO).map (fun d => (⟨false, 0, d⟩ : VV)) ++ [⟨false, 0, cO o⟩]) = some ⟨false, 1, .lst ((l ++ [o]).map cO)⟩ := by
  rw [kLst_imm (fun x hx => by
    rcases List.mem_append.mp hx with z | z
    · obtain ⟨d, hd, rfl⟩ := List.mem_map.mp z
      obtain ⟨o, _, rfl⟩ := List.mem_map.mp hd
      exact imm_cO o
    · rw [List.mem_singleton.mp z]; exact imm_cO o) (by rw [List.length_append, List.length_map, List.length_map, lim_num]; simp; omega)]
  rw [List.map_append, List.map_map, List.map_append]
  congr 3
  exact congrArg (· ++ [cO o]) ((List.map_congr_left fun _ _ => rfl).trans (List.map_id _))
/-- one move of a place -/
theorem so_step {Rd : List D} (hs : SI R n p ws t μ W lt) (hn : n ≤ 12) (ht : t ≤ 100) (hh : lookW W h = some l) (hl : l.length = t) (x : Option Int × Option Nat) (hm : x ∈ msF R n h) (hx : ∀ q, x.2 = some q → q < n) (ho : okO n x.1) :
    (∃ W' lt', SI R n p ws t μ W' lt' ∧ Ext W W' ∧ (∃ q l', x.2 = some q ∧ lookW W' q = some l' ∧ l'.length ≤ l.length + 1) ∧ (gtup [gname 6, gname 7] ⟨false, 0, dM x⟩ (ES Rd p W ws lt h)).seq q_p_shortest_out_0 = .nx (ES Rd p W' ws lt' h)) ∨
    (∃ (l' : List (Option Int)) (ρ2 ρ3 ρ4 ρ5 ρ6 ρ7 : Option PV), l'.length ≤ t + 1 ∧ RT R n p l' ∧ (gtup [gname 6, gname 7] ⟨false, 0, dM x⟩ (ES Rd p W ws lt h)).seq q_p_shortest_out_0 = .ret (1, .lst (l'.map cO)) [some (0, .lst Rd), some (0, .int (p : Int)), ρ2, ρ3, ρ4, ρ5, ρ6, ρ7]) := by
  obtain ⟨o, c⟩ := x
  have ek := dlook_W h W
  rw [hh, Option.map_some] at ek
  have es := star_way l o (by omega)
  have eo := imm_cO o
  have hg : ∀ z ∈ l ++ [o], okO n z := fun z hz => by
    rcases List.mem_append.mp hz with a | a
    · exact hs.gd h l hh z a
    · rw [List.mem_singleton.mp a]; exact ho
  have hfl : (l ++ [o]).foldl (stp R n) (some (some p)) = some c := by
    rw [List.foldl_append, hs.fo h l hh]
    exact ms_stp R n h _ hm
  have hwl := hs.wlen
  have hlt := hs.len
  cases c with
  | none =>
    refine .inr ⟨l ++ [o], some (2, .dic false (dW W)), some (0, .lst (dnat ws)), some (1, .lst (dnat lt)), some (0, .int (h : Int)), some (0, cO o), some (0, .non), by simp; omega, ⟨hg, ⟨l, by rw [ms_none R n h hm]⟩, hfl, ⟨out_of _ _ hfl, fun e he => out_le (hs.no_out t p [] hs.ps (by simp)) (by rw [List.length_append] at he; simp at he; omega)⟩⟩, ?_⟩
    generalize (l ++ [o]).map cO = l2 at *
    generalize l.map cO = l1 at *
    unfold ES dM cP
    generalize cO o = od at *
    generalize dnat ws = wd at *
    generalize dnat lt = ld at *
    generalize dW W = Wd at *
    unfold q_p_shortest_out_0
    simp [gtup, gall, e_tdy, e_even, kIxD, isKey, ek, argC, argS, argN, starD, es, eo, -kLst_cons, VV.kept, VV.stable]
  | some q =>
    have hq := hx q rfl
    have ek2 := dlook_W q W
    have em := look_mem (q := q) (W := W)
    by_cases c : q ∈ keys W
    · rw [decide_eq_true c] at em
      obtain ⟨l', e'⟩ := look_of_mem c
      rw [e', Option.map_some] at ek2
      refine .inl ⟨W, lt, hs, Ext.rf, ⟨q, l', rfl, e', by have := hs.le q l' e'; omega⟩, ?_⟩
      unfold ES dM cP
      generalize cO o = od at *
      generalize dnat ws = wd at *
      generalize dnat lt = ld at *
      generalize dW W = Wd at *
      unfold q_p_shortest_out_0
      simp [gtup, gall, e_tdy, e_even, kNotInD, isKey, ek2, VV.kept, VV.stable]
    · rw [decide_eq_false c] at em
      have e' : lookW W q = none := by cases h : lookW W q with
        | none => rfl
        | some x => rw [h] at em; simp at em
      rw [e', Option.map_none] at ek2
      have ha := any_W (q := q) (W := W)
      rw [decide_eq_false c] at ha
      have ed : dPut (dW W) (.int (q : Int)) (.lst ((l ++ [o]).map cO)) = dW (W ++ [(q, l ++ [o])]) := by
        unfold dPut
        rw [ha, dW_app]
        rfl
      have eld : dnat (lt ++ [q]) = dnat lt ++ [.int (q : Int)] := by rw [dnat_append]; rfl
      have hwl' : (dW W).length < lim := by unfold dW; rw [List.length_map, lim_num]; omega
      have hll : (dnat lt).length < lim := by rw [dnat_length, lim_num]; omega
      refine .inl ⟨W ++ [(q, l ++ [o])], lt ++ [q], hs.app c hq (by simp; exact hl) hg hfl, Ext.app _, ⟨q, l ++ [o], rfl, look_app_new c, by simp⟩, ?_⟩
      unfold ES
      rw [eld]
      generalize (l ++ [o]).map cO = l2 at *
      generalize l.map cO = l1 at *
      unfold dM cP
      generalize cO o = od at *
      generalize dnat ws = wd at *
      generalize dnat lt = ld at *
      generalize dW (W ++ [(q, l ++ [o])]) = Wd2 at *
      generalize dW W = Wd at *
      unfold q_p_shortest_out_0
      simp [gtup, gall, e_tdy, e_even, kIxD, kNotInD, gsetD, isKey, ek, ek2, ha, ed, hwl', hll, argC, argS, argN, starD, es, eo, rAppend, -kLst_cons, VV.kept, VV.stable]
end
end Lw
set_option maxHeartbeats 4000000
namespace Lw
open PySem Vs
/-! the shortest way out: its loops -/
section
variable {n p t μ h q : Nat} {R : List (List Nat)} {W W' : List Way} {lt : List Nat} {l : List (Option Int)}
variable {ws : List Nat}
theorem so_in {Rd : List D} (hn : n ≤ 12) (ht : t ≤ 100) (hl : l.length = t) : ∀ (ms : List (Option Int × Option Nat)) (W : List Way) (lt : List Nat), SI R n p ws t μ W lt → lookW W h = some l → (∀ x ∈ ms, ∀ q, x.2 = some q → q < n) → (∀ x ∈ ms, okO n x.1) → (∀ x ∈ ms, x ∈ msF R n h) →
    (∃ (W' : List Way) (lt' : List Nat), SI R n p ws t μ W' lt' ∧ Ext W W' ∧ (∀ x ∈ ms, ∃ q l', x.2 = some q ∧ lookW W' q = some l' ∧ l'.length ≤ t + 1) ∧ forL (gtup [gname 6, gname 7]) q_p_shortest_out_0 (ms.map dM) (ES Rd p W ws lt h) = .nx (ES Rd p W' ws lt' h)) ∨
    (∃ (l' : List (Option Int)) (ρ2 ρ3 ρ4 ρ5 ρ6 ρ7 : Option PV), l'.length ≤ t + 1 ∧ RT R n p l' ∧ forL (gtup [gname 6, gname 7]) q_p_shortest_out_0 (ms.map dM) (ES Rd p W ws lt h) = .ret (1, .lst (l'.map cO)) [some (0, .lst Rd), some (0, .int (p : Int)), ρ2, ρ3, ρ4, ρ5, ρ6, ρ7])
  | [], W, lt, hs, hh, hx, ho, hm => .inl ⟨W, lt, hs, Ext.rf, by simp, rfl⟩
  | x :: ms, W, lt, hs, hh, hx, ho, hm => by
    rw [List.map_cons, forL]
    rcases so_step (p := p) (Rd := Rd) (ws := ws) hs hn ht hh hl x (hm x (List.mem_cons_self ..)) (hx x (List.mem_cons_self ..)) (ho x (List.mem_cons_self ..)) with ⟨W1, lt1, a1, a2, a3, a5⟩ | ⟨l', ρ2, ρ3, ρ4, ρ5, ρ6, ρ7, a1, ag, a2⟩
    · rw [a5]
      rcases so_in hn ht hl ms W1 lt1 a1 (a2 h l hh) (fun y hy => hx y (List.mem_cons_of_mem _ hy)) (fun y hy => ho y (List.mem_cons_of_mem _ hy)) (fun y hy => hm y (List.mem_cons_of_mem _ hy)) with ⟨W2, lt2, b1, b2, b3, b4⟩ | b
      · refine .inl ⟨W2, lt2, b1, a2.trans b2, ?_, b4⟩
        intro y hy
        rcases List.mem_cons.mp hy with rfl | z
        · obtain ⟨q, l', e, hq, hq2⟩ := a3
          exact ⟨q, l', e, b2 _ _ hq, by omega⟩
        · exact b3 y z
      · exact .inr b
    · rw [a2]
      exact .inr ⟨l', ρ2, ρ3, ρ4, ρ5, ρ6, ρ7, a1, ag, rfl⟩
def EQ (Rd : List D) (p : Nat) (W : List Way) (ws : List Nat) (lt : List Nat) : Vs.Env := [some (0, .lst Rd), some (0, .int (p : Int)), some (2, .dic false (dW W)), some (0, .lst (dnat ws)), some (1, .lst (dnat lt)), none, none, none]
/-- one place of a layer -/
theorem so_place (hR : IsRule n R) (hn : n ≤ 12) (ht : t ≤ 100) (hs : SI R n p ws t μ W lt) (hh : lookW W h = some l) (hl : l.length = t) :
    (∃ (W' : List Way) (lt' : List Nat), SI R n p ws t μ W' lt' ∧ Ext W W' ∧ (h ≠ 0 ∧ h - 1 ∈ keys W') ∧ (∀ x ∈ msF R n h, ∃ q l', x.2 = some q ∧ lookW W' q = some l' ∧ l'.length ≤ t + 1) ∧ (gname 5 ⟨false, 0, .int (h : Int)⟩ (EQ (R.map dn) p W ws lt)).seq q_p_shortest_out_1 = .nx (EQ (R.map dn) p W' ws lt')) ∨
    (∃ (l' : List (Option Int)) (ρ2 ρ3 ρ4 ρ5 ρ6 ρ7 : Option PV), l'.length ≤ t + 1 ∧ RT R n p l' ∧ (gname 5 ⟨false, 0, .int (h : Int)⟩ (EQ (R.map dn) p W ws lt)).seq q_p_shortest_out_1 = .ret (1, .lst (l'.map cO)) [some (0, .lst (R.map dn)), some (0, .int (p : Int)), ρ2, ρ3, ρ4, ρ5, ρ6, ρ7]) := by
  have hlt : h < n := hs.kb h (mem_of_look hh)
  obtain ⟨z, em⟩ := moves_eq hR hn hlt
  rw [mvs_ms] at em
  have hm0 : (none, if h = 0 then none else some (h - 1)) ∈ msF R n h := List.mem_cons_self ..
  have hin := so_in (p := p) (Rd := R.map dn) (ws := ws) hn ht hl (msF R n h) W lt hs hh (ms_lt hR hlt) (ms_ok h) (fun _ hx => hx)
  generalize (msF R n h).map dM = md at *
  generalize R.map dn = Rd at *
  unfold q_p_shortest_out_1 w_p_shortest_out_0
  rcases hin with ⟨W', lt', a1, a2, a3, a4⟩ | ⟨l', ρ2, ρ3, ρ4, ρ5, ρ6, ρ7, a1, ag, a2⟩
  · obtain ⟨q, lq, e, hq, _⟩ := a3 _ hm0
    simp only at e
    have c : h ≠ 0 := fun c => by rw [if_pos c] at e; cases e
    rw [if_neg c] at e
    cases e
    refine .inl ⟨W', lt', a1, a2, ⟨c, mem_of_look hq⟩, a3, ?_⟩
    generalize q_p_shortest_out_0 = q0 at *
    unfold ES at a4
    unfold EQ
    generalize dnat ws = wd at *
    generalize dnat lt = ld at *
    generalize dnat lt' = ld' at *
    generalize dW W' = Wd' at *
    generalize dW W = Wd at *
    simp [e_tdy, e_pre, e_even, em, a4, VV.kept, VV.stable]
  · refine .inr ⟨l', ρ2, ρ3, ρ4, ρ5, ρ6, ρ7, a1, ag, ?_⟩
    generalize q_p_shortest_out_0 = q0 at *
    unfold ES at a2
    unfold EQ
    generalize dnat ws = wd at *
    generalize dnat lt = ld at *
    generalize dW W = Wd at *
    simp [e_tdy, e_pre, e_even, em, a2, VV.kept, VV.stable]
theorem so_mid (hR : IsRule n R) (hn : n ≤ 12) (ht : t ≤ 100) : ∀ (hs : List Nat) (W : List Way) (lt : List Nat), SI R n p ws t μ W lt → (∀ h ∈ hs, ∃ l, lookW W h = some l ∧ l.length = t) →
    (∃ (W' : List Way) (lt' : List Nat), SI R n p ws t μ W' lt' ∧ Ext W W' ∧ (∀ h ∈ hs, (h ≠ 0 ∧ h - 1 ∈ keys W') ∧ ∀ x ∈ msF R n h, ∃ q l', x.2 = some q ∧ lookW W' q = some l' ∧ l'.length ≤ t + 1) ∧ forL (gname 5) q_p_shortest_out_1 (dnat hs) (EQ (R.map dn) p W ws lt) = .nx (EQ (R.map dn) p W' ws lt')) ∨
    (∃ (l' : List (Option Int)) (ρ2 ρ3 ρ4 ρ5 ρ6 ρ7 : Option PV), l'.length ≤ t + 1 ∧ RT R n p l' ∧ forL (gname 5) q_p_shortest_out_1 (dnat hs) (EQ (R.map dn) p W ws lt) = .ret (1, .lst (l'.map cO)) [some (0, .lst (R.map dn)), some (0, .int (p : Int)), ρ2, ρ3, ρ4, ρ5, ρ6, ρ7])
  | [], W, lt, hs, _ => .inl ⟨W, lt, hs, Ext.rf, by simp, rfl⟩
  | h :: hs, W, lt, hsi, hh => by
    obtain ⟨l, hl1, hl2⟩ := hh h (List.mem_cons_self ..)
    rw [dnat_cons, forL]
    rcases so_place (p := p) (ws := ws) hR hn ht hsi hl1 hl2 with ⟨W1, lt1, a1, a2, a3, a4, a5⟩ | ⟨l', ρ2, ρ3, ρ4, ρ5, ρ6, ρ7, a1, ag, a2⟩
    · rw [a5]
      rcases so_mid hR hn ht hs W1 lt1 a1 (fun y hy => by
        obtain ⟨l, e1, e2⟩ := hh y (List.mem_cons_of_mem _ hy)
        exact ⟨l, a2 y l e1, e2⟩) with ⟨W2, lt2, b1, b2, b3, b4⟩ | b
      · refine .inl ⟨W2, lt2, b1, a2.trans b2, ?_, b4⟩
        intro y hy
        rcases List.mem_cons.mp hy with rfl | z
        · exact ⟨⟨a3.1, b2.mem a3.2⟩, fun x hx => by
            obtain ⟨q, l', e1, e2, e3⟩ := a4 x hx
            exact ⟨q, l', e1, b2 _ _ e2, e3⟩⟩
        · exact b3 y z
      · exact .inr b
    · rw [a2]
      exact .inr ⟨l', ρ2, ρ3, ρ4, ρ5, ρ6, ρ7, a1, ag, rfl⟩
def EL (Rd : List D) (p : Nat) (W : List Way) (ws : List Nat) : Vs.Env := [some (0, .lst Rd), some (0, .int (p : Int)), some (2, .dic false (dW W)), some (0, .lst (dnat ws)), none, none, none, none]
theorem so_layer (hR : IsRule n R) (hn : n ≤ 12) (ht : t ≤ 100) (hs : SI R n p ws t μ W []) (hm : μ ∈ ws) (hh : ∀ h ∈ ws, ∃ l, lookW W h = some l ∧ l.length = t) :
    (∃ (W' : List Way) (ws' : List Nat) (ν : Nat), ν < μ ∧ SI R n p ws' (t + 1) ν W' [] ∧ ν ∈ ws' ∧ (∀ h ∈ ws', ∃ l, lookW W' h = some l ∧ l.length = t + 1) ∧ q_p_shortest_out_2 (EL (R.map dn) p W ws) = .nx (EL (R.map dn) p W' ws')) ∨
    (∃ (l' : List (Option Int)) (ρ2 ρ3 ρ4 ρ5 ρ6 ρ7 : Option PV), l'.length ≤ t + 1 ∧ RT R n p l' ∧ q_p_shortest_out_2 (EL (R.map dn) p W ws) = .ret (1, .lst (l'.map cO)) [some (0, .lst (R.map dn)), some (0, .int (p : Int)), ρ2, ρ3, ρ4, ρ5, ρ6, ρ7]) := by
  have hff := forsV_L (i := 3) (g := gname 5) (b := q_p_shortest_out_1) (it := it1 kL (fz 0 [3] (v 3))) (ds := dnat ws) (m0 := 0) (ρ := EQ (R.map dn) p W ws [])
    (fun ρ => ∃ (W : List Way) (lt : List Nat), SI R n p ws t μ W lt ∧ (∀ h ∈ ws, ∃ l, lookW W h = some l ∧ l.length = t) ∧ ρ = EQ (R.map dn) p W ws lt) ⟨W, [], hs, hh, rfl⟩
    (fun ρ h => by obtain ⟨W, lt, _, _, rfl⟩ := h; rfl) (by unfold EQ; simp) (fun d hd ρ h => by
      obtain ⟨W, lt, h1, h2, rfl⟩ := h
      obtain ⟨x, hx, rfl⟩ := List.mem_map.mp hd
      obtain ⟨l, e1, e2⟩ := h2 x hx
      rcases so_place (p := p) (ws := ws) hR hn ht h1 e1 e2 with ⟨W1, lt1, a1, a2, a3, a4, a5⟩ | ⟨l', ρ2, ρ3, ρ4, ρ5, ρ6, ρ7, a1, ag, a2⟩
      · exact .inl ⟨_, a5, W1, lt1, a1, fun y hy => by
          obtain ⟨l, e1, e2⟩ := h2 y hy
          exact ⟨l, a2 y l e1, e2⟩, rfl⟩
      · exact .inr ⟨_, _, a2⟩)
  have hmid := so_mid (p := p) (ws := ws) hR hn ht ws W [] hs hh
  generalize R.map dn = Rd at *
  unfold q_p_shortest_out_2 w_p_shortest_out_1
  unfold EQ at hff hmid
  generalize q_p_shortest_out_1 = q1 at *
  rcases hmid with ⟨W', lt', a1, a2, a3, a4⟩ | ⟨l', ρ2, ρ3, ρ4, ρ5, ρ6, ρ7, a1, ag, a2⟩
  · obtain ⟨ν, h1, h2⟩ := a1.mu
    have h3 := (a3 μ hm).1
    have h4 := h1 _ h3.2
    have h5 : ν ∈ lt' ∧ ν < μ := by
      rcases h2 with z | z
      · have := h3.1; omega
      · exact z
    have hdn : ∀ q l, lookW W' q = some l → l.length < t + 1 → ∀ x ∈ msF R n q, ∃ q' l', x.2 = some q' ∧ lookW W' q' = some l' ∧ l'.length ≤ l.length + 1 := fun q l e h x hx => by
      by_cases c : l.length = t
      · have := (a3 q (a1.wt q l e c)).2 x hx
        rw [c]
        exact this
      · exact a1.dn q l e (by omega) x hx
    refine .inl ⟨W', lt', ν, h5.2, ⟨a1.nd, a1.kb, Nat.zero_le _, by simp, a1.gd, a1.fo, a1.ps, fun q l e => by have := a1.le q l e; omega, hdn, fun q l e h => a1.lw q l e h, fun q l e h => by have := a1.le q l e; omega, ν, h1, .inl rfl⟩, h5.1, a1.lat, ?_⟩
    unfold EL
    rw [dnat_nil] at a4 hff
    generalize dnat ws = wd at *
    generalize dnat lt' = ld' at *
    generalize dW W' = Wd' at *
    generalize dW W = Wd at *
    simp [e_tdy, e_pre, e_even, hff, a4, VV.kept, VV.stable]
  · refine .inr ⟨l', ρ2, ρ3, ρ4, ρ5, ρ6, ρ7, a1, ag, ?_⟩
    unfold EL
    rw [dnat_nil] at a2 hff
    generalize dnat ws = wd at *
    generalize dW W = Wd at *
    simp [e_tdy, e_pre, e_even, hff, a2, VV.kept, VV.stable]
theorem so_while (hR : IsRule n R) (hn : n ≤ 12) : ∀ (μ t : Nat) (W : List Way) (ws : List Nat), t + μ ≤ 50 → SI R n p ws t μ W [] → μ ∈ ws → (∀ h ∈ ws, ∃ l, lookW W h = some l ∧ l.length = t) →
    ∃ (l' : List (Option Int)) (ρ2 ρ3 ρ4 ρ5 ρ6 ρ7 : Option PV), l'.length ≤ t + μ + 1 ∧ RT R n p l' ∧ whiles u_p_shortest_out_0 q_p_shortest_out_2 (EL (R.map dn) p W ws) = .ret (1, .lst (l'.map cO)) [some (0, .lst (R.map dn)), some (0, .int (p : Int)), ρ2, ρ3, ρ4, ρ5, ρ6, ρ7] := by
  intro μ
  induction μ using Nat.strongRecOn with
  | ind μ ih =>
    intro t W ws hb hs hm hh
    have hu : ∀ ρ, u_p_shortest_out_0 ρ = .ok true none := fun ρ => by unfold u_p_shortest_out_0; simp
    rw [whiles_step, hu]
    rcases so_layer (p := p) hR hn (by omega) hs hm hh with ⟨W', ws', ν, a1, a2, a3, a4, a5⟩ | ⟨l', ρ2, ρ3, ρ4, ρ5, ρ6, ρ7, a1, ag, a2⟩
    · obtain ⟨l', ρ2, ρ3, ρ4, ρ5, ρ6, ρ7, b1, bg, b2⟩ := ih ν a1 (t + 1) W' ws' (by omega) a2 a3 a4
      refine ⟨l', ρ2, ρ3, ρ4, ρ5, ρ6, ρ7, by omega, bg, ?_⟩
      rw [← b2]
      simp [a5]
    · refine ⟨l', ρ2, ρ3, ρ4, ρ5, ρ6, ρ7, by omega, ag, ?_⟩
      simp [a2]
theorem so_eq (hR : IsRule n R) (hn : n ≤ 12) (hp : p < n) : ∃ l : List (Option Int), l.length ≤ 13 ∧ RT R n p l ∧ m_p_shortest_out [(0, .lst (R.map dn)), (0, .int (p : Int))] = .ok (1, .lst (l.map cO)) [some (0, .lst (R.map dn)), some (0, .int (p : Int))] := by
  have g0 : ∀ q l, lookW [(p, [])] q = some l → q = p ∧ l = [] := fun q l h => by
    unfold lookW at h
    rw [List.find?_cons] at h
    split at h
    · rename_i c
      exact ⟨(by simpa using c : p = q).symm, (Option.some.inj h).symm⟩
    · cases h
  obtain ⟨l, ρ2, ρ3, ρ4, ρ5, ρ6, ρ7, h1, hg, h2⟩ := so_while (p := p) hR hn p 0 [(p, [])] [p] (by omega) ⟨by simp [keys], by simp [keys]; exact hp, by simp, by simp, fun q l e => by rw [(g0 q l e).2]; simp, fun q l e => by obtain ⟨e1, e2⟩ := g0 q l e; rw [e1, e2]; rfl, by simp [lookW], fun q l e => by rw [(g0 q l e).2]; simp, fun q l e h => by rw [(g0 q l e).2] at h; simp at h, fun q l e h => by rw [(g0 q l e).1]; simp, fun q l e h => by rw [(g0 q l e).2] at h; simp at h, p, by simp [keys], .inl rfl⟩ (by simp) (fun h hh => by
    rw [List.mem_singleton.mp hh]
    exact ⟨[], by simp [lookW], rfl⟩)
  refine ⟨l, by omega, hg, ?_⟩
  unfold EL at h2
  have e1 : dW [(p, [])] = [(.int (p : Int), .lst [])] := rfl
  have e2 : dnat [p] = [.int (p : Int)] := rfl
  rw [e1, e2] at h2
  generalize R.map dn = Rd at *
  unfold m_p_shortest_out fnM
  rw [b_p_shortest_out_eq]
  unfold w_p_shortest_out_2
  generalize q_p_shortest_out_2 = q2 at *
  simp [e_pre, e_even, ddisp, isKey, h2, VV.kept, VV.stable]
theorem way_out_eq {m k : Nat} (hR : IsRule n R) (h2 : 2 ≤ n) (hn : n ≤ 12) (hp : p < n) : ∃ l : List (Option Int), l.length ≤ 13 ∧ RT R n p l ∧ m_p_way_out [(m, .lst (R.map dn)), (k, .int (p : Int))] = .ok (1, .lst (l.map cO)) [some (0, .lst (R.map dn)), some (0, .int (p : Int))] := by
  obtain ⟨l, hl, hg, e⟩ := so_eq hR hn hp
  refine ⟨l, hl, hg, ?_⟩
  have c1 := check_rule_eq (m := 0) hR.len hR.pm h2 hn
  have c2 := check_place_eq hp hR
  generalize l.map cO = ds at *
  generalize R.map dn = Rd at *
  unfold m_p_way_out fnM b_p_way_out
  cases m <;> cases k <;> simp [e_pre, e_even, c1, c2, e, VV.kept, VV.stable]
end
end Lw
set_option maxHeartbeats 4000000
namespace Lw
open PySem Vs
/-! the law's lives -/
section
variable {n t k : Nat} {R : List (List Nat)}
def lv (R : List (List Nat)) (n : Nat) : Nat → Nat → Nat
  | 0, _ => 0
  | t + 1, q => if lv R n t q ≠ 0 then lv R n t q else if outIn R n (t + 1) q = true then t + 1 else 0
theorem lv_iff (R : List (List Nat)) (n : Nat) : ∀ t q, (lv R n t q ≠ 0) ↔ outIn R n t q = true
  | 0, q => by simp [lv, outIn]
  | t + 1, q => by
    have ih := lv_iff R n t q
    have hm := out_mono (R := R) (n := n) t q
    unfold lv
    by_cases c : lv R n t q ≠ 0
    · rw [if_pos c]
      exact ⟨fun _ => hm (ih.mp c), fun _ => c⟩
    · rw [if_neg c]
      by_cases c2 : outIn R n (t + 1) q = true
      · rw [if_pos c2]; exact ⟨fun _ => c2, fun _ => by omega⟩
      · rw [if_neg c2]; exact ⟨fun h => absurd rfl h, fun h => absurd h c2⟩
theorem lv_le (R : List (List Nat)) (n : Nat) : ∀ t q, lv R n t q ≤ t
  | 0, q => Nat.le_refl _
  | t + 1, q => by
    have ih := lv_le R n t q
    unfold lv
    split
    · omega
    · split <;> omega
theorem lv_D (R : List (List Nat)) (n : Nat) : ∀ t q, lv R n t q ≠ 0 → IsD R n q (lv R n t q)
  | 0, q, h => absurd rfl h
  | t + 1, q, h => by
    have ih := lv_D R n t q
    have hi := lv_iff R n t q
    unfold lv at h ⊢
    by_cases c : lv R n t q ≠ 0
    · rw [if_pos c]; exact ih c
    · rw [if_neg c] at h ⊢
      by_cases c2 : outIn R n (t + 1) q = true
      · rw [if_pos c2]
        refine ⟨c2, fun e he => ?_⟩
        have : outIn R n t q = false := by
          cases z : outIn R n t q with
          | false => rfl
          | true => exact absurd (hi.mpr z) c
        exact out_le this (by omega)
      · rw [if_neg c2] at h; exact absurd rfl h
theorem out_self (R : List (List Nat)) (n : Nat) : ∀ q, outIn R n (q + 1) q = true
  | 0 => by unfold outIn msF; simp
  | q + 1 => by
    have ih := out_self R n q
    unfold outIn msF
    rw [List.any_cons, if_neg (by omega), Nat.add_sub_cancel]
    simp only [ih, Bool.true_or]
def nrF (R : List (List Nat)) (n k : Nat) : List Nat := (k - 1) :: ((List.range n).filter fun i => decide (i ≠ k)).map fun i => nth (R.getD i []) k
theorem any_near (h0 : k ≠ 0) : outIn R n (t + 1) k = (nrF R n k).any (outIn R n t) := by
  rw [outIn]
  unfold msF nrF
  rw [if_neg h0, List.any_cons, List.any_cons, List.any_map, List.any_map]
  rfl
theorem near_lt (hR : IsRule n R) (hk : k < n) : ∀ x ∈ nrF R n k, x < n := by
  intro x hx
  unfold nrF at hx
  rcases List.mem_cons.mp hx with rfl | z
  · omega
  · obtain ⟨i, hi, rfl⟩ := List.mem_map.mp z
    have hi := List.mem_range.mp (List.mem_filter.mp hi).1
    exact (rule_at' hR hi).2.nth_lt hk
def fvF (R : List (List Nat)) (n t k i : Nat) : Nat := if i < k then lv R n (t + 1) i else lv R n t i
theorem fv_in {i : Nat} : (decide (0 < fvF R n t k i) && decide (fvF R n t k i < t + 1)) = outIn R n t i := by
  have h1 := lv_iff R n t i
  have h2 := lv_le R n t i
  have h3 : lv R n (t + 1) i = if lv R n t i ≠ 0 then lv R n t i else if outIn R n (t + 1) i = true then t + 1 else 0 := rfl
  have h4 : (0 < fvF R n t k i ∧ fvF R n t k i < t + 1) ↔ outIn R n t i = true := by
    rw [← h1]
    unfold fvF
    by_cases c : i < k
    · rw [if_pos c, h3]
      by_cases c2 : lv R n t i ≠ 0
      · rw [if_pos c2]; omega
      · rw [if_neg c2]
        split <;> omega
    · rw [if_neg c]; omega
  cases c : outIn R n t i with
  | true =>
    have := h4.mpr c
    rw [decide_eq_true this.1, decide_eq_true this.2]; rfl
  | false =>
    rw [c] at h4
    cases c1 : (decide (0 < fvF R n t k i) && decide (fvF R n t k i < t + 1)) with
    | false => rfl
    | true =>
      rw [Bool.and_eq_true, decide_eq_true_eq, decide_eq_true_eq] at c1
      exact absurd (h4.mp c1) (by simp)
def fdF (R : List (List Nat)) (n t k : Nat) : List Nat := (List.range n).map (fvF R n t k)
theorem fd_len : (fdF R n t k).length = n := by unfold fdF; simp
theorem fd_at {i : Nat} (hi : i < n) : nth (fdF R n t k) i = fvF R n t k i := by
  unfold fdF
  rw [nth_map (by rw [List.length_range]; exact hi), nth_range hi]
theorem fd_next (hk : k < n) : fdF R n t (k + 1) = (fdF R n t k).set k (lv R n (t + 1) k) := by
  refine nth_ext (by rw [List.length_set, fd_len, fd_len]) fun i hi => ?_
  rw [fd_len] at hi
  rw [fd_at hi, nth_eq (by rw [List.length_set, fd_len]; exact hi), List.getElem_set]
  unfold fvF
  by_cases c : k = i
  · subst c; rw [if_pos (by omega), if_pos rfl]
  · rw [if_neg c]
    have h := fd_at (R := R) (t := t) (k := k) hi
    rw [nth_eq (by rw [fd_len]; exact hi)] at h
    rw [h]
    unfold fvF
    by_cases c2 : i < k
    · rw [if_pos c2, if_pos (by omega)]
    · rw [if_neg c2, if_neg (by omega)]
def EV (Rd : List D) (F : List Nat) (t : Nat) : Vs.Env := [some (0, .lst Rd), some (1, .lst (dnat F)), some (0, .int (t : Int)), none, none, none, none]
theorem lv_turn (hR : IsRule n R) (hn : n ≤ 12) (h0 : k ≠ 0) (hk : k < n) (ht : t ≤ 1000) : (gname 3 ⟨false, 0, .int (k : Int)⟩ (EV (R.map dn) (fdF R n t k) (t + 1))).seq q_l_lives_0 = .nx (EV (R.map dn) (fdF R n t (k + 1)) (t + 1)) := by
  have hl : (R.map dn).length = n := by rw [List.length_map, hR.len]
  have c1 := compL_filt (own := [5]) (g := gname 5) (cs := (tst (two (v 5) (v 3) kNe) blOf)) (e := (fz 2 [0] (two (two (v 0) (v 5) kIx) (v 3) kIx))) (f := fun (i : Nat) => D.int (i : Int)) (c := fun i => decide (i ≠ k)) (k := fun i => (⟨false, 0, .int (nth (R.getD i []) k : Nat)⟩ : VV)) (List.range n) [some (0, .lst (R.map dn)), some (1, .lst (dnat (fdF R n t k))), some (0, .int ((t + 1 : Nat) : Int)), some (0, .int (k : Int)), none, none, none] [] (fun i hi => by
    have hi := List.mem_range.mp hi
    obtain ⟨a1, hq⟩ := rule_at' hR hi
    have a2 := at_nth (l := R.getD i []) (i := k) (by rw [hq.len]; exact hk)
    refine ⟨[some (0, .lst (R.map dn)), some (1, .lst (dnat (fdF R n t k))), some (0, .int ((t + 1 : Nat) : Int)), some (0, .int (k : Int)), none, some (0, .int (i : Int)), none], by simp, ?_, fun hc => ⟨?_, rfl⟩⟩
    · by_cases c : i = k
      · subst c; simp
      · have c' : ¬ (i : Int) = k := by omega
        simp [c, c']
    · generalize nth (R.getD i []) k = z at *
      generalize R.getD i [] = r at *
      generalize R.map dn = Rd at *
      simp [a1, a2])
  rw [List.nil_append] at c1
  have rg : ∀ b k, kR1 [⟨b, k, .int (n : Int)⟩] = some ((List.range n).map fun (i : Nat) => D.int (i : Int)) := fun b k => by
    rw [e_range1 (by omega) (by omega)]
    congr 1
    exact (rng_dnat n)
  have hlen : ((List.range n).filter fun i => decide (i ≠ k)).length ≤ n := by
    have := List.length_filter_le (fun i => decide (i ≠ k)) (List.range n)
    rw [List.length_range] at this
    exact this
  have kl : kLst (((List.range n).filter fun i => decide (i ≠ k)).map fun i => (⟨false, 0, .int (nth (R.getD i []) k : Nat)⟩ : VV)) = some ⟨false, 1, .lst (dnat (((List.range n).filter fun i => decide (i ≠ k)).map fun i => nth (R.getD i []) k))⟩ := by
    have := kLst_nats (xs := ((List.range n).filter fun i => decide (i ≠ k)).map fun i => nth (R.getD i []) k) (m := 0) (by rw [List.length_map, lim_num]; omega)
    rw [List.map_map] at this
    exact this
  have ek : ((k - 1 : Nat) : Int) = (k : Int) - 1 := by omega
  have ad := e_addL (p := false) (q := false) (m := 1) (n := 1) (l := [.int ((k : Int) - 1)]) (k := dnat (((List.range n).filter fun i => decide (i ≠ k)).map fun i => nth (R.getD i []) k)) (.inl rfl) (.inl rfl) (by rw [dnat_length, List.length_map]; show 1 + _ ≤ _; omega)
  have enr : [D.int ((k : Int) - 1)] ++ dnat (((List.range n).filter fun i => decide (i ≠ k)).map fun i => nth (R.getD i []) k) = dnat (nrF R n k) := by
    unfold nrF
    rw [dnat_cons, ek]
    rfl
  rw [enr] at ad
  -- the second
  have c2 := compL_filt (own := [6]) (g := gname 6) (cs := (tst (chain (cst (vi 0)) (two (v 1) (v 6) kIx) (v 2) (fun i j => decide (i < j)) (fun i j => decide (i < j))) blOf)) (e := (fz 0 [6] (v 6))) (f := fun (i : Nat) => D.int (i : Int)) (c := outIn R n t) (k := fun (i : Nat) => (⟨false, 0, .int (i : Nat)⟩ : VV)) (nrF R n k) [some (0, .lst (R.map dn)), some (1, .lst (dnat (fdF R n t k))), some (0, .int ((t + 1 : Nat) : Int)), some (0, .int (k : Int)), some (0, .lst (dnat (nrF R n k))), none, none] [] (fun i hi => by
    have hi := near_lt hR hk i hi
    have a2 := at_nth (l := fdF R n t k) (i := i) (by rw [fd_len]; exact hi)
    rw [fd_at hi] at a2
    have hf := fv_in (R := R) (n := n) (t := t) (k := k) (i := i)
    refine ⟨[some (0, .lst (R.map dn)), some (1, .lst (dnat (fdF R n t k))), some (0, .int ((t + 1 : Nat) : Int)), some (0, .int (k : Int)), some (0, .lst (dnat (nrF R n k))), none, some (0, .int (i : Int))], by simp, ?_, fun hc => ⟨by simp, rfl⟩⟩
    rw [← hf]
    generalize fvF R n t k i = z at *
    generalize dnat (fdF R n t k) = fd at *
    generalize dnat (nrF R n k) = nd at *
    generalize R.map dn = Rd at *
    have z1 : decide ((0 : Int) < (z : Int)) = decide (0 < z) := decide_eq_decide.mpr (by omega)
    have z2 : decide ((z : Int) < ((t + 1 : Nat) : Int)) = decide (z < t + 1) := decide_eq_decide.mpr (by omega)
    by_cases q1 : 0 < z
    · simp [a2, q1, z2, -Int.natCast_add]
    · simp [a2, q1, -Int.natCast_add])
  rw [List.nil_append] at c2
  have hfl : ((nrF R n k).filter (outIn R n t)).length ≤ 100 := by
    have h1 := List.length_filter_le (outIn R n t) (nrF R n k)
    have h2 : (nrF R n k).length ≤ n + 1 := by unfold nrF; rw [List.length_cons, List.length_map]; omega
    omega
  have k2 := kLst_nats (xs := (nrF R n k).filter (outIn R n t)) (m := 0) (by rw [lim_num]; omega)
  have ne : ∀ p q a b, kNe ⟨p, a, .lst (dnat ((nrF R n k).filter (outIn R n t)))⟩ ⟨q, b, .lst []⟩ = some (vb (outIn R n (t + 1) k)) := fun p q a b => by
    have h := e_neDn (p := p) (q := q) (m := a) (n := b) (l := (nrF R n k).filter (outIn R n t)) (k := [])
    rw [dnat_nil] at h
    rw [h, any_near h0]
    congr 2
    cases c : (nrF R n k).any (outIn R n t) with
    | true =>
      rw [List.any_eq_true] at c
      obtain ⟨x, h1, h2⟩ := c
      have : (nrF R n k).filter (outIn R n t) ≠ [] := fun e => by
        have := List.mem_filter.mpr ⟨h1, h2⟩
        rw [e] at this
        cases this
      rw [decide_eq_false this]; rfl
    | false =>
      have : (nrF R n k).filter (outIn R n t) = [] := by
        rw [List.filter_eq_nil_iff]
        intro x hx e
        rw [List.any_eq_false] at c
        exact c x hx e
      rw [decide_eq_true this]; rfl
  have a3 := at_nth (l := fdF R n t k) (i := k) (by rw [fd_len]; exact hk)
  rw [fd_at hk] at a3
  have ef : fvF R n t k k = lv R n t k := if_neg (Nat.lt_irrefl k)
  rw [ef] at a3
  have en := fd_next (R := R) (t := t) hk
  have es : (fdF R n t (k + 1)) = if lv R n t k = 0 ∧ outIn R n (t + 1) k = true then (fdF R n t k).set k (t + 1) else fdF R n t k := by
    rw [en]
    have hself : (fdF R n t k).set k (lv R n t k) = fdF R n t k := by
      have h := fd_at (R := R) (t := t) (k := k) hk
      rw [ef, nth_eq (by rw [fd_len]; exact hk)] at h
      rw [← h]
      exact List.set_getElem_self _
    show (fdF R n t k).set k (if lv R n t k ≠ 0 then lv R n t k else if outIn R n (t + 1) k = true then t + 1 else 0) = _
    by_cases c : lv R n t k = 0
    · by_cases c2 : outIn R n (t + 1) k = true
      · rw [if_neg (fun h => h c), if_pos c2, if_pos ⟨c, c2⟩]
      · rw [if_neg (fun h => h c), if_neg c2, if_neg (fun h => c2 h.2)]
        rw [c] at hself
        exact hself
    · rw [if_pos c, if_neg (fun h => c h.1)]
      exact hself
  have hst : dnat ((fdF R n t k).set k (t + 1)) = (dnat (fdF R n t k)).set k (.int ((t + 1 : Nat) : Int)) := (dnat_set _ _ _).symm
  have hdl : (dnat (fdF R n t k)).length = n := by rw [dnat_length, fd_len]
  have hnx := nix_nat hk
  rw [es]
  generalize outIn R n (t + 1) k = ob at *
  generalize lv R n t k = lk at *
  generalize (((List.range n).filter fun i => decide (i ≠ k)).map fun i => (⟨false, 0, .int (nth (R.getD i []) k : Nat)⟩ : VV)) = v1 at *
  generalize dnat (((List.range n).filter fun i => decide (i ≠ k)).map fun i => nth (R.getD i []) k) = d1 at *
  have pl2 := plain_dn (l := (nrF R n k).filter (outIn R n t))
  have c2 : compL [6] (gname 6) (tst (chain (cst (vi 0)) (two (v 1) (v 6) kIx) (v 2) (fun i j => decide (i < j)) (fun i j => decide (i < j))) blOf) (fz 0 [6] (v 6)) (dnat (nrF R n k)) [some (0, .lst (R.map dn)), some (1, .lst (dnat (fdF R n t k))), some (0, .int ((t + 1 : Nat) : Int)), some (0, .int (k : Int)), some (0, .lst (dnat (nrF R n k))), none, none] [] = _ := c2
  generalize (((nrF R n k).filter (outIn R n t)).map fun (i : Nat) => (⟨false, 0, .int (i : Nat)⟩ : VV)) = v2 at *
  generalize dnat ((nrF R n k).filter (outIn R n t)) = d2 at *
  generalize dnat (nrF R n k) = nd at *
  generalize ((List.range n).map fun (i : Nat) => D.int (i : Int)) = rn at *
  unfold q_l_lives_0 EV
  by_cases c : lk = 0
  · subst c
    cases ob with
    | true =>
      rw [if_pos ⟨rfl, rfl⟩, hst]
      generalize dnat (fdF R n t k) = fd at *
      generalize R.map dn = Rd at *
      have a3 : atD fd (k : Int) = some (.int 0) := a3
      simp [e_tdy, e_even, hl, rg, c1, kl, ad, a3, c2, k2, ne, pl2, hdl, hnx, -Int.natCast_add, VV.kept, VV.stable]
    | false =>
      rw [if_neg (fun h => by cases h.2)]
      generalize dnat (fdF R n t k) = fd at *
      generalize R.map dn = Rd at *
      have a3 : atD fd (k : Int) = some (.int 0) := a3
      simp [e_tdy, e_even, hl, rg, c1, kl, ad, a3, c2, k2, ne, pl2, -Int.natCast_add, VV.kept, VV.stable]
  · rw [if_neg (fun h => c h.1)]
    have c' : ¬ (lk : Int) = 0 := by omega
    generalize dnat (fdF R n t k) = fd at *
    generalize R.map dn = Rd at *
    simp [e_tdy, e_even, hl, rg, c1, kl, ad, a3, c, -Int.natCast_add, VV.kept, VV.stable]
def lvs (R : List (List Nat)) (n t : Nat) : List Nat := (List.range n).map (lv R n t)
theorem fd_all (t : Nat) : fdF R n t n = lvs R n (t + 1) := by
  unfold fdF lvs
  refine List.map_congr_left fun i hi => ?_
  unfold fvF
  rw [if_pos (List.mem_range.mp hi)]
theorem lv_zero (ht : t ≠ 0) : lv R n t 0 = 1 := by
  induction t with
  | zero => exact absurd rfl ht
  | succ t ih =>
    have h1 := out_self R n 0
    by_cases c : t = 0
    · subst c
      show (if lv R n 0 0 ≠ 0 then _ else if outIn R n 1 0 = true then 1 else 0) = 1
      rw [if_neg (fun h => h rfl), if_pos h1]
    · have := ih c
      show (if lv R n t 0 ≠ 0 then lv R n t 0 else _) = 1
      rw [if_pos (by omega), this]
theorem fd_one (ht : t ≠ 0) : fdF R n t 1 = lvs R n t := by
  unfold fdF lvs
  refine List.map_congr_left fun i hi => ?_
  unfold fvF
  by_cases c : i < 1
  · rw [if_pos c, show i = 0 by omega, lv_zero ht, lv_zero (by omega)]
  · rw [if_neg c]
theorem lv_layer (hR : IsRule n R) (h2 : 2 ≤ n) (hn : n ≤ 12) (h0 : t ≠ 0) (ht : t ≤ 1000) : q_l_lives_1 (EV (R.map dn) (lvs R n t) t) = .nx (EV (R.map dn) (lvs R n (t + 1)) (t + 1)) := by
  have hl : (R.map dn).length = n := by rw [List.length_map, hR.len]
  have h := forL_eq (g := gname 3) (b := q_l_lives_0) (rng 1 (n : Int)) (fun j => EV (R.map dn) (fdF R n t (1 + j)) (t + 1)) fun j d hd => by
    obtain ⟨rfl, hj⟩ := rng_get hd
    have e := lv_turn hR hn (k := 1 + j) (by omega) (by omega) ht
    rw [show ((1 + j : Nat) : Int) = 1 + (j : Int) by omega] at e
    exact e
  rw [rng_len, show 1 + ((n : Int) - 1).toNat = n by omega, fd_all] at h
  simp only [Nat.add_zero] at h
  rw [fd_one h0] at h
  have rg : ∀ p q a b, kR2 [⟨p, a, .int 1⟩, ⟨q, b, .int (n : Int)⟩] = some (rng 1 (n : Int)) := fun p q a b => e_range2 (by decide) (by decide) (by omega) (by omega)
  have ei : ((t + 1 : Nat) : Int) = (t : Int) + 1 := by omega
  generalize R.map dn = Rd at *
  unfold q_l_lives_1 w_l_lives_0
  unfold EV at h ⊢
  rw [ei] at h ⊢
  generalize q_l_lives_0 = q0 at *
  generalize dnat (lvs R n t) = f1 at *
  generalize dnat (lvs R n (t + 1)) = f2 at *
  simp [e_tdy, e_pre, e_even, hl, rg, h, VV.kept, VV.stable]
theorem lv_while (hR : IsRule n R) (h2 : 2 ≤ n) (hn : n ≤ 12) : ∀ (k t : Nat), t + k = n → t ≠ 0 → ∃ T, T ≠ 0 ∧ (∀ q, q < n → lv R n T q ≠ 0) ∧ whiles u_l_lives_0 q_l_lives_1 (EV (R.map dn) (lvs R n t) t) = .nx (EV (R.map dn) (lvs R n T) T) := by
  intro k
  induction k with
  | zero =>
    intro t htk ht
    have hz : ∀ q, q < n → lv R n t q ≠ 0 := fun q hq => by
      rw [lv_iff]
      have h := out_self R n q
      have : ∀ d, outIn R n (q + 1 + d) q = true := fun d => by
        induction d with
        | zero => exact h
        | succ d ih => exact out_mono _ _ ih
      have := this (t - (q + 1))
      rw [show q + 1 + (t - (q + 1)) = t by omega] at this
      exact this
    refine ⟨t, ht, hz, ?_⟩
    have h0 : 0 ∉ lvs R n t := fun h => by
      obtain ⟨q, hq, e⟩ := List.mem_map.mp h
      exact hz q (List.mem_range.mp hq) e
    have e : ∀ p q a b, kIn ⟨p, a, .int 0⟩ ⟨q, b, .lst (dnat (lvs R n t))⟩ = some (vb false) := fun p q a b => by
      have := e_in (p := p) (q := q) (m := a) (n := b) (l := lvs R n t) (x := 0)
      rw [decide_eq_false h0] at this
      exact this
    rw [whiles_step]
    unfold u_l_lives_0 EV
    generalize q_l_lives_1 = q1 at *
    simp [e]
  | succ k ih =>
    intro t htk ht
    by_cases h0 : 0 ∈ lvs R n t
    · have e : ∀ p q a b, kIn ⟨p, a, .int 0⟩ ⟨q, b, .lst (dnat (lvs R n t))⟩ = some (vb true) := fun p q a b => by
        have := e_in (p := p) (q := q) (m := a) (n := b) (l := lvs R n t) (x := 0)
        rw [decide_eq_true h0] at this
        exact this
      have el := lv_layer hR h2 hn ht (by omega)
      obtain ⟨T, a1, a2, a3⟩ := ih (t + 1) (by omega) (by omega)
      refine ⟨T, a1, a2, ?_⟩
      rw [whiles_step, ← a3]
      have eu : u_l_lives_0 (EV (R.map dn) (lvs R n t) t) = .ok true none := by
        unfold u_l_lives_0 EV
        simp [e]
      rw [eu]
      simp [el]
    · have hz : ∀ q, q < n → lv R n t q ≠ 0 := fun q hq e => h0 (List.mem_map.mpr ⟨q, List.mem_range.mpr hq, e⟩)
      refine ⟨t, ht, hz, ?_⟩
      have e : ∀ p q a b, kIn ⟨p, a, .int 0⟩ ⟨q, b, .lst (dnat (lvs R n t))⟩ = some (vb false) := fun p q a b => by
        have := e_in (p := p) (q := q) (m := a) (n := b) (l := lvs R n t) (x := 0)
        rw [decide_eq_false h0] at this
        exact this
      rw [whiles_step]
      unfold u_l_lives_0 EV
      generalize q_l_lives_1 = q1 at *
      simp [e]
theorem lives_eq {m : Nat} (hR : IsRule n R) (h2 : 2 ≤ n) (hn : n ≤ 12) : ∃ F : List Nat, F.length = n ∧ (∀ q, q < n → IsD R n q (nth F q)) ∧ m_l_lives [(m, .lst (R.map dn))] = .ok (1, .lst (dnat F)) [some (0, .lst (R.map dn))] := by
  obtain ⟨T, a1, a2, a3⟩ := lv_while hR h2 hn (n - 1) 1 (by omega) (by omega)
  refine ⟨lvs R n T, by unfold lvs; simp, fun q hq => ?_, ?_⟩
  · have : nth (lvs R n T) q = lv R n T q := by
      unfold lvs
      rw [nth_map (by rw [List.length_range]; exact hq), nth_range hq]
    rw [this]
    exact lv_D R n T q (a2 q hq)
  have hl : (R.map dn).length = n := by rw [List.length_map, hR.len]
  have e1 : dnat (lvs R n 1) = (List.replicate n (.int 0)).set 0 (.int 1) := by
    have : lvs R n 1 = (List.replicate n 0).set 0 1 := by
      refine nth_ext (by unfold lvs; simp) fun i hi => ?_
      have hi : i < n := by unfold lvs at hi; simpa using hi
      unfold lvs
      rw [nth_map (by rw [List.length_range]; exact hi), nth_range hi, nth_eq (by simpa using hi), List.getElem_set]
      by_cases c : 0 = i
      · rw [if_pos c, ← c, lv_zero (by decide)]
      · rw [if_neg c, List.getElem_replicate]
        have : outIn R n 1 i = false := by
          unfold outIn msF
          rw [List.any_eq_false]
          intro x hx
          rcases List.mem_cons.mp hx with rfl | z
          · rw [if_neg (fun h => c h.symm)]
            simp [outIn]
          · obtain ⟨j, _, rfl⟩ := List.mem_map.mp z
            simp [outIn]
        cases c2 : lv R n 1 i with
        | zero => rfl
        | succ d =>
          have := (lv_iff R n 1 i).mp (by omega)
          simp_all
    rw [this, ← dnat_set, dnat_replicate]
    rfl
  have er := fun p => e_rep (m := 0) (d := .int 0) (n := n) (k := 0) (p := p) (by omega)
  have hn0 : nix n 0 = some 0 := nix_nat (i := 0) (by omega)
  unfold EV at a3
  rw [e1] at a3
  have a3 : whiles u_l_lives_0 q_l_lives_1 [some (0, .lst (R.map dn)), some (1, .lst ((List.replicate n (.int 0)).set 0 (.int 1))), some (0, .int 1), none, none, none, none] = _ := a3
  generalize R.map dn = Rd at *
  unfold m_l_lives fnM
  rw [b_l_lives_eq]
  unfold t_l_lives_0 t_l_lives_1 t_l_lives_2 t_l_lives_3 w_l_lives_1
  generalize u_l_lives_0 = u0 at *
  generalize q_l_lives_1 = q1 at *
  generalize dnat (lvs R n T) = fT at *
  have hrl : (List.replicate n (D.int 0)).length = n := List.length_replicate
  generalize hrp : List.replicate n (D.int 0) = rp at *
  cases m <;> simp [e_pre, e_even, gtup, gall, hl, er, hrl, hn0, a3, VV.kept, VV.stable]
end
end Lw
set_option maxHeartbeats 4000000
namespace Lw
open PySem Vs
/-! what the law asks of a rule -/
section
variable {N n a p : Nat} {s : Sr} {R : List (List Nat)} {F : List Nat}
theorem life_eq {m k : Nat} (hR : IsRule n R) (h2 : 2 ≤ n) (hn : n ≤ 12) (hp : p < n) {d : Nat} (hd : IsD R n p d) : m_p_life [(m, .lst (R.map dn)), (k, .int (p : Int))] = .ok (0, .int (d : Nat)) [some (0, .lst (R.map dn)), some (0, .int (p : Int))] := by
  obtain ⟨l, hl, ht, e⟩ := so_eq hR hn hp
  have hdl := ht.di.uniq hd
  have c1 := check_rule_eq (m := 0) hR.len hR.pm h2 hn
  have c2 := check_place_eq hp hR
  have hll : (l.map cO).length = d := by rw [List.length_map, hdl]
  generalize l.map cO = ds at *
  generalize R.map dn = Rd at *
  unfold m_p_life fnM b_p_life
  cases m <;> cases k <;> simp [e_pre, e_even, c1, c2, e, hll, VV.kept, VV.stable]
theorem rep {k j : Nat} {d : D} (h : Nice k j d) (hk : k ≤ 100000) (hj : j ≤ 60) : ∀ b m, kRepr [⟨b, m, d⟩] = some (vs d.py.shown) := fun b m => if_pos (h.shw hk hj)
theorem nice_rule (hR : IsRule n R) (hn : n ≤ 12) : Nice 10000 2 (.lst (R.map dn)) := by
  refine (Nice.lstOf (n := 12) (k := 12) (j := 1) (fun d hd => ?_) (by rw [List.length_map, hR.len]; exact hn)).le (by decide) (by decide)
  obtain ⟨q, hq, rfl⟩ := List.mem_map.mp hd
  have hq := hR.pm q hq
  exact Nice.dnat (n := 12) (fun i hi => Nat.lt_of_lt_of_le (Nat.lt_of_lt_of_le (hq.lt hi) hn) (by decide)) (by rw [hq.len]; exact hn)
def txR (R : List (List Nat)) : Str := (D.lst (R.map dn)).py.shown
def EZ (s : Sr) (n : Nat) (x2 x3 x4 x5 x6 x7 : Option PV) : Vs.Env := [some (1, s.D), some (0, .int (n : Int)), x2, x3, x4, x5, x6, x7, none]
theorem t_0 (hs : Src N s) (hN : N < 300000) (h2 : 2 ≤ n) (hn : n ≤ 12) : ∃ R a s', IsRule n R ∧ a < n ∧ Src (N + 300) s' ∧ t_l_right_0 (EZ s n none none none none none none) = .nx (EZ s' n (some (1, .lst (R.map dn))) (some (1, .int (a : Nat))) none none none none) := by
  obtain ⟨R, s1, hR, h1, e1⟩ := book_eq (n := n) hs (by omega) hn (by omega)
  have d1 := draw_eq (n := n) h1
  have l1 : dr s1 n < n := dr_lt (by omega)
  refine ⟨R, dr s1 n, nx s1 n, hR, l1, (h1.nx n).le (by omega), ?_⟩
  generalize dr s1 n = a at *
  generalize nx s1 n = s2 at *
  generalize R.map dn = Rd at *
  unfold t_l_right_0 EZ
  simp [gtup, gall, e1, d1, minM, VV.kept, VV.stable]
theorem t_1 (hR : IsRule n R) (h2 : 2 ≤ n) (hn : n ≤ 12) {x3 : Option PV} : ∃ F : List Nat, F.length = n ∧ (∀ q, q < n → IsD R n q (nth F q)) ∧ t_l_right_1 (EZ s n (some (1, .lst (R.map dn))) x3 none none none none) = .nx (EZ s n (some (0, .lst (R.map dn))) x3 (some (0, .str (txR R))) (some (1, .lst (dnat F))) none none) := by
  obtain ⟨F, h1, h3, e⟩ := lives_eq (m := 1) hR h2 hn
  have er := rep (nice_rule hR hn) (by decide) (by decide)
  refine ⟨F, h1, h3, ?_⟩
  unfold txR
  generalize (D.lst (R.map dn)).py.shown = sh at *
  generalize dnat F = fd at *
  generalize R.map dn = Rd at *
  unfold t_l_right_1 EZ
  simp [e, er, VV.kept, VV.stable]
theorem t_2 (hR : IsRule n R) (h2 : 2 ≤ n) (hn : n ≤ 12) (ha : a < n) (hl : F.length = n) (hF : ∀ q, q < n → IsD R n q (nth F q)) {x4 : Option PV} : t_l_right_2 (EZ s n (some (0, .lst (R.map dn))) (some (1, .int (a : Nat))) x4 (some (1, .lst (dnat F))) none none) = .nx (EZ s n (some (0, .lst (R.map dn))) (some (1, .int (a : Nat))) x4 (some (1, .lst (dnat F))) none none) := by
  have e1 := life_eq (m := 0) (k := 1) hR h2 hn ha (hF a ha)
  have c1 := compL_nat (own := [6]) (g := gname 6) (e := call m_p_life [] [.lend 2, .lend 6]) (k := nth F) (ρ := [some (1, s.D), some (0, .int (n : Int)), some (0, .lst (R.map dn)), some (1, .int (a : Nat)), x4, some (1, .lst (dnat F)), none, none, none]) (List.range n) (fun i hi => by
    have e := life_eq (m := 0) (k := 0) hR h2 hn (List.mem_range.mp hi) (hF i (List.mem_range.mp hi))
    refine ⟨[some (1, s.D), some (0, .int (n : Int)), some (0, .lst (R.map dn)), some (1, .int (a : Nat)), x4, some (1, .lst (dnat F)), some (0, .int (i : Nat)), none, none], by simp, ?_⟩
    generalize R.map dn = Rd at *
    generalize dnat F = fd at *
    simp [e])
  have ef : (List.range n).map (nth F) = F := by rw [← hl]; exact range_nth F
  rw [ef] at c1
  have kl := kLst_nats (xs := F) (m := 0) (by rw [hl, lim_num]; omega)
  have rg : ∀ b k, kR1 [⟨b, k, .int (n : Int)⟩] = some (dnat (List.range n)) := fun b k => by
    rw [e_range1 (by omega) (by omega)]
    congr 1
    exact rng_dnat n
  have sm := same_nats (k := 1) (l := F) (by omega) 1 1
  have a1 := at_nth (l := F) (i := a) (by omega)
  generalize nth F a = z at *
  generalize dnat F = fd at *
  have c1 : compL [6] (gname 6) yes (call m_p_life [] [.lend 2, .lend 6]) (dnat (List.range n)) _ [] = _ := c1
  generalize (F.map fun (i : Nat) => vi (i : Int)) = fv at *
  generalize dnat (List.range n) = rn at *
  generalize R.map dn = Rd at *
  unfold t_l_right_2 EZ
  simp [rg, c1, kl, sm, e1, a1, byK, VV.kept, VV.stable]
end
end Lw
set_option maxHeartbeats 4000000
namespace Vs
open PySem (Str PyData)
/-- a comprehension by whose items a state goes on -/
theorem compL_st {σ α : Type} {own : List Nat} {g : MG} {e : M} {B c : Nat} (ok : Nat → σ → Prop) (E : σ → Env) (enc : α → VV) (good : Nat → α → Prop) (hs : ∀ x, (enc x).stable = true) :
    ∀ (ds : List D) (b : Nat) (acc : List α) (s : σ) (N : Nat),
      (∀ i d s N, ds[i]? = some d → ok N s → N < B → ∃ x s1 ρ1, ok (N + c) s1 ∧ good (b + i) x ∧ g ⟨false, 0, d⟩ (E s) = .nx ρ1 ∧ ((e ρ1 = .ok (enc x) none ∧ E s1 = E s) ∨ ∃ ρ2, e ρ1 = .ok (enc x) (some ρ2) ∧ wipeE own ρ2 = E s1)) →
      ok N s → N + c * ds.length < B →
      ∃ (xs : List α) (s' : σ) (o : Option Env), xs.length = ds.length ∧ (∀ i x, xs[i]? = some x → good (b + i) x) ∧ ok (N + c * ds.length) s' ∧ compL own g yes e ds (E s) (acc.map enc) = .ok ((acc ++ xs).map enc) o ∧ now o (E s) = E s'
  | [], b, acc, s, N, _, h, hN => ⟨[], s, none, rfl, by simp, h, by rw [List.append_nil]; rfl, rfl⟩
  | d :: ds, b, acc, s, N, hd, h, hN => by
    have e0 : N + c * (d :: ds).length = N + c + c * ds.length := by rw [List.length_cons, Nat.mul_succ]; omega
    rw [e0] at hN ⊢
    obtain ⟨x, s1, ρ1, a1, a2, a3, a4⟩ := hd 0 d s N rfl h (by omega)
    obtain ⟨xs, s2, o, b1, b2, b3, b4, b5⟩ := compL_st (own := own) (g := g) (e := e) ok E enc good hs ds (b + 1) (acc ++ [x]) s1 (N + c) (fun i d' s N hi => by
      have := hd (i + 1) d' s N (by simpa using hi)
      rw [show b + (i + 1) = b + 1 + i by omega] at this
      exact this) a1 hN
    rw [List.map_append, List.map_singleton, List.append_assoc, List.singleton_append] at b4
    have hy : yes ρ1 = .ok true none := rfl
    have hg : ∀ i y, (x :: xs)[i]? = some y → good (b + i) y := fun i y hi => by
      cases i with
      | zero =>
        have : x = y := by simpa using hi
        rw [← this]; exact a2
      | succ i =>
        have := b2 i y (by simpa using hi)
        rw [show b + 1 + i = b + (i + 1) by omega] at this
        exact this
    rcases a4 with ⟨a4, a5⟩ | ⟨ρ2, a4, a5⟩
    · refine ⟨x :: xs, s2, o, by rw [List.length_cons, b1, List.length_cons], hg, b3, ?_, by rw [← a5]; exact b5⟩
      unfold compL
      rw [a3]
      simp only [hy, now_none, a4, hs, if_true, thn_none, Option.map_none, R.aft_none]
      rw [← a5]
      exact b4
    · refine ⟨x :: xs, s2, Vs.thn (some (E s1)) o, by rw [List.length_cons, b1, List.length_cons], hg, b3, ?_, by rw [now_some_thn]; exact b5⟩
      unfold compL
      rw [a3]
      simp only [hy, now_none, a4, hs, if_true, thn_some, Option.map_some, a5, now_some, b4, R.aft_ok]
theorem rng_at {a : Int} {n i : Nat} {d : D} (h : (rng a (a + n))[i]? = some d) : d = .int (a + i) ∧ i < n := by
  obtain ⟨h1, h2⟩ := rng_get h
  exact ⟨h1, by omega⟩
theorem rng_at0 {n i : Nat} {d : D} (h : (rng 0 (n : Int))[i]? = some d) : d = .int (i : Int) ∧ i < n := by
  obtain ⟨h1, h2⟩ := rng_get h
  exact ⟨by rw [h1, Int.zero_add], by omega⟩
theorem rng_ints' {a b : Int} : ∀ d ∈ rng a b, ∃ i : Int, d = .int i := fun d hd => by
  obtain ⟨k, hk⟩ := List.getElem?_of_mem hd
  obtain ⟨rfl, _⟩ := rng_get hk
  exact ⟨_, rfl⟩
end Vs
set_option maxHeartbeats 4000000
namespace Lw
open PySem Vs
/-! each place; the rule -/
section
variable {N n a p : Nat} {s : Sr} {R : List (List Nat)} {F : List Nat} {l : List (Option Int)}
theorem wo_ex (hR : IsRule n R) (h2 : 2 ≤ n) (hn : n ≤ 12) (hp : p < n) : ∃ l : List (Option Int), l.length ≤ 13 ∧ RT R n p l ∧ ∀ m k, m_p_way_out [(m, .lst (R.map dn)), (k, .int (p : Int))] = .ok (1, .lst (l.map cO)) [some (0, .lst (R.map dn)), some (0, .int (p : Int))] := by
  obtain ⟨l, h1, h3, e⟩ := so_eq hR hn hp
  refine ⟨l, h1, h3, fun m k => ?_⟩
  have c1 := check_rule_eq (m := 0) hR.len hR.pm h2 hn
  have c2 := check_place_eq hp hR
  generalize l.map cO = ds at *
  generalize R.map dn = Rd at *
  unfold m_p_way_out fnM b_p_way_out
  cases m <;> cases k <;> simp [e_pre, e_even, c1, c2, e, VV.kept, VV.stable]
theorem gd_nice {n : Nat} (hn : n ≤ 12) {o : Option Int} (h : okO n o) : Nice 0 0 (cO o) := by
  cases o with
  | none => exact .non
  | some i =>
    have := h i rfl
    exact Nice.int (Nat.lt_of_le_of_lt (show i.natAbs ≤ 12 by omega) (by decide))
def EY (s : Sr) (n : Nat) (Rd : List D) (a : Nat) (sh : Str) (F : List Nat) (x6 x7 : Option PV) : Vs.Env := [some (1, s.D), some (0, .int (n : Int)), some (0, .lst Rd), some (0, .int (a : Int)), some (0, .str sh), some (0, .lst (dnat F)), x6, x7, none]
variable {sh : Str}
theorem r_0 (hw : ∀ m k, m_p_way_out [(m, .lst (R.map dn)), (k, .int (p : Int))] = .ok (1, .lst (l.map cO)) [some (0, .lst (R.map dn)), some (0, .int (p : Int))]) : r_l_right_0 (EY s n (R.map dn) a sh F (some (0, .int (p : Int))) none) = .nx (EY s n (R.map dn) a sh F (some (0, .int (p : Int))) (some (1, .lst (l.map cO)))) := by
  have e := hw 0 0
  generalize l.map cO = ds at *
  generalize R.map dn = Rd at *
  unfold r_l_right_0 EY
  by_cases c : p = a
  · subst c; simp [e, byK, VV.kept, VV.stable]
  · have c' : ¬ (p : Int) = a := by omega
    simp [e, c, c', byK, VV.kept, VV.stable]
theorem r_1 (hR : IsRule n R) (h2 : 2 ≤ n) (hn : n ≤ 12) (hp : p < n) (hl : F.length = n) (hF : IsD R n p (nth F p)) (ht : RT R n p l) : r_l_right_1 (EY s n (R.map dn) a sh F (some (0, .int (p : Int))) (some (1, .lst (l.map cO)))) = .nx (EY s n (R.map dn) a sh F (some (0, .int (p : Int))) (some (1, .lst (l.map cO)))) := by
  have e := walk_eq (m := 0) (m2 := 1) hR h2 hn hp (l := l)
  rw [ht.go] at e
  have a1 := at_nth (l := F) (i := p) (by omega)
  have hd := ht.di.uniq hF
  have hll : (l.map cO).length = l.length := List.length_map ..
  rw [← hd] at a1
  unfold enW at e
  simp only at e
  unfold r_l_right_1 EY
  generalize l.map cO = ds at *
  generalize dnat F = fd at *
  generalize R.map dn = Rd at *
  simp [e, a1, hll, VV.kept, VV.stable]
theorem r_2 : r_l_right_2 (EY s n (R.map dn) a sh F (some (0, .int (p : Int))) (some (1, .lst (l.map cO)))) = .nx (EY s n (R.map dn) a sh F (some (0, .int (p : Int))) (some (1, .lst (l.map cO)))) := by
  have c1 := compL_filt (own := [8]) (g := gname 8) (cs := (tand (tst (two (v 8) (cst vn) kIsNot) blOf) (tst (one (v 8) (kIsi .bool)) blOf))) (e := (fz 0 [8] (v 8))) (f := cO) (c := fun _ => false) (k := fun _ => vn) l [some (1, s.D), some (0, .int (n : Int)), some (0, .lst (R.map dn)), some (0, .int (a : Int)), some (0, .str sh), some (0, .lst (dnat F)), some (0, .int (p : Int)), some (0, .lst (l.map cO)), none] [] (fun o ho => by
    refine ⟨[some (1, s.D), some (0, .int (n : Int)), some (0, .lst (R.map dn)), some (0, .int (a : Int)), some (0, .str sh), some (0, .lst (dnat F)), some (0, .int (p : Int)), some (0, .lst (l.map cO)), some (0, cO o)], by simp [VV.kept, VV.stable], ?_, fun hc => by cases hc⟩
    cases o with
    | none => simp [cO]
    | some i => simp [cO])
  have hff : l.filter (fun _ => false) = [] := by simp
  rw [hff, List.map_nil, List.append_nil] at c1
  unfold EY
  generalize l.map cO = ds at *
  generalize dnat F = fd at *
  generalize R.map dn = Rd at *
  have pl : VV.plain ⟨false, 1, .lst []⟩ = true := rfl
  unfold r_l_right_2
  simp [c1, pl, VV.kept, VV.stable]
theorem r_3 (hR : IsRule n R) (h2 : 2 ≤ n) (hn : n ≤ 12) (hp : p < n) (hl : l.length ≤ 13) (ht : RT R n p l) : r_l_right_3 (EY s n (R.map dn) a sh F (some (0, .int (p : Int))) (some (1, .lst (l.map cO)))) = .nx (EY s n (R.map dn) a sh F (some (0, .int (p : Int))) (some (1, .lst (l.map cO)))) := by
  have e := iwo_lst (m := 0) (m2 := 1) hR h2 hn hp (l := l) (by omega)
  have ho : outs? R n p l = true := by unfold outs?; rw [ht.go]; simp
  rw [ho] at e
  have a1 : atD (l.map cO) (-1) = some .non := by
    obtain ⟨k, rfl⟩ := ht.la
    rw [List.map_append]
    have hne : k.map cO ++ [none].map cO ≠ [] := by simp
    rw [at_last hne]
    congr 1
    simp [cO]
  unfold EY
  generalize l.map cO = ds at *
  generalize dnat F = fd at *
  generalize R.map dn = Rd at *
  unfold r_l_right_3
  simp [e, a1, VV.kept, VV.stable]
theorem r_4 (hl : l.length ≤ 13) : r_l_right_4 (EY s n (R.map dn) a sh F (some (0, .int (p : Int))) (some (1, .lst (l.map cO)))) = .nx (EY s n (R.map dn) a sh F (some (0, .int (p : Int))) (some (1, .lst ((l ++ [none]).map cO)))) := by
  have e : (l ++ [none]).map cO = l.map cO ++ [.non] := by simp [cO]
  have hll : (l.map cO).length < lim := by rw [List.length_map, lim_num]; omega
  rw [e]
  unfold EY
  generalize l.map cO = ds at *
  generalize dnat F = fd at *
  generalize R.map dn = Rd at *
  unfold r_l_right_4
  simp [rAppend, hll]
theorem q_turn (hR : IsRule n R) (h2 : 2 ≤ n) (hn : n ≤ 12) (hp : p < n) (hl : F.length = n) (hF : IsD R n p (nth F p)) : (gname 6 ⟨false, 0, .int (p : Int)⟩ (EY s n (R.map dn) a sh F none none)).seq q_l_right_0 = .nx (EY s n (R.map dn) a sh F none none) := by
  obtain ⟨l, l1, l2, hw⟩ := wo_ex hR h2 hn hp
  have e0 := r_0 (s := s) (n := n) (a := a) (sh := sh) (F := F) hw
  have e1 := r_1 (s := s) (a := a) (sh := sh) hR h2 hn hp hl hF l2
  have e2 := r_2 (s := s) (n := n) (a := a) (sh := sh) (F := F) (p := p) (R := R) (l := l)
  have e3 := r_3 (s := s) (a := a) (sh := sh) (F := F) hR h2 hn hp l1 l2
  have e4 := r_4 (s := s) (n := n) (a := a) (sh := sh) (F := F) (p := p) (R := R) l1
  unfold q_l_right_0
  generalize r_l_right_0 = p0 at *
  generalize r_l_right_1 = p1 at *
  generalize r_l_right_2 = p2 at *
  generalize r_l_right_3 = p3 at *
  generalize r_l_right_4 = p4 at *
  unfold EY at *
  generalize (l ++ [none]).map cO = d2 at *
  generalize l.map cO = d1 at *
  generalize R.map dn = Rd at *
  generalize dnat F = fd at *
  simp [e_tdy, e_even, e0, e1, e2, e3, e4]
theorem t_3 (hR : IsRule n R) (h2 : 2 ≤ n) (hn : n ≤ 12) (hl : F.length = n) (hF : ∀ q, q < n → IsD R n q (nth F q)) : t_l_right_3 (EZ s n (some (0, .lst (R.map dn))) (some (1, .int (a : Nat))) (some (0, .str sh)) (some (1, .lst (dnat F))) none none) = .nx (EZ s n (some (0, .lst (R.map dn))) (some (0, .int (a : Nat))) (some (0, .str sh)) (some (0, .lst (dnat F))) none none) := by
  have e := forL_eq (g := gname 6) (b := q_l_right_0) (rng 0 (n : Int)) (fun _ => EY s n (R.map dn) a sh F none none) fun j d hd => by
    obtain ⟨rfl, hj⟩ := rng_at0 hd
    exact q_turn hR h2 hn hj hl (hF j hj)
  have rg : ∀ b k, kR1 [⟨b, k, .int (n : Int)⟩] = some (rng 0 (n : Int)) := fun b k => e_range1 (by omega) (by omega)
  unfold EY at e
  generalize R.map dn = Rd at *
  generalize dnat F = fd at *
  unfold t_l_right_3 w_l_right_0
  generalize q_l_right_0 = q0 at *
  unfold EZ
  simp [e_pre, e_even, rg, e]
theorem t_4 (hR : IsRule n R) (h2 : 2 ≤ n) (hn : n ≤ 12) (ha : a < n) : t_l_right_4 (EZ s n (some (0, .lst (R.map dn))) (some (0, .int (a : Nat))) (some (0, .str (txR R))) (some (0, .lst (dnat F))) none none) = .ret (0, .bl true) (EZ s n (some (0, .lst (R.map dn))) (some (0, .int (a : Nat))) (some (0, .str (txR R))) (some (0, .lst (dnat F))) none none) := by
  obtain ⟨l, l1, l2, hw⟩ := wo_ex hR h2 hn ha
  have e := hw 0 0
  have hs : (D.lst (l.map cO)).shp = true := (Nice.lstOf (n := 13) (k := 0) (j := 0) (fun d hd => by
    obtain ⟨o, ho, rfl⟩ := List.mem_map.mp hd
    exact gd_nice hn (l2.ok o ho)) (by rw [List.length_map]; exact l1)).shp (by decide)
  have q := fun p q a b => e_eqSame (p := p) (q := q) (m := a) (n := b) hs
  have er := rep (nice_rule hR hn) (by decide) (by decide)
  unfold txR
  generalize (D.lst (R.map dn)).py.shown = sh at *
  generalize l.map cO = ds at *
  generalize dnat F = fd at *
  generalize R.map dn = Rd at *
  unfold t_l_right_4 EZ
  simp [e, q, er, VV.kept, VV.stable]
theorem right_eq {m : Nat} (hs : Src N s) (hN : N < 200000) (h2 : 2 ≤ n) (hn : n ≤ 12) : ∃ s', Src (N + 300) s' ∧ m_l_right [(1, s.D), (m, .int (n : Int))] = .ok (0, .bl true) [some (1, s'.D), some (0, .int (n : Int))] := by
  obtain ⟨R, a, s1, hR, ha, h1, e0⟩ := t_0 hs (by omega) h2 hn
  obtain ⟨F, f1, f2, e1⟩ := t_1 (s := s1) hR h2 hn (x3 := some (1, .int (a : Nat)))
  have e2 := t_2 (s := s1) hR h2 hn ha f1 f2 (x4 := some (0, .str (txR R)))
  have e3 := t_3 (s := s1) (a := a) (sh := txR R) hR h2 hn f1 f2
  have e4 := t_4 (s := s1) (F := F) hR h2 hn ha
  refine ⟨s1, h1, ?_⟩
  generalize txR R = sh at *
  generalize R.map dn = Rd at *
  generalize dnat F = fd at *
  unfold m_l_right fnM
  rw [b_l_right_eq]
  generalize t_l_right_0 = p0 at *
  generalize t_l_right_1 = p1 at *
  generalize t_l_right_2 = p2 at *
  generalize t_l_right_3 = p3 at *
  generalize t_l_right_4 = p4 at *
  unfold EZ at *
  cases m <;> simp [e_pre, e_even, e0, e1, e2, e3, e4]
end
end Lw
set_option maxHeartbeats 4000000
namespace Lw
open PySem Vs
/-! the law -/
section
variable {ns : List Int}
theorem lw0 {N n : Nat} {s : Sr} {x0 x1 x2 : Option PV} (hs : Src N s) (hN : N < 100000) (h2 : 2 ≤ n) (hn : n ≤ 12) : ∃ s', Src (N + 400) s' ∧ q_p_law_0 [x0, x1, x2, some (1, s.D), some (0, .int (n : Int)), none] = .nx [x0, x1, x2, some (1, s'.D), none, none] := by
  obtain ⟨s', h1, e1⟩ := right_eq (m := 0) hs (by omega) h2 hn
  refine ⟨s', h1.le (by omega), ?_⟩
  unfold q_p_law_0
  simp [e_tdy, e_even, e1]
theorem lw1 {k : Nat} {c : Int} {x0 : Option PV} (hk : k < 100) : q_p_law_1 [x0, some (0, .int (k : Int)), some (0, .int c), none, none, none] = .nx [x0, none, none, none, none, none] := by
  have e1 := source_eq (x := c) (k := k) (m := 0) (m' := 0) (by omega)
  have h0 : Src 0 (srcF c k) := srcF_ok (by omega)
  generalize srcF c k = s0 at *
  have d1 : m_l_draw [(1, s0.D), (0, .int 4)] = .ok (0, .int (dr s0 4 : Nat)) [some (1, (nx s0 4).D), some (0, .int 4)] := draw_eq (n := 4) h0
  have l1 : dr s0 4 < 4 := dr_lt (by omega)
  have h1 := h0.nx 4
  generalize dr s0 4 = u1 at *
  generalize nx s0 4 = s1 at *
  have d2 : m_l_draw [(1, s1.D), (0, .int 6)] = .ok (0, .int (dr s1 6 : Nat)) [some (1, (nx s1 6).D), some (0, .int 6)] := draw_eq (n := 6) h1
  have l2 : dr s1 6 < 6 := dr_lt (by omega)
  have h2 := h1.nx 6
  generalize dr s1 6 = u2 at *
  generalize nx s1 6 = s2 at *
  have d3 : m_l_draw [(1, s2.D), (0, .int 5)] = .ok (0, .int (dr s2 5 : Nat)) [some (1, (nx s2 5).D), some (0, .int 5)] := draw_eq (n := 5) h2
  have l3 : dr s2 5 < 5 := dr_lt (by omega)
  have h3 := h2.nx 5
  generalize dr s2 5 = u3 at *
  generalize nx s2 5 = s3 at *
  obtain ⟨s4, h4, q0⟩ := lw0 (n := 2 + u1) (x0 := x0) (x1 := some (0, .int (k : Int))) (x2 := some (0, .int c)) h3 (by omega) (by omega) (by omega)
  obtain ⟨s5, h5, q1⟩ := lw0 (n := 2 + u2) (x0 := x0) (x1 := some (0, .int (k : Int))) (x2 := some (0, .int c)) h4 (by omega) (by omega) (by omega)
  obtain ⟨s6, h6, q2⟩ := lw0 (n := 8 + u3) (x0 := x0) (x1 := some (0, .int (k : Int))) (x2 := some (0, .int c)) h5 (by omega) (by omega) (by omega)
  have i1 : ((2 + u1 : Nat) : Int) = 2 + (u1 : Int) := by omega
  have i2 : ((2 + u2 : Nat) : Int) = 2 + (u2 : Int) := by omega
  have i3 : ((8 + u3 : Nat) : Int) = 8 + (u3 : Int) := by omega
  rw [i1] at q0
  rw [i2] at q1
  rw [i3] at q2
  have r1 : kMul ⟨false, 1, .lst [.int (8 + (u3 : Int))]⟩ (vi 1) = some ⟨false, 1, .lst [.int (8 + (u3 : Int))]⟩ := e_rep (n := 1) (m := 0) (by decide)
  have r0 : kMul ⟨false, 1, .lst [.int (8 + (u3 : Int))]⟩ (vi 0) = some ⟨false, 1, .lst []⟩ := e_rep (n := 0) (m := 0) (by decide)
  have a1 := e_addL (p := false) (q := false) (m := 1) (n := 1) (l := [.int (2 + (u1 : Int)), .int (2 + (u2 : Int))]) (k := [.int (8 + (u3 : Int))]) (.inl rfl) (.inl rfl) (by simp)
  have a0 := e_addL (p := false) (q := false) (m := 1) (n := 1) (l := [.int (2 + (u1 : Int)), .int (2 + (u2 : Int))]) (k := []) (.inl rfl) (.inl rfl) (by simp)
  have ki : ∀ a b, kInt [⟨a, b, .bl true⟩] = some (vi 1) := fun a b => rfl
  have ki0 : ∀ a b, kInt [⟨a, b, .bl false⟩] = some (vi 0) := fun a b => rfl
  unfold q_p_law_1 w_p_law_0
  generalize q_p_law_0 = qq at *
  by_cases c0 : k = 0
  · subst c0
    have q0 : qq [x0, some (0, .int 0), some (0, .int c), some (1, s3.D), some (0, .int (2 + (u1 : Int))), none] = _ := q0
    have q1 : qq [x0, some (0, .int 0), some (0, .int c), some (1, s4.D), some (0, .int (2 + (u2 : Int))), none] = _ := q1
    have q2 : qq [x0, some (0, .int 0), some (0, .int c), some (1, s5.D), some (0, .int (8 + (u3 : Int))), none] = _ := q2
    have e1 : m_l_source [(0, .int c), (0, .int 0)] = _ := e1
    simp at e1 q0 q1 q2
    simp [e_pre, e_tdy, e_even, e1, forL, d1, d2, d3, r1, a1, ki, q0, q1, q2, VV.kept, VV.stable]
  · have c' : ¬ (k : Int) = 0 := by omega
    simp [e_pre, e_tdy, e_even, e1, forL, d1, d2, d3, r0, a0, ki0, c0, q0, q1, VV.kept, VV.stable]
theorem lw2 : ∀ ns : List Int, ns.length ≤ 63 → w_p_law_1 [some (0, .lst (dints ns)), none, none, none, none, none] = .nx [some (0, .lst (dints ns)), none, none, none, none, none] := fun ns hn => by
  have e1 := cells_eq (ns := ns) (k := 5) hn (by omega)
  obtain ⟨ρ', e, rfl⟩ := forL_inv0 (g := gtup [(gname 1), (gname 2)]) (b := q_p_law_1) (fun i ρ => ρ = [some (0, .lst (dints ns)), none, none, none, none, none]) (enumD 0 (dints (cellsF ns 5))) [some (0, .lst (dints ns)), none, none, none, none, none]
    (fun i d ρ hd h => by
      subst h
      obtain ⟨hk, c, rfl⟩ := cells_at hd
      have e := lw1 (k := i) (c := c) (x0 := some (0, .lst (dints ns))) (by omega)
      refine ⟨_, ?_, rfl⟩
      generalize q_p_law_1 = q1 at *
      simp [gtup, gall, e]) rfl
  have e1 : m_l_cells [(0, .lst (dints ns)), (0, .int 5)] = .ok (1, .lst (dints (cellsF ns 5))) [some (0, .lst (dints ns)), some (0, .int 5)] := e1
  generalize dints (cellsF ns 5) = dc at *
  generalize dints ns = dnn' at *
  unfold w_p_law_1
  generalize q_p_law_1 = q1 at *
  simp [e_pre, e_even, e1, e, VV.kept, VV.stable]
def R3 : List (List Nat) := [[0, 1, 2], [0, 1, 2], [0, 1, 2]]
def R2 : List (List Nat) := [[0, 1], [1, 0]]
theorem rule3 : IsRule 3 R3 := ⟨rfl, fun p hp => by
  simp only [R3, List.mem_cons, List.not_mem_nil, or_false, or_self] at hp
  rw [hp]
  exact List.isPerm_iff.mp (by decide +kernel)⟩
theorem rule2 : IsRule 2 R2 := ⟨rfl, fun p hp => by
  simp only [R2, List.mem_cons, List.not_mem_nil, or_false] at hp
  rcases hp with rfl | rfl <;> exact List.isPerm_iff.mp (by decide +kernel)⟩
theorem isd_of {R : List (List Nat)} {n p d : Nat} (h : outIn R n d p = true) (h0 : outIn R n (d - 1) p = false) : IsD R n p d := ⟨h, fun e he => out_le h0 (by omega)⟩
theorem law_true : ∀ ns : List Int, ns.length ≤ 63 → ∃ r out, m_p_law [(0, .lst (dints ns))] = .ok r out ∧ r.2 = .bl true := fun ns hn => by
  have e := lw2 ns hn
  have i1 := life_eq (m := 2) (k := 0) (n := 3) (p := 2) (d := 3) rule3 (by decide) (by decide) (by decide) (isd_of (by decide +kernel) (by decide +kernel))
  obtain ⟨l1, _, t1, w1⟩ := wo_ex (n := 3) (p := 1) (R := R3) rule3 (by decide) (by decide) (by decide)
  obtain ⟨l2, _, t2, w2⟩ := wo_ex (n := 2) (p := 0) (R := R2) rule2 (by decide) (by decide) (by decide)
  have g1 := t1.di.uniq (isd_of (R := R3) (n := 3) (p := 1) (d := 2) (by decide +kernel) (by decide +kernel))
  have g2 := t2.di.uniq (isd_of (R := R2) (n := 2) (p := 0) (d := 1) (by decide +kernel) (by decide +kernel))
  obtain rfl : l1 = [none, none] := by
    obtain ⟨k, rfl⟩ := t1.la
    have hg := t1.go
    match k with
    | [] => simp at g1
    | _ :: _ :: _ => simp at g1
    | [none] => rfl
    | [some i] =>
      exfalso
      have h : (stp R3 3 (stp R3 3 (some (some 1)) (some i)) none) = some none := hg
      have hs : stp R3 3 (some (some 1)) (some i) = if 0 ≤ i ∧ i < (3 : Nat) ∧ i ≠ (1 : Nat) then some (some (nth (R3.getD i.toNat []) 1)) else none := rfl
      rw [hs] at h
      split at h
      · rename_i c
        have : i = 0 ∨ i = 2 := by omega
        rcases this with rfl | rfl
        · exact absurd h (by decide +kernel)
        · exact absurd h (by decide +kernel)
      · cases h
  obtain rfl : l2 = [none] := by
    obtain ⟨k, rfl⟩ := t2.la
    match k with
    | [] => rfl
    | _ :: _ => simp at g2
  have w1 := w1 0 0
  have w2 := w2 2 0
  have i1 : m_p_life [(2, .lst [.lst [.int 0, .int 1, .int 2], .lst [.int 0, .int 1, .int 2], .lst [.int 0, .int 1, .int 2]]), (0, .int 2)] = .ok (0, .int 3) [some (0, .lst [.lst [.int 0, .int 1, .int 2], .lst [.int 0, .int 1, .int 2], .lst [.int 0, .int 1, .int 2]]), some (0, .int 2)] := i1
  have w1 : m_p_way_out [(0, .lst [.lst [.int 0, .int 1, .int 2], .lst [.int 0, .int 1, .int 2], .lst [.int 0, .int 1, .int 2]]), (0, .int 1)] = .ok (1, .lst [.non, .non]) [some (0, .lst [.lst [.int 0, .int 1, .int 2], .lst [.int 0, .int 1, .int 2], .lst [.int 0, .int 1, .int 2]]), some (0, .int 1)] := w1
  have w2 : m_p_way_out [(2, .lst [.lst [.int 0, .int 1], .lst [.int 1, .int 0]]), (0, .int 0)] = .ok (1, .lst [.non]) [some (0, .lst [.lst [.int 0, .int 1], .lst [.int 1, .int 0]]), some (0, .int 0)] := w2
  have q := fun p q a b => e_eqSame (p := p) (q := q) (m := a) (n := b) (d := .lst [.int 3, .lst [.non, .non], .lst [.non]]) (by decide +kernel)
  refine ⟨(0, .bl true), [some (0, .lst (dints ns))], ?_, rfl⟩
  generalize dints ns = dnn' at *
  unfold m_p_law fnM
  rw [b_p_law_eq]
  generalize w_p_law_1 = ww at *
  simp [e_pre, e_even, e, i1, w1, w2, q, VV.kept, VV.stable]
end
end Lw
namespace Lw
open PySem PySem.Spec PyProof.Rows L2 Vs
theorem all_mk {l : PySem.W.OpenLaw} {w : World} {K : PySem.W.Frag} {h : Heap} {mg : Str → Option Value} {fa : Addr} (X : K.In h) (G : h.Ns mainGlobals mg) (hfa : mg "law" = some (.ref fa))
    {f_l_cells : Addr} {od_l_cells an_l_cells : Option Addr} {sl_l_cells : Array (Option Value)} {oc_l_cells dV_l_cells kV_l_cells dc_l_cells pm_l_cells cd_l_cells ct_l_cells : Value}
    (a_l_cells : PySem.W.nsIn K mainGlobals "_law_cells" = some (some (.ref f_l_cells))) (l_l_cells : K.lookup f_l_cells = some ⟨oc_l_cells, od_l_cells, .func (PySem.W.fnOf "_law_cells" "_law_cells" (defArgs s_l_cells) (defBody s_l_cells) (defScope s_l_cells) dV_l_cells kV_l_cells dc_l_cells pm_l_cells an_l_cells cd_l_cells ct_l_cells), sl_l_cells⟩) (c_l_cells : PySem.W.codeIn K cd_l_cells "_law_cells" = true) (k_l_cells : PySem.W.keepIn K (.ref f_l_cells) = true)
    (d_l_cells : dV_l_cells = .none)
    {f_l_draw : Addr} {od_l_draw an_l_draw : Option Addr} {sl_l_draw : Array (Option Value)} {oc_l_draw dV_l_draw kV_l_draw dc_l_draw pm_l_draw cd_l_draw ct_l_draw : Value}
    (a_l_draw : PySem.W.nsIn K mainGlobals "_law_draw" = some (some (.ref f_l_draw))) (l_l_draw : K.lookup f_l_draw = some ⟨oc_l_draw, od_l_draw, .func (PySem.W.fnOf "_law_draw" "_law_draw" (defArgs s_l_draw) (defBody s_l_draw) (defScope s_l_draw) dV_l_draw kV_l_draw dc_l_draw pm_l_draw an_l_draw cd_l_draw ct_l_draw), sl_l_draw⟩) (c_l_draw : PySem.W.codeIn K cd_l_draw "_law_draw" = true) (k_l_draw : PySem.W.keepIn K (.ref f_l_draw) = true)
    (d_l_draw : dV_l_draw = .none)
    {f_l_mixed : Addr} {od_l_mixed an_l_mixed : Option Addr} {sl_l_mixed : Array (Option Value)} {oc_l_mixed dV_l_mixed kV_l_mixed dc_l_mixed pm_l_mixed cd_l_mixed ct_l_mixed : Value}
    (a_l_mixed : PySem.W.nsIn K mainGlobals "_law_mixed" = some (some (.ref f_l_mixed))) (l_l_mixed : K.lookup f_l_mixed = some ⟨oc_l_mixed, od_l_mixed, .func (PySem.W.fnOf "_law_mixed" "_law_mixed" (defArgs s_l_mixed) (defBody s_l_mixed) (defScope s_l_mixed) dV_l_mixed kV_l_mixed dc_l_mixed pm_l_mixed an_l_mixed cd_l_mixed ct_l_mixed), sl_l_mixed⟩) (c_l_mixed : PySem.W.codeIn K cd_l_mixed "_law_mixed" = true) (k_l_mixed : PySem.W.keepIn K (.ref f_l_mixed) = true)
    (d_l_mixed : dV_l_mixed = .none)
    {f_l_book : Addr} {od_l_book an_l_book : Option Addr} {sl_l_book : Array (Option Value)} {oc_l_book dV_l_book kV_l_book dc_l_book pm_l_book cd_l_book ct_l_book : Value}
    (a_l_book : PySem.W.nsIn K mainGlobals "_law_book" = some (some (.ref f_l_book))) (l_l_book : K.lookup f_l_book = some ⟨oc_l_book, od_l_book, .func (PySem.W.fnOf "_law_book" "_law_book" (defArgs s_l_book) (defBody s_l_book) (defScope s_l_book) dV_l_book kV_l_book dc_l_book pm_l_book an_l_book cd_l_book ct_l_book), sl_l_book⟩) (c_l_book : PySem.W.codeIn K cd_l_book "_law_book" = true) (k_l_book : PySem.W.keepIn K (.ref f_l_book) = true)
    (d_l_book : dV_l_book = .none)
    {f_l_lives : Addr} {od_l_lives an_l_lives : Option Addr} {sl_l_lives : Array (Option Value)} {oc_l_lives dV_l_lives kV_l_lives dc_l_lives pm_l_lives cd_l_lives ct_l_lives : Value}
    (a_l_lives : PySem.W.nsIn K mainGlobals "_law_lives" = some (some (.ref f_l_lives))) (l_l_lives : K.lookup f_l_lives = some ⟨oc_l_lives, od_l_lives, .func (PySem.W.fnOf "_law_lives" "_law_lives" (defArgs s_l_lives) (defBody s_l_lives) (defScope s_l_lives) dV_l_lives kV_l_lives dc_l_lives pm_l_lives an_l_lives cd_l_lives ct_l_lives), sl_l_lives⟩) (c_l_lives : PySem.W.codeIn K cd_l_lives "_law_lives" = true) (k_l_lives : PySem.W.keepIn K (.ref f_l_lives) = true)
    (d_l_lives : dV_l_lives = .none)
    {f_l_same : Addr} {od_l_same an_l_same : Option Addr} {sl_l_same : Array (Option Value)} {oc_l_same dV_l_same kV_l_same dc_l_same pm_l_same cd_l_same ct_l_same : Value}
    (a_l_same : PySem.W.nsIn K mainGlobals "_law_same" = some (some (.ref f_l_same))) (l_l_same : K.lookup f_l_same = some ⟨oc_l_same, od_l_same, .func (PySem.W.fnOf "_law_same" "_law_same" (defArgs s_l_same) (defBody s_l_same) (defScope s_l_same) dV_l_same kV_l_same dc_l_same pm_l_same an_l_same cd_l_same ct_l_same), sl_l_same⟩) (c_l_same : PySem.W.codeIn K cd_l_same "_law_same" = true) (k_l_same : PySem.W.keepIn K (.ref f_l_same) = true)
    (d_l_same : dV_l_same = .none)
    {f_l_step : Addr} {od_l_step an_l_step : Option Addr} {sl_l_step : Array (Option Value)} {oc_l_step dV_l_step kV_l_step dc_l_step pm_l_step cd_l_step ct_l_step : Value}
    (a_l_step : PySem.W.nsIn K mainGlobals "_law_step" = some (some (.ref f_l_step))) (l_l_step : K.lookup f_l_step = some ⟨oc_l_step, od_l_step, .func (PySem.W.fnOf "_law_step" "_law_step" (defArgs s_l_step) (defBody s_l_step) (defScope s_l_step) dV_l_step kV_l_step dc_l_step pm_l_step an_l_step cd_l_step ct_l_step), sl_l_step⟩) (c_l_step : PySem.W.codeIn K cd_l_step "_law_step" = true) (k_l_step : PySem.W.keepIn K (.ref f_l_step) = true)
    (d_l_step : dV_l_step = .none)
    {f_l_walk : Addr} {od_l_walk an_l_walk : Option Addr} {sl_l_walk : Array (Option Value)} {oc_l_walk dV_l_walk kV_l_walk dc_l_walk pm_l_walk cd_l_walk ct_l_walk : Value}
    (a_l_walk : PySem.W.nsIn K mainGlobals "_law_walk" = some (some (.ref f_l_walk))) (l_l_walk : K.lookup f_l_walk = some ⟨oc_l_walk, od_l_walk, .func (PySem.W.fnOf "_law_walk" "_law_walk" (defArgs s_l_walk) (defBody s_l_walk) (defScope s_l_walk) dV_l_walk kV_l_walk dc_l_walk pm_l_walk an_l_walk cd_l_walk ct_l_walk), sl_l_walk⟩) (c_l_walk : PySem.W.codeIn K cd_l_walk "_law_walk" = true) (k_l_walk : PySem.W.keepIn K (.ref f_l_walk) = true)
    (d_l_walk : dV_l_walk = .none)
    {f_p_is_integer : Addr} {od_p_is_integer an_p_is_integer : Option Addr} {sl_p_is_integer : Array (Option Value)} {oc_p_is_integer dV_p_is_integer kV_p_is_integer dc_p_is_integer pm_p_is_integer cd_p_is_integer ct_p_is_integer : Value}
    (a_p_is_integer : PySem.W.nsIn K mainGlobals "is_integer" = some (some (.ref f_p_is_integer))) (l_p_is_integer : K.lookup f_p_is_integer = some ⟨oc_p_is_integer, od_p_is_integer, .func (PySem.W.fnOf "is_integer" "is_integer" (defArgs s_p_is_integer) (defBody s_p_is_integer) (defScope s_p_is_integer) dV_p_is_integer kV_p_is_integer dc_p_is_integer pm_p_is_integer an_p_is_integer cd_p_is_integer ct_p_is_integer), sl_p_is_integer⟩) (c_p_is_integer : PySem.W.codeIn K cd_p_is_integer "is_integer" = true) (k_p_is_integer : PySem.W.keepIn K (.ref f_p_is_integer) = true)
    {t_p_is_integer : Addr} {to_p_is_integer : Value} {td_p_is_integer : Option Addr} {ti_p_is_integer : Array Value} {tn_p_is_integer : Nat} {ts_p_is_integer : Array (Option Value)} (d_p_is_integer : dV_p_is_integer = .ref t_p_is_integer) (tl_p_is_integer : K.lookup t_p_is_integer = some ⟨to_p_is_integer, td_p_is_integer, .seq ti_p_is_integer tn_p_is_integer, ts_p_is_integer⟩) (tv_p_is_integer : Vals [.non, .non] ti_p_is_integer.toList)
    {f_p_check_place : Addr} {od_p_check_place an_p_check_place : Option Addr} {sl_p_check_place : Array (Option Value)} {oc_p_check_place dV_p_check_place kV_p_check_place dc_p_check_place pm_p_check_place cd_p_check_place ct_p_check_place : Value}
    (a_p_check_place : PySem.W.nsIn K mainGlobals "check_place" = some (some (.ref f_p_check_place))) (l_p_check_place : K.lookup f_p_check_place = some ⟨oc_p_check_place, od_p_check_place, .func (PySem.W.fnOf "check_place" "check_place" (defArgs s_p_check_place) (defBody s_p_check_place) (defScope s_p_check_place) dV_p_check_place kV_p_check_place dc_p_check_place pm_p_check_place an_p_check_place cd_p_check_place ct_p_check_place), sl_p_check_place⟩) (c_p_check_place : PySem.W.codeIn K cd_p_check_place "check_place" = true) (k_p_check_place : PySem.W.keepIn K (.ref f_p_check_place) = true)
    (d_p_check_place : dV_p_check_place = .none)
    {f_p_is_permutation_of : Addr} {od_p_is_permutation_of an_p_is_permutation_of : Option Addr} {sl_p_is_permutation_of : Array (Option Value)} {oc_p_is_permutation_of dV_p_is_permutation_of kV_p_is_permutation_of dc_p_is_permutation_of pm_p_is_permutation_of cd_p_is_permutation_of ct_p_is_permutation_of : Value}
    (a_p_is_permutation_of : PySem.W.nsIn K mainGlobals "is_permutation_of" = some (some (.ref f_p_is_permutation_of))) (l_p_is_permutation_of : K.lookup f_p_is_permutation_of = some ⟨oc_p_is_permutation_of, od_p_is_permutation_of, .func (PySem.W.fnOf "is_permutation_of" "is_permutation_of" (defArgs s_p_is_permutation_of) (defBody s_p_is_permutation_of) (defScope s_p_is_permutation_of) dV_p_is_permutation_of kV_p_is_permutation_of dc_p_is_permutation_of pm_p_is_permutation_of an_p_is_permutation_of cd_p_is_permutation_of ct_p_is_permutation_of), sl_p_is_permutation_of⟩) (c_p_is_permutation_of : PySem.W.codeIn K cd_p_is_permutation_of "is_permutation_of" = true) (k_p_is_permutation_of : PySem.W.keepIn K (.ref f_p_is_permutation_of) = true)
    (d_p_is_permutation_of : dV_p_is_permutation_of = .none)
    {f_p_check_rule : Addr} {od_p_check_rule an_p_check_rule : Option Addr} {sl_p_check_rule : Array (Option Value)} {oc_p_check_rule dV_p_check_rule kV_p_check_rule dc_p_check_rule pm_p_check_rule cd_p_check_rule ct_p_check_rule : Value}
    (a_p_check_rule : PySem.W.nsIn K mainGlobals "check_rule" = some (some (.ref f_p_check_rule))) (l_p_check_rule : K.lookup f_p_check_rule = some ⟨oc_p_check_rule, od_p_check_rule, .func (PySem.W.fnOf "check_rule" "check_rule" (defArgs s_p_check_rule) (defBody s_p_check_rule) (defScope s_p_check_rule) dV_p_check_rule kV_p_check_rule dc_p_check_rule pm_p_check_rule an_p_check_rule cd_p_check_rule ct_p_check_rule), sl_p_check_rule⟩) (c_p_check_rule : PySem.W.codeIn K cd_p_check_rule "check_rule" = true) (k_p_check_rule : PySem.W.keepIn K (.ref f_p_check_rule) = true)
    (d_p_check_rule : dV_p_check_rule = .none)
    {f_p_is_item : Addr} {od_p_is_item an_p_is_item : Option Addr} {sl_p_is_item : Array (Option Value)} {oc_p_is_item dV_p_is_item kV_p_is_item dc_p_is_item pm_p_is_item cd_p_is_item ct_p_is_item : Value}
    (a_p_is_item : PySem.W.nsIn K mainGlobals "is_item" = some (some (.ref f_p_is_item))) (l_p_is_item : K.lookup f_p_is_item = some ⟨oc_p_is_item, od_p_is_item, .func (PySem.W.fnOf "is_item" "is_item" (defArgs s_p_is_item) (defBody s_p_is_item) (defScope s_p_is_item) dV_p_is_item kV_p_is_item dc_p_is_item pm_p_is_item an_p_is_item cd_p_is_item ct_p_is_item), sl_p_is_item⟩) (c_p_is_item : PySem.W.codeIn K cd_p_is_item "is_item" = true) (k_p_is_item : PySem.W.keepIn K (.ref f_p_is_item) = true)
    (d_p_is_item : dV_p_is_item = .none)
    {f_p_moves_at : Addr} {od_p_moves_at an_p_moves_at : Option Addr} {sl_p_moves_at : Array (Option Value)} {oc_p_moves_at dV_p_moves_at kV_p_moves_at dc_p_moves_at pm_p_moves_at cd_p_moves_at ct_p_moves_at : Value}
    (a_p_moves_at : PySem.W.nsIn K mainGlobals "moves_at" = some (some (.ref f_p_moves_at))) (l_p_moves_at : K.lookup f_p_moves_at = some ⟨oc_p_moves_at, od_p_moves_at, .func (PySem.W.fnOf "moves_at" "moves_at" (defArgs s_p_moves_at) (defBody s_p_moves_at) (defScope s_p_moves_at) dV_p_moves_at kV_p_moves_at dc_p_moves_at pm_p_moves_at an_p_moves_at cd_p_moves_at ct_p_moves_at), sl_p_moves_at⟩) (c_p_moves_at : PySem.W.codeIn K cd_p_moves_at "moves_at" = true) (k_p_moves_at : PySem.W.keepIn K (.ref f_p_moves_at) = true)
    (d_p_moves_at : dV_p_moves_at = .none)
    {f_p_place_behind : Addr} {od_p_place_behind an_p_place_behind : Option Addr} {sl_p_place_behind : Array (Option Value)} {oc_p_place_behind dV_p_place_behind kV_p_place_behind dc_p_place_behind pm_p_place_behind cd_p_place_behind ct_p_place_behind : Value}
    (a_p_place_behind : PySem.W.nsIn K mainGlobals "place_behind" = some (some (.ref f_p_place_behind))) (l_p_place_behind : K.lookup f_p_place_behind = some ⟨oc_p_place_behind, od_p_place_behind, .func (PySem.W.fnOf "place_behind" "place_behind" (defArgs s_p_place_behind) (defBody s_p_place_behind) (defScope s_p_place_behind) dV_p_place_behind kV_p_place_behind dc_p_place_behind pm_p_place_behind an_p_place_behind cd_p_place_behind ct_p_place_behind), sl_p_place_behind⟩) (c_p_place_behind : PySem.W.codeIn K cd_p_place_behind "place_behind" = true) (k_p_place_behind : PySem.W.keepIn K (.ref f_p_place_behind) = true)
    (d_p_place_behind : dV_p_place_behind = .none)
    {f_p_is_way_out : Addr} {od_p_is_way_out an_p_is_way_out : Option Addr} {sl_p_is_way_out : Array (Option Value)} {oc_p_is_way_out dV_p_is_way_out kV_p_is_way_out dc_p_is_way_out pm_p_is_way_out cd_p_is_way_out ct_p_is_way_out : Value}
    (a_p_is_way_out : PySem.W.nsIn K mainGlobals "is_way_out" = some (some (.ref f_p_is_way_out))) (l_p_is_way_out : K.lookup f_p_is_way_out = some ⟨oc_p_is_way_out, od_p_is_way_out, .func (PySem.W.fnOf "is_way_out" "is_way_out" (defArgs s_p_is_way_out) (defBody s_p_is_way_out) (defScope s_p_is_way_out) dV_p_is_way_out kV_p_is_way_out dc_p_is_way_out pm_p_is_way_out an_p_is_way_out cd_p_is_way_out ct_p_is_way_out), sl_p_is_way_out⟩) (c_p_is_way_out : PySem.W.codeIn K cd_p_is_way_out "is_way_out" = true) (k_p_is_way_out : PySem.W.keepIn K (.ref f_p_is_way_out) = true)
    (d_p_is_way_out : dV_p_is_way_out = .none)
    {f_p_shortest_out : Addr} {od_p_shortest_out an_p_shortest_out : Option Addr} {sl_p_shortest_out : Array (Option Value)} {oc_p_shortest_out dV_p_shortest_out kV_p_shortest_out dc_p_shortest_out pm_p_shortest_out cd_p_shortest_out ct_p_shortest_out : Value}
    (a_p_shortest_out : PySem.W.nsIn K mainGlobals "shortest_out" = some (some (.ref f_p_shortest_out))) (l_p_shortest_out : K.lookup f_p_shortest_out = some ⟨oc_p_shortest_out, od_p_shortest_out, .func (PySem.W.fnOf "shortest_out" "shortest_out" (defArgs s_p_shortest_out) (defBody s_p_shortest_out) (defScope s_p_shortest_out) dV_p_shortest_out kV_p_shortest_out dc_p_shortest_out pm_p_shortest_out an_p_shortest_out cd_p_shortest_out ct_p_shortest_out), sl_p_shortest_out⟩) (c_p_shortest_out : PySem.W.codeIn K cd_p_shortest_out "shortest_out" = true) (k_p_shortest_out : PySem.W.keepIn K (.ref f_p_shortest_out) = true)
    (d_p_shortest_out : dV_p_shortest_out = .none)
    {f_p_life : Addr} {od_p_life an_p_life : Option Addr} {sl_p_life : Array (Option Value)} {oc_p_life dV_p_life kV_p_life dc_p_life pm_p_life cd_p_life ct_p_life : Value}
    (a_p_life : PySem.W.nsIn K mainGlobals "life" = some (some (.ref f_p_life))) (l_p_life : K.lookup f_p_life = some ⟨oc_p_life, od_p_life, .func (PySem.W.fnOf "life" "life" (defArgs s_p_life) (defBody s_p_life) (defScope s_p_life) dV_p_life kV_p_life dc_p_life pm_p_life an_p_life cd_p_life ct_p_life), sl_p_life⟩) (c_p_life : PySem.W.codeIn K cd_p_life "life" = true) (k_p_life : PySem.W.keepIn K (.ref f_p_life) = true)
    (d_p_life : dV_p_life = .none)
    {f_p_way_out : Addr} {od_p_way_out an_p_way_out : Option Addr} {sl_p_way_out : Array (Option Value)} {oc_p_way_out dV_p_way_out kV_p_way_out dc_p_way_out pm_p_way_out cd_p_way_out ct_p_way_out : Value}
    (a_p_way_out : PySem.W.nsIn K mainGlobals "way_out" = some (some (.ref f_p_way_out))) (l_p_way_out : K.lookup f_p_way_out = some ⟨oc_p_way_out, od_p_way_out, .func (PySem.W.fnOf "way_out" "way_out" (defArgs s_p_way_out) (defBody s_p_way_out) (defScope s_p_way_out) dV_p_way_out kV_p_way_out dc_p_way_out pm_p_way_out an_p_way_out cd_p_way_out ct_p_way_out), sl_p_way_out⟩) (c_p_way_out : PySem.W.codeIn K cd_p_way_out "way_out" = true) (k_p_way_out : PySem.W.keepIn K (.ref f_p_way_out) = true)
    (d_p_way_out : dV_p_way_out = .none)
    {f_l_right : Addr} {od_l_right an_l_right : Option Addr} {sl_l_right : Array (Option Value)} {oc_l_right dV_l_right kV_l_right dc_l_right pm_l_right cd_l_right ct_l_right : Value}
    (a_l_right : PySem.W.nsIn K mainGlobals "_law_right" = some (some (.ref f_l_right))) (l_l_right : K.lookup f_l_right = some ⟨oc_l_right, od_l_right, .func (PySem.W.fnOf "_law_right" "_law_right" (defArgs s_l_right) (defBody s_l_right) (defScope s_l_right) dV_l_right kV_l_right dc_l_right pm_l_right an_l_right cd_l_right ct_l_right), sl_l_right⟩) (c_l_right : PySem.W.codeIn K cd_l_right "_law_right" = true) (k_l_right : PySem.W.keepIn K (.ref f_l_right) = true)
    (d_l_right : dV_l_right = .none)
    {f_l_source : Addr} {od_l_source an_l_source : Option Addr} {sl_l_source : Array (Option Value)} {oc_l_source dV_l_source kV_l_source dc_l_source pm_l_source cd_l_source ct_l_source : Value}
    (a_l_source : PySem.W.nsIn K mainGlobals "_law_source" = some (some (.ref f_l_source))) (l_l_source : K.lookup f_l_source = some ⟨oc_l_source, od_l_source, .func (PySem.W.fnOf "_law_source" "_law_source" (defArgs s_l_source) (defBody s_l_source) (defScope s_l_source) dV_l_source kV_l_source dc_l_source pm_l_source an_l_source cd_l_source ct_l_source), sl_l_source⟩) (c_l_source : PySem.W.codeIn K cd_l_source "_law_source" = true) (k_l_source : PySem.W.keepIn K (.ref f_l_source) = true)
    (d_l_source : dV_l_source = .none)
    {f_p_law : Addr} {od_p_law an_p_law : Option Addr} {sl_p_law : Array (Option Value)} {oc_p_law dV_p_law kV_p_law dc_p_law pm_p_law cd_p_law ct_p_law : Value}
    (a_p_law : PySem.W.nsIn K mainGlobals "law" = some (some (.ref f_p_law))) (l_p_law : K.lookup f_p_law = some ⟨oc_p_law, od_p_law, .func (PySem.W.fnOf "law" "law" (defArgs s_p_law) (defBody s_p_law) (defScope s_p_law) dV_p_law kV_p_law dc_p_law pm_p_law an_p_law cd_p_law ct_p_law), sl_p_law⟩) (c_p_law : PySem.W.codeIn K cd_p_law "law" = true) (k_p_law : PySem.W.keepIn K (.ref f_p_law) = true)
    (d_p_law : dV_p_law = .none)
    (z_all : PySem.W.nsIn K mainGlobals "all" = some none)
    (z_bool : PySem.W.nsIn K mainGlobals "bool" = some none)
    (z_dict : PySem.W.nsIn K mainGlobals "dict" = some none)
    (z_enumerate : PySem.W.nsIn K mainGlobals "enumerate" = some none)
    (z_int : PySem.W.nsIn K mainGlobals "int" = some none)
    (z_isinstance : PySem.W.nsIn K mainGlobals "isinstance" = some none)
    (z_len : PySem.W.nsIn K mainGlobals "len" = some none)
    (z_list : PySem.W.nsIn K mainGlobals "list" = some none)
    (z_max : PySem.W.nsIn K mainGlobals "max" = some none)
    (z_range : PySem.W.nsIn K mainGlobals "range" = some none)
    (z_repr : PySem.W.nsIn K mainGlobals "repr" = some none)
    (z_sorted : PySem.W.nsIn K mainGlobals "sorted" = some none)
    (z_tuple : PySem.W.nsIn K mainGlobals "tuple" = some none)
    (z_zip : PySem.W.nsIn K mainGlobals "zip" = some none)
    {u_LEAST_PLACES : Value} (w_LEAST_PLACES : PySem.W.nsIn K mainGlobals "LEAST_PLACES" = some (some u_LEAST_PLACES)) (r_LEAST_PLACES : RelV (.int 2) u_LEAST_PLACES)
    {u_MOST_PLACES : Value} (w_MOST_PLACES : PySem.W.nsIn K mainGlobals "MOST_PLACES" = some (some u_MOST_PLACES)) (r_MOST_PLACES : RelV (.int 12) u_MOST_PLACES)
    {u_OWN : Value} (w_OWN : PySem.W.nsIn K mainGlobals "OWN" = some (some u_OWN)) (r_OWN : RelV (.str "own") u_OWN)
    : ∃ (ct : Str → Addr) (fd : FuncData), (∀ (s : Shared) (u : Value), BindsTo s fd ⟨[u], []⟩ [("_law_script", u)]) ∧ ∀ base : Heap, K.In base → base.Ns mainGlobals mg → Fn l.prog w K mg base ct 6 fa fd ["_law_script"] m_p_law := by
  have e := hfa.symm.trans (PySem.W.mg_of X G a_p_law)
  cases e
  subst d_p_law
  have T : Txt K mg := ⟨PySem.W.mg_none_of X G z_all, PySem.W.mg_none_of X G z_bool, PySem.W.mg_none_of X G z_dict, PySem.W.mg_none_of X G z_enumerate, PySem.W.mg_none_of X G z_int, PySem.W.mg_none_of X G z_isinstance, PySem.W.mg_none_of X G z_len, PySem.W.mg_none_of X G z_list, PySem.W.mg_none_of X G z_max, PySem.W.mg_none_of X G z_range, PySem.W.mg_none_of X G z_repr, PySem.W.mg_none_of X G z_sorted, PySem.W.mg_none_of X G z_tuple, PySem.W.mg_none_of X G z_zip, ⟨_, _, PySem.W.mg_of X G w_LEAST_PLACES, r_LEAST_PLACES, fun _ _ => .int _ _⟩, ⟨_, _, PySem.W.mg_of X G w_MOST_PLACES, r_MOST_PLACES, fun _ _ => .int _ _⟩, ⟨_, _, PySem.W.mg_of X G w_OWN, r_OWN, fun _ _ => .str _ _⟩⟩
  have F_l_cells := funD_mk (st := s_l_cells) (dvs := []) l_l_cells c_l_cells k_l_cells (dfl_none d_l_cells)
  have F_l_draw := funD_mk (st := s_l_draw) (dvs := []) l_l_draw c_l_draw k_l_draw (dfl_none d_l_draw)
  have F_l_mixed := funD_mk (st := s_l_mixed) (dvs := []) l_l_mixed c_l_mixed k_l_mixed (dfl_none d_l_mixed)
  have F_l_book := funD_mk (st := s_l_book) (dvs := []) l_l_book c_l_book k_l_book (dfl_none d_l_book)
  have F_l_lives := funD_mk (st := s_l_lives) (dvs := []) l_l_lives c_l_lives k_l_lives (dfl_none d_l_lives)
  have F_l_same := funD_mk (st := s_l_same) (dvs := []) l_l_same c_l_same k_l_same (dfl_none d_l_same)
  have F_l_step := funD_mk (st := s_l_step) (dvs := []) l_l_step c_l_step k_l_step (dfl_none d_l_step)
  have F_l_walk := funD_mk (st := s_l_walk) (dvs := []) l_l_walk c_l_walk k_l_walk (dfl_none d_l_walk)
  have F_p_is_integer := funD_mk (st := s_p_is_integer) (dvs := [.non, .non]) l_p_is_integer c_p_is_integer k_p_is_integer (by rw [d_p_is_integer]; exact dfl_some (by simp) tl_p_is_integer tv_p_is_integer)
  have F_p_check_place := funD_mk (st := s_p_check_place) (dvs := []) l_p_check_place c_p_check_place k_p_check_place (dfl_none d_p_check_place)
  have F_p_is_permutation_of := funD_mk (st := s_p_is_permutation_of) (dvs := []) l_p_is_permutation_of c_p_is_permutation_of k_p_is_permutation_of (dfl_none d_p_is_permutation_of)
  have F_p_check_rule := funD_mk (st := s_p_check_rule) (dvs := []) l_p_check_rule c_p_check_rule k_p_check_rule (dfl_none d_p_check_rule)
  have F_p_is_item := funD_mk (st := s_p_is_item) (dvs := []) l_p_is_item c_p_is_item k_p_is_item (dfl_none d_p_is_item)
  have F_p_moves_at := funD_mk (st := s_p_moves_at) (dvs := []) l_p_moves_at c_p_moves_at k_p_moves_at (dfl_none d_p_moves_at)
  have F_p_place_behind := funD_mk (st := s_p_place_behind) (dvs := []) l_p_place_behind c_p_place_behind k_p_place_behind (dfl_none d_p_place_behind)
  have F_p_is_way_out := funD_mk (st := s_p_is_way_out) (dvs := []) l_p_is_way_out c_p_is_way_out k_p_is_way_out (dfl_none d_p_is_way_out)
  have F_p_shortest_out := funD_mk (st := s_p_shortest_out) (dvs := []) l_p_shortest_out c_p_shortest_out k_p_shortest_out (dfl_none d_p_shortest_out)
  have F_p_life := funD_mk (st := s_p_life) (dvs := []) l_p_life c_p_life k_p_life (dfl_none d_p_life)
  have F_p_way_out := funD_mk (st := s_p_way_out) (dvs := []) l_p_way_out c_p_way_out k_p_way_out (dfl_none d_p_way_out)
  have F_l_right := funD_mk (st := s_l_right) (dvs := []) l_l_right c_l_right k_l_right (dfl_none d_l_right)
  have F_l_source := funD_mk (st := s_l_source) (dvs := []) l_l_source c_l_source k_l_source (dfl_none d_l_source)
  have F_p_law := funD_mk (st := s_p_law) (dvs := []) l_p_law c_p_law k_p_law (dfl_none rfl)
  have Bbl_book_2 := bl_book_2 F_l_book
  have Bbl_cells_2 := bl_cells_2 F_l_cells
  have Bbl_draw_2 := bl_draw_2 F_l_draw
  have Bbl_lives_1 := bl_lives_1 F_l_lives
  have Bbl_mixed_2 := bl_mixed_2 F_l_mixed
  have Bbl_right_2 := bl_right_2 F_l_right
  have Bbl_same_2 := bl_same_2 F_l_same
  have Bbl_source_2 := bl_source_2 F_l_source
  have Bbl_step_3 := bl_step_3 F_l_step
  have Bbl_walk_3 := bl_walk_3 F_l_walk
  have Bbp_check_place_2 := bp_check_place_2 F_p_check_place
  have Bbp_check_rule_1 := bp_check_rule_1 F_p_check_rule
  obtain ⟨dsbp_is_integer_1, Vbp_is_integer_1, Bbp_is_integer_1⟩ := bp_is_integer_1 F_p_is_integer
  obtain ⟨dsbp_is_integer_3, Vbp_is_integer_3, Bbp_is_integer_3⟩ := bp_is_integer_3 F_p_is_integer
  have Bbp_is_item_1 := bp_is_item_1 F_p_is_item
  have Bbp_is_permutation_of_2 := bp_is_permutation_of_2 F_p_is_permutation_of
  have Bbp_is_way_out_3 := bp_is_way_out_3 F_p_is_way_out
  have Bbp_life_0_place_rule := bp_life_0_place_rule F_p_life
  have Bbp_life_2 := bp_life_2 F_p_life
  have Bbp_moves_at_2 := bp_moves_at_2 F_p_moves_at
  have Bbp_place_behind_3 := bp_place_behind_3 F_p_place_behind
  have Bbp_shortest_out_2 := bp_shortest_out_2 F_p_shortest_out
  have Bbp_way_out_0_place_rule := bp_way_out_0_place_rule F_p_way_out
  have Bbp_way_out_2 := bp_way_out_2 F_p_way_out
  refine ⟨(fun _ => 0), PySem.W.fnOf "law" "law" (defArgs s_p_law) (defBody s_p_law) (defScope s_p_law) .none kV_p_law dc_p_law pm_p_law an_p_law cd_p_law ct_p_law, fun s v => .of_eq rfl, fun base _ _ => ?_⟩
  have G_l_cells : Fn l.prog w K mg base (fun _ => 0) 1 _ _ ["_law_script", "_law_most"] m_l_cells := fn_l_cells T F_l_cells 
  have G_l_draw : Fn l.prog w K mg base (fun _ => 0) 1 _ _ ["_law_source_here", "_law_wide"] m_l_draw := fn_l_draw T F_l_draw 
  have G_l_mixed : Fn l.prog w K mg base (fun _ => 0) 2 _ _ ["_law_source_here", "_law_some"] m_l_mixed := fn_l_mixed T F_l_mixed G_l_draw (PySem.W.mg_of X G a_l_draw) k_l_draw Bbl_draw_2 .nil
  have G_l_book : Fn l.prog w K mg base (fun _ => 0) 3 _ _ ["_law_source_here", "_law_many"] m_l_book := fn_l_book T F_l_book G_l_draw (PySem.W.mg_of X G a_l_draw) k_l_draw G_l_mixed (PySem.W.mg_of X G a_l_mixed) k_l_mixed Bbl_draw_2 .nil Bbl_mixed_2 .nil
  have G_l_lives : Fn l.prog w K mg base (fun _ => 0) 1 _ _ ["_law_book_here"] m_l_lives := fn_l_lives T F_l_lives 
  have G_l_same : Fn l.prog w K mg base (fun _ => 0) 4 _ _ ["_law_found", "_law_expected"] (m_l_same 3) := fn_l_same T F_l_same (PySem.W.mg_of X G a_l_same) k_l_same Bbl_same_2 .nil 3
  have G_l_step : Fn l.prog w K mg base (fun _ => 0) 1 _ _ ["_law_book_here", "_law_line", "_law_number"] m_l_step := fn_l_step T F_l_step 
  have G_l_walk : Fn l.prog w K mg base (fun _ => 0) 2 _ _ ["_law_book_here", "_law_at", "_law_items"] m_l_walk := fn_l_walk T F_l_walk G_l_step (PySem.W.mg_of X G a_l_step) k_l_step Bbl_step_3 .nil
  have G_p_is_integer : Fn l.prog w K mg base (fun _ => 0) 1 _ _ ["value", "least", "most"] m_p_is_integer := fn_p_is_integer T F_p_is_integer 
  have G_p_check_place : Fn l.prog w K mg base (fun _ => 0) 2 _ _ ["rule", "value"] m_p_check_place := fn_p_check_place T F_p_check_place G_p_is_integer (PySem.W.mg_of X G a_p_is_integer) k_p_is_integer Bbp_is_integer_3 Vbp_is_integer_3
  have G_p_is_permutation_of : Fn l.prog w K mg base (fun _ => 0) 2 _ _ ["value", "size"] m_p_is_permutation_of := fn_p_is_permutation_of T F_p_is_permutation_of G_p_is_integer (PySem.W.mg_of X G a_p_is_integer) k_p_is_integer Bbp_is_integer_1 Vbp_is_integer_1
  have G_p_check_rule : Fn l.prog w K mg base (fun _ => 0) 3 _ _ ["value"] m_p_check_rule := fn_p_check_rule T F_p_check_rule G_p_is_permutation_of (PySem.W.mg_of X G a_p_is_permutation_of) k_p_is_permutation_of Bbp_is_permutation_of_2 .nil
  have G_p_is_item : Fn l.prog w K mg base (fun _ => 0) 2 _ _ ["value"] m_p_is_item := fn_p_is_item T F_p_is_item G_p_is_integer (PySem.W.mg_of X G a_p_is_integer) k_p_is_integer Bbp_is_integer_1 Vbp_is_integer_1
  have G_p_moves_at : Fn l.prog w K mg base (fun _ => 0) 1 _ _ ["rule", "place"] m_p_moves_at := fn_p_moves_at T F_p_moves_at 
  have G_p_place_behind : Fn l.prog w K mg base (fun _ => 0) 2 _ _ ["rule", "place", "items"] m_p_place_behind := fn_p_place_behind T F_p_place_behind G_p_moves_at (PySem.W.mg_of X G a_p_moves_at) k_p_moves_at Bbp_moves_at_2 .nil
  have G_p_is_way_out : Fn l.prog w K mg base (fun _ => 0) 4 _ _ ["rule", "place", "value"] m_p_is_way_out := fn_p_is_way_out T F_p_is_way_out G_p_check_place (PySem.W.mg_of X G a_p_check_place) k_p_check_place G_p_check_rule (PySem.W.mg_of X G a_p_check_rule) k_p_check_rule G_p_is_item (PySem.W.mg_of X G a_p_is_item) k_p_is_item G_p_place_behind (PySem.W.mg_of X G a_p_place_behind) k_p_place_behind Bbp_check_place_2 .nil Bbp_check_rule_1 .nil Bbp_is_item_1 .nil Bbp_place_behind_3 .nil
  have G_p_shortest_out : Fn l.prog w K mg base (fun _ => 0) 2 _ _ ["rule", "place"] m_p_shortest_out := fn_p_shortest_out T F_p_shortest_out G_p_moves_at (PySem.W.mg_of X G a_p_moves_at) k_p_moves_at Bbp_moves_at_2 .nil
  have G_p_life : Fn l.prog w K mg base (fun _ => 0) 4 _ _ ["rule", "place"] m_p_life := fn_p_life T F_p_life G_p_check_place (PySem.W.mg_of X G a_p_check_place) k_p_check_place G_p_check_rule (PySem.W.mg_of X G a_p_check_rule) k_p_check_rule G_p_shortest_out (PySem.W.mg_of X G a_p_shortest_out) k_p_shortest_out Bbp_check_place_2 .nil Bbp_check_rule_1 .nil Bbp_shortest_out_2 .nil
  have G_p_way_out : Fn l.prog w K mg base (fun _ => 0) 4 _ _ ["rule", "place"] m_p_way_out := fn_p_way_out T F_p_way_out G_p_check_place (PySem.W.mg_of X G a_p_check_place) k_p_check_place G_p_check_rule (PySem.W.mg_of X G a_p_check_rule) k_p_check_rule G_p_shortest_out (PySem.W.mg_of X G a_p_shortest_out) k_p_shortest_out Bbp_check_place_2 .nil Bbp_check_rule_1 .nil Bbp_shortest_out_2 .nil
  have G_l_right : Fn l.prog w K mg base (fun _ => 0) 5 _ _ ["_law_source_here", "_law_many"] m_l_right := fn_l_right T F_l_right G_l_book (PySem.W.mg_of X G a_l_book) k_l_book G_l_draw (PySem.W.mg_of X G a_l_draw) k_l_draw G_l_lives (PySem.W.mg_of X G a_l_lives) k_l_lives G_l_same (PySem.W.mg_of X G a_l_same) k_l_same G_l_walk (PySem.W.mg_of X G a_l_walk) k_l_walk G_p_is_way_out (PySem.W.mg_of X G a_p_is_way_out) k_p_is_way_out G_p_life (PySem.W.mg_of X G a_p_life) k_p_life G_p_way_out (PySem.W.mg_of X G a_p_way_out) k_p_way_out Bbl_book_2 .nil Bbl_draw_2 .nil Bbl_lives_1 .nil Bbl_same_2 .nil Bbl_walk_3 .nil Bbp_is_way_out_3 .nil Bbp_life_0_place_rule .nil Bbp_life_2 .nil Bbp_way_out_0_place_rule .nil Bbp_way_out_2 .nil
  have G_l_source : Fn l.prog w K mg base (fun _ => 0) 1 _ _ ["_law_cell", "_law_nth"] m_l_source := fn_l_source T F_l_source 
  have G_p_law : Fn l.prog w K mg base (fun _ => 0) 6 _ _ ["_law_script"] m_p_law := fn_p_law T F_p_law G_l_cells (PySem.W.mg_of X G a_l_cells) k_l_cells G_l_draw (PySem.W.mg_of X G a_l_draw) k_l_draw G_l_right (PySem.W.mg_of X G a_l_right) k_l_right G_l_source (PySem.W.mg_of X G a_l_source) k_l_source G_p_life (PySem.W.mg_of X G a_p_life) k_p_life G_p_way_out (PySem.W.mg_of X G a_p_way_out) k_p_way_out Bbl_cells_2 .nil Bbl_draw_2 .nil Bbl_right_2 .nil Bbl_source_2 .nil Bbp_life_2 .nil Bbp_way_out_2 .nil
  exact G_p_law
end Lw
open PySem PySem.W PyProof.Rows
set_option maxRecDepth 100000 in
set_option maxHeartbeats 0 in
theorem PySem.Challenge.cw_goesnext_k56_lives_and_ways_out_holds : PySem.Challenge.rw_goesnext_k56_lives_and_ways_out.Holds := by
  w_on; o_law; k_head; (case hw => w_witness2)
  k_fill
  refine Vs.walk_of (l := PySem.Challenge.rw_goesnext_k56_lives_and_ways_out) (n := 63) (k := 6) (x := "_law_script") (m := Lw.m_p_law) rfl (by decide) rfl ⟨rfl, by decide, by decide⟩ (fun w h Y => PySem.W.kIn_of Y) ?F Lw.law_true
  case F =>
    intro w mg fa h KX G hmg
    refine' Lw.all_mk KX G hmg ?a_l_cells ?l_l_cells ?c_l_cells ?k_l_cells ?d_l_cells ?a_l_draw ?l_l_draw ?c_l_draw ?k_l_draw ?d_l_draw ?a_l_mixed ?l_l_mixed ?c_l_mixed ?k_l_mixed ?d_l_mixed ?a_l_book ?l_l_book ?c_l_book ?k_l_book ?d_l_book ?a_l_lives ?l_l_lives ?c_l_lives ?k_l_lives ?d_l_lives ?a_l_same ?l_l_same ?c_l_same ?k_l_same ?d_l_same ?a_l_step ?l_l_step ?c_l_step ?k_l_step ?d_l_step ?a_l_walk ?l_l_walk ?c_l_walk ?k_l_walk ?d_l_walk ?a_p_is_integer ?l_p_is_integer ?c_p_is_integer ?k_p_is_integer ?d_p_is_integer ?tl_p_is_integer ?tv_p_is_integer ?a_p_check_place ?l_p_check_place ?c_p_check_place ?k_p_check_place ?d_p_check_place ?a_p_is_permutation_of ?l_p_is_permutation_of ?c_p_is_permutation_of ?k_p_is_permutation_of ?d_p_is_permutation_of ?a_p_check_rule ?l_p_check_rule ?c_p_check_rule ?k_p_check_rule ?d_p_check_rule ?a_p_is_item ?l_p_is_item ?c_p_is_item ?k_p_is_item ?d_p_is_item ?a_p_moves_at ?l_p_moves_at ?c_p_moves_at ?k_p_moves_at ?d_p_moves_at ?a_p_place_behind ?l_p_place_behind ?c_p_place_behind ?k_p_place_behind ?d_p_place_behind ?a_p_is_way_out ?l_p_is_way_out ?c_p_is_way_out ?k_p_is_way_out ?d_p_is_way_out ?a_p_shortest_out ?l_p_shortest_out ?c_p_shortest_out ?k_p_shortest_out ?d_p_shortest_out ?a_p_life ?l_p_life ?c_p_life ?k_p_life ?d_p_life ?a_p_way_out ?l_p_way_out ?c_p_way_out ?k_p_way_out ?d_p_way_out ?a_l_right ?l_l_right ?c_l_right ?k_l_right ?d_l_right ?a_l_source ?l_l_source ?c_l_source ?k_l_source ?d_l_source ?a_p_law ?l_p_law ?c_p_law ?k_p_law ?d_p_law ?z_all ?z_bool ?z_dict ?z_enumerate ?z_int ?z_isinstance ?z_len ?z_list ?z_max ?z_range ?z_repr ?z_sorted ?z_tuple ?z_zip ?w_LEAST_PLACES ?r_LEAST_PLACES ?w_MOST_PLACES ?r_MOST_PLACES ?w_OWN ?r_OWN
    (case a_l_cells => k_is)
    (case l_l_cells => k_is)
    (case c_l_cells => k_is)
    (case k_l_cells => k_is)
    (case d_l_cells => rfl)
    (case a_l_draw => k_is)
    (case l_l_draw => k_is)
    (case c_l_draw => k_is)
    (case k_l_draw => k_is)
    (case d_l_draw => rfl)
    (case a_l_mixed => k_is)
    (case l_l_mixed => k_is)
    (case c_l_mixed => k_is)
    (case k_l_mixed => k_is)
    (case d_l_mixed => rfl)
    (case a_l_book => k_is)
    (case l_l_book => k_is)
    (case c_l_book => k_is)
    (case k_l_book => k_is)
    (case d_l_book => rfl)
    (case a_l_lives => k_is)
    (case l_l_lives => k_is)
    (case c_l_lives => k_is)
    (case k_l_lives => k_is)
    (case d_l_lives => rfl)
    (case a_l_same => k_is)
    (case l_l_same => k_is)
    (case c_l_same => k_is)
    (case k_l_same => k_is)
    (case d_l_same => rfl)
    (case a_l_step => k_is)
    (case l_l_step => k_is)
    (case c_l_step => k_is)
    (case k_l_step => k_is)
    (case d_l_step => rfl)
    (case a_l_walk => k_is)
    (case l_l_walk => k_is)
    (case c_l_walk => k_is)
    (case k_l_walk => k_is)
    (case d_l_walk => rfl)
    (case a_p_is_integer => k_is)
    (case l_p_is_integer => k_is)
    (case c_p_is_integer => k_is)
    (case k_p_is_integer => k_is)
    (case d_p_is_integer => rfl)
    (case tl_p_is_integer => k_is)
    (case tv_p_is_integer => exact .cons (by first | exact rfl | exact ⟨_, rfl⟩) (.cons (by first | exact rfl | exact ⟨_, rfl⟩) (.nil)))
    (case a_p_check_place => k_is)
    (case l_p_check_place => k_is)
    (case c_p_check_place => k_is)
    (case k_p_check_place => k_is)
    (case d_p_check_place => rfl)
    (case a_p_is_permutation_of => k_is)
    (case l_p_is_permutation_of => k_is)
    (case c_p_is_permutation_of => k_is)
    (case k_p_is_permutation_of => k_is)
    (case d_p_is_permutation_of => rfl)
    (case a_p_check_rule => k_is)
    (case l_p_check_rule => k_is)
    (case c_p_check_rule => k_is)
    (case k_p_check_rule => k_is)
    (case d_p_check_rule => rfl)
    (case a_p_is_item => k_is)
    (case l_p_is_item => k_is)
    (case c_p_is_item => k_is)
    (case k_p_is_item => k_is)
    (case d_p_is_item => rfl)
    (case a_p_moves_at => k_is)
    (case l_p_moves_at => k_is)
    (case c_p_moves_at => k_is)
    (case k_p_moves_at => k_is)
    (case d_p_moves_at => rfl)
    (case a_p_place_behind => k_is)
    (case l_p_place_behind => k_is)
    (case c_p_place_behind => k_is)
    (case k_p_place_behind => k_is)
    (case d_p_place_behind => rfl)
    (case a_p_is_way_out => k_is)
    (case l_p_is_way_out => k_is)
    (case c_p_is_way_out => k_is)
    (case k_p_is_way_out => k_is)
    (case d_p_is_way_out => rfl)
    (case a_p_shortest_out => k_is)
    (case l_p_shortest_out => k_is)
    (case c_p_shortest_out => k_is)
    (case k_p_shortest_out => k_is)
    (case d_p_shortest_out => rfl)
    (case a_p_life => k_is)
    (case l_p_life => k_is)
    (case c_p_life => k_is)
    (case k_p_life => k_is)
    (case d_p_life => rfl)
    (case a_p_way_out => k_is)
    (case l_p_way_out => k_is)
    (case c_p_way_out => k_is)
    (case k_p_way_out => k_is)
    (case d_p_way_out => rfl)
    (case a_l_right => k_is)
    (case l_l_right => k_is)
    (case c_l_right => k_is)
    (case k_l_right => k_is)
    (case d_l_right => rfl)
    (case a_l_source => k_is)
    (case l_l_source => k_is)
    (case c_l_source => k_is)
    (case k_l_source => k_is)
    (case d_l_source => rfl)
    (case a_p_law => k_is)
    (case l_p_law => k_is)
    (case c_p_law => k_is)
    (case k_p_law => k_is)
    (case d_p_law => rfl)
    (case z_all => k_is)
    (case z_bool => k_is)
    (case z_dict => k_is)
    (case z_enumerate => k_is)
    (case z_int => k_is)
    (case z_isinstance => k_is)
    (case z_len => k_is)
    (case z_list => k_is)
    (case z_max => k_is)
    (case z_range => k_is)
    (case z_repr => k_is)
    (case z_sorted => k_is)
    (case z_tuple => k_is)
    (case z_zip => k_is)
    (case w_LEAST_PLACES => k_is)
    (case r_LEAST_PLACES => exact (by first | exact rfl | exact ⟨_, rfl⟩))
    (case w_MOST_PLACES => k_is)
    (case r_MOST_PLACES => exact (by first | exact rfl | exact ⟨_, rfl⟩))
    (case w_OWN => k_is)
    (case r_OWN => exact (by first | exact rfl | exact ⟨_, rfl⟩))
