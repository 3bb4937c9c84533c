import PyProof.Rows.All
import Wide.All
import OpenK.AllK
import Wide.FinOn
import PyProof.ReprReads
import PyProof.EqLayable
import HandS.ForMost
import HandS.ForExc
import HandS.ExcCtx
import HandS.HotCalls
import HandS.Style
import HandS.Deep
import HandS.IsInst
import HandS.Wide
import HandS.WideBits
import HandS.Conv
import HandS.Star
import HandS.SortInts
import HandS.SetFor
import HandS.Ends
import HandS.Defaults
import HandS.TupLen
import PyProof.ReprRoads
import KE.SortData
import HandS.Small
import KE.KDictSum
import KE.KDictCopyH
import HandS.DictComp
import PyProof.ReprBulk
import PySem.Challenge.RW_goesnext_k51_records_grow
set_option linter.all false
set_option Elab.async false
set_option maxRecDepth 100000
/-! Vs: what a def of the text computes, as a plain function over trees of data. -/
namespace Vs
open PySem (Str PyData)

/-- data, as trees -/
inductive D where
  | non | bl (b : Bool) | int (i : Int) | str (s : Str)
  | lst (l : List D) | tup (l : List D) | dic (t : Bool) (l : List (D × D)) | ins (c : Str) (l : List (Str × D))

/-- nothing in it has a place in memory -/
def D.imm : D → Bool
  | .non => true | .bl _ => true | .int _ => true | .str _ => true | _ => false
@[simp] theorem imm_non : D.imm .non = true := (rfl)
@[simp] theorem imm_bl (b : Bool) : D.imm (.bl b) = true := (rfl)
@[simp] theorem imm_int (i : Int) : D.imm (.int i) = true := (rfl)
@[simp] theorem imm_str (s : Str) : D.imm (.str s) = true := (rfl)
@[simp] theorem imm_lst (l : List D) : D.imm (.lst l) = false := (rfl)
@[simp] theorem imm_tup (l : List D) : D.imm (.tup l) = false := (rfl)
@[simp] theorem imm_dic (t : Bool) (l : List (D × D)) : D.imm (.dic t l) = false := (rfl)
@[simp] theorem imm_ins (c : Str) (l : List (Str × D)) : D.imm (.ins c l) = false := (rfl)

def dints (l : List Int) : List D := l.map D.int
/-- the name of the own class that stands at C -/
def cOf (C : Nat) : Str := ⟨#[C, 0]⟩
/-- fields of an instance, not of an exception -/
def objD (c : Str) : List (Str × D) → Bool
  | [] => decide (c ≠ "?") | p :: _ => decide (p.1 ≠ "")
theorem cOf_inj {C C' : Nat} (h : cOf C = cOf C') : C = C' := by
  have := congrArg (fun z : Str => z.cps.toList) h
  simpa [cOf] using this

mutual
/-- as the kit's data (dicts and instances have none) -/
def D.py : D → PyData
  | .non => .none | .bl b => .bool b | .int i => .int i | .str s => .str s
  | .lst l => .list (pyAll l) | .tup l => .tuple (pyAll l)
  | .dic _ l => .dict (pyKv l) | .ins _ _ => .dict []
def pyAll : List D → List PyData
  | [] => [] | d :: ds => d.py :: pyAll ds
def pyKv : List (D × D) → List (PyData × PyData)
  | [] => [] | (k, d) :: ds => (k.py, d.py) :: pyKv ds
end
mutual
/-- no dict, no instance within -/
def D.flat : D → Bool
  | .lst l => flatAll l | .tup l => flatAll l | .dic _ _ => false | .ins _ _ => false
  | .non => true | .bl _ => true | .int _ => true | .str _ => true
def flatAll : List D → Bool
  | [] => true | d :: ds => d.flat && flatAll ds
end

/-- a slot: how deep it is its own, and its data -/
abbrev PV := Nat × D
abbrev Env := List (Option PV)
/-- a value on its way: borrowed; how deep its own; its data -/
structure VV where
  b : Bool
  m : Nat
  d : D
/-- its own or without a place -/
def VV.stable (v : VV) : Bool := !v.b || v.d.imm
@[simp] theorem stable_own (m : Nat) (d : D) : VV.stable ⟨false, m, d⟩ = true := (rfl)
@[simp] theorem stable_imm (b : Bool) (m : Nat) (d : D) (h : d.imm = true) : VV.stable ⟨b, m, d⟩ = true := by simp [VV.stable, h]
abbrev vi (i : Int) : VV := ⟨false, 0, .int i⟩
abbrev vb (b : Bool) : VV := ⟨false, 0, .bl b⟩
abbrev vs (s : Str) : VV := ⟨false, 0, .str s⟩
abbrev vn : VV := ⟨false, 0, .non⟩

/-- an exception: its class, its fields -/
structure Ex where
  cls : Str
  fs : List (Str × D)

/-- an exception that is held: where it stands, where its fields do -/
def exnD (a d : Nat) (e : Ex) : D := .ins e.cls (("", .int a) :: ("", .int d) :: e.fs)

/-- what an expression comes to: a value and the slots behind (none: nothing was changed); an exception; nothing known -/
inductive R (α : Type) where
  | ok (a : α) (o : Option Env) | ex (e : Ex) (ρ : Env) | no
/-- the slots -/
def now (o : Option Env) (ρ : Env) : Env := match o with | none => ρ | some ρ' => ρ'
@[simp] theorem now_none (ρ : Env) : now none ρ = ρ := (rfl)
@[simp] theorem now_some (ρ ρ' : Env) : now (some ρ') ρ = ρ' := (rfl)
def thn (o o' : Option Env) : Option Env := match o' with | none => o | some ρ => some ρ
@[simp] theorem thn_none (o : Option Env) : thn o none = o := (rfl)
@[simp] theorem thn_some (o : Option Env) (ρ : Env) : thn o (some ρ) = some ρ := (rfl)
@[simp] theorem none_thn (o : Option Env) : thn none o = o := by cases o <;> rfl
namespace R
variable {α β : Type}
abbrev pu (a : α) : R α := .ok a none
abbrev ef (a : α) (ρ : Env) : R α := .ok a (some ρ)
/-- behind an effect -/
def aft (r : R α) (o : Option Env) : R α := match r with
  | .ok a o' => .ok a (thn o o') | .ex e ρ' => .ex e ρ' | .no => .no
@[simp] theorem aft_ok (a : α) (o o' : Option Env) : (R.ok a o').aft o = .ok a (thn o o') := (rfl)
@[simp] theorem aft_ex (e : Ex) (o : Option Env) (ρ' : Env) : (R.ex e ρ' : R α).aft o = .ex e ρ' := (rfl)
@[simp] theorem aft_no (o : Option Env) : (R.no : R α).aft o = .no := (rfl)
@[simp] theorem aft_none (r : R α) : r.aft none = r := by cases r <;> simp
def bind (r : R α) (ρ : Env) (k : α → Env → R β) : R β := match r with
  | .ok a o => (k a (now o ρ)).aft o | .ex e ρ' => .ex e ρ' | .no => .no
@[simp] theorem bind_ok (a : α) (o : Option Env) (ρ : Env) (k : α → Env → R β) : (R.ok a o).bind ρ k = (k a (now o ρ)).aft o := (rfl)
@[simp] theorem bind_ex (e : Ex) (ρ ρ' : Env) (k : α → Env → R β) : (R.ex e ρ' : R α).bind ρ k = .ex e ρ' := (rfl)
@[simp] theorem bind_no (ρ : Env) (k : α → Env → R β) : (R.no : R α).bind ρ k = .no := (rfl)
/-- .. while a value waits: s says that it bears changes -/
def nxt (s : Bool) (r : R α) (k : α → R β) : R β := match r with
  | .ok a o => if (s || o.isNone) = true then (k a).aft o else .no | .ex e ρ' => .ex e ρ' | .no => .no
@[simp] theorem nxt_ok (s : Bool) (a : α) (o : Option Env) (k : α → R β) : (R.ok a o).nxt s k = if (s || o.isNone) = true then (k a).aft o else .no := (rfl)
@[simp] theorem nxt_ex (s : Bool) (e : Ex) (ρ' : Env) (k : α → R β) : (R.ex e ρ' : R α).nxt s k = .ex e ρ' := (rfl)
@[simp] theorem nxt_no (s : Bool) (k : α → R β) : (R.no : R α).nxt s k = .no := (rfl)
def ofO (o : Option α) : R α := match o with | some a => .pu a | none => .no
@[simp] theorem ofO_some (a : α) : ofO (some a) = .pu a := (rfl)
@[simp] theorem ofO_none : (ofO none : R α) = .no := (rfl)
end R

abbrev M := Env → R VV
abbrev MT := Env → R Bool
abbrev MA := Env → R (List VV)

/-! ### slots -/
def look : Env → Nat → Option PV
  | [], _ => none
  | x :: _, 0 => x
  | _ :: r, i + 1 => look r i
def put : Env → Nat → Option PV → Env
  | [], _, _ => []
  | _ :: r, 0, v => v :: r
  | x :: r, i + 1, v => x :: put r i v
@[simp] theorem look_z (x : Option PV) (r : Env) : look (x :: r) 0 = x := (rfl)
@[simp] theorem look_s (x : Option PV) (r : Env) (i : Nat) : look (x :: r) (i + 1) = look r i := (rfl)
@[simp] theorem put_z (x : Option PV) (r : Env) (v : Option PV) : put (x :: r) 0 v = v :: r := (rfl)
@[simp] theorem put_s (x : Option PV) (r : Env) (i : Nat) (v : Option PV) : put (x :: r) (i + 1) v = x :: put r i v := (rfl)

/-! ### expressions -/
def cst (v : VV) : M := fun _ => .pu v
/-- a name -/
def v (i : Nat) : M := fun ρ => match look ρ i with
  | some (m, d) => R.pu ⟨!(m == 0), m, d⟩ | none => R.no
/-- the slots that are named are known as deep as k only, from here on -/
def thin (k : Nat) : List Nat → Env → Env
  | [], ρ => ρ
  | i :: is, ρ => match look ρ i with
    | some (m, d) => thin k is (put ρ i (some (min m k, d)))
    | none => thin k is ρ
def isThin (k : Nat) (is : List Nat) (ρ : Env) : Bool := is.all fun i => match look ρ i with
  | some (m, d) => decide (m ≤ k) || d.imm | none => true
def fz (k : Nat) (is : List Nat) (e : M) : M := fun ρ => if isThin k is ρ = true then e ρ else ((e (thin k is ρ)).aft (some (thin k is ρ)))
/-- an item of what is borrowed or its own -/
def sub (x : VV) (d : D) : VV := ⟨x.b && !(x.m - 1 == 0), x.m - 1, d⟩
/-- a value in which nothing else can be reached -/
def VV.plain (x : VV) : Bool := !x.b && match x.d with
  | .lst ds => x.m == 1 && ds.all D.imm
  | .tup ds => ds.all D.imm
  | d => d.imm
/-- what e comes to, the slots that are named being read as they are -/
def peek (is : List Nat) (e : M) : M := fun ρ => match e (thin 0 is ρ) with
  | .ok x none => if x.plain = true then .pu x else .no
  | _ => .no
/-- .. where that is enough; else they are read as they are from here on -/
def soft (is : List Nat) (e : M) : M := fun ρ => match e (thin 0 is ρ) with
  | .no => .no
  | .ok x none => if x.plain = true then .pu x else fz 0 is e ρ
  | _ => fz 0 is e ρ
/-- two in a row -/
def two (a b : M) (k : VV → VV → Option VV) : M := fun ρ => (a ρ).bind ρ fun x ρ1 => (b ρ1).nxt x.stable fun y => .ofO (k x y)
def one (a : M) (k : VV → Option VV) : M := fun ρ => (a ρ).bind ρ fun x _ => .ofO (k x)
/-- an argument list -/
def args : List M → MA
  | [] => fun _ => .pu []
  | a :: as => fun ρ => (a ρ).bind ρ fun x ρ1 => (args as ρ1).nxt x.stable fun xs => .pu (x :: xs)
def argsk (as : MA) (k : List VV → Option VV) : M := fun ρ => (as ρ).bind ρ fun xs _ => .ofO (k xs)

/-! ### tests -/
def tst (e : M) (tru : D → Option Bool) : MT := fun ρ => (e ρ).bind ρ fun x _ => .ofO (tru x.d)
def blOf : D → Option Bool
  | .bl b => some b | _ => none
@[simp] theorem blOf_bl (b : Bool) : blOf (.bl b) = some b := (rfl)
def tand (a b : MT) : MT := fun ρ => (a ρ).bind ρ fun x ρ1 => if x = true then b ρ1 else .pu false
def tor (a b : MT) : MT := fun ρ => (a ρ).bind ρ fun x ρ1 => if x = true then .pu true else b ρ1
def tnot (a : MT) : MT := fun ρ => (a ρ).bind ρ fun x _ => .pu (!x)
/-- and, or, not as values (of bools) -/
def vand (a b : M) : M := fun ρ => (a ρ).bind ρ fun x ρ1 => match x.d with
  | .bl true => b ρ1 | .bl false => .pu (vb false) | _ => .no
def vor (a b : M) : M := fun ρ => (a ρ).bind ρ fun x ρ1 => match x.d with
  | .bl true => .pu (vb true) | .bl false => b ρ1 | _ => .no
def ift (c : MT) (a b : M) : M := fun ρ => (c ρ).bind ρ fun x ρ1 => if x = true then a ρ1 else b ρ1

/-! ### statements -/
inductive Fl where
  | nx (ρ : Env) | ret (v : PV) (ρ : Env) | brk (ρ : Env) | ct (ρ : Env) | ex (e : Ex) (ρ : Env) | no
abbrev MS := Env → Fl
/-- go on with a value -/
def R.go {α : Type} (r : R α) (ρ : Env) (k : α → Env → Fl) : Fl := match r with
  | .ok a o => k a (now o ρ) | .ex e ρ' => .ex e ρ' | .no => .no
@[simp] theorem go_ok {α : Type} (a : α) (o : Option Env) (ρ : Env) (k : α → Env → Fl) : (R.ok a o).go ρ k = k a (now o ρ) := (rfl)
@[simp] theorem go_ex {α : Type} (e : Ex) (ρ ρ' : Env) (k : α → Env → Fl) : (R.ex e ρ' : R α).go ρ k = .ex e ρ' := (rfl)
@[simp] theorem go_no {α : Type} (ρ : Env) (k : α → Env → Fl) : (R.no : R α).go ρ k = .no := (rfl)
def Fl.seq (f : Fl) (k : MS) : Fl := match f with
  | .nx ρ => k ρ | .ret v ρ => .ret v ρ | .brk ρ => .brk ρ | .ct ρ => .ct ρ | .ex e ρ => .ex e ρ | .no => .no
@[simp] theorem seq_nx (ρ : Env) (k : MS) : (Fl.nx ρ).seq k = k ρ := (rfl)
@[simp] theorem seq_ret (v : PV) (ρ : Env) (k : MS) : (Fl.ret v ρ).seq k = .ret v ρ := (rfl)
@[simp] theorem seq_brk (ρ : Env) (k : MS) : (Fl.brk ρ).seq k = .brk ρ := (rfl)
@[simp] theorem seq_ct (ρ : Env) (k : MS) : (Fl.ct ρ).seq k = .ct ρ := (rfl)
@[simp] theorem seq_ex (e : Ex) (ρ : Env) (k : MS) : (Fl.ex e ρ).seq k = .ex e ρ := (rfl)
@[simp] theorem seq_no (k : MS) : Fl.no.seq k = .no := (rfl)
def skip : MS := fun ρ => .nx ρ
def sq (a b : MS) : MS := fun ρ => (a ρ).seq b
/-- a value that may be kept -/
def VV.kept (x : VV) : Option PV := if x.stable then some (x.m, x.d) else none
@[simp] theorem kept_own (m : Nat) (d : D) : VV.kept ⟨false, m, d⟩ = some (m, d) := (rfl)
@[simp] theorem kept_bint (b : Bool) (m : Nat) (d : D) (h : d.imm = true) : VV.kept ⟨b, m, d⟩ = some (m, d) := by simp [VV.kept, h]
/-- what an assignment's target does with a value -/
abbrev MG := VV → Env → Fl
def gname (i : Nat) : MG := fun x ρ => match x.kept with | some pv => .nx (put ρ i (some pv)) | none => .no
def asg (e : M) (g : MG) : MS := fun ρ => (e ρ).go ρ fun x ρ1 => g x ρ1
def ex (e : M) : MS := fun ρ => (e ρ).go ρ fun _ ρ1 => .nx ρ1
def ret (e : M) : MS := fun ρ => (e ρ).go ρ fun x ρ1 => match x.kept with | some pv => .ret pv ρ1 | none => .no
/-- a local name is handed out -/
def retv (i : Nat) : MS := fun ρ => match look ρ i with
  | some pv => .ret pv (put ρ i none) | none => .no
def retN : MS := fun ρ => .ret (0, .non) ρ
def ifs (c : MT) (a b : MS) : MS := fun ρ => (c ρ).go ρ fun x ρ1 => if x = true then a ρ1 else b ρ1
/-- a target of names -/
def gall : List MG → List VV → Env → Fl
  | [], [], ρ => .nx ρ
  | g :: gs, x :: xs, ρ => (g x ρ).seq fun ρ1 => gall gs xs ρ1
  | _, _, _ => .no
def gtup (gs : List MG) : MG := fun x ρ => match x.d with
  | .tup ds => if x.b = false ∧ ds.length = gs.length then gall gs (ds.map fun d => ⟨false, x.m - 1, d⟩) ρ else .no
  | _ => .no
def par (i j : Nat) (as : MA) : MS := fun ρ => (as ρ).go ρ fun xs ρ1 => match xs with
  | [x, y] => (gname i x ρ1).seq fun ρ2 => gname j y ρ2
  | _ => .no
/-- a loop over what is written out -/
def forL (g : MG) (body : MS) : List D → Env → Fl
  | [], ρ => .nx ρ
  | d :: ds, ρ => match (g ⟨false, 0, d⟩ ρ).seq body with
    | .nx ρ1 => forL g body ds ρ1
    | .ct ρ1 => forL g body ds ρ1
    | .brk ρ1 => .nx ρ1
    | .ret x ρ1 => .ret x ρ1
    | .ex e ρ1 => .ex e ρ1
    | .no => .no
/-- what is walked -/
abbrev MI := Env → R (List D)
def fors (i : MI) (g : MG) (body : MS) : MS := fun ρ => (i ρ).go ρ fun ds ρ1 => forL g body ds ρ1
/-- so many turns of a loop at most -/
def whileN (c : MT) (body : MS) : Nat → Env → Fl
  | 0, _ => .no
  | n + 1, ρ => (c ρ).go ρ fun b ρ1 => if b = true then (match body ρ1 with
      | .nx ρ2 => whileN c body n ρ2 | .ct ρ2 => whileN c body n ρ2 | .brk ρ2 => .nx ρ2
      | .ret x ρ2 => .ret x ρ2 | .ex e ρ2 => .ex e ρ2 | .no => .no) else .nx ρ1
open Classical in
noncomputable def whiles (c : MT) (body : MS) : MS := fun ρ =>
  if h : ∃ n, whileN c body n ρ ≠ .no then whileN c body h.choose ρ else .no
/-! ### what is walked -/
def rng (a b : Int) : List D := (List.range (b - a).toNat).map fun (i : Nat) => D.int (a + (i : Int))
def enumD : Nat → List D → List D
  | _, [] => []
  | n, d :: ds => .tup [.int n, d] :: enumD (n + 1) ds
def zipD : List D → List D → List D
  | d :: ds, e :: es => .tup [d, e] :: zipD ds es
  | _, _ => []
def kL : VV → Option (List D)
  | ⟨b, m, .lst ds⟩ => if b = false ∨ m = 0 then some ds else none
  | _ => none
def kT : VV → Option (List D)
  | ⟨b, m, .tup ds⟩ => if b = false ∨ m ≤ 1 then some ds else none
  | _ => none
def kR1 : List VV → Option (List D)
  | [⟨_, _, .int j⟩] => if -(2 ^ 62) ≤ j ∧ j < 2 ^ 62 then some (rng 0 j) else none
  | _ => none
def kR2 : List VV → Option (List D)
  | [⟨_, _, .int i⟩, ⟨_, _, .int j⟩] => if -(2 ^ 62) ≤ i ∧ i < 2 ^ 62 ∧ -(2 ^ 62) ≤ j ∧ j < 2 ^ 62 then some (rng i j) else none
  | _ => none
def kE : List VV → Option (List D)
  | [⟨b, m, .lst ds⟩] => if b = false ∨ m = 0 then some (enumD 0 ds) else none
  | _ => none
def kZ : List VV → Option (List D)
  | [⟨b, m, .lst ds⟩, ⟨b', m', .lst es⟩] => if (b = false ∨ m = 0) ∧ (b' = false ∨ m' = 0) then some (zipD ds es) else none
  | _ => none
def it1 (k : VV → Option (List D)) (e : M) : MI := fun ρ => (e ρ).bind ρ fun x _ => .ofO (k x)
def itN (k : List VV → Option (List D)) (a : MA) : MI := fun ρ => (a ρ).bind ρ fun xs _ => .ofO (k xs)
/-! ### defs, calls -/
inductive RF where
  | ok (r : PV) (out : Env) | ex (e : Ex) (out : Env) | no
/-- of the slots behind a call: the parameters that were lent -/
def outs : List Bool → Env → Env
  | [], _ => []
  | _ :: bs, [] => none :: outs bs []
  | b :: bs, x :: r => (if b = true then x else none) :: outs bs r
def fnF (lent : List Bool) : Fl → RF
  | .nx ρ => .ok (0, .non) (outs lent ρ)
  | .ret r ρ => .ok r (outs lent ρ)
  | .ex e ρ => .ex e (outs lent ρ)
  | _ => .no
def fnM (n : Nat) (lent : List Bool) (body : MS) (pvs : List PV) : RF := fnF lent (body (pvs.map some ++ List.replicate (n - pvs.length) none))
/-- an argument: a slot that is lent, or a value -/
inductive AK where
  | lend (i : Nat) | val (e : M)
inductive AV where
  | l (i : Nat) | o (pv : PV)
def cargs : List AK → Env → R (List AV)
  | [] => fun _ => .pu []
  | .lend i :: as => fun ρ => match look ρ i with
    | some _ => (cargs as ρ).bind ρ fun xs _ => .pu (.l i :: xs)
    | none => .no
  | .val e :: as => fun ρ => (e ρ).bind ρ fun x ρ1 => match x.kept with
    | some pv => (cargs as ρ1).bind ρ1 fun xs _ => .pu (.o pv :: xs)
    | none => .no
def grab : List AV → Env → Option (List PV × Env)
  | [], ρ => some ([], ρ)
  | .l i :: as, ρ => match look ρ i with
    | some pv => (match grab as (put ρ i none) with | some (pvs, ρ') => some (pv :: pvs, ρ') | none => none)
    | none => none
  | .o pv :: as, ρ => match grab as ρ with | some (pvs, ρ') => some (pv :: pvs, ρ') | none => none
def back : List AV → Env → Env → Env
  | .l i :: as, x :: out, ρ => back as out (put ρ i x)
  | .o _ :: as, _ :: out, ρ => back as out ρ
  | _, _, ρ => ρ
def RF.fin (r : RF) (avs : List AV) (ρ : Env) : R VV := match r with
  | .ok r out => .ef ⟨false, r.1, r.2⟩ (back avs out ρ)
  | .ex e out => .ex e (back avs out ρ)
  | .no => .no
/-- nothing of its own -/
def PV.cold (pv : PV) : Bool := pv.1 == 0 || pv.2.imm
def RF.pure (r : RF) (ρ : Env) : R VV := match r with
  | .ok r _ => .pu ⟨false, r.1, r.2⟩
  | .ex e _ => .ex e ρ
  | .no => .no
/-- no slot's own is lent -/
def AV.quiet (ρ : Env) : AV → Bool
  | .o _ => true
  | .l i => match look ρ i with | some pv => pv.cold | none => false
def callG (f : List PV → RF) (avs : List AV) (ρ : Env) (g : Option (List PV × Env)) : R VV := match g with
  | none => .no
  | some (pvs, ρ2) => if avs.all (AV.quiet ρ) = true then (f pvs).pure ρ else (f pvs).fin avs ρ2
/-- the parameters' order: of what is evaluated, and their own values behind -/
def sel {α : Type} : List Nat → List α → List α
  | [], _ => []
  | i :: is, l => match l[i]? with
    | some x => x :: sel is l
    | none => sel is l
def RF.outBy (js : List Nat) (r : RF) : RF := match r with
  | .ok r out => .ok r (sel js out) | .ex e out => .ex e (sel js out) | .no => .no
/-- by keywords: is, the parameters among what is evaluated; js, the other way -/
def byK (is js : List Nat) (f : List PV → RF) : List PV → RF := fun pvs => (f (sel is pvs)).outBy js
/-- df: the parameters' own values, where no argument is given -/
def call (f : List PV → RF) (df : List PV) (as : List AK) : M := fun ρ => (cargs as ρ).bind ρ fun avs ρ1 => callG f (avs ++ df.map .o) ρ1 (grab (avs ++ df.map .o) ρ1)

/-! ### what operators do -/
def lim : Nat := 16777216
@[irreducible] def big : Nat := 2 ^ 4000
theorem big_eq : big = 2 ^ 4000 := by unfold big; rfl
theorem big_of {n k : Nat} (h : n < 2 ^ k) (hk : k ≤ 4000) : n < big := by rw [big_eq]; exact Nat.lt_of_lt_of_le h (Nat.pow_le_pow_right (by decide) hk)
/-- its items may be kept elsewhere -/
def VV.open (x : VV) : Prop := x.b = false ∨ x.m ≤ 1
instance (x : VV) : Decidable x.open := inferInstanceAs (Decidable (_ ∨ _))
def kAdd (x y : VV) : Option VV := match x.d, y.d with
  | .int i, .int j => some (vi (i + j))
  | .str a, .str b => if a.length + b.length ≤ lim then some (vs (a ++ b)) else none
  | .lst l, .lst k => if x.open ∧ y.open ∧ l.length + k.length ≤ lim then some ⟨false, 1, .lst (l ++ k)⟩ else none
  | _, _ => none
def kSub (x y : VV) : Option VV := match x.d, y.d with
  | .int i, .int j => some (vi (i - j))
  | _, _ => none
def kMul (x y : VV) : Option VV := match x.d, y.d with
  | .int i, .int j => if (i.natAbs < big ∧ j.natAbs < big) ∨ j.natAbs < 18446744073709551616 then some (vi (i * j)) else none
  | .lst l, .int k => if (x.b = false ∧ 0 < x.m) ∧ -(2 ^ 63) ≤ k ∧ k < 2 ^ 63 ∧ l.length * k.toNat ≤ lim then some ⟨false, 1, .lst (List.replicate k.toNat l).flatten⟩ else none
  | _, _ => none
def kMulS (x y : VV) : Option VV := match x.d, y.d with
  | .int i, .int j => if -(2 ^ 60) ≤ i ∧ i ≤ 2 ^ 60 then some (vi (i * j)) else none
  | _, _ => none
def kDiv (x y : VV) : Option VV := match x.d, y.d with
  | .int i, .int j => if 0 < j ∧ j.natAbs < big then some (vi (i / j)) else none
  | _, _ => none
def kMod (x y : VV) : Option VV := match x.d, y.d with
  | .int i, .int j => if 0 < j then some (vi (i % j)) else none
  | _, _ => none
def kPow (x y : VV) : Option VV := match x.d, y.d with
  | .int i, .int j => if i.natAbs < big ∧ 0 ≤ j ∧ j ≤ 100 then some (vi (i ^ j.toNat)) else none
  | _, _ => none
def kBit (φ : Int → Int → Int) (x y : VV) : Option VV := match x.d, y.d with
  | .int i, .int j => some (vi (φ i j))
  | _, _ => none
def kNot (x : VV) : Option VV := match x.d with
  | .bl b => some (vb (!b)) | _ => none
def kNeg (x : VV) : Option VV := match x.d with
  | .int i => some (vi (-i)) | _ => none
def kCmp (f : Int → Int → Bool) (x y : VV) : Option VV := match x.d, y.d with
  | .int i, .int j => some (vb (f i j))
  | _, _ => none
def kLt : VV → VV → Option VV := kCmp fun i j => decide (i < j)
def kLe : VV → VV → Option VV := kCmp fun i j => decide (i ≤ j)
def kGt : VV → VV → Option VV := kCmp fun i j => decide (j < i)
def kGe : VV → VV → Option VV := kCmp fun i j => decide (j ≤ i)
/-- may be compared -/
def D.shp (d : D) : Bool := d.flat && PySem.SeqAt.shaped d.py
def D.eqv (d e : D) : Bool := PyData.eqv d.py e.py
/-- texts are compared whatever they hold -/
def strs2 : D → D → Option Bool
  | .str a, .str b => some (decide (a = b))
  | _, _ => none
def kEq (x y : VV) : Option VV := match strs2 x.d y.d with
  | some b => some (vb b)
  | none => if x.d.shp = true ∧ y.d.shp = true then some (vb (x.d.eqv y.d)) else none
def kNe (x y : VV) : Option VV := match strs2 x.d y.d with
  | some b => some (vb (!b))
  | none => if x.d.shp = true ∧ y.d.shp = true then some (vb (!x.d.eqv y.d)) else none
def kIn (x y : VV) : Option VV := match y.d with
  | .tup l => if x.d.shp = true ∧ y.d.shp = true then some (vb (l.any fun z => z.eqv x.d)) else none
  | .lst l => if x.d.shp = true ∧ y.d.shp = true then some (vb (l.any fun z => z.eqv x.d)) else none
  | _ => none
def kNotIn (x y : VV) : Option VV := match y.d with
  | .tup l => if x.d.shp = true ∧ y.d.shp = true then some (vb (!l.any fun z => z.eqv x.d)) else none
  | .lst l => if x.d.shp = true ∧ y.d.shp = true then some (vb (!l.any fun z => z.eqv x.d)) else none
  | _ => none
def D.isNon : D → Bool
  | .non => true | _ => false
def kIs (x y : VV) : Option VV := match y.d with
  | .non => some (vb x.d.isNon)
  | .bl b => (match x.d with | .bl a => some (vb (decide (a = b))) | _ => none)
  | _ => none
def kIsNot (x y : VV) : Option VV := match y.d with
  | .non => some (vb (!x.d.isNon))
  | .bl b => (match x.d with | .bl a => some (vb (!decide (a = b))) | _ => none)
  | _ => none
def nix (n : Nat) (i : Int) : Option Nat := if 0 ≤ i then (if i < n then some i.toNat else none) else if -(n : Int) ≤ i then some (i + n).toNat else none
def atD (l : List D) (i : Int) : Option D := (nix l.length i).bind fun j => l[j]?
def kIx (x y : VV) : Option VV := match x.d, y.d with
  | .lst l, .int i => (atD l i).map (sub x)
  | .tup l, .int i => (atD l i).map (sub x)
  | .str z, .int i => if z.length ≤ lim then ((nix z.cps.toList.length i).bind fun j => z.cps.toList[j]?).map fun c => vs ⟨#[c]⟩ else none
  | _, _ => none
def six (n d : Nat) : Option Int → Nat
  | none => d
  | some v => if v < 0 then (v + (n : Int)).toNat else min v.toNat n
def cutD {α : Type} (l : List α) (lo hi : Option Int) : List α := (l.drop (six l.length 0 lo)).take (six l.length l.length hi - six l.length 0 lo)
/-- a slice: lower, upper place, where there is one -/
def kSl (x : VV) (lo hi : Option Int) : Option VV := match x.d with
  | .lst l => if x.open then some ⟨false, 1, .lst (cutD l lo hi)⟩ else none
  | _ => none
def kRev (x : VV) : Option VV := match x.d with
  | .lst l => if x.open then some ⟨false, 1, .lst l.reverse⟩ else none
  | _ => none
/-- xs[lo:hi] -/
def intOf (x : VV) : Option (Option Int) := match x.d with | .int i => some (some i) | _ => none
def part (o : Option M) : Env → R (Option Int) := match o with
  | none => fun _ => .pu none
  | some e => fun ρ => (e ρ).bind ρ fun y _ => .ofO (intOf y)
def slc (a : M) (lo hi : Option M) : M := fun ρ => (a ρ).bind ρ fun x ρ1 => (part lo ρ1).nxt false fun l => (part hi ρ1).nxt false fun u => .ofO (kSl x l u)
/-! ### displays -/
def minM : List VV → Option Nat
  | [] => none
  | x :: xs => if x.d.imm = true then minM xs else some (match minM xs with | none => x.m | some n => min x.m n)
def dmode (xs : List VV) : Nat := match minM xs with | none => 1 | some n => n + 1
def kLst (xs : List VV) : Option VV := if xs.all VV.stable = true ∧ xs.length ≤ lim then some ⟨false, dmode xs, .lst (xs.map VV.d)⟩ else none
def kTup (xs : List VV) : Option VV := if xs.all VV.stable = true ∧ xs.length ≤ lim then some ⟨false, dmode xs, .tup (xs.map VV.d)⟩ else none
/-! ### built-ins -/
def intsOf : List D → Option (List Int)
  | [] => some []
  | .int i :: r => (intsOf r).map (i :: ·)
  | _ :: _ => none
def blsOf : List D → Option (List Bool)
  | [] => some []
  | .bl i :: r => (blsOf r).map (i :: ·)
  | _ :: _ => none
def kLen : List VV → Option VV
  | [x] => (match x.d with
    | .lst l => some (vi l.length) | .tup l => some (vi l.length) | .str z => if z.length ≤ lim then some (vi z.length) else none | .dic _ l => some (vi l.length) | _ => none)
  | _ => none
def kAbs : List VV → Option VV
  | [x] => (match x.d with | .int i => some (vi (if i < 0 then -i else i)) | _ => none)
  | _ => none
def kInt : List VV → Option VV
  | [x] => (match x.d with | .int i => some (vi i) | .bl b => some (vi (if b = true then 1 else 0)) | _ => none)
  | _ => none
def kMax : List VV → Option VV
  | [x, y] => (match x.d, y.d with | .int i, .int j => some (vi (if j > i then j else i)) | _, _ => none)
  | _ => none
def kMin : List VV → Option VV
  | [x, y] => (match x.d, y.d with | .int i, .int j => some (vi (if j < i then j else i)) | _, _ => none)
  | _ => none
def kAll : List VV → Option VV
  | [x] => (match x.d with | .lst l => (blsOf l).map fun bs => vb (bs.all id) | _ => none)
  | _ => none
def kAny : List VV → Option VV
  | [x] => (match x.d with | .lst l => (blsOf l).map fun bs => vb (bs.any id) | _ => none)
  | _ => none
def kSum : List VV → Option VV
  | [x] => (match x.d with | .lst l => (intsOf l).map fun bs => vi bs.sum | _ => none)
  | _ => none
def sortI (l : List Int) : List Int := l.mergeSort fun a b => decide (a ≤ b)
def kSorted : List VV → Option VV
  | [x] => (match x.d with | .lst l => (intsOf l).bind fun bs => if bs.length < 64 then some ⟨false, 1, .lst (dints (sortI bs))⟩ else none | _ => none)
  | _ => none
def kList : List VV → Option VV
  | [x] => (match x.d with | .lst l => if x.open then some ⟨false, 1, .lst l⟩ else none | .tup l => if x.open then some ⟨false, 1, .lst l⟩ else none | _ => none)
  | _ => none
def kTuple : List VV → Option VV
  | [x] => (match x.d with | .lst l => if x.open then some ⟨false, 1, .tup l⟩ else none | _ => none)
  | _ => none
/-- list(range(a)) -/
def kRange : List VV → Option VV
  | [x] => (match x.d with | .int j => if -(2 ^ 62) ≤ j ∧ j ≤ 16777216 then some ⟨false, 1, .lst (rng 0 j)⟩ else none | _ => none)
  | _ => none
/-- may be written -/
def D.shw (d : D) : Bool := d.flat && d.py.showable && decide (d.py.shown.length ≤ lim) && decide (d.py.depth ≤ 60)
/-- a dict of plain things may be written -/
def D.shwK : D → Bool
  | .dic false l => (l.all fun p => (match p.1 with | .int _ => true | .str _ => true | _ => false) && p.2.imm) && (D.dic false l).py.showable && decide ((D.dic false l).py.shown.length ≤ lim) && decide ((D.dic false l).py.depth ≤ 60)
  | _ => false
def kRepr : List VV → Option VV
  | [x] => if x.d.shw = true then some (vs x.d.py.shown) else if x.d.shwK = true then some (vs x.d.py.shown) else none
  | _ => none
/-- the kinds that isinstance is asked for -/
inductive Ty where | int | bool | str | list | tuple | dict
def Ty.nm : Ty → String
  | .int => "int" | .bool => "bool" | .str => "str" | .list => "list" | .tuple => "tuple" | .dict => "dict"
def D.isTy (t : Ty) : D → Option Bool
  | .int _ => some (match t with | .int => true | _ => false)
  | .bl _ => some (match t with | .int => true | .bool => true | _ => false)
  | .str _ => some (match t with | .str => true | _ => false)
  | .non => some false
  | .lst _ => some (match t with | .list => true | _ => false)
  | .tup _ => some (match t with | .tuple => true | _ => false)
  | .dic _ _ => some (match t with | .dict => true | _ => false)
  | .ins _ _ => none
def kIsi (t : Ty) (x : VV) : Option VV := (x.d.isTy t).map vb
/-! ### a comprehension -/
def wipeE (own : List Nat) (ρ : Env) : Env := own.foldl (fun r j => put r j none) ρ
def compL (own : List Nat) (g : MG) (cs : MT) (e : M) : List D → Env → List VV → R (List VV)
  | [], _, acc => .pu acc
  | d :: ds, ρ, acc => match g ⟨false, 0, d⟩ ρ with
    | .nx ρ1 => (match cs ρ1 with
      | .ok false o1 => (compL own g cs e ds (now (o1.map (wipeE own)) ρ) acc).aft (o1.map (wipeE own))
      | .ok true o1 => (match e (now o1 ρ1) with
        | .ok x o2 => if x.stable = true then (compL own g cs e ds (now ((thn o1 o2).map (wipeE own)) ρ) (acc ++ [x])).aft ((thn o1 o2).map (wipeE own)) else .no
        | _ => .no)
      | _ => .no)
    | _ => .no
def compF (r : R (List VV)) : R VV := match r with
  | .ok xs o => (R.ofO (kLst xs)).aft o
  | _ => .no
/-! ### methods of lists in a slot -/
/-- a method's call: the arguments first, then what is done to the slot -/
def recv (i : Nat) (as : MA) (k : PV → List VV → Option (VV × PV)) : M := fun ρ => match look ρ i with
  | some (_, .lst _) => (as ρ).bind ρ fun xs ρ1 => (match look ρ1 i with
    | some pv => (match k pv xs with | some (r, pv') => .ef r (put ρ1 i (some pv')) | none => .no)
    | none => .no)
  | _ => .no
/-- .. of an item of a slot -/
def itemOf (b : R VV) (m : Nat) (l : List D) : Option (Nat × List D) := match b with
  | .ok ⟨_, _, .int j⟩ none => (match nix l.length j with
    | some j => (match l[j]? with | some (.lst l2) => some (j, l2) | _ => none)
    | none => none)
  | _ => none
def recvI (i : Nat) (b : M) (as : MA) (k : PV → List VV → Option (VV × PV)) : M := fun ρ => match look ρ i with
  | some (m + 1, .lst l) => (match itemOf (b ρ) m l with
    | some (j, l2) => (match as ρ with
      | .ok xs none => (match k (m, .lst l2) xs with
        | some (r, pv') => if pv'.1 ≤ m then .ef r (put ρ i (some (pv'.1 + 1, .lst (l.set j pv'.2)))) else .no
        | none => .no)
      | _ => .no)
    | none => .no)
  | _ => .no
def rAppend (pv : PV) (xs : List VV) : Option (VV × PV) := match pv, xs with
  | (m + 1, .lst l), [x] => if x.stable = true ∧ l.length < lim then some (vn, ((if x.d.imm = true then m else min m x.m) + 1, .lst (l ++ [x.d]))) else none
  | _, _ => none
def rPopAt (pv : PV) (xs : List VV) : Option (VV × PV) := match pv, xs with
  | (m + 1, .lst l), [⟨_, _, .int i⟩] => if l.length ≤ lim then (nix l.length i).bind fun j => l[j]?.map fun d => (⟨false, m, d⟩, (m + 1, .lst (l.eraseIdx j))) else none
  | _, _ => none
def rPop (pv : PV) (xs : List VV) : Option (VV × PV) := match pv, xs with
  | (m + 1, .lst l), [] => l[l.length - 1]?.map fun d => (⟨false, m, d⟩, (m + 1, .lst l.dropLast))
  | _, _ => none
/-- an item by a name's place, asked behind the index -/
def ixv (i : Nat) (b : M) : M := fun ρ => (b ρ).bind ρ fun y ρ1 => match look ρ1 i with
  | some (m, d) => .ofO (kIx ⟨true, m, d⟩ y)
  | none => .no
/-- x[i] = .. of a list in a slot -/
def gset (i : Nat) (b : M) : MG := fun x ρ => match look ρ i with
  | none => .no
  | some _ => (b ρ).go ρ fun y ρ1 => match look ρ1 i, y.d with
    | some (m + 1, .lst l), .int k => if x.stable = true then (match nix l.length k with
        | some j => .nx (put ρ1 i (some ((if x.d.imm = true then m else min m x.m) + 1, .lst (l.set j x.d))))
        | none => .no) else .no
    | _, _ => .no

/-- xs.count(i) of ints -/
def kCount (x : VV) (xs : List VV) : Option VV := match x.d, xs with
  | .lst l, [⟨_, _, .int i⟩] => (intsOf l).map fun ns => vi (ns.count i : Nat)
  | _, _ => none
/-- xs.index(y) -/
def kIndex (x : VV) (xs : List VV) : Option VV := match x.d, xs with
  | .lst l, [y] => if x.d.shp = true ∧ y.d.shp = true then (match l.findIdx? fun z => z.eqv y.d with
      | some j => some (vi (j : Nat)) | none => none) else none
  | _, _ => none
/-- o.m(a, ..) that changes nothing -/
def meth (ty : D → Bool) (o : M) (as : MA) (k : VV → List VV → Option VV) : M := fun ρ => (o ρ).bind ρ fun x ρ1 => if ty x.d = true then (as ρ1).nxt x.stable fun xs => .ofO (k x xs) else .no
def isL : D → Bool
  | .lst _ => true | _ => false
/-- a op b op' c -/
def chain (a b c : M) (φ ψ : Int → Int → Bool) : M := fun ρ => (a ρ).bind ρ fun x ρ1 => (b ρ1).bind ρ1 fun y ρ2 => match x.d, y.d with
  | .int i, .int j => if φ i j = true then (c ρ2).bind ρ2 fun w _ => (match w.d with | .int k => .pu (vb (ψ j k)) | _ => .no) else .pu (vb false)
  | _, _ => .no
def comp (i : MI) (g : MG) (cs : MT) (e : M) (own : List Nat) : M := fun ρ => (i ρ).bind ρ fun ds ρ1 => compF (compL own g cs e ds (wipeE own ρ1) [])
def yes : MT := fun _ => .pu true
end Vs
set_option maxHeartbeats 4000000
/-! Vs: loops that are run; what is computed with a bound on the turns is what is computed. -/
namespace Vs
open PySem (Str PyData)
theorem whileN_more {c : MT} {b : MS} : ∀ {n : Nat} {ρ : Env}, whileN c b n ρ ≠ .no → whileN c b (n + 1) ρ = whileN c b n ρ
  | 0, ρ, h => absurd rfl h
  | n + 1, ρ, h => by
    unfold whileN at h ⊢
    cases q : c ρ with
    | no => rfl
    | ex e ρ' => rfl
    | ok x o =>
      rw [q] at h
      simp only [go_ok] at h ⊢
      by_cases hx : x = true
      · rw [if_pos hx] at h ⊢
        rw [if_pos hx]
        cases q2 : b (now o ρ) with
        | nx ρ2 => rw [q2] at h; exact whileN_more h
        | ct ρ2 => rw [q2] at h; exact whileN_more h
        | _ => rfl
      · rw [if_neg hx]
        rw [if_neg hx]
theorem whileN_le {c : MT} {b : MS} {n m : Nat} {ρ : Env} (h : whileN c b n ρ ≠ .no) (hm : n ≤ m) : whileN c b m ρ = whileN c b n ρ := by
  induction hm with
  | refl => rfl
  | step _ ih => rw [whileN_more (by rw [ih]; exact h), ih]
theorem whiles_eq {c : MT} {b : MS} {n : Nat} {ρ : Env} (h : whileN c b n ρ ≠ .no) : whiles c b ρ = whileN c b n ρ := by
  have hx : ∃ n, whileN c b n ρ ≠ .no := ⟨n, h⟩
  unfold whiles
  rw [dif_pos hx]
  have h2 := hx.choose_spec
  rcases Nat.le_total n hx.choose with z | z
  · exact whileN_le h z
  · exact (whileN_le h2 z).symm
/-- one turn -/
theorem whiles_step {c : MT} {b : MS} {ρ : Env} : whiles c b ρ = (c ρ).go ρ fun x ρ1 => if x = true then (match b ρ1 with
    | .nx ρ2 => whiles c b ρ2 | .ct ρ2 => whiles c b ρ2 | .brk ρ2 => .nx ρ2 | .ret x ρ2 => .ret x ρ2 | .ex e ρ2 => .ex e ρ2 | .no => .no) else .nx ρ1 := by
  by_cases hx : ∃ n, whileN c b n ρ ≠ .no
  · obtain ⟨n, h⟩ := hx
    rw [whiles_eq h]
    cases n with
    | zero => exact absurd rfl h
    | succ n =>
      unfold whileN at h ⊢
      cases q : c ρ with
      | no => rfl
      | ex e ρ' => rfl
      | ok x o =>
        rw [q] at h
        simp only [go_ok] at h ⊢
        by_cases hx : x = true
        · rw [if_pos hx] at h
          rw [if_pos hx, if_pos hx]
          cases q2 : b (now o ρ) with
          | nx ρ2 => rw [q2] at h; exact (whiles_eq h).symm
          | ct ρ2 => rw [q2] at h; exact (whiles_eq h).symm
          | _ => rfl
        · rw [if_neg hx, if_neg hx]
  · have e : whiles c b ρ = .no := by
      unfold whiles
      rw [dif_neg hx]
    rw [e]
    cases q : c ρ with
    | no => rfl
    | ex e ρ' => exact absurd ⟨1, by unfold whileN; rw [q]; simp⟩ hx
    | ok x o =>
      rw [go_ok]
      by_cases hb : x = true
      · rw [if_pos hb]
        have step : ∀ n, whileN c b (n + 1) ρ = (match b (now o ρ) with
            | .nx ρ2 => whileN c b n ρ2 | .ct ρ2 => whileN c b n ρ2 | .brk ρ2 => .nx ρ2 | .ret x ρ2 => .ret x ρ2 | .ex e ρ2 => .ex e ρ2 | .no => .no) := fun n => by
          conv => lhs; unfold whileN
          rw [q, go_ok, if_pos hb]
          all_goals (cases b (now o ρ) <;> rfl)
        cases q2 : b (now o ρ) with
        | no => rfl
        | nx ρ2 =>
          by_cases h2 : ∃ n, whileN c b n ρ2 ≠ .no
          · obtain ⟨n, h2⟩ := h2
            exact absurd ⟨n + 1, by rw [step, q2]; exact h2⟩ hx
          · show Fl.no = whiles c b ρ2
            unfold whiles
            rw [dif_neg h2]
        | ct ρ2 =>
          by_cases h2 : ∃ n, whileN c b n ρ2 ≠ .no
          · obtain ⟨n, h2⟩ := h2
            exact absurd ⟨n + 1, by rw [step, q2]; exact h2⟩ hx
          · show Fl.no = whiles c b ρ2
            unfold whiles
            rw [dif_neg h2]
        | brk ρ2 => exact absurd ⟨1, by rw [step, q2]; simp⟩ hx
        | ret x ρ2 => exact absurd ⟨1, by rw [step, q2]; simp⟩ hx
        | ex e ρ2 => exact absurd ⟨1, by rw [step, q2]; simp⟩ hx
      · exact absurd ⟨1, by unfold whileN; rw [q, go_ok, if_neg hb]; simp⟩ hx
/-! ### what comes to something with fewer turns comes to the same -/
def leR {α : Type} (r s : R α) : Prop := r = .no ∨ r = s
def leF (r s : Fl) : Prop := r = .no ∨ r = s
def leM {α : Type} (f g : Env → R α) : Prop := ∀ ρ, leR (f ρ) (g ρ)
def leS (f g : MS) : Prop := ∀ ρ, leF (f ρ) (g ρ)
def leG (f g : MG) : Prop := ∀ x ρ, leF (f x ρ) (g x ρ)
def leC (f g : List PV → RF) : Prop := ∀ p, f p = .no ∨ f p = g p
section
variable {α β : Type}
theorem leR.rf {r : R α} : leR r r := .inr rfl
theorem leF.rf {r : Fl} : leF r r := .inr rfl
theorem leM.rf {f : Env → R α} : leM f f := fun _ => .inr rfl
theorem leS.rf {f : MS} : leS f f := fun _ => .inr rfl
theorem leG.rf {f : MG} : leG f f := fun _ _ => .inr rfl
theorem le_aft {r s : R α} {o : Option Env} (h : leR r s) : leR (r.aft o) (s.aft o) := by
  rcases h with rfl | rfl
  · exact .inl rfl
  · exact .inr rfl
theorem le_bind {r s : R α} {k k' : α → Env → R β} {ρ : Env} (h : leR r s) (hk : ∀ a ρ, leR (k a ρ) (k' a ρ)) : leR (r.bind ρ k) (s.bind ρ k') := by
  rcases h with rfl | rfl
  · exact .inl rfl
  · cases r with
    | no => exact .inl rfl
    | ex e ρ' => exact .inr rfl
    | ok a o => exact le_aft (hk a _)
theorem le_nxt {r s : R α} {k k' : α → R β} {b : Bool} (h : leR r s) (hk : ∀ a, leR (k a) (k' a)) : leR (r.nxt b k) (s.nxt b k') := by
  rcases h with rfl | rfl
  · exact .inl rfl
  · cases r with
    | no => exact .inl rfl
    | ex e ρ' => exact .inr rfl
    | ok a o =>
      rw [R.nxt_ok, R.nxt_ok]
      split
      · exact le_aft (hk a)
      · exact .inl rfl
theorem le_go {r s : R α} {k k' : α → Env → Fl} {ρ : Env} (h : leR r s) (hk : ∀ a ρ, leF (k a ρ) (k' a ρ)) : leF (r.go ρ k) (s.go ρ k') := by
  rcases h with rfl | rfl
  · exact .inl rfl
  · cases r with
    | no => exact .inl rfl
    | ex e ρ' => exact .inr rfl
    | ok a o => exact hk a _
theorem le_seq {f g : Fl} {k k' : MS} (h : leF f g) (hk : leS k k') : leF (f.seq k) (g.seq k') := by
  rcases h with rfl | rfl
  · exact .inl rfl
  · cases f with
    | nx ρ => exact hk ρ
    | no => exact .inl rfl
    | _ => exact .inr rfl
theorem le_sq {a a' b b' : MS} (h : leS a a') (k : leS b b') : leS (sq a b) (sq a' b') := fun ρ => le_seq (h ρ) k
theorem le_asg {e e' : M} {g g' : MG} (h : leM e e') (k : leG g g') : leS (asg e g) (asg e' g') := fun ρ => le_go (h ρ) fun x ρ1 => k x ρ1
theorem le_ex {e e' : M} (h : leM e e') : leS (ex e) (ex e') := fun ρ => le_go (h ρ) fun _ _ => .inr rfl
theorem le_ret {e e' : M} (h : leM e e') : leS (ret e) (ret e') := fun ρ => le_go (h ρ) fun _ _ => .inr rfl
theorem le_ifs {c c' : MT} {a a' b b' : MS} (h : leM c c') (k : leS a a') (l : leS b b') : leS (ifs c a b) (ifs c' a' b') := fun ρ => le_go (h ρ) fun x ρ1 => by
  cases x with
  | true => exact k ρ1
  | false => exact l ρ1
theorem le_two {a a' b b' : M} {k : VV → VV → Option VV} (h : leM a a') (l : leM b b') : leM (two a b k) (two a' b' k) := fun ρ => le_bind (h ρ) fun x ρ1 => le_nxt (l ρ1) fun _ => .inr rfl
theorem le_one {a a' : M} {k : VV → Option VV} (h : leM a a') : leM (one a k) (one a' k) := fun ρ => le_bind (h ρ) fun _ _ => .inr rfl
theorem le_anil : leM (args []) (args []) := leM.rf
theorem le_acons {a a' : M} {as as' : List M} (h : leM a a') (l : leM (args as) (args as')) : leM (args (a :: as)) (args (a' :: as')) := fun ρ => by
  unfold args
  exact le_bind (h ρ) fun x ρ1 => le_nxt (l ρ1) fun _ => .inr rfl
theorem le_argsk {a a' : MA} {k : List VV → Option VV} (h : leM a a') : leM (argsk a k) (argsk a' k) := fun ρ => le_bind (h ρ) fun _ _ => .inr rfl
theorem le_tst {a a' : M} {k : D → Option Bool} (h : leM a a') : leM (tst a k) (tst a' k) := fun ρ => le_bind (h ρ) fun _ _ => .inr rfl
theorem le_tnot {a a' : MT} (h : leM a a') : leM (tnot a) (tnot a') := fun ρ => le_bind (h ρ) fun _ _ => .inr rfl
theorem le_tand {a a' b b' : MT} (h : leM a a') (l : leM b b') : leM (tand a b) (tand a' b') := fun ρ => le_bind (h ρ) fun x ρ1 => by
  cases x with
  | true => exact l ρ1
  | false => exact .inr rfl
theorem le_tor {a a' b b' : MT} (h : leM a a') (l : leM b b') : leM (tor a b) (tor a' b') := fun ρ => le_bind (h ρ) fun x ρ1 => by
  cases x with
  | true => exact .inr rfl
  | false => exact l ρ1
theorem le_ift {c c' : MT} {a a' b b' : M} (h : leM c c') (k : leM a a') (l : leM b b') : leM (ift c a b) (ift c' a' b') := fun ρ => le_bind (h ρ) fun x ρ1 => by
  cases x with
  | true => exact k ρ1
  | false => exact l ρ1
theorem le_whileN {c c' : MT} {b b' : MS} (h : leM c c') (l : leS b b') : ∀ n, leS (whileN c b n) (whileN c' b' n)
  | 0 => fun _ => .inl rfl
  | n + 1 => fun ρ => by
    unfold whileN
    refine le_go (h ρ) fun x ρ1 => ?_
    cases x with
    | false => exact .inr rfl
    | true =>
      rw [if_pos rfl, if_pos rfl]
      rcases l ρ1 with e | e
      · rw [e]; exact .inl rfl
      · rw [e]
        cases b' ρ1 with
        | nx ρ2 => exact le_whileN h l n ρ2
        | ct ρ2 => exact le_whileN h l n ρ2
        | no => exact .inl rfl
        | _ => exact .inr rfl
theorem le_whiles {c c' : MT} {b b' : MS} (n : Nat) (h : leM c c') (l : leS b b') : leS (whileN c b n) (whiles c' b') := fun ρ => by
  by_cases hn : whileN c b n ρ = .no
  · exact .inl hn
  · rcases le_whileN h l n ρ with e | e
    · exact absurd e hn
    · right
      rw [e]
      exact (whiles_eq (by rw [← e]; exact hn)).symm
theorem le_forL {g g' : MG} {b b' : MS} (h : leG g g') (l : leS b b') : ∀ (ds : List D) (ρ : Env), leF (forL g b ds ρ) (forL g' b' ds ρ)
  | [], _ => .inr rfl
  | d :: ds, ρ => by
    unfold forL
    rcases le_seq (h ⟨false, 0, d⟩ ρ) l with e | e
    · rw [e]; exact .inl rfl
    · rw [e]
      cases (g' ⟨false, 0, d⟩ ρ).seq b' with
      | nx ρ2 => exact le_forL h l ds ρ2
      | ct ρ2 => exact le_forL h l ds ρ2
      | no => exact .inl rfl
      | _ => exact .inr rfl
theorem le_fors {i i' : MI} {g g' : MG} {b b' : MS} (k : leM i i') (h : leG g g') (l : leS b b') : leS (fors i g b) (fors i' g' b') := fun ρ => le_go (k ρ) fun ds ρ1 => le_forL h l ds ρ1
theorem le_it1 {k : VV → Option (List D)} {e e' : M} (h : leM e e') : leM (it1 k e) (it1 k e') := fun ρ => le_bind (h ρ) fun _ _ => .inr rfl
theorem le_itN {k : List VV → Option (List D)} {e e' : MA} (h : leM e e') : leM (itN k e) (itN k e') := fun ρ => le_bind (h ρ) fun _ _ => .inr rfl
theorem le_fnM {n : Nat} {lent : List Bool} {b b' : MS} (h : leS b b') : leC (fnM n lent b) (fnM n lent b') := fun p => by
  unfold fnM
  rcases h (p.map some ++ List.replicate (n - p.length) none) with e | e
  · rw [e]; exact .inl rfl
  · rw [e]; exact .inr rfl
theorem le_cnil : leM (cargs []) (cargs []) := leM.rf
theorem le_clend {i : Nat} {as as' : List AK} (l : leM (cargs as) (cargs as')) : leM (cargs (.lend i :: as)) (cargs (.lend i :: as')) := fun ρ => by
  unfold cargs
  cases look ρ i with
  | none => exact .inl rfl
  | some _ => exact le_bind (l ρ) fun _ _ => .inr rfl
theorem le_cval {e e' : M} {as as' : List AK} (h : leM e e') (l : leM (cargs as) (cargs as')) : leM (cargs (.val e :: as)) (cargs (.val e' :: as')) := fun ρ => by
  unfold cargs
  refine le_bind (h ρ) fun x ρ1 => ?_
  cases x.kept with
  | none => exact .inl rfl
  | some _ => exact le_bind (l ρ1) fun _ _ => .inr rfl
theorem le_call {f f' : List PV → RF} {df : List PV} {as as' : List AK} (h : leC f f') (l : leM (cargs as) (cargs as')) : leM (call f df as) (call f' df as') := fun ρ => by
  unfold call
  refine le_bind (l ρ) fun avs ρ1 => ?_
  unfold callG
  cases grab (avs ++ df.map .o) ρ1 with
  | none => exact .inl rfl
  | some z =>
    obtain ⟨pvs, ρ2⟩ := z
    rcases h pvs with e | e
    · simp only [e]
      split <;> exact .inl rfl
    · simp only [e]
      exact .inr rfl
theorem le_byK {f f' : List PV → RF} {is js : List Nat} (h : leC f f') : leC (byK is js f) (byK is js f') := fun p => by
  unfold byK
  rcases h (sel is p) with e | e
  · rw [e]; exact .inl rfl
  · rw [e]; exact .inr rfl
theorem le_recv {i : Nat} {as as' : MA} {k : PV → List VV → Option (VV × PV)} (h : leM as as') : leM (recv i as k) (recv i as' k) := fun ρ => by
  unfold recv
  split
  · exact le_bind (h ρ) fun _ _ => .inr rfl
  · exact .inl rfl
theorem le_meth {ty : D → Bool} {o o' : M} {as as' : MA} {k : VV → List VV → Option VV} (h : leM o o') (l : leM as as') : leM (meth ty o as k) (meth ty o' as' k) := fun ρ => le_bind (h ρ) fun x ρ1 => by
  split
  · exact le_nxt (l ρ1) fun _ => .inr rfl
  · exact .inl rfl
theorem le_compL {own : List Nat} {g : MG} {cs cs' : MT} {e e' : M} (h : leM cs cs') (l : leM e e') : ∀ (ds : List D) (ρ : Env) (acc : List VV), leR (compL own g cs e ds ρ acc) (compL own g cs' e' ds ρ acc)
  | [], _, _ => .inr rfl
  | d :: ds, ρ, acc => by
    unfold compL
    cases g ⟨false, 0, d⟩ ρ with
    | nx ρ1 =>
      simp only
      rcases h ρ1 with q | q
      · rw [q]; exact .inl rfl
      · rw [q]
        cases cs' ρ1 with
        | ok b o1 =>
          cases b with
          | false => exact le_aft (le_compL h l ds _ _)
          | true =>
            simp only
            rcases l (now o1 ρ1) with q | q
            · rw [q]; exact .inl rfl
            · rw [q]
              cases e' (now o1 ρ1) with
              | ok x o2 =>
                simp only
                split
                · exact le_aft (le_compL h l ds _ _)
                · exact .inl rfl
              | _ => exact .inr rfl
        | _ => exact .inr rfl
    | _ => exact .inr rfl
theorem le_comp {i i' : MI} {g : MG} {cs cs' : MT} {e e' : M} {own : List Nat} (k : leM i i') (h : leM cs cs') (l : leM e e') : leM (comp i g cs e own) (comp i' g cs' e' own) := fun ρ => le_bind (k ρ) fun ds ρ1 => by
  rcases le_compL h l ds (wipeE own ρ1) [] with q | q
  · rw [q]; exact .inl rfl
  · rw [q]; exact .inr rfl
theorem le_vand {a a' b b' : M} (h : leM a a') (l : leM b b') : leM (vand a b) (vand a' b') := fun ρ => le_bind (h ρ) fun x ρ1 => by
  split
  · exact l ρ1
  · exact .inr rfl
  · exact .inr rfl
theorem le_vor {a a' b b' : M} (h : leM a a') (l : leM b b') : leM (vor a b) (vor a' b') := fun ρ => le_bind (h ρ) fun x ρ1 => by
  split
  · exact .inr rfl
  · exact l ρ1
  · exact .inr rfl
theorem le_fz {k : Nat} {is : List Nat} {e e' : M} (h : leM e e') : leM (fz k is e) (fz k is e') := fun ρ => by
  unfold fz
  split
  · exact h ρ
  · exact le_aft (h _)
theorem le_peek {is : List Nat} {e e' : M} (h : leM e e') : leM (peek is e) (peek is e') := fun ρ => by
  unfold peek
  rcases h (thin 0 is ρ) with q | q
  · rw [q]; exact .inl rfl
  · rw [q]; exact .inr rfl
theorem le_soft {is : List Nat} {e e' : M} (h : leM e e') : leM (soft is e) (soft is e') := fun ρ => by
  unfold soft
  rcases h (thin 0 is ρ) with z | z
  · rw [z]; exact .inl rfl
  · rw [z]
    split
    · exact .inl rfl
    · split
      · exact .inr rfl
      · exact le_fz h ρ
    · exact le_fz h ρ
theorem le_gset {i : Nat} {b b' : M} (h : leM b b') : leG (gset i b) (gset i b') := fun x ρ => by
  unfold gset
  cases look ρ i with
  | none => exact .inl rfl
  | some _ => exact le_go (h ρ) fun _ _ => .inr rfl
theorem le_chain {a a' b b' c c' : M} {φ ψ : Int → Int → Bool} (h : leM a a') (l : leM b b') (k : leM c c') : leM (chain a b c φ ψ) (chain a' b' c' φ ψ) := fun ρ => le_bind (h ρ) fun x ρ1 => le_bind (l ρ1) fun y ρ2 => by
  split
  · split
    · exact le_bind (k ρ2) fun _ _ => .inr rfl
    · exact .inr rfl
  · exact .inl rfl
theorem le_par {i j : Nat} {as as' : MA} (h : leM as as') : leS (par i j as) (par i j as') := fun ρ => le_go (h ρ) fun _ _ => .inr rfl
theorem le_recvI {i : Nat} {b b' : M} {as as' : MA} {k : PV → List VV → Option (VV × PV)} (h : leM b b') (l : leM as as') : leM (recvI i b as k) (recvI i b' as' k) := fun ρ => by
  unfold recvI
  split
  · rcases h ρ with q | q
    · rw [q]; exact .inl rfl
    · rw [q]
      split
      · rcases l ρ with q | q
        · rw [q]; exact .inl rfl
        · rw [q]; exact .inr rfl
      · exact .inl rfl
  · exact .inl rfl
theorem leC.use {f g : List PV → RF} {p : List PV} {r : RF} (h : leC f g) (e : f p = r) (hr : r ≠ .no) : g p = r := by
  rcases h p with q | q
  · exact absurd (e.symm.trans q) hr
  · rw [← q, e]
end
/-! ### the same, computed -/
def whileF (n : Nat) (c : MT) (b : MS) : MS := whileN c b n
theorem le_whileF {c c' : MT} {b b' : MS} {n : Nat} (h : leM c c') (l : leS b b') : leS (whileF n c b) (whiles c' b') := le_whiles n h l
mutual
def D.same : D → D → Bool
  | .non, .non => true
  | .bl a, .bl b => a == b
  | .int a, .int b => decide (a = b)
  | .str a, .str b => decide (a = b)
  | .lst a, .lst b => sameAll a b
  | .tup a, .tup b => sameAll a b
  | _, _ => false
def sameAll : List D → List D → Bool
  | [], [] => true
  | a :: as, b :: bs => D.same a b && sameAll as bs
  | _, _ => false
end
mutual
theorem D.same_eq : ∀ {a b : D}, D.same a b = true → a = b
  | .non, b, h => by cases b <;> first | rfl | (unfold D.same at h; cases h)
  | .bl a, b, h => by
    cases b with
    | bl b => unfold D.same at h; rw [eq_of_beq h]
    | _ => unfold D.same at h; cases h
  | .int a, b, h => by
    cases b with
    | int b => unfold D.same at h; rw [of_decide_eq_true h]
    | _ => unfold D.same at h; cases h
  | .str a, b, h => by
    cases b with
    | str b => unfold D.same at h; rw [of_decide_eq_true h]
    | _ => unfold D.same at h; cases h
  | .lst a, b, h => by
    cases b with
    | lst b => unfold D.same at h; rw [sameAll_eq h]
    | _ => unfold D.same at h; cases h
  | .tup a, b, h => by
    cases b with
    | tup b => unfold D.same at h; rw [sameAll_eq h]
    | _ => unfold D.same at h; cases h
  | .dic _ a, b, h => by cases b <;> (unfold D.same at h; cases h)
  | .ins c a, b, h => by cases b <;> (unfold D.same at h; cases h)
theorem sameAll_eq : ∀ {a b : List D}, sameAll a b = true → a = b
  | [], [], _ => rfl
  | [], _ :: _, h => by unfold sameAll at h; cases h
  | _ :: _, [], h => by unfold sameAll at h; cases h
  | a :: as, b :: bs, h => by
    unfold sameAll at h
    rw [Bool.and_eq_true] at h
    rw [D.same_eq h.1, sameAll_eq h.2]
end
def sameE : Env → Env → Bool
  | [], [] => true
  | none :: as, none :: bs => sameE as bs
  | some a :: as, some b :: bs => decide (a.1 = b.1) && D.same a.2 b.2 && sameE as bs
  | _, _ => false
theorem sameE_eq : ∀ {a b : Env}, sameE a b = true → a = b
  | [], [], _ => rfl
  | [], _ :: _, h => by unfold sameE at h; cases h
  | none :: _, [], h => by unfold sameE at h; cases h
  | some _ :: _, [], h => by unfold sameE at h; cases h
  | none :: as, none :: bs, h => by unfold sameE at h; rw [sameE_eq h]
  | none :: as, some _ :: bs, h => by unfold sameE at h; cases h
  | some _ :: as, none :: bs, h => by unfold sameE at h; cases h
  | some (m, d) :: as, some (n, e) :: bs, h => by
    unfold sameE at h
    rw [Bool.and_eq_true, Bool.and_eq_true] at h
    have h1 : m = n := of_decide_eq_true h.1.1
    have h2 : d = e := D.same_eq h.1.2
    rw [h1, h2, sameE_eq h.2]
/-- r is ok with v and out -/
def RF.is (r : RF) (v : PV) (out : Env) : Bool := match r with
  | .ok w o => decide (w.1 = v.1) && D.same w.2 v.2 && sameE o out
  | _ => false
theorem RF.is_eq {r : RF} {v : PV} {out : Env} (h : r.is v out = true) : r = .ok v out := by
  unfold RF.is at h
  cases r with
  | ok w o =>
    simp only [Bool.and_eq_true] at h
    obtain ⟨⟨h1, h2⟩, h3⟩ := h
    obtain ⟨m, d⟩ := w
    obtain ⟨n, e⟩ := v
    have h1 : m = n := of_decide_eq_true h1
    have h2 : d = e := D.same_eq h2
    rw [h1, h2, sameE_eq h3]
  | _ => cases h
end Vs
set_option maxHeartbeats 4000000
namespace Vs
open PySem (Str PyData)
/-! ### displays with stars; three names -/
def starD (x : VV) : Option (List D) := match x.d with
  | .lst l => if x.open then some l else none
  | .tup l => if x.open then some l else none
  | _ => none
def argN : MA := fun _ => .pu []
def argC (a : M) (as : MA) : MA := fun ρ => (a ρ).bind ρ fun x ρ1 => (as ρ1).nxt x.stable fun xs => .pu (x :: xs)
def argS (a : M) (as : MA) : MA := fun ρ => (a ρ).bind ρ fun x ρ1 => match starD x with
  | some ds => (as ρ1).nxt true fun xs => .pu (ds.map (fun d => (⟨false, 0, d⟩ : VV)) ++ xs)
  | none => .no
def par3k (i j l : Nat) : List VV → Env → Fl
  | [x, y, z], ρ => (gname i x ρ).seq fun ρ2 => (gname j y ρ2).seq fun ρ3 => gname l z ρ3
  | _, _ => .no
def par3 (i j l : Nat) (as : MA) : MS := fun ρ => (as ρ).go ρ fun xs ρ1 => par3k i j l xs ρ1
/-! ### shifts, str -/
def kShl (x y : VV) : Option VV := match x.d, y.d with
  | .int i, .int j => if 0 ≤ j ∧ j ≤ 1000 ∧ i.natAbs < 2 ^ 64 then some (vi (i * 2 ^ j.toNat)) else none
  | _, _ => none
def kShr (x y : VV) : Option VV := match x.d, y.d with
  | .int i, .int j => if 0 ≤ j then some (vi (i / 2 ^ j.toNat)) else none
  | _, _ => none
def kStr : List VV → Option VV
  | [x] => (match x.d with | .int i => if i.natAbs.log2 < 1920 then some (vs (toString i)) else none | _ => none)
  | _ => none
/-! ### loops over a list of plain items that stays in its slot -/
def forV (i : Nat) (w : Nat → D → D) (g : MG) (body : MS) : Nat → Nat → Env → Fl
  | 0, k, ρ => (match look ρ i with | some (_, .lst ds) => if ds.length ≤ k then .nx ρ else .no | _ => .no)
  | n + 1, k, ρ => (match look ρ i with
    | some (_, .lst ds) => (match ds[k]? with
      | none => .nx ρ
      | some d => if d.imm = true then (match (g ⟨false, 0, w k d⟩ ρ).seq body with
        | .nx ρ1 => forV i w g body n (k + 1) ρ1
        | .ct ρ1 => forV i w g body n (k + 1) ρ1
        | .brk ρ1 => .nx ρ1
        | .ret x ρ1 => .ret x ρ1
        | .ex e ρ1 => .ex e ρ1
        | .no => .no) else .no)
    | _ => .no)
def wOne : Nat → D → D := fun _ d => d
def wEnum : Nat → D → D := fun k d => .tup [.int k, d]
def forsV (i : Nat) (w : Nat → D → D) (g : MG) (body : MS) (other : MS) : MS := fun ρ => match look ρ i with
  | some (_, .lst ds) => if ds.all D.imm = true then forV i w g body ds.length 0 ρ else other ρ
  | _ => other ρ
theorem le_forV {i : Nat} {w : Nat → D → D} {g g' : MG} {b b' : MS} (h : leG g g') (l : leS b b') : ∀ (n k : Nat) (ρ : Env), leF (forV i w g b n k ρ) (forV i w g' b' n k ρ)
  | 0, _, _ => .inr rfl
  | n + 1, k, ρ => by
    unfold forV
    split
    · split
      · exact .inr rfl
      · split
        · rename_i d _ _
          rcases le_seq (h ⟨false, 0, w k d⟩ ρ) l with e | e
          · rw [e]; exact .inl rfl
          · rw [e]
            cases (g' ⟨false, 0, w k d⟩ ρ).seq b' with
            | nx ρ2 => exact le_forV h l n (k + 1) ρ2
            | ct ρ2 => exact le_forV h l n (k + 1) ρ2
            | no => exact .inl rfl
            | _ => exact .inr rfl
        · exact .inl rfl
    · exact .inl rfl
theorem le_forsV {i : Nat} {w : Nat → D → D} {g g' : MG} {b b' o o' : MS} (h : leG g g') (l : leS b b') (m : leS o o') : leS (forsV i w g b o) (forsV i w g' b' o') := fun ρ => by
  unfold forsV
  split
  · split
    · exact le_forV h l _ _ _
    · exact m ρ
  · exact m ρ
/-- such a loop that goes through -/
theorem forV_inv {i : Nat} {w : Nat → D → D} {g : MG} {b : MS} {ds : List D} {P : Nat → Env → Prop} (hi : ds.all D.imm = true) (hl : ∀ k ρ, P k ρ → ∃ m, look ρ i = some (m, .lst ds))
    (hs : ∀ k d ρ, ds[k]? = some d → P k ρ → ∃ ρ', (g ⟨false, 0, w k d⟩ ρ).seq b = .nx ρ' ∧ P (k + 1) ρ') : ∀ (n k : Nat) (ρ : Env), n + k = ds.length → P k ρ → ∃ ρ', forV i w g b n k ρ = .nx ρ' ∧ P ds.length ρ'
  | 0, k, ρ, e, h => by
    obtain ⟨m, hm⟩ := hl k ρ h
    refine ⟨ρ, ?_, by rw [← e, Nat.zero_add]; exact h⟩
    unfold forV
    rw [hm]
    exact if_pos (by omega)
  | n + 1, k, ρ, e, h => by
    obtain ⟨m, hm⟩ := hl k ρ h
    have hk : k < ds.length := by omega
    have hd : ds[k]? = some ds[k] := List.getElem?_eq_getElem hk
    obtain ⟨ρ1, h1, h2⟩ := hs k _ ρ hd h
    obtain ⟨ρ', h3, h4⟩ := forV_inv hi hl hs n (k + 1) ρ1 (by omega) h2
    refine ⟨ρ', ?_, h4⟩
    unfold forV
    rw [hm]
    simp only [hd, List.all_eq_true.mp hi _ (List.getElem_mem hk), if_true, h1, h3]
theorem forsV_inv {i : Nat} {w : Nat → D → D} {g : MG} {b o : MS} {ds : List D} {ρ : Env} {m0 : Nat} (P : Nat → Env → Prop) (h0 : look ρ i = some (m0, .lst ds)) (hi : ds.all D.imm = true) (hl : ∀ k ρ, P k ρ → ∃ m, look ρ i = some (m, .lst ds))
    (hs : ∀ k d ρ, ds[k]? = some d → P k ρ → ∃ ρ', (g ⟨false, 0, w k d⟩ ρ).seq b = .nx ρ' ∧ P (k + 1) ρ') (h : P 0 ρ) : ∃ ρ', forsV i w g b o ρ = .nx ρ' ∧ P ds.length ρ' := by
  unfold forsV
  rw [h0]
  simp only [hi, if_true]
  exact forV_inv hi hl hs _ 0 ρ (by omega) h
/-! ### dicts with numbers and texts as keys -/
def isKey : D → Bool
  | .int _ => true | .str _ => true | _ => false
def dLook (l : List (D × D)) (k : D) : Option D := (l.find? fun p => p.1.same k).map (·.2)
def dPut (l : List (D × D)) (k d : D) : List (D × D) := if (l.any fun p => p.1.same k) = true then l.map (fun p => if p.1.same k = true then (p.1, d) else p) else l ++ [(k, d)]
/-- {} -/
def dnew : M := fun _ => .pu ⟨false, 1, .dic false []⟩
def kIxD (x y : VV) : Option VV := match x.d with
  | .dic false l => if (x.b = true ∨ x.m = 0) ∧ isKey y.d = true then (dLook l y.d).map (sub x) else none
  | _ => none
def kInD (x y : VV) : Option VV := match y.d with
  | .dic false l => if isKey x.d = true then some (vb (dLook l x.d).isSome) else none
  | _ => none
def kNotInD (x y : VV) : Option VV := match y.d with
  | .dic false l => if isKey x.d = true then some (vb (!(dLook l x.d).isSome)) else none
  | _ => none
/-- x[k] = .. of a dict in a slot -/
def gsetD (i : Nat) (b : M) : MG := fun x ρ => match look ρ i with
  | none => .no
  | some _ => (b ρ).go ρ fun y ρ1 => match look ρ1 i with
    | some (m + 1, .dic false l) => if x.stable = true ∧ isKey y.d = true ∧ l.length < lim ∧ (x.d.imm = true ∨ (l.any fun p => p.1.same y.d) = false) then .nx (put ρ1 i (some ((if x.d.imm = true then m else min m x.m) + 1, .dic false (dPut l y.d x.d)))) else .no
    | _ => .no
theorem le_gsetD {i : Nat} {b b' : M} (h : leM b b') : leG (gsetD i b) (gsetD i b') := fun x ρ => by
  unfold gsetD
  cases look ρ i with
  | none => exact .inl rfl
  | some _ => exact le_go (h ρ) fun _ _ => .inr rfl
/-! dicts with tuples as keys -/
def isKeyT (y : VV) : Bool := match y.d with | .tup l => l.all isKey | _ => false
def dnewT : M := fun _ => .pu ⟨false, 1, .dic true []⟩
def kIxT (x y : VV) : Option VV := match x.d with
  | .dic true l => if (x.b = true ∨ x.m = 0) ∧ isKeyT y = true then (dLook l y.d).map (sub x) else none
  | _ => none
def kInT (x y : VV) : Option VV := match y.d with
  | .dic true l => if isKeyT x = true then some (vb (dLook l x.d).isSome) else none
  | _ => none
def kNotInT (x y : VV) : Option VV := match y.d with
  | .dic true l => if isKeyT x = true then some (vb (!(dLook l x.d).isSome)) else none
  | _ => none
def gsetT (i : Nat) (b : M) : MG := fun x ρ => match look ρ i with
  | none => .no
  | some _ => (b ρ).go ρ fun y ρ1 => match look ρ1 i with
    | some (m + 1, .dic true l) => if x.stable = true ∧ isKeyT y = true ∧ l.length < lim ∧ (x.d.imm = true ∨ (l.any fun p => p.1.same y.d) = false) then .nx (put ρ1 i (some ((if x.d.imm = true then m else min m x.m) + 1, .dic true (dPut l y.d x.d)))) else .no
    | _ => .no
theorem le_gsetT {i : Nat} {b b' : M} (h : leM b b') : leG (gsetT i b) (gsetT i b') := fun x ρ => by
  unfold gsetT
  cases look ρ i with
  | none => exact .inl rfl
  | some _ => exact le_go (h ρ) fun _ _ => .inr rfl
def kDivmod : List VV → Option VV
  | [x, y] => (match x.d, y.d with
    | .int i, .int j => if 0 < j ∧ j < 1073741824 then some ⟨false, 1, .tup [.int (i / j), .int (i % j)]⟩ else none
    | _, _ => none)
  | _ => none
/-- a slice whose end may change something -/
def slcE (a : M) (lo hi : Option M) : M := fun ρ => (a ρ).bind ρ fun x ρ1 => (part lo ρ1).nxt false fun l => (part hi ρ1).nxt x.stable fun u => .ofO (kSl x l u)
def leO : Option M → Option M → Prop
  | none, none => True
  | some a, some b => leM a b
  | _, _ => False
theorem leO.no : leO none none := trivial
theorem leO.so {a b : M} (h : leM a b) : leO (some a) (some b) := h
theorem le_part {o o' : Option M} (h : leO o o') (ρ : Env) : leR (part o ρ) (part o' ρ) := by
  cases o with
  | none => cases o' with
    | none => exact .inr rfl
    | some b => exact h.elim
  | some a => cases o' with
    | none => exact h.elim
    | some b =>
      show leR ((a ρ).bind ρ fun y _ => R.ofO (intOf y)) ((b ρ).bind ρ fun y _ => R.ofO (intOf y))
      exact le_bind (h ρ) fun _ _ => .inr rfl
theorem le_slc {a a' : M} {lo lo' hi hi' : Option M} (h : leM a a') (hl : leO lo lo') (hh : leO hi hi') : leM (slc a lo hi) (slc a' lo' hi') := fun ρ => le_bind (h ρ) fun x ρ1 => le_nxt (le_part hl ρ1) fun l => le_nxt (le_part hh ρ1) fun _ => .inr rfl
theorem le_slcE {a a' : M} {lo lo' hi hi' : Option M} (h : leM a a') (hl : leO lo lo') (hh : leO hi hi') : leM (slcE a lo hi) (slcE a' lo' hi') := fun ρ => le_bind (h ρ) fun x ρ1 => le_nxt (le_part hl ρ1) fun l => le_nxt (le_part hh ρ1) fun _ => .inr rfl
/-- {a: b} -/
def ddisp (a b : M) : M := fun ρ => match a ρ, b ρ with
  | .ok x none, .ok y none => if isKey x.d = true ∧ y.stable = true then .pu ⟨false, (if y.d.imm = true then 0 else y.m) + 1, .dic false [(x.d, y.d)]⟩ else .no
  | _, _ => .no
theorem le_ddisp {a a' b b' : M} (h : leM a a') (l : leM b b') : leM (ddisp a b) (ddisp a' b') := fun ρ => by
  unfold ddisp
  rcases h ρ with q | q
  · rw [q]; exact .inl rfl
  · rw [q]
    rcases l ρ with z | z
    · rw [z]
      left
      split
      · rename_i h; cases h
      · rfl
    · rw [z]; exact .inr rfl
/-- an item of a slot, asked behind the index -/
def ixv2 (i : Nat) (b : M) : M := fun ρ => match look ρ i with
  | none => .no
  | some _ => (b ρ).bind ρ fun y ρ1 => match look ρ1 i with
    | some (m, d) => .ofO (kIx ⟨true, m, d⟩ y)
    | none => .no
theorem le_ixv2 {i : Nat} {b b' : M} (h : leM b b') : leM (ixv2 i b) (ixv2 i b') := fun ρ => by
  unfold ixv2
  cases look ρ i with
  | none => exact .inl rfl
  | some _ => exact le_bind (h ρ) fun _ _ => .inr rfl
end Vs
set_option maxHeartbeats 4000000
namespace Vs
open PySem (Str PyData)
/-! ### slots made even: some are let go, some are known less deep -/
def even (is ks : List Nat) (ρ : Env) : Env := thin 0 ks (wipeE is ρ)
def Fl.map (f : Env → Env) : Fl → Fl
  | .nx ρ => .nx (f ρ) | .brk ρ => .brk (f ρ) | .ct ρ => .ct (f ρ) | .ret x ρ => .ret x ρ | .ex e ρ => .ex e ρ | .no => .no
/-- ahead of a part -/
def pre (is ks : List Nat) (g : MS) : MS := fun ρ => g (even is ks ρ)
/-- behind a part -/
def tdy (is ks : List Nat) (g : MS) : MS := fun ρ => (g ρ).map (even is ks)
theorem le_pre {is ks : List Nat} {g g' : MS} (h : leS g g') : leS (pre is ks g) (pre is ks g') := fun ρ => h _
theorem le_tdy {is ks : List Nat} {g g' : MS} (h : leS g g') : leS (tdy is ks g) (tdy is ks g') := fun ρ => by
  unfold tdy
  rcases h ρ with e | e
  · rw [e]; exact .inl rfl
  · rw [e]; exact .inr rfl
theorem e_pre {is ks : List Nat} {g : MS} {ρ : Env} : pre is ks g ρ = g (even is ks ρ) := (rfl)
theorem e_tdy {is ks : List Nat} {g : MS} {ρ : Env} : tdy is ks g ρ = (g ρ).map (even is ks) := (rfl)
theorem e_even {is ks : List Nat} {ρ : Env} : even is ks ρ = thin 0 ks (wipeE is ρ) := (rfl)
@[simp] theorem m_nx {f : Env → Env} {ρ : Env} : Fl.map f (.nx ρ) = .nx (f ρ) := (rfl)
@[simp] theorem m_brk {f : Env → Env} {ρ : Env} : Fl.map f (.brk ρ) = .brk (f ρ) := (rfl)
@[simp] theorem m_ct {f : Env → Env} {ρ : Env} : Fl.map f (.ct ρ) = .ct (f ρ) := (rfl)
@[simp] theorem m_ret {f : Env → Env} {ρ : Env} {x : PV} : Fl.map f (.ret x ρ) = .ret x ρ := (rfl)
@[simp] theorem m_ex {f : Env → Env} {ρ : Env} {e : Ex} : Fl.map f (.ex e ρ) = .ex e ρ := (rfl)
@[simp] theorem m_no {f : Env → Env} : Fl.map f .no = .no := (rfl)
/-- xs.count(y) -/
def kCountD (x : VV) (xs : List VV) : Option VV := match x.d, xs with
  | .lst l, [y] => if x.d.shp = true ∧ y.d.shp = true then some (vi (l.countP fun z => z.eqv y.d : Nat)) else none
  | _, _ => none
def kIsi2 (t u : Ty) (x : VV) : Option VV := match x.d.isTy t, x.d.isTy u with
  | some a, some b => some (vb (a || b)) | _, _ => none
/-- xs[c] += k of whole numbers -/
def augC (i : Nat) (c k : Int) : MS := fun ρ => match look ρ i with
  | some (m + 1, .lst l) => (match nix l.length c with
    | some j => (match l[j]? with | some (.int a) => .nx (put ρ i (some (m + 1, .lst (l.set j (.int (a + k)))))) | _ => .no)
    | none => .no)
  | _ => .no
theorem e_augC {i : Nat} {c k : Int} {ρ : Env} : augC i c k ρ = match look ρ i with
  | some (m + 1, .lst l) => (match nix l.length c with
    | some j => (match l[j]? with | some (.int a) => .nx (put ρ i (some (m + 1, .lst (l.set j (.int (a + k)))))) | _ => .no)
    | none => .no)
  | _ => .no := (rfl)
/-- xs * n of plain items, xs its own (asked or not) -/
def kMulB (x y : VV) : Option VV := match x.d, y.d with
  | .lst l, .int k => if 0 < x.m ∧ l.all D.imm = true ∧ -(2 ^ 63) ≤ k ∧ k < 2 ^ 63 ∧ l.length * k.toNat ≤ lim then some ⟨false, 1, .lst (List.replicate k.toNat l).flatten⟩ else none
  | _, _ => none
/-! loops, by the slots ahead of each turn -/
theorem forL_eq {g : MG} {b : MS} : ∀ (ds : List D) (e : Nat → Env), (∀ k d, ds[k]? = some d → (g ⟨false, 0, d⟩ (e k)).seq b = .nx (e (k + 1))) → forL g b ds (e 0) = .nx (e ds.length)
  | [], e, _ => rfl
  | d :: ds, e, h => by
    unfold forL
    rw [h 0 d rfl]
    exact forL_eq ds (fun k => e (k + 1)) fun k d' hd => h (k + 1) d' (by simpa using hd)
theorem forV_eq {i : Nat} {w : Nat → D → D} {g : MG} {b : MS} {ds : List D} {m0 : Nat} {e : Nat → Env} (hi : ds.all D.imm = true) (hl : ∀ k, look (e k) i = some (m0, .lst ds))
    (h : ∀ k d, ds[k]? = some d → (g ⟨false, 0, w k d⟩ (e k)).seq b = .nx (e (k + 1))) : ∀ n k, n + k = ds.length → forV i w g b n k (e k) = .nx (e ds.length)
  | 0, k, hk => by
    unfold forV
    rw [hl k]
    simp only
    rw [if_pos (by omega), show k = ds.length by omega]
  | n + 1, k, hk => by
    have hk2 : k < ds.length := by omega
    have hd : ds[k]? = some ds[k] := List.getElem?_eq_getElem hk2
    unfold forV
    rw [hl k]
    simp only [hd, List.all_eq_true.mp hi _ (List.getElem_mem hk2), if_true, h k _ hd]
    exact forV_eq hi hl h n (k + 1) (by omega)
theorem forsV_eq {i : Nat} {w : Nat → D → D} {g : MG} {b o : MS} {ds : List D} {m0 : Nat} (e : Nat → Env) (hi : ds.all D.imm = true) (hl : ∀ k, look (e k) i = some (m0, .lst ds))
    (h : ∀ k d, ds[k]? = some d → (g ⟨false, 0, w k d⟩ (e k)).seq b = .nx (e (k + 1))) : forsV i w g b o (e 0) = .nx (e ds.length) := by
  unfold forsV
  rw [hl 0]
  simp only [hi, if_true]
  exact forV_eq hi hl h _ 0 (by omega)
/-- .. of plain items or not -/
theorem forsV_eq' {i : Nat} {w : Nat → D → D} {g : MG} {b : MS} {it : MI} {ds : List D} {m0 : Nat} (e : Nat → Env) (hl : ∀ k, look (e k) i = some (m0, .lst ds)) (hw : it (e 0) = .ok ((List.range ds.length).zip ds |>.map fun p => w p.1 p.2) none)
    (h : ∀ k d, ds[k]? = some d → (g ⟨false, 0, w k d⟩ (e k)).seq b = .nx (e (k + 1))) : forsV i w g b (fors it g b) (e 0) = .nx (e ds.length) := by
  by_cases hi : ds.all D.imm = true
  · exact forsV_eq e hi hl h
  · unfold forsV
    rw [hl 0]
    simp only [hi]
    show fors it g b (e 0) = _
    unfold fors
    rw [hw]
    show forL g b _ (e 0) = _
    have := forL_eq (g := g) (b := b) (((List.range ds.length).zip ds).map fun p => w p.1 p.2) e (fun k d hd => by
      rw [List.getElem?_map] at hd
      cases q : ((List.range ds.length).zip ds)[k]? with
      | none => rw [q] at hd; cases hd
      | some p =>
        rw [q] at hd
        cases hd
        rw [List.getElem?_zip_eq_some] at q
        obtain ⟨q1, q2⟩ := q
        have hk : k < ds.length := (List.getElem?_eq_some_iff.mp q2).1
        rw [List.getElem?_range hk] at q1
        cases q1
        exact h _ _ q2)
    rw [this]
    simp
end Vs
set_option maxHeartbeats 4000000
/-! sorted(xs), xs lists of whole numbers; x.extend(y), y any list of plain things. -/
namespace Vs
open PySem (Str PyData)
def rowsOf : List D → Option (List (List Int))
  | [] => some []
  | .lst l :: r => (intsOf l).bind fun ns => (rowsOf r).map (ns :: ·)
  | _ => none
def kSortR (x : VV) : Option VV := match x.d with
  | .lst l => if x.open then (rowsOf l).bind fun rs => if rs.length ≤ 1000 then some ⟨false, 1, .lst ((rs.mergeSort fun p q => decide (p ≤ q)).map fun ns => .lst (dints ns))⟩ else none else none
  | _ => none
def kSortRL : List VV → Option VV
  | [x] => kSortR x | _ => none
theorem intsOf_dints' : ∀ l : List Int, intsOf (dints l) = some l
  | [] => rfl
  | a :: l => by
    show (intsOf (dints l)).map _ = _
    rw [intsOf_dints' l]
    rfl
theorem rowsOf_map : ∀ rs : List (List Int), rowsOf (rs.map fun ns => .lst (dints ns)) = some rs
  | [] => rfl
  | r :: rs => by
    show (intsOf (dints r)).bind _ = _
    rw [intsOf_dints', Option.bind_some, rowsOf_map rs]
    rfl
@[simp] theorem e_sortRL {x : VV} : kSortRL [x] = kSortR x := (rfl)
theorem e_sortR {b : Bool} {m : Nat} {rs : List (List Int)} (h : VV.open ⟨b, m, .lst (rs.map fun ns => .lst (dints ns))⟩) (hl : rs.length ≤ 1000) : kSortR ⟨b, m, .lst (rs.map fun ns => .lst (dints ns))⟩ = some ⟨false, 1, .lst ((rs.mergeSort fun p q => decide (p ≤ q)).map fun ns => .lst (dints ns))⟩ := by
  unfold kSortR
  simp only
  rw [if_pos h, rowsOf_map, Option.bind_some, if_pos hl]
/-- x.extend(y), y any list of plain things -/
def rExtB (pv : PV) (xs : List VV) : Option (VV × PV) := match pv, xs with
  | (m + 1, .lst l), [⟨b, n, .lst k⟩] => if VV.open ⟨b, n, .lst k⟩ ∧ k.all D.imm = true ∧ l.length + k.length ≤ lim then some (vn, (m + 1, .lst (l ++ k))) else none
  | _, _ => none
theorem e_extB {m n : Nat} {b : Bool} {l k : List D} (h : VV.open ⟨b, n, .lst k⟩) (hi : k.all D.imm = true) (hl : l.length + k.length ≤ 16777216) : rExtB (m + 1, .lst l) [⟨b, n, .lst k⟩] = some (vn, (m + 1, .lst (l ++ k))) := if_pos ⟨h, hi, hl⟩
/-- min(xs) -/
def kMinL : List VV → Option VV
  | [x] => (match x.d with | .lst l => (intsOf l).bind fun ns => ns.min?.map vi | _ => none)
  | _ => none
theorem e_minL {p : Bool} {m : Nat} {ns : List Int} {a : Int} (h1 : a ∈ ns) (h2 : ∀ b ∈ ns, a ≤ b) : kMinL [⟨p, m, .lst (dints ns)⟩] = some (vi a) := by
  show ((intsOf (dints ns)).bind fun ns => ns.min?.map vi) = _
  rw [intsOf_dints', Option.bind_some, List.min?_eq_some_iff.mpr ⟨h1, h2⟩]
  rfl
/-- [..]; an empty one as deep as is wanted -/
def kLstD (k : Nat) : List VV → Option VV
  | [] => some ⟨false, k + 1, .lst []⟩
  | x :: xs => kLst (x :: xs)
@[simp] theorem e_lstD0 {k : Nat} : kLstD k [] = some ⟨false, k + 1, .lst []⟩ := (rfl)
@[simp] theorem e_lstD1 {k : Nat} {x : VV} {xs : List VV} : kLstD k (x :: xs) = kLst (x :: xs) := (rfl)
end Vs
set_option maxHeartbeats 4000000
/-! sorted(d), d a dict whose keys are tuples of whole numbers -/
namespace Vs
open PySem (Str PyData)
def keysI : List (D × D) → Option (List (List Int))
  | [] => some []
  | (.tup l, _) :: r => (intsOf l).bind fun ns => (keysI r).map (ns :: ·)
  | _ => none
def kSdt (x : VV) : Option VV := match x.d with
  | .dic true l => (keysI l).bind fun ns => if ns.length ≤ 100000 ∧ ns.all (fun n => !n.isEmpty) = true then some ⟨false, 1, .lst ((ns.mergeSort fun p q => decide (p ≤ q)).map fun n => .tup (dints n))⟩ else none
  | _ => none
def kSdtL : List VV → Option VV
  | [x] => kSdt x | _ => none
@[simp] theorem e_sdtL {x : VV} : kSdtL [x] = kSdt x := (rfl)
theorem keysI_map {α : Type} {w : α → D} {k : α → List Int} : ∀ xs : List α, keysI (xs.map fun x => (.tup (dints (k x)), w x)) = some (xs.map k)
  | [] => rfl
  | x :: xs => by
    show (intsOf (dints (k x))).bind _ = _
    rw [intsOf_dints', Option.bind_some, keysI_map xs]
    rfl
theorem e_sdt {b : Bool} {m : Nat} {l : List (D × D)} {ns : List (List Int)} (h : keysI l = some ns) (hl : ns.length ≤ 100000) (hn : ∀ n ∈ ns, n ≠ []) : kSdt ⟨b, m, .dic true l⟩ = some ⟨false, 1, .lst ((ns.mergeSort fun p q => decide (p ≤ q)).map fun n => .tup (dints n))⟩ := by
  unfold kSdt
  simp only
  rw [h, Option.bind_some, if_pos ⟨hl, List.all_eq_true.mpr fun n hm => by cases n with | nil => exact absurd rfl (hn _ hm) | cons => rfl⟩]
end Vs
set_option maxHeartbeats 4000000
/-! Vs: how trees of data lie in memory. -/
namespace Vs
open PySem PySem.Spec PyProof.Rows L2

/-- a dict's key -/
def kD : Key → D
  | .inl i => .int i
  | .inr x => .str x
def tD (ks : List Key) : D := .tup (ks.map kD)
mutual
/-- v stands for d at the heap H: S are the addresses that stay as they are, the last list the ones that are its own, down to the depth told -/
inductive Rp (K : PySem.W.Frag) (S : Addr → Prop) (H : Hp) : Nat → V → D → List Addr → Prop
  | non (m : Nat) : Rp K S H m .non .non []
  | bl (m : Nat) (b : Bool) : Rp K S H m (.bl b) (.bl b) []
  | int (m : Nat) (i : Int) : Rp K S H m (.int i) (.int i) []
  | str (m : Nat) (x : Str) : Rp K S H m (.str x) (.str x) []
  | lst0 {a : Addr} {xs : List V} {ds : List D} : Rd H a (.lst xs) → S a → RpAll K S H 0 xs ds [] → Rp K S H 0 (.ref a) (.lst ds) []
  | lstK {a : Addr} {xs : List V} {ds : List D} : SqL K (fun _ => none) a xs → RpAll K S H 0 xs ds [] → Rp K S H 0 (.ref a) (.lst ds) []
  | lst1 {m : Nat} {a : Addr} {xs : List V} {ds : List D} {f : List Addr} : H a = some (.lst xs) → RpAll K S H m xs ds f → Rp K S H (m + 1) (.ref a) (.lst ds) (a :: f)
  | tup0 {a : Addr} {xs : List V} {ds : List D} : H a = some (.tup xs) → RpAll K S H 0 xs ds [] → Rp K S H 0 (.ref a) (.tup ds) []
  | tup1 {m : Nat} {a : Addr} {xs : List V} {ds : List D} {f : List Addr} : H a = some (.tup xs) → RpAll K S H m xs ds f → Rp K S H (m + 1) (.ref a) (.tup ds) f
  | dk0 {a : Addr} {kvs : List (Key × V)} {ds : List D} : Rd H a (.dK kvs) → S a → RpAll K S H 0 (kvs.map (·.2)) ds [] → Rp K S H 0 (.ref a) (.dic false ((kvs.map fun p => kD p.1).zip ds)) []
  | dk1 {m : Nat} {a : Addr} {kvs : List (Key × V)} {ds : List D} {f : List Addr} : H a = some (.dK kvs) → RpAll K S H m (kvs.map (·.2)) ds f → Rp K S H (m + 1) (.ref a) (.dic false ((kvs.map fun p => kD p.1).zip ds)) (a :: f)
  | dt0 {a : Addr} {kvs : List (List Key × V)} {ds : List D} : H a = some (.dT kvs) → S a → RpAll K S H 0 (kvs.map (·.2)) ds [] → Rp K S H 0 (.ref a) (.dic true ((kvs.map fun p => tD p.1).zip ds)) []
  | dt1 {m : Nat} {a : Addr} {kvs : List (List Key × V)} {ds : List D} {f : List Addr} : H a = some (.dT kvs) → RpAll K S H m (kvs.map (·.2)) ds f → Rp K S H (m + 1) (.ref a) (.dic true ((kvs.map fun p => tD p.1).zip ds)) (a :: f)
  | ob0 {a dx C : Addr} {fs : List (Str × D)} {ws : List V} : H a = some (.ins C dx ((fs.map (·.1)).zip ws)) → S a → objD (cOf C) fs = true → RpAll K S H 0 ws (fs.map (·.2)) [] → Rp K S H 0 (.ref a) (.ins (cOf C) fs) []
  | ob1 {m : Nat} {a dx C : Addr} {fs : List (Str × D)} {ws : List V} {f : List Addr} : H a = some (.ins C dx ((fs.map (·.1)).zip ws)) → objD (cOf C) fs = true → RpAll K S H m ws (fs.map (·.2)) f → Rp K S H (m + 1) (.ref a) (.ins (cOf C) fs) (a :: f)
  | exn0 (m : Nat) (a d : Addr) (c : Str) : Rp K S H m (.ref a) (.ins c [("", .int a), ("", .int d)]) []
  | anyR (m : Nat) (a : Addr) : Rp K S H m (.ref a) (.ins "?" []) []
  | exn1 {m : Nat} {a d : Addr} {c : Str} {fs : List (Str × D)} {ws : List V} : H d = some (.xd ((fs.map (·.1)).zip ws)) → S d → RpAll K S H 0 ws (fs.map (·.2)) [] → Rp K S H m (.ref a) (.ins c (("", .int a) :: ("", .int d) :: fs)) []
inductive RpAll (K : PySem.W.Frag) (S : Addr → Prop) (H : Hp) : Nat → List V → List D → List Addr → Prop
  | nil (m : Nat) : RpAll K S H m [] [] []
  | cons {m : Nat} {v : V} {d : D} {f : List Addr} {vs : List V} {ds : List D} {g : List Addr} : Rp K S H m v d f → RpAll K S H m vs ds g → RpAll K S H m (v :: vs) (d :: ds) (f ++ g)
end

section
variable {K : PySem.W.Frag} {S S' : Addr → Prop} {H H' : Hp}

theorem sqT_keep {a : Addr} {xs : List V} (k : ∀ b o, H b = some o → ¬ Mut (some o) → H' b = some o) (h : SqT K H a xs) : SqT K H' a xs := by
  rcases h with (h | ⟨o, h⟩) | h
  · exact .inl (.inl (k _ _ h fun z => z))
  · exact .inl (.inr ⟨o, k _ _ h fun z => z⟩)
  · exact .inr h
theorem rd_keep {a : Addr} {u : HO} (k : ∀ b o, H b = some o → b = a → H' b = some o) (h : Rd H a u) : Rd H' a u := by
  rcases h with h | ⟨o, h⟩
  · exact .inl (k _ _ h rfl)
  · exact .inr ⟨o, k _ _ h rfl⟩

mutual
theorem Rp.keep (kS : ∀ b o, S b → H b = some o → H' b = some o) (kM : ∀ b o, H b = some o → ¬ Mut (some o) → H' b = some o) (s : ∀ b, S b → S' b) :
    ∀ {m : Nat} {v : V} {d : D} {f : List Addr}, (∀ b o, b ∈ f → H b = some o → H' b = some o) → Rp K S H m v d f → Rp K S' H' m v d f
  | _, _, _, _, _, .non m => .non m
  | _, _, _, _, _, .bl m b => .bl m b
  | _, _, _, _, _, .int m i => .int m i
  | _, _, _, _, _, .str m x => .str m x
  | _, _, _, _, kf, .lst0 h q r => .lst0 (rd_keep (fun b o e z => kS b o (z ▸ q) e) h) (s _ q) (RpAll.keep kS kM s kf r)
  | _, _, _, _, kf, .lstK h r => .lstK h (RpAll.keep kS kM s kf r)
  | _, _, _, _, kf, .lst1 h r => .lst1 (kf _ _ (List.mem_cons_self ..) h) (RpAll.keep kS kM s (fun b o hb => kf b o (List.mem_cons_of_mem _ hb)) r)
  | _, _, _, _, kf, .tup0 h r => .tup0 (kM _ _ h fun z => z) (RpAll.keep kS kM s kf r)
  | _, _, _, _, kf, .tup1 h r => .tup1 (kM _ _ h fun z => z) (RpAll.keep kS kM s kf r)
  | _, _, _, _, kf, .dk0 h q r => .dk0 (rd_keep (fun b o e z => kS b o (z ▸ q) e) h) (s _ q) (RpAll.keep kS kM s kf r)
  | _, _, _, _, kf, .dk1 h r => .dk1 (kf _ _ (List.mem_cons_self ..) h) (RpAll.keep kS kM s (fun b o hb => kf b o (List.mem_cons_of_mem _ hb)) r)
  | _, _, _, _, kf, .dt0 h q r => .dt0 (kS _ _ q h) (s _ q) (RpAll.keep kS kM s kf r)
  | _, _, _, _, kf, .dt1 h r => .dt1 (kf _ _ (List.mem_cons_self ..) h) (RpAll.keep kS kM s (fun b o hb => kf b o (List.mem_cons_of_mem _ hb)) r)
  | _, _, _, _, kf, .ob0 h q oo r => .ob0 (kS _ _ q h) (s _ q) oo (RpAll.keep kS kM s kf r)
  | _, _, _, _, kf, .ob1 h oo r => .ob1 (kf _ _ (List.mem_cons_self ..) h) oo (RpAll.keep kS kM s (fun b o hb => kf b o (List.mem_cons_of_mem _ hb)) r)
  | _, _, _, _, _, .exn0 m a d c => .exn0 m a d c
  | _, _, _, _, _, .anyR m a => .anyR m a
  | _, _, _, _, kf, .exn1 h q r => .exn1 (kS _ _ q h) (s _ q) (RpAll.keep kS kM s kf r)
theorem RpAll.keep (kS : ∀ b o, S b → H b = some o → H' b = some o) (kM : ∀ b o, H b = some o → ¬ Mut (some o) → H' b = some o) (s : ∀ b, S b → S' b) :
    ∀ {m : Nat} {v : List V} {d : List D} {f : List Addr}, (∀ b o, b ∈ f → H b = some o → H' b = some o) → RpAll K S H m v d f → RpAll K S' H' m v d f
  | _, _, _, _, _, .nil m => .nil m
  | _, _, _, _, kf, .cons h r => .cons (Rp.keep kS kM s (fun b o hb => kf b o (List.mem_append_left _ hb)) h) (RpAll.keep kS kM s (fun b o hb => kf b o (List.mem_append_right _ hb)) r)
end
theorem Rp.same (e : Same H H') {m : Nat} {v : V} {d : D} {f : List Addr} (h : Rp K S H m v d f) : Rp K S H' m v d f :=
  h.keep (fun b o _ => e b o) (fun b o q _ => e b o q) (fun _ z => z) fun b o _ => e b o
theorem RpAll.same (e : Same H H') {m : Nat} {v : List V} {d : List D} {f : List Addr} (h : RpAll K S H m v d f) : RpAll K S H' m v d f :=
  h.keep (fun b o _ => e b o) (fun b o q _ => e b o q) (fun _ z => z) fun b o _ => e b o
theorem Rp.more (s : ∀ b, S b → S' b) {m : Nat} {v : V} {d : D} {f : List Addr} (h : Rp K S H m v d f) : Rp K S' H m v d f := h.keep (fun _ _ _ e => e) (fun _ _ e _ => e) s fun _ _ _ e => e
theorem RpAll.more (s : ∀ b, S b → S' b) {m : Nat} {v : List V} {d : List D} {f : List Addr} (h : RpAll K S H m v d f) : RpAll K S' H m v d f := h.keep (fun _ _ _ e => e) (fun _ _ e _ => e) s fun _ _ _ e => e
/-- without a place -/
theorem Rp.imm {m : Nat} {v : V} {d : D} {f : List Addr} (h : Rp K S H m v d f) (i : d.imm = true) : f = [] ∧ ∀ S' H' m', Rp K S' H' m' v d [] := by
  cases h <;> first
    | (cases i; done)
    | (refine ⟨rfl, fun S' H' m' => ?_⟩; constructor)
mutual
theorem RpAll.own0 : ∀ {v : List V} {d : List D} {f : List Addr}, RpAll K S H 0 v d f → f = []
  | _, _, _, .nil _ => rfl
  | _, _, _, .cons h r => by
    rw [Rp.own0 h, RpAll.own0 r]
    rfl
theorem Rp.own0 : ∀ {v : V} {d : D} {f : List Addr}, Rp K S H 0 v d f → f = []
  | _, _, _, .non _ => rfl
  | _, _, _, .bl _ _ => rfl
  | _, _, _, .int _ _ => rfl
  | _, _, _, .str _ _ => rfl
  | _, _, _, .lst0 .. => rfl
  | _, _, _, .lstK .. => rfl
  | _, _, _, .tup0 .. => rfl
  | _, _, _, .dk0 .. => rfl
  | _, _, _, .dt0 .. => rfl
  | _, _, _, .ob0 .. => rfl
  | _, _, _, .exn0 .. => rfl
  | _, _, _, .anyR .. => rfl
  | _, _, _, .exn1 .. => rfl
end
theorem thin_perm {a b a0 a1 b0 b1 : List Addr} (h : a.Perm (a0 ++ a1)) (g : b.Perm (b0 ++ b1)) : (a ++ b).Perm ((a0 ++ b0) ++ (a1 ++ b1)) := by
  refine (h.append g).trans ?_
  rw [List.append_assoc, List.append_assoc]
  refine List.Perm.append_left _ ?_
  rw [← List.append_assoc, ← List.append_assoc]
  exact List.Perm.append_right _ List.perm_append_comm
mutual
/-- known less deep: what was its own below stays as it is from here on -/
theorem Rp.thin : ∀ {m : Nat} {v : V} {d : D} {f : List Addr} (k : Nat), Rp K S H m v d f → ∃ f0 f1, f.Perm (f0 ++ f1) ∧ Rp K (fun x => S x ∨ x ∈ f1) H (min m k) v d f0
  | _, _, _, _, k, .non m => ⟨[], [], .nil, .non _⟩
  | _, _, _, _, k, .bl m b => ⟨[], [], .nil, .bl _ _⟩
  | _, _, _, _, k, .int m i => ⟨[], [], .nil, .int _ _⟩
  | _, _, _, _, k, .str m x => ⟨[], [], .nil, .str _ _⟩
  | _, _, _, _, k, .lst0 h q r => ⟨[], [], .nil, by rw [Nat.zero_min]; exact Rp.more (fun _ => Or.inl) (.lst0 h q r)⟩
  | _, _, _, _, k, .lstK h r => ⟨[], [], .nil, by rw [Nat.zero_min]; exact Rp.more (fun _ => Or.inl) (.lstK h r)⟩
  | _, _, _, _, 0, .lst1 (a := a) h r => by
    obtain ⟨f0, f1, p, q⟩ := RpAll.thin 0 r
    rw [Nat.min_zero] at q ⊢
    obtain ⟨rfl, _⟩ : f0 = [] ∧ True := ⟨RpAll.own0 q, trivial⟩
    refine ⟨[], a :: f1, List.Perm.cons a p, .lst0 (.inl h) (Or.inr (List.mem_cons_self ..)) (RpAll.more (fun b hb => ?_) q)⟩
    exact hb.imp id fun z => List.mem_cons_of_mem _ z
  | _, _, _, _, k + 1, .lst1 (m := m) (a := a) h r => by
    obtain ⟨f0, f1, p, q⟩ := RpAll.thin k r
    rw [Nat.add_min_add_right]
    exact ⟨a :: f0, f1, List.Perm.cons a p, .lst1 h q⟩
  | _, _, _, _, k, .tup0 h r => ⟨[], [], .nil, by rw [Nat.zero_min]; exact Rp.more (fun _ => Or.inl) (.tup0 h r)⟩
  | _, _, _, _, 0, .tup1 h r => by
    obtain ⟨f0, f1, p, q⟩ := RpAll.thin 0 r
    rw [Nat.min_zero] at q ⊢
    obtain ⟨rfl, _⟩ : f0 = [] ∧ True := ⟨RpAll.own0 q, trivial⟩
    exact ⟨[], f1, p, .tup0 h q⟩
  | _, _, _, _, k + 1, .tup1 h r => by
    obtain ⟨f0, f1, p, q⟩ := RpAll.thin k r
    rw [Nat.add_min_add_right]
    exact ⟨f0, f1, p, .tup1 h q⟩
  | _, _, _, _, k, .dk0 h q r => ⟨[], [], .nil, by rw [Nat.zero_min]; exact Rp.more (fun _ => Or.inl) (.dk0 h q r)⟩
  | _, _, _, _, 0, .dk1 (a := a) h r => by
    obtain ⟨f0, f1, p, q⟩ := RpAll.thin 0 r
    rw [Nat.min_zero] at q ⊢
    obtain ⟨rfl, _⟩ : f0 = [] ∧ True := ⟨RpAll.own0 q, trivial⟩
    refine ⟨[], a :: f1, List.Perm.cons a p, .dk0 (.inl h) (Or.inr (List.mem_cons_self ..)) (RpAll.more (fun b hb => ?_) q)⟩
    exact hb.imp id fun z => List.mem_cons_of_mem _ z
  | _, _, _, _, k + 1, .dk1 (m := m) (a := a) h r => by
    obtain ⟨f0, f1, p, q⟩ := RpAll.thin k r
    rw [Nat.add_min_add_right]
    exact ⟨a :: f0, f1, List.Perm.cons a p, .dk1 h q⟩
  | _, _, _, _, k, .dt0 h q r => ⟨[], [], .nil, by rw [Nat.zero_min]; exact Rp.more (fun _ => Or.inl) (.dt0 h q r)⟩
  | _, _, _, _, 0, .dt1 (a := a) h r => by
    obtain ⟨f0, f1, p, q⟩ := RpAll.thin 0 r
    rw [Nat.min_zero] at q ⊢
    obtain ⟨rfl, _⟩ : f0 = [] ∧ True := ⟨RpAll.own0 q, trivial⟩
    refine ⟨[], a :: f1, List.Perm.cons a p, .dt0 h (Or.inr (List.mem_cons_self ..)) (RpAll.more (fun b hb => ?_) q)⟩
    exact hb.imp id fun z => List.mem_cons_of_mem _ z
  | _, _, _, _, k + 1, .dt1 (m := m) (a := a) h r => by
    obtain ⟨f0, f1, p, q⟩ := RpAll.thin k r
    rw [Nat.add_min_add_right]
    exact ⟨a :: f0, f1, List.Perm.cons a p, .dt1 h q⟩
  | _, _, _, _, k, .ob0 h q oo r => ⟨[], [], .nil, by rw [Nat.zero_min]; exact Rp.more (fun _ => Or.inl) (.ob0 h q oo r)⟩
  | _, _, _, _, 0, .ob1 (a := a) h oo r => by
    obtain ⟨f0, f1, p, q⟩ := RpAll.thin 0 r
    rw [Nat.min_zero] at q ⊢
    obtain ⟨rfl, _⟩ : f0 = [] ∧ True := ⟨RpAll.own0 q, trivial⟩
    refine ⟨[], a :: f1, List.Perm.cons a p, .ob0 h (Or.inr (List.mem_cons_self ..)) oo (RpAll.more (fun b hb => ?_) q)⟩
    exact hb.imp id fun z => List.mem_cons_of_mem _ z
  | _, _, _, _, k + 1, .ob1 (m := m) (a := a) h oo r => by
    obtain ⟨f0, f1, p, q⟩ := RpAll.thin k r
    rw [Nat.add_min_add_right]
    exact ⟨a :: f0, f1, List.Perm.cons a p, .ob1 h oo q⟩
  | _, _, _, _, k, .exn0 m a d c => ⟨[], [], .nil, .exn0 _ a d c⟩
  | _, _, _, _, k, .anyR m a => ⟨[], [], .nil, .anyR _ a⟩
  | _, _, _, _, k, .exn1 h q r => ⟨[], [], .nil, .exn1 h (Or.inl q) (RpAll.more (fun _ => Or.inl) r)⟩
theorem RpAll.thin : ∀ {m : Nat} {v : List V} {d : List D} {f : List Addr} (k : Nat), RpAll K S H m v d f → ∃ f0 f1, f.Perm (f0 ++ f1) ∧ RpAll K (fun x => S x ∨ x ∈ f1) H (min m k) v d f0
  | _, _, _, _, k, .nil m => ⟨[], [], .nil, .nil _⟩
  | _, _, _, _, k, .cons h r => by
    obtain ⟨f0, f1, p, q⟩ := Rp.thin k h
    obtain ⟨g0, g1, p', q'⟩ := RpAll.thin k r
    refine ⟨f0 ++ g0, f1 ++ g1, thin_perm p p', .cons (Rp.more (fun b hb => hb.imp id fun z => List.mem_append_left _ z) q) (RpAll.more (fun b hb => hb.imp id fun z => List.mem_append_right _ z) q')⟩
end

/-! ### items -/
theorem RpAll.length : ∀ {m : Nat} {v : List V} {d : List D} {f : List Addr}, RpAll K S H m v d f → v.length = d.length
  | _, _, _, _, .nil _ => rfl
  | _, _, _, _, .cons _ r => congrArg (· + 1) (RpAll.length r)
/-- one of them, and the others: what they have of their own -/
theorem RpAll.at : ∀ {m : Nat} {v : List V} {d : List D} {f : List Addr} {i : Nat} {e : D}, RpAll K S H m v d f → d[i]? = some e →
    ∃ u g1 g g2, v[i]? = some u ∧ f = g1 ++ g ++ g2 ∧ Rp K S H m u e g ∧ (∀ u' e' g', Rp K S H m u' e' g' → RpAll K S H m (v.set i u') (d.set i e') (g1 ++ g' ++ g2)) ∧ RpAll K S H m (v.eraseIdx i) (d.eraseIdx i) (g1 ++ g2)
  | _, _, _, _, i, _, .nil _, h => by simp at h
  | m, _, _, _, 0, e, .cons (v := v) (d := d) (f := f) (vs := vs) (ds := ds) (g := g) h r, q => by
    have q' : d = e := by simpa using q
    subst q'
    exact ⟨v, [], f, g, rfl, by simp, h, fun u' e' g' z => by simpa using RpAll.cons z r, by simpa using r⟩
  | m, _, _, _, i + 1, e, .cons (v := v) (d := d) (f := f) (vs := vs) (ds := ds) (g := g) h r, q => by
    obtain ⟨u, g1, g0, g2, a1, a2, a3, a4, a5⟩ := RpAll.at (i := i) r (by simpa using q)
    refine ⟨u, f ++ g1, g0, g2, by simpa using a1, by rw [a2]; simp [List.append_assoc], a3, fun u' e' g' z => ?_, ?_⟩
    · have := RpAll.cons h (a4 u' e' g' z)
      simpa [List.append_assoc] using this
    · have := RpAll.cons h a5
      simpa [List.append_assoc] using this
theorem RpAll.append : ∀ {m : Nat} {v w : List V} {d e : List D} {f g : List Addr}, RpAll K S H m v d f → RpAll K S H m w e g → RpAll K S H m (v ++ w) (d ++ e) (f ++ g)
  | _, _, _, _, _, _, _, .nil _, h => h
  | _, _, _, _, _, _, _, .cons h r, q => by
    have := RpAll.cons h (RpAll.append r q)
    simpa [List.append_assoc] using this
theorem RpAll.get0 {v : List V} {d : List D} {i : Nat} {e : D} (h : RpAll K S H 0 v d []) (q : d[i]? = some e) : ∃ u, v[i]? = some u ∧ Rp K S H 0 u e [] := by
  obtain ⟨u, g1, g, g2, a1, a2, a3, _⟩ := h.at q
  have : g = [] := by
    cases g1 with
    | nil => cases g with
      | nil => rfl
      | cons => simp at a2
    | cons => simp at a2
  subst this
  exact ⟨u, a1, a3⟩
theorem RpAll.cut0 : ∀ {v : List V} {d : List D} {f : List Addr}, RpAll K S H 0 v d f → ∀ n, RpAll K S H 0 (v.take n) (d.take n) [] ∧ RpAll K S H 0 (v.drop n) (d.drop n) []
  | _, _, _, .nil _, n => by
    rw [List.take_nil, List.take_nil, List.drop_nil, List.drop_nil]
    exact ⟨.nil _, .nil _⟩
  | _, _, _, .cons h r, 0 => by
    have e1 := h.own0
    have e2 := r.own0
    subst e1 e2
    exact ⟨.nil _, .cons (f := []) (g := []) h r⟩
  | _, _, _, .cons h r, n + 1 => by
    have e1 := h.own0
    subst e1
    exact ⟨.cons (f := []) (g := []) h (RpAll.cut0 r n).1, (RpAll.cut0 r n).2⟩
/-- dints stand for themselves -/
theorem RpAll.dints : ∀ (m : Nat) (l : List Int), RpAll K S H m (l.map V.int) (dints l) []
  | m, [] => .nil m
  | m, i :: l => .cons (f := []) (g := []) (.int m i) (RpAll.dints m l)
theorem RpAll.of_ints : ∀ {m : Nat} {v : List V} {f : List Addr} {l : List Int}, RpAll K S H m v (Vs.dints l) f → v = l.map V.int ∧ f = []
  | _, _, _, [], h => by
    cases h
    exact ⟨rfl, rfl⟩
  | _, _, _, i :: l, h => by
    cases h with
    | cons h r =>
      cases h
      obtain ⟨e1, e2⟩ := RpAll.of_ints r
      subst e1 e2
      exact ⟨rfl, rfl⟩
/-- read: a list's place, its items -/
theorem Rp.lst {m : Nat} {v : V} {ds : List D} {f : List Addr} (h : Rp K S H m v (.lst ds) f) : ∃ a xs g, v = .ref a ∧ SqL K H a xs ∧ RpAll K S H (m - 1) xs ds g ∧ (m = 0 → g = []) ∧ (m ≠ 0 → H a = some (.lst xs) ∧ f = a :: g) := by
  cases h with
  | lst0 h q r => exact ⟨_, _, _, rfl, .inl h, r, fun _ => rfl, fun z => absurd rfl z⟩
  | lstK h r =>
    refine ⟨_, _, _, rfl, .inr ?_, r, fun _ => rfl, fun z => absurd rfl z⟩
    rcases h with (h | ⟨o, h⟩) | h
    · cases h
    · cases h
    · exact h
  | lst1 h r => exact ⟨_, _, _, rfl, .inl (.inl h), r, fun z => (nomatch z), fun _ => ⟨h, rfl⟩⟩
theorem Rp.tup {m : Nat} {v : V} {ds : List D} {f : List Addr} (h : Rp K S H m v (.tup ds) f) : ∃ a xs, v = .ref a ∧ SqT K H a xs ∧ RpAll K S H (m - 1) xs ds f := by
  cases h with
  | tup0 h r => exact ⟨_, _, rfl, .inl (.inl h), r⟩
  | tup1 h r => exact ⟨_, _, rfl, .inl (.inl h), r⟩
theorem Rp.vint {m : Nat} {v : V} {i : Int} {f : List Addr} (h : Rp K S H m v (.int i) f) : v = .int i := by cases h; rfl
theorem Rp.vbl {m : Nat} {v : V} {i : Bool} {f : List Addr} (h : Rp K S H m v (.bl i) f) : v = .bl i := by cases h; rfl
theorem Rp.vstr {m : Nat} {v : V} {i : Str} {f : List Addr} (h : Rp K S H m v (.str i) f) : v = .str i := by cases h; rfl
theorem Rp.vnon {m : Nat} {v : V} {f : List Addr} (h : Rp K S H m v .non f) : v = .non := by cases h; rfl
mutual
/-- read as the kit's data -/
theorem Rp.dp : ∀ {m : Nat} {v : V} {d : D} {f : List Addr}, d.flat = true → Rp K S H m v d f → Dp K H v d.py
  | _, _, _, _, _, .non m => .non
  | _, _, _, _, _, .bl m b => .bl b
  | _, _, _, _, _, .int m i => .int i
  | _, _, _, _, _, .str m x => .str x
  | _, _, _, _, hf, .lst0 h q r => by rw [D.py]; exact .lst (.inl h) (RpAll.dp (by rwa [D.flat] at hf) r)
  | _, _, _, _, hf, .lstK h r => by
    rw [D.py]
    refine .lst (.inr ?_) (RpAll.dp (by rwa [D.flat] at hf) r)
    rcases h with (h | ⟨o, h⟩) | h
    · cases h
    · cases h
    · exact h
  | _, _, _, _, hf, .lst1 h r => by rw [D.py]; exact .lst (.inl (.inl h)) (RpAll.dp (by rwa [D.flat] at hf) r)
  | _, _, _, _, hf, .tup0 h r => by rw [D.py]; exact .tup (.inl (.inl h)) (RpAll.dp (by rwa [D.flat] at hf) r)
  | _, _, _, _, hf, .tup1 h r => by rw [D.py]; exact .tup (.inl (.inl h)) (RpAll.dp (by rwa [D.flat] at hf) r)
  | _, _, _, _, hf, .dk0 .. => by rw [D.flat] at hf; cases hf
  | _, _, _, _, hf, .dk1 .. => by rw [D.flat] at hf; cases hf
  | _, _, _, _, hf, .dt0 .. => by rw [D.flat] at hf; cases hf
  | _, _, _, _, hf, .dt1 .. => by rw [D.flat] at hf; cases hf
  | _, _, _, _, hf, .ob0 .. => by rw [D.flat] at hf; cases hf
  | _, _, _, _, hf, .ob1 .. => by rw [D.flat] at hf; cases hf
  | _, _, _, _, hf, .exn0 .. => by rw [D.flat] at hf; cases hf
  | _, _, _, _, hf, .anyR .. => by rw [D.flat] at hf; cases hf
  | _, _, _, _, hf, .exn1 .. => by rw [D.flat] at hf; cases hf
theorem RpAll.dp : ∀ {m : Nat} {v : List V} {d : List D} {f : List Addr}, flatAll d = true → RpAll K S H m v d f → DpAll K H v (pyAll d)
  | _, _, _, _, _, .nil m => by rw [pyAll]; exact .nil
  | _, _, _, _, hf, .cons h r => by
    rw [flatAll, Bool.and_eq_true] at hf
    rw [pyAll]
    exact .cons (Rp.dp hf.1 h) (RpAll.dp hf.2 r)
end
end

/-! ### slots -/
/-- the slots' values stand for the slots' data; what is their own, in some order -/
inductive EnvRp (K : PySem.W.Frag) (S : Addr → Prop) (H : Hp) : List (Option V) → Env → List Addr → Prop
  | nil : EnvRp K S H [] [] []
  | dead {x : Option V} {σ : List (Option V)} {ρ : Env} {F : List Addr} : EnvRp K S H σ ρ F → EnvRp K S H (x :: σ) (none :: ρ) F
  | live {v : V} {m : Nat} {d : D} {f : List Addr} {σ : List (Option V)} {ρ : Env} {F G : List Addr} : Rp K S H m v d f → EnvRp K S H σ ρ F → G.Perm (f ++ F) → EnvRp K S H (some v :: σ) (some (m, d) :: ρ) G
section
variable {K : PySem.W.Frag} {S S' : Addr → Prop} {H H' : Hp} {σ : List (Option V)} {ρ : Env} {F G : List Addr}
theorem EnvRp.perm (h : EnvRp K S H σ ρ F) (p : F.Perm G) : EnvRp K S H σ ρ G := by
  induction h generalizing G with
  | nil => rw [← List.Perm.nil_eq p]; exact .nil
  | dead _ ih => exact .dead (ih p)
  | live r e q _ => exact .live r e (p.symm.trans q)
theorem EnvRp.len (h : EnvRp K S H σ ρ F) : σ.length = ρ.length := by
  induction h with
  | nil => rfl
  | dead _ ih => exact congrArg (· + 1) ih
  | live _ _ _ ih => exact congrArg (· + 1) ih
theorem EnvRp.keep (kS : ∀ b o, S b → H b = some o → H' b = some o) (kM : ∀ b o, H b = some o → ¬ Mut (some o) → H' b = some o) (s : ∀ b, S b → S' b) (h : EnvRp K S H σ ρ F)
    (kf : ∀ b o, b ∈ F → H b = some o → H' b = some o) : EnvRp K S' H' σ ρ F := by
  induction h with
  | nil => exact .nil
  | dead _ ih => exact .dead (ih kf)
  | live r e q ih => exact .live (r.keep kS kM s fun b o hb => kf b o (q.mem_iff.mpr (List.mem_append_left _ hb))) (ih fun b o hb => kf b o (q.mem_iff.mpr (List.mem_append_right _ hb))) q
theorem EnvRp.same (e : Same H H') (h : EnvRp K S H σ ρ F) : EnvRp K S H' σ ρ F := h.keep (fun b o _ => e b o) (fun b o q _ => e b o q) (fun _ z => z) fun b o _ => e b o
theorem EnvRp.more (s : ∀ b, S b → S' b) (h : EnvRp K S H σ ρ F) : EnvRp K S' H σ ρ F := h.keep (fun _ _ _ e => e) (fun _ _ e _ => e) s fun _ _ _ e => e
/-- a slot taken out -/
theorem EnvRp.take {i : Nat} {m : Nat} {d : D} (h : EnvRp K S H σ ρ F) (l : look ρ i = some (m, d)) : ∃ v f G, σ[i]? = some (some v) ∧ Rp K S H m v d f ∧ F.Perm (f ++ G) ∧ EnvRp K S H σ (Vs.put ρ i none) G := by
  induction h generalizing i with
  | nil => cases l
  | dead e ih =>
    cases i with
    | zero => cases l
    | succ i =>
      obtain ⟨v, f, G, h1, h2, h3, h4⟩ := ih l
      exact ⟨v, f, G, by simpa using h1, h2, h3, .dead h4⟩
  | live r e q ih =>
    cases i with
    | zero =>
      obtain ⟨rfl, rfl⟩ : _ = m ∧ _ = d := by simpa using l
      exact ⟨_, _, _, rfl, r, q, .dead e⟩
    | succ i =>
      obtain ⟨v, f, G, h1, h2, h3, h4⟩ := ih l
      refine ⟨v, f, _, by simpa using h1, h2, q.trans ?_, .live r h4 (List.Perm.refl _)⟩
      refine (List.Perm.append_left _ h3).trans ?_
      rw [← List.append_assoc, ← List.append_assoc]
      exact List.Perm.append_right _ List.perm_append_comm
/-- a slot's value let go -/
theorem EnvRp.drop (i : Nat) (h : EnvRp K S H σ ρ F) : ∃ f G, F.Perm (f ++ G) ∧ EnvRp K S H σ (Vs.put ρ i none) G := by
  cases e : look ρ i with
  | none =>
    refine ⟨[], F, .refl _, ?_⟩
    have : Vs.put ρ i none = ρ := by
      clear h
      induction ρ generalizing i with
      | nil => rfl
      | cons x r ih =>
        cases i with
        | zero => have e' : x = none := e; subst e'; rfl
        | succ i => show x :: Vs.put r i none = x :: r; rw [ih i e]
    rw [this]
    exact h
  | some pv =>
    obtain ⟨m, d⟩ := pv
    obtain ⟨v, f, G, _, _, h3, h4⟩ := h.take e
    exact ⟨f, G, h3, h4⟩
theorem put_put (ρ : Env) (i : Nat) (x y : Option PV) : Vs.put (Vs.put ρ i x) i y = Vs.put ρ i y := by
  induction ρ generalizing i with
  | nil => rfl
  | cons z r ih => cases i with
    | zero => rfl
    | succ i => show z :: Vs.put (Vs.put r i x) i y = z :: Vs.put r i y; rw [ih]
/-- a slot filled, its value stored -/
theorem EnvRp.fill {i : Nat} {m : Nat} {v : V} {d : D} {f : List Addr} (h : EnvRp K S H σ (Vs.put ρ i none) F) (hi : i < σ.length) (r : Rp K S H m v d f) : EnvRp K S H (σ.set i (some v)) (Vs.put ρ i (some (m, d))) (f ++ F) := by
  generalize hp : Vs.put ρ i none = ρ' at h
  induction h generalizing i ρ with
  | nil => simp at hi
  | dead e ih =>
    cases ρ with
    | nil => cases hp
    | cons x ρ =>
      cases i with
      | zero =>
        obtain ⟨_, rfl⟩ := List.cons.inj hp
        exact .live r e (.refl _)
      | succ i =>
        obtain ⟨rfl, e2⟩ := List.cons.inj hp
        exact .dead (ih (by simpa using hi) e2)
  | live r' e q ih =>
    cases ρ with
    | nil => cases hp
    | cons x ρ =>
      cases i with
      | zero => cases hp
      | succ i =>
        obtain ⟨rfl, e2⟩ := List.cons.inj hp
        refine .live r' (ih (by simpa using hi) e2) ((List.Perm.append_left _ q).trans ?_)
        rw [← List.append_assoc, ← List.append_assoc]
        exact List.Perm.append_right _ List.perm_append_comm
/-- a slot filled whose value is there -/
theorem EnvRp.back {i : Nat} {m : Nat} {v : V} {d : D} {f : List Addr} (h : EnvRp K S H σ (Vs.put ρ i none) F) (hi : σ[i]? = some (some v)) (r : Rp K S H m v d f) : EnvRp K S H σ (Vs.put ρ i (some (m, d))) (f ++ F) := by
  have hl : i < σ.length := (List.getElem?_eq_some_iff.mp hi).1
  have := h.fill hl r
  rwa [show σ.set i (some v) = σ by
    refine List.ext_getElem? fun j => ?_
    by_cases e : i = j
    · subst e; rw [List.getElem?_set_self hl, hi]
    · rw [List.getElem?_set_ne e]] at this
end

/-! ### steps -/
/-- all but what is in F is as it was; what is new was F's or not there -/
structure Step (S : Addr → Prop) (F : List Addr) (H : Hp) (S' : Addr → Prop) (F' : List Addr) (H' : Hp) : Prop where
  keep : ∀ b o, H b = some o → b ∉ F → H' b = some o
  sub : ∀ b, S b → S' b
  newF : ∀ b, b ∈ F' → b ∈ F ∨ H b = none
  newS : ∀ b, S' b → S b ∨ b ∈ F ∨ H b = none
/-- F is whole: each once, each a thing that may change, none of them S's -/
structure Ok (S : Addr → Prop) (H : Hp) (F : List Addr) : Prop where
  nd : F.Nodup
  mu : ∀ b ∈ F, Mut (H b)
  ns : ∀ b ∈ F, ¬ S b
  tr : ∀ b, S b → H b ≠ none
section
variable {K : PySem.W.Frag} {S S' S'' : Addr → Prop} {H H' H'' : Hp} {F F' F'' G : List Addr}
theorem Step.refl : Step S F H S F H := ⟨fun _ _ e _ => e, fun _ z => z, fun _ z => .inl z, fun _ z => .inl z⟩
theorem Step.trans (a : Step S F H S' F' H') (b : Step S' F' H' S'' F'' H'') : Step S F H S'' F'' H'' := by
  have back : ∀ c, H' c = none → c ∈ F ∨ H c = none := fun c e => by
    by_cases hc : c ∈ F
    · exact .inl hc
    · cases q : H c with
      | none => exact .inr rfl
      | some o => rw [a.keep c o q hc] at e; cases e
  refine ⟨fun c o e hc => b.keep c o (a.keep c o e hc) fun z => ?_, fun c z => b.sub c (a.sub c z), fun c z => ?_, fun c z => ?_⟩
  · rcases a.newF c z with q | q
    · exact hc q
    · rw [e] at q; cases q
  · rcases b.newF c z with q | q
    · exact a.newF c q
    · exact back c q
  · rcases b.newS c z with q | q | q
    · exact a.newS c q
    · exact .inr (a.newF c q)
    · exact .inr (back c q)
theorem Step.of_same (e : Same H H') (h : ∀ b ∈ F', b ∈ F ∨ H b = none) : Step S F H S F' H' := ⟨fun b o q _ => e b o q, fun _ z => z, h, fun _ z => .inl z⟩
theorem Step.less (a : Step S F H S' F' H') (h : ∀ b ∈ F'', b ∈ F') : Step S F H S' F'' H' := ⟨a.keep, a.sub, fun b z => a.newF b (h b z), a.newS⟩
/-- with more around -/
theorem Step.wide (a : Step S F H S' F' H') (h : ∀ b ∈ F, b ∈ G) (hf : ∀ b ∈ F'', b ∈ F' ∨ b ∈ G) : Step S G H S' F'' H' :=
  ⟨fun b o e hb => a.keep b o e fun z => hb (h b z), a.sub, fun b z => (hf b z).elim (fun q => (a.newF b q).imp (h b) id) .inl, fun b z => (a.newS b z).imp id (.imp (h b) id)⟩
theorem Ok.perm (h : Ok S H F) (p : F.Perm G) : Ok S H G := ⟨p.nodup_iff.mp h.nd, fun b hb => h.mu b (p.mem_iff.mpr hb), fun b hb => h.ns b (p.mem_iff.mpr hb), h.tr⟩
theorem Ok.sub (h : Ok S H F) (s : G.Sublist F) : Ok S H G := ⟨h.nd.sublist s, fun b hb => h.mu b (s.subset hb), fun b hb => h.ns b (s.subset hb), h.tr⟩
theorem Ok.mem (h : Ok S H F) {b : Addr} (hb : b ∈ F) : H b ≠ none := fun e => by have := h.mu b hb; rw [e] at this; exact this
/-- what lies beside stays -/
theorem Rp.step (st : Step S F H S' F' H') (ok : Ok S H F) {m : Nat} {v : V} {d : D} {f : List Addr} (hf : ∀ b ∈ f, b ∉ F) (h : Rp K S H m v d f) : Rp K S' H' m v d f :=
  h.keep (fun b o hb e => st.keep b o e fun z => ok.ns b z hb) (fun b o e nm => st.keep b o e fun z => nm (e ▸ ok.mu b z)) st.sub fun b o hb e => st.keep b o e (hf b hb)
theorem EnvRp.step (st : Step S F H S' F' H') (ok : Ok S H F) {σ : List (Option V)} {ρ : Env} {f : List Addr} (hf : ∀ b ∈ f, b ∉ F) (h : EnvRp K S H σ ρ f) : EnvRp K S' H' σ ρ f :=
  h.keep (fun b o hb e => st.keep b o e fun z => ok.ns b z hb) (fun b o e nm => st.keep b o e fun z => nm (e ▸ ok.mu b z)) st.sub fun b o hb e => st.keep b o e (hf b hb)
/-- both parts again whole -/
theorem Ok.join (st : Step S F H S' F' H') (ok : Ok S H (G ++ F)) (ok' : Ok S' H' F') : Ok S' H' (G ++ F') := by
  obtain ⟨n1, n2, n3⟩ := List.nodup_append.mp ok.nd
  have kG : ∀ b ∈ G, ∃ o, H b = some o ∧ H' b = some o := fun b hb => by
    cases q : H b with
    | none => exact absurd q (ok.mem (List.mem_append_left _ hb))
    | some o => exact ⟨o, rfl, st.keep b o q fun z => n3 b hb b z rfl⟩
  refine ⟨List.nodup_append.mpr ⟨n1, ok'.nd, fun a ha b hb e => ?_⟩, fun b hb => ?_, fun b hb => ?_, ok'.tr⟩
  · subst e
    rcases st.newF a hb with z | z
    · exact n3 a ha a z rfl
    · exact ok.mem (List.mem_append_left _ ha) z
  · rcases List.mem_append.mp hb with z | z
    · obtain ⟨o, e1, e2⟩ := kG b z
      have := ok.mu b (List.mem_append_left _ z)
      rw [e2]
      rw [e1] at this
      exact this
    · exact ok'.mu b z
  · rcases List.mem_append.mp hb with z | z
    · intro hs
      rcases st.newS b hs with q | q | q
      · exact ok.ns b (List.mem_append_left _ z) q
      · exact n3 b z b q rfl
      · exact ok.mem (List.mem_append_left _ z) q
    · exact ok'.ns b z
end
end Vs
set_option maxHeartbeats 4000000
/-! Vs: the judgements. -/
namespace Vs
open PySem PySem.Spec PyProof.Rows L2
/-- what leaves: its own context is None -/
abbrev Takes (X : Cx) (W : WX) : Prop := L2N.Takes X W
theorem takes0 {X : Cx} : Takes X fun _ _ _ _ => False := fun u s' ⟨_, _, _, _, _, _, _, _, _, _, _, _, _, _, _, _, w⟩ => w.elim

/-- a value on its way, what it has of its own -/
def VOk (K : PySem.W.Frag) (S : Addr → Prop) (H : Hp) (x : VV) (v : V) (f : List Addr) : Prop :=
  if x.b = true then f = [] ∧ ∃ g, Rp K S H x.m v x.d g else Rp K S H x.m v x.d f
def BOk (S : Addr → Prop) (H : Hp) (x b : Bool) (f : List Addr) : Prop := x = b ∧ f = []
inductive VsOk (K : PySem.W.Frag) (S : Addr → Prop) (H : Hp) : List VV → List V → List Addr → Prop
  | nil : VsOk K S H [] [] []
  | cons {x : VV} {v : V} {f : List Addr} {xs : List VV} {vs : List V} {g : List Addr} : VOk K S H x v f → VsOk K S H xs vs g → VsOk K S H (x :: xs) (v :: vs) (f ++ g)
/-- an exception: its class stands at ct of its name; its fields -/
def ExOk (K : PySem.W.Frag) (ct : Str → Addr) (S : Addr → Prop) (H : Hp) (e : Ex) (C : Value) (d : Option Addr) : Prop :=
  C = .ref (ct e.cls) ∧ ((e.fs = [] ∧ d = none) ∨ ∃ dx ws, e.fs ≠ [] ∧ d = some dx ∧ S dx ∧ H dx = some (.xd ((e.fs.map (·.1)).zip ws)) ∧ RpAll K S H 0 ws (e.fs.map (·.2)) [])

section
variable {K : PySem.W.Frag} {S S' : Addr → Prop} {H H' : Hp}
theorem VOk.own {m : Nat} {d : D} {v : V} {f : List Addr} : VOk K S H ⟨false, m, d⟩ v f = Rp K S H m v d f := by
  unfold VOk
  exact if_neg Bool.false_ne_true
theorem VOk.bor {m : Nat} {d : D} {v : V} {f : List Addr} : VOk K S H ⟨true, m, d⟩ v f = (f = [] ∧ ∃ g, Rp K S H m v d g) := by
  unfold VOk
  exact if_pos rfl
theorem VOk.rp {x : VV} {v : V} {f : List Addr} (h : VOk K S H x v f) : ∃ g, Rp K S H x.m v x.d g := by
  unfold VOk at h
  split at h
  · exact h.2
  · exact ⟨_, h⟩
theorem VOk.same (e : Same H H') {x : VV} {v : V} {f : List Addr} (h : VOk K S H x v f) : VOk K S H' x v f := by
  unfold VOk at h ⊢
  split at h
  · rename_i hb
    rw [if_pos hb]
    obtain ⟨h1, g, h2⟩ := h
    exact ⟨h1, g, h2.same e⟩
  · rename_i hb
    rw [if_neg hb]
    exact h.same e
theorem VOk.more (s : ∀ b, S b → S' b) {x : VV} {v : V} {f : List Addr} (h : VOk K S H x v f) : VOk K S' H x v f := by
  unfold VOk at h ⊢
  split at h
  · rename_i hb
    rw [if_pos hb]
    obtain ⟨h1, g, h2⟩ := h
    exact ⟨h1, g, h2.more s⟩
  · rename_i hb
    rw [if_neg hb]
    exact h.more s
theorem VOk.stab {x : VV} {v : V} {f : List Addr} (s : x.stable = true) (h : VOk K S H x v f) : Rp K S H x.m v x.d f := by
  unfold VOk at h
  split at h
  · rename_i hb
    obtain ⟨h1, g, h2⟩ := h
    have hi : x.d.imm = true := by simpa [VV.stable, hb] using s
    subst h1
    exact (h2.imm hi).2 _ _ _
  · exact h
theorem VOk.of_rp {x : VV} {v : V} {f : List Addr} (s : x.stable = true) (h : Rp K S H x.m v x.d f) : VOk K S H x v f := by
  unfold VOk
  split
  · rename_i hb
    have hi : x.d.imm = true := by simpa [VV.stable, hb] using s
    exact ⟨(h.imm hi).1, _, h⟩
  · exact h
theorem VOk.step {F F' : List Addr} (st : Step S F H S' F' H') (ok : Ok S H F) {x : VV} {v : V} {f : List Addr} (hf : ∀ b ∈ f, b ∉ F) (s : x.stable = true) (h : VOk K S H x v f) : VOk K S' H' x v f :=
  .of_rp s ((h.stab s).step st ok hf)
theorem VsOk.same (e : Same H H') {x : List VV} {v : List V} {f : List Addr} (h : VsOk K S H x v f) : VsOk K S H' x v f := by
  induction h with
  | nil => exact .nil
  | cons h _ ih => exact .cons (h.same e) ih
theorem Ok.same (e : Same H H') {F : List Addr} (h : Ok S H F) : Ok S H' F :=
  ⟨h.nd, fun b hb => by
    have := h.mu b hb
    cases q : H b with
    | none => rw [q] at this; exact this.elim
    | some o => rw [e b o q]; rw [q] at this; exact this, h.ns, fun b hb q => by
    cases z : H b with
    | none => exact h.tr b hb z
    | some o => rw [e b o z] at q; cases q⟩
theorem Ok.tail {f F : List Addr} (h : Ok S H (f ++ F)) : Ok S H F := h.sub (List.sublist_append_right _ _)
theorem Ok.head {f F : List Addr} (h : Ok S H (f ++ F)) : Ok S H f := h.sub (List.sublist_append_left _ _)
theorem Ok.apart {f F : List Addr} (h : Ok S H (f ++ F)) : ∀ b ∈ f, b ∉ F := fun b hb z => (List.nodup_append.mp h.nd).2.2 b hb b z rfl
theorem Ok.two {f F : List Addr} (h : Ok S H f) (g : Ok S H F) (d : ∀ b ∈ f, b ∉ F) : Ok S H (f ++ F) :=
  ⟨List.nodup_append.mpr ⟨h.nd, g.nd, fun a ha b hb e => d a ha (e ▸ hb)⟩, fun b hb => (List.mem_append.mp hb).elim (h.mu b) (g.mu b), fun b hb => (List.mem_append.mp hb).elim (h.ns b) (g.ns b), g.tr⟩
end

/-- how far an expression has gone -/
def Fit (o : Option Env) (S : Addr → Prop) (F : List Addr) (H : Hp) (S' : Addr → Prop) (F' f : List Addr) (H' : Hp) : Prop :=
  match o with
  | none => Same H H' ∧ (∀ b, S b → S' b) ∧ (∀ b, S' b → S b ∨ H b = none) ∧ F' = F ∧ ∀ b ∈ f, H b = none
  | some _ => Step S F H S' (f ++ F') H'
/-- what is wanted where an expression comes to r -/
def Good {α β : Type} (K : PySem.W.Frag) (ct : Str → Addr) (Rel : (Addr → Prop) → Hp → α → β → List Addr → Prop) (W : WX) (S : Addr → Prop) (F : List Addr) (H : Hp) (σ : L2.St) (ρ : Env) (r : R α) (Q : β → Hp → Prop) : Prop :=
  match r with
  | .ok a o => ∀ y S' F' H' f, Fit o S F H S' F' f H' → Rel S' H' a y f → EnvRp K S' H' σ (now o ρ) F' → Ok S' H' (f ++ F') → Q y H'
  | .ex e ρ' => ∀ C d S' F' H', Step S F H S' F' H' → EnvRp K S' H' σ ρ' F' → Ok S' H' F' → ExOk K ct S' H' e C d → W C d σ H'
  | .no => False
section
variable {S S1 S2 : Addr → Prop} {F F1 F2 f g h : List Addr} {H H1 H2 : Hp} {o o' : Option Env}
theorem Fit.step (a : Fit o S F H S1 F1 f H1) : Step S F H S1 (f ++ F1) H1 := by
  cases o with
  | none =>
    obtain ⟨e, u1, u2, rfl, n⟩ := a
    exact ⟨fun b o q _ => e b o q, u1, fun b hb => (List.mem_append.mp hb).elim (fun z => .inr (n b z)) .inl, fun b hb => (u2 b hb).imp id .inr⟩
  | some _ => exact a
theorem Fit.nil : Fit none S F H S F [] H := ⟨Same.refl _, fun _ z => z, fun _ z => .inl z, rfl, by simp⟩
/-- one behind the other; f waits, h is left -/
theorem Fit.thn (a : Fit o S F H S1 F1 f H1) (ok : Ok S1 H1 (f ++ F1)) (b : Fit o' S1 F1 H1 S2 F2 g H2) (hh : ∀ b ∈ h, b ∈ f ∨ b ∈ g ∨ H2 b = none) (e : Same H2 H') : Fit (Vs.thn o o') S F H S2 F2 h H' := by
  cases o' with
  | none =>
    obtain ⟨e2, w1, w2, rfl, n2⟩ := b
    cases o with
    | none =>
      obtain ⟨e1, u1, u2, rfl, n1⟩ := a
      refine ⟨(e1.trans e2).trans e, fun b hb => w1 b (u1 b hb), fun b hb => (w2 b hb).elim (u2 b) fun z => .inr (e1.free z), rfl, fun b hb => ?_⟩
      rcases hh b hb with z | z | z
      · exact n1 b z
      · exact e1.free (n2 b z)
      · exact e1.free (e2.free z)
    | some ρ =>
      refine Step.trans a ⟨fun b o q _ => (e2.trans e) b o q, w1, fun b hb => ?_, fun b hb => (w2 b hb).imp id .inr⟩
      rcases List.mem_append.mp hb with z | z
      · rcases hh b z with z | z | z
        · exact .inl (List.mem_append_left _ z)
        · exact .inr (n2 b z)
        · exact .inr (e2.free z)
      · exact .inl (List.mem_append_right _ z)
  | some ρ =>
    refine a.step.trans (Step.trans (F' := g ++ (f ++ F2)) (H' := H2) (S' := S2) (b.wide (fun b hb => List.mem_append_right _ hb) fun b hb => ?_) (Step.of_same e fun b hb => ?_))
    · simp only [List.mem_append] at hb ⊢
      rcases hb with z | z | z
      · exact .inl (.inl z)
      · exact .inr (.inl z)
      · exact .inl (.inr z)
    · rcases List.mem_append.mp hb with z | z
      · rcases hh b z with z | z | z
        · exact .inl (List.mem_append_right _ (List.mem_append_left _ z))
        · exact .inl (List.mem_append_left _ z)
        · exact .inr z
      · exact .inl (List.mem_append_right _ (List.mem_append_right _ z))
/-- what waits and what has come -/
theorem Fit.both (ok : Ok S1 H1 (f ++ F1)) (b : Fit o' S1 F1 H1 S2 F2 g H2) (ok2 : Ok S2 H2 (g ++ F2)) : Ok S2 H2 ((f ++ g) ++ F2) := by
  rw [List.append_assoc]
  exact Ok.join b.step ok ok2
theorem Ok.cut {S : Addr → Prop} {F g h : List Addr} {H H' : Hp} (ok : Ok S H (g ++ F)) (oh : Ok S H' h) (e : Same H H') (hh : ∀ b ∈ h, b ∈ g ∨ H b = none) : Ok S H' (h ++ F) :=
  oh.two (ok.tail.same e) fun b hb z => (hh b hb).elim (fun q => ok.apart b q z) fun q => ok.mem (List.mem_append_right _ z) q
end

/-- an expression comes to what g says -/
structure SE (ct : Str → Addr) (X : Cx) (e : Expr) (g : M) : Prop where
  run : ∀ W, Takes X W → ∃ t, PE X e t ∧ ∀ S F H σ ρ Q, EnvRp X.K S H σ ρ F → Ok S H F → Good X.K ct (VOk X.K) W S F H σ ρ (g ρ) Q → t σ H Q
structure ST (ct : Str → Addr) (X : Cx) (e : Expr) (g : MT) : Prop where
  run : ∀ W, Takes X W → ∃ t, PT X e t ∧ ∀ S F H σ ρ Q, EnvRp X.K S H σ ρ F → Ok S H F → Good X.K ct BOk W S F H σ ρ (g ρ) Q → t σ H Q
structure SW (ct : Str → Addr) (X : Cx) (e : Expr) (g : MT) : Prop where
  run : ∀ W, Takes X W → ∃ t, PW X e t ∧ ∀ S F H σ ρ Q, EnvRp X.K S H σ ρ F → Ok S H F → Good X.K ct BOk W S F H σ ρ (g ρ) Q → t σ H Q
structure SA (ct : Str → Addr) (X : Cx) (es : List Expr) (g : MA) : Prop where
  run : ∀ W, Takes X W → ∃ t, PA X es t ∧ ∀ S F H σ ρ Q, EnvRp X.K S H σ ρ F → Ok S H F → Good X.K ct (VsOk X.K) W S F H σ ρ (g ρ) Q → t σ H Q

/-- nothing that stood was changed: more stays as it is from here on, h is new or was f's -/
structure Grow (S : Addr → Prop) (H : Hp) (f : List Addr) (S' : Addr → Prop) (h : List Addr) (H' : Hp) : Prop where
  same : Same H H'
  sub : ∀ b, S b → S' b
  newS : ∀ b, S' b → S b ∨ b ∈ f ∨ H b = none
  newF : ∀ b ∈ h, b ∈ f ∨ H b = none
theorem Grow.refl {S : Addr → Prop} {H : Hp} {f : List Addr} : Grow S H f S [] H := ⟨Same.refl _, fun _ z => z, fun _ => .inl, by simp⟩
theorem Fit.grow {o : Option Env} {S S2 S' : Addr → Prop} {F F2 g h : List Addr} {H H2 H' : Hp} (t : Fit o S F H S2 F2 g H2) (k : Ok S2 H2 (g ++ F2)) (gr : Grow S2 H2 g S' h H') : Fit o S F H S' F2 h H' := by
  cases o with
  | none =>
    obtain ⟨e, u1, u2, rfl, n⟩ := t
    refine ⟨e.trans gr.same, fun b hb => gr.sub b (u1 b hb), fun b hb => ?_, rfl, fun b hb => ?_⟩
    · rcases gr.newS b hb with z | z | z
      · exact u2 b z
      · exact .inr (n b z)
      · exact .inr (e.free z)
    · rcases gr.newF b hb with z | z
      · exact n b z
      · exact e.free z
  | some _ =>
    have t : Step S F H S2 (g ++ F2) H2 := t
    have bk : ∀ c, H2 c = none → c ∈ F ∨ H c = none := fun c e => by
      by_cases hc : c ∈ F
      · exact .inl hc
      · cases q : H c with
        | none => exact .inr rfl
        | some o => rw [t.keep c o q hc] at e; cases e
    refine ⟨fun b o e hb => gr.same b o (t.keep b o e hb), fun b hb => gr.sub b (t.sub b hb), fun b hb => ?_, fun b hb => ?_⟩
    · rcases List.mem_append.mp hb with z | z
      · rcases gr.newF b z with q | q
        · exact t.newF b (List.mem_append_left _ q)
        · exact bk b q
      · exact t.newF b (List.mem_append_right _ z)
    · rcases gr.newS b hb with z | z | z
      · exact t.newS b z
      · exact .inr (t.newF b (List.mem_append_left _ z))
      · exact .inr (bk b z)
theorem Grow.ok {S2 S' : Addr → Prop} {F2 g h : List Addr} {H2 H' : Hp} (k : Ok S2 H2 (g ++ F2)) (gr : Grow S2 H2 g S' h H') (oh : Ok S' H' h) : Ok S' H' (h ++ F2) := by
  have kt : Ok S2 H' F2 := k.tail.same gr.same
  refine oh.two ⟨kt.nd, kt.mu, fun b hb z => ?_, oh.tr⟩ fun b hb z => ?_
  · rcases gr.newS b z with q | q | q
    · exact k.tail.ns b hb q
    · exact k.apart b q hb
    · exact k.tail.mem hb q
  · rcases gr.newF b hb with q | q
    · exact k.apart b q z
    · exact k.tail.mem z q
/-- a rule of two values does what k says -/
def Op2 (K : PySem.W.Frag) (r : R2) (k : VV → VV → Option VV) : Prop :=
  ∀ S H x v f y u g z Q, VOk K S H x v f → VOk K S H y u g → Ok S H (f ++ g) → k x y = some z →
    (∀ w H' S' h, Grow S H (f ++ g) S' h H' → VOk K S' H' z w h → Ok S' H' h → Q w H') → r v u H Q
def Op1 (K : PySem.W.Frag) (r : V → Hp → VK → Prop) (k : VV → Option VV) : Prop :=
  ∀ S H x v f z Q, VOk K S H x v f → Ok S H f → k x = some z →
    (∀ w H' S' h, Grow S H f S' h H' → VOk K S' H' z w h → Ok S' H' h → Q w H') → r v H Q
def OpN (K : PySem.W.Frag) (r : List V → Hp → VK → Prop) (k : List VV → Option VV) : Prop :=
  ∀ S H xs vs f z Q, VsOk K S H xs vs f → Ok S H f → k xs = some z →
    (∀ w H' S' h, Grow S H f S' h H' → VOk K S' H' z w h → Ok S' H' h → Q w H') → r vs H Q
section
variable {ct : Str → Addr} {X : Cx} {a b e : Expr} {ga gb : M} {r : R2} {k : VV → VV → Option VV}
/-- the end of a rule -/
theorem fin_rule {S S2 : Addr → Prop} {F F2 g : List Addr} {H H2 : Hp} {W : WX} {σ : L2.St} {ρ : Env} {o2 : Option Env} {Q : VK} {o : Option VV} {t : VK → Prop}
    (st : Fit o2 S F H S2 F2 g H2) (E : EnvRp X.K S2 H2 σ (now o2 ρ) F2) (k : Ok S2 H2 (g ++ F2))
    (ho : ∀ z, o = some z → ∀ Q, (∀ w H' S' h, Grow S2 H2 g S' h H' → VOk X.K S' H' z w h → Ok S' H' h → Q w H') → t Q)
    (gd : Good X.K ct (VOk X.K) W S F H σ ρ ((R.ofO o).aft o2) Q) : t Q := by
  cases q : o with
  | none => rw [q] at gd; exact gd.elim
  | some z =>
    rw [q] at gd
    exact ho z q Q fun w H' S' h gr hw oh => gd w S' F2 H' h (st.grow k gr) hw ((E.same gr.same).more gr.sub) (gr.ok k oh)
theorem run_twoG {Pe : TE → Prop} (ha : SE ct X a ga) (hb : SE ct X b gb) (mk : ∀ {ta tb}, PE X a ta → PE X b tb → Pe (tOp r ta tb)) (ho : Op2 X.K r k) :
    ∀ W, Takes X W → ∃ t, Pe t ∧ ∀ S F H σ ρ Q, EnvRp X.K S H σ ρ F → Ok S H F → Good X.K ct (VOk X.K) W S F H σ ρ (two ga gb k ρ) Q → t σ H Q := by
  intro W tk
  obtain ⟨ta, pa, ra⟩ := ha.run W tk
  obtain ⟨tb, pb, rb⟩ := hb.run W tk
  refine ⟨_, mk pa pb, fun S F H σ ρ Q E ok G => ?_⟩
  show ta σ H fun v H1 => tb σ H1 fun u H2 => r v u H2 Q
  refine ra S F H σ ρ _ E ok ?_
  unfold two at G
  cases qa : ga ρ with
  | no => rw [qa] at G; exact G
  | ex x ρ1 => rw [qa] at G; exact G
  | ok x o1 =>
    rw [qa, R.bind_ok] at G
    intro v S1 F1 H1 f t1 h1 E1 k1
    refine rb S1 F1 H1 σ _ _ E1 k1.tail ?_
    cases qb : gb (now o1 ρ) with
    | no => rw [qb] at G; exact G
    | ex x ρ1 =>
      rw [qb] at G
      intro C d S2 F2 H2 st E2 k2 hx
      exact G C d S2 F2 H2 ((t1.step.less fun b hb => List.mem_append_right _ hb).trans st) E2 k2 hx
    | ok y o2 =>
      rw [qb, R.nxt_ok] at G
      intro u S2 F2 H2 g t2 h2 E2 k2
      split at G
      · rename_i hs
        have k3 : Ok S2 H2 ((f ++ g) ++ F2) := Fit.both k1 t2 k2
        have h1' : VOk X.K S2 H2 x v f := by
          cases o2 with
          | none =>
            obtain ⟨e, w1, _, rfl, _⟩ := t2
            exact (h1.same e).more w1
          | some _ => exact h1.step (t2.step.less fun b hb => hb) k1.tail k1.apart (by simpa using hs)
        have ea : ((R.ofO (k x y)).aft o2).aft o1 = (R.ofO (k x y)).aft (Vs.thn o1 o2) := by
          cases k x y with
          | none => rfl
          | some z => cases o2 <;> rfl
        rw [ea] at G
        refine fin_rule (g := f ++ g) (F2 := F2) (S2 := S2) (t := fun Q => r v u H2 Q) (t1.thn k1 t2 (fun b hb => by rw [List.mem_append] at hb; exact hb.imp id .inl) (Same.refl _)) ?_ k3 (fun z hz Q hq => ?_) G
        · have : now (Vs.thn o1 o2) ρ = now o2 (now o1 ρ) := by cases o2 <;> rfl
          rw [this]
          exact E2
        · exact ho S2 H2 x v f y u g z Q h1' h2 k3.head hz hq
      · exact G.elim
theorem run_two (ha : SE ct X a ga) (hb : SE ct X b gb) (mk : ∀ {ta tb}, PE X a ta → PE X b tb → PE X e (tOp r ta tb)) (ho : Op2 X.K r k) : SE ct X e (two ga gb k) := ⟨run_twoG ha hb mk ho⟩
end
section
variable {α β α2 β2 : Type} {K : PySem.W.Frag} {ct : Str → Addr} {Rel : (Addr → Prop) → Hp → α → β → List Addr → Prop} {Rel2 : (Addr → Prop) → Hp → α2 → β2 → List Addr → Prop} {W : WX} {S S1 : Addr → Prop} {F F1 f : List Addr} {H H1 : Hp} {σ : L2.St} {ρ : Env} {r : R α} {Q : β2 → Hp → Prop} {P : β → Hp → Prop} {o : Option Env}
theorem good_bind {k : α → Env → R α2} (G : Good K ct Rel2 W S F H σ ρ (r.bind ρ k) Q)
    (cont : ∀ a o y S1 F1 H1 f, r = .ok a o → Fit o S F H S1 F1 f H1 → Rel S1 H1 a y f → EnvRp K S1 H1 σ (now o ρ) F1 → Ok S1 H1 (f ++ F1) → Good K ct Rel2 W S F H σ ρ ((k a (now o ρ)).aft o) Q → P y H1) : Good K ct Rel W S F H σ ρ r P := by
  cases r with
  | no => exact G
  | ex x ρ1 => exact G
  | ok a o => exact fun y S1 F1 H1 f t h E ok => cont a o y S1 F1 H1 f rfl t h E ok G
theorem good_after {r : R α2} (t : Fit o S F H S1 F1 f H1) (k : Ok S1 H1 (f ++ F1)) (G : Good K ct Rel2 W S F H σ ρ (r.aft o) Q) : Good K ct Rel2 W S1 F1 H1 σ (now o ρ) r Q := by
  cases r with
  | no => exact G
  | ex x ρ1 => exact fun C d S2 F2 H2 st E2 k2 hx => G C d S2 F2 H2 ((t.step.less fun b hb => List.mem_append_right _ hb).trans st) E2 k2 hx
  | ok a o' =>
    intro y S2 F2 H2 g t2 h E2 k2
    refine G y S2 F2 H2 g (t.thn k t2 (fun b hb => .inr (.inl hb)) (Same.refl _)) h ?_ k2
    have : now (Vs.thn o o') ρ = now o' (now o ρ) := by cases o' <;> rfl
    rw [this]
    exact E2
end
theorem aft_aft {α : Type} (r : R α) (o o' : Option Env) : (r.aft o').aft o = r.aft (Vs.thn o o') := by
  cases r with
  | no => rfl
  | ex _ _ => rfl
  | ok a o2 => cases o2 <;> rfl
theorem now_thn (o o' : Option Env) (ρ : Env) : now (Vs.thn o o') ρ = now o' (now o ρ) := by cases o' <;> rfl

section
variable {ct : Str → Addr} {X : Cx} {a b e : Expr} {es : List Expr} {ga gb : M} {gs : MA}
theorem run_one {r : V → Hp → VK → Prop} {k : VV → Option VV} (ha : SE ct X a ga) (mk : ∀ {ta}, PE X a ta → PE X e (fun σ H Q => ta σ H fun x H1 => r x H1 Q)) (ho : Op1 X.K r k) : SE ct X e (one ga k) := by
  refine ⟨fun W tk => ?_⟩
  obtain ⟨ta, pa, ra⟩ := ha.run W tk
  refine ⟨_, mk pa, fun S F H σ ρ Q E ok G => ra S F H σ ρ _ E ok ?_⟩
  refine good_bind G fun x o v S1 F1 H1 f _ t1 h1 E1 k1 G => ?_
  exact fin_rule (g := f) (t := fun Q => r v H1 Q) t1 E1 k1 (fun z hz Q hq => ho S1 H1 x v f z Q h1 k1.head hz hq) G
theorem sa_nil : SA ct X [] (args []) := ⟨fun W tk => ⟨_, pa_nil, fun S F H σ ρ Q E ok G => G [] S F H [] Fit.nil .nil E ok⟩⟩
theorem sa_cons (ha : SE ct X a ga) {as : List M} (hb : SA ct X es (args as)) (hs : starEach (a :: es) X.env = (false, eval a X.env) :: starEach es X.env := by rfl) : SA ct X (a :: es) (args (ga :: as)) := by
  refine ⟨fun W tk => ?_⟩
  obtain ⟨ta, pa, ra⟩ := ha.run W tk
  obtain ⟨tb, pb, rb⟩ := hb.run W tk
  refine ⟨_, pa_cons pa pb hs, fun S F H σ ρ Q E ok G => ra S F H σ ρ _ E ok ?_⟩
  unfold args at G
  refine good_bind G fun x o1 v S1 F1 H1 f _ t1 h1 E1 k1 G => ?_
  refine rb S1 F1 H1 σ _ _ E1 k1.tail ?_
  cases qb : args as (now o1 ρ) with
  | no => rw [qb] at G; exact G
  | ex x ρ1 =>
    rw [qb] at G
    intro C d S2 F2 H2 st E2 k2 hx
    exact G C d S2 F2 H2 ((t1.step.less fun b hb => List.mem_append_right _ hb).trans st) E2 k2 hx
  | ok y o2 =>
    rw [qb, R.nxt_ok] at G
    intro u S2 F2 H2 g t2 h2 E2 k2
    split at G
    · rename_i hs
      have k3 : Ok S2 H2 ((f ++ g) ++ F2) := Fit.both k1 t2 k2
      have h1' : VOk X.K S2 H2 x v f := by
        cases o2 with
        | none =>
          obtain ⟨e, w1, _, rfl, _⟩ := t2
          exact (h1.same e).more w1
        | some _ => exact h1.step (t2.step.less fun b hb => hb) k1.tail k1.apart (by simpa using hs)
      rw [aft_aft] at G
      refine G (v :: u) S2 F2 H2 (f ++ g) ?_ (.cons h1' h2) ?_ k3
      · exact t1.thn k1 t2 (fun b hb => by rw [List.mem_append] at hb; exact hb.imp id .inl) (Same.refl _)
      · rw [thn_none, now_thn]
        exact E2
    · exact G.elim
theorem run_args {r : List V → Hp → VK → Prop} {k : List VV → Option VV} (ha : SA ct X es gs) (mk : ∀ {t}, PA X es t → PE X e (fun σ H Q => t σ H fun vs H1 => r vs H1 Q)) (ho : OpN X.K r k) : SE ct X e (argsk gs k) := by
  refine ⟨fun W tk => ?_⟩
  obtain ⟨ta, pa, ra⟩ := ha.run W tk
  refine ⟨_, mk pa, fun S F H σ ρ Q E ok G => ra S F H σ ρ _ E ok ?_⟩
  refine good_bind G fun x o v S1 F1 H1 f _ t1 h1 E1 k1 G => ?_
  exact fin_rule (g := f) (t := fun Q => r v H1 Q) t1 E1 k1 (fun z hz Q hq => ho S1 H1 x v f z Q h1 k1.head hz hq) G

/-! ### constants, names -/
theorem run_imm {z : VV} (i : z.d.imm = true) {v : V} (hv : ∀ S H, Rp X.K S H z.m v z.d []) (mk : PE X e (tC v)) : SE ct X e (cst z) :=
  ⟨fun W tk => ⟨_, mk, fun S F H σ ρ Q E ok G => G v S F H [] Fit.nil (.of_rp (by simp [VV.stable, i]) (hv S H)) E ok⟩⟩
theorem s_int {i : Int} {j : Nat} {pos : Pos} : SE ct X (.Constant (.int i) j pos) (cst (vi i)) := run_imm rfl (fun _ _ => .int _ _) pe_int
theorem s_bl {i : Bool} {j : Nat} {pos : Pos} : SE ct X (.Constant (.bool i) j pos) (cst (vb i)) := run_imm rfl (fun _ _ => .bl _ _) pe_bl
theorem s_non {j : Nat} {pos : Pos} : SE ct X (.Constant .none j pos) (cst vn) := run_imm rfl (fun _ _ => .non _) pe_non
theorem s_str {x : Str} {j : Nat} {pos : Pos} : SE ct X (.Constant (.str x) j pos) (cst (vs x)) := run_imm rfl (fun _ _ => .str _ _) pe_str
theorem s_glob {z : VV} {x : Str} {pos : Pos} {u : Value} {w : V} (i : z.d.imm = true) (hv : ∀ S H, Rp X.K S H z.m w z.d []) (hg : Gl X x) (hm : X.mg x = some u) (r : RelV w u) (hdb : (x == ("__debug__" : Str)) = false := by decide) : SE ct X (.Name x pos) (cst z) := run_imm i hv (pe_glob hg hm r (hd := hdb))
theorem s_v (i : Nat) {x : Str} {pos : Pos} (hN : X.N[i]? = some x := by rfl) (hv : Vis X.env.scope x := by first | exact Or.inl rfl | exact Or.inr (Or.inl rfl) | exact Or.inr (Or.inr rfl)) (hd : (x == ("__debug__" : Str)) = false := by decide)
    (hcd : (x == ("__classdict__" : Str)) = false := by decide) : SE ct X (.Name x pos) (v i) := by
  refine ⟨fun W tk => ⟨_, pv i hN hv hd hcd, fun S F H σ ρ Q E ok G => ?_⟩⟩
  unfold v at G
  cases q : look ρ i with
  | none => rw [q] at G; exact G.elim
  | some pv =>
    obtain ⟨m, d⟩ := pv
    rw [q] at G
    obtain ⟨v, f, G', h1, h2, _⟩ := E.take q
    refine ⟨v, h1, G v S F H [] Fit.nil ?_ E ok⟩
    cases m with
    | zero =>
      obtain rfl := h2.own0
      show VOk X.K S H ⟨false, 0, d⟩ v []
      rw [VOk.own]
      exact h2
    | succ m =>
      show VOk X.K S H ⟨true, m + 1, d⟩ v []
      rw [VOk.bor]
      exact ⟨rfl, f, h2⟩
/-- slots known less deep -/
theorem thin_env {K : PySem.W.Frag} {S : Addr → Prop} {H : Hp} {σ : L2.St} (k : Nat) : ∀ (is : List Nat) {ρ : Env} {F : List Addr}, EnvRp K S H σ ρ F → Ok S H F →
    ∃ S' F', Step S F H S' F' H ∧ EnvRp K S' H σ (thin k is ρ) F' ∧ Ok S' H F' := by
  intro is
  induction is generalizing S with
  | nil => exact fun E ok => ⟨S, _, Step.refl, E, ok⟩
  | cons i is ih =>
    intro ρ F E ok
    unfold thin
    cases q : look ρ i with
    | none => exact ih E ok
    | some pv =>
      obtain ⟨m, d⟩ := pv
      obtain ⟨v, f, G', h1, h2, p, E'⟩ := E.take q
      obtain ⟨f0, f1, p2, h3⟩ := h2.thin k
      have okp : Ok S H (f ++ G') := ok.perm p
      have p3 : (f ++ G').Perm (f1 ++ (f0 ++ G')) := by
        refine (List.Perm.append_right _ (p2.trans List.perm_append_comm)).trans ?_
        rw [List.append_assoc]
      have okq : Ok S H (f1 ++ (f0 ++ G')) := okp.perm p3
      let S1 : Addr → Prop := fun x => S x ∨ x ∈ f1
      have E1 : EnvRp K S1 H σ (Vs.put ρ i (some (min m k, d))) (f0 ++ G') := EnvRp.back (E'.more fun _ => Or.inl) h1 h3
      have ok1 : Ok S1 H (f0 ++ G') := ⟨okq.tail.nd, okq.tail.mu, fun b hb z => z.elim (okq.tail.ns b hb) fun z => okq.apart b z hb, fun b hb => hb.elim (okq.tr b) fun z => okq.mem (List.mem_append_left _ z)⟩
      have st1 : Step S F H S1 (f0 ++ G') H := ⟨fun _ _ e _ => e, fun _ => Or.inl, fun b hb => .inl ((p.trans p3).mem_iff.mpr (List.mem_append_right _ hb)), fun b hb => hb.imp id fun z => .inl ((p.trans p3).mem_iff.mpr (List.mem_append_left _ z))⟩
      obtain ⟨S', F', st2, E2, ok2⟩ := ih E1 ok1
      exact ⟨S', F', st1.trans st2, E2, ok2⟩
theorem s_fz {k : Nat} {is : List Nat} (ha : SE ct X a ga) : SE ct X a (fz k is ga) := by
  refine ⟨fun W tk => ?_⟩
  obtain ⟨ta, pa, ra⟩ := ha.run W tk
  refine ⟨ta, pa, fun S F H σ ρ Q E ok G => ?_⟩
  unfold fz at G
  by_cases hk : isThin k is ρ = true
  · rw [if_pos hk] at G
    exact ra S F H σ ρ Q E ok G
  · rw [if_neg hk] at G
    obtain ⟨S', F', st, E', ok'⟩ := thin_env k is E ok
    exact ra S' F' H σ _ Q E' ok' (good_after (o := some (thin k is ρ)) (f := []) st ok' G)

/-! ### tests -/
theorem run_tst {tru : D → Option Bool} (ha : SE ct X a ga) {r : V → Hp → (Bool → Hp → Prop) → Prop} (mk : ∀ {ta}, PE X a ta → PT X a (fun σ H Q => ta σ H fun x H1 => r x H1 Q))
    (ho : ∀ S H x v f b Q, VOk X.K S H x v f → tru x.d = some b → Q b H → r v H Q) : ST ct X a (tst ga tru) := by
  refine ⟨fun W tk => ?_⟩
  obtain ⟨ta, pa, ra⟩ := ha.run W tk
  refine ⟨_, mk pa, fun S F H σ ρ Q E ok G => ra S F H σ ρ _ E ok ?_⟩
  refine good_bind G fun x o v S1 F1 H1 f _ t1 h1 E1 k1 G => ?_
  cases q : tru x.d with
  | none => rw [q] at G; exact G.elim
  | some b =>
    rw [q] at G
    exact ho S1 H1 x v f b Q h1 q (G b S1 F1 H1 [] (t1.thn (f := f) (g := []) (o' := none) k1 Fit.nil (fun b hb => absurd hb (by simp)) (Same.refl _)) ⟨rfl, rfl⟩ E1 k1.tail)
theorem t_val (ha : SE ct X a ga) (he : ∀ whole, isTrue a X.env whole = (do let v ← whole; standAt a.pos; holding [v] (truthy v)) := by intro _; rfl) : ST ct X a (tst ga blOf) := by
  refine run_tst (r := fun x H Q => ∃ c, x = .bl c ∧ Q c H) ha (fun pa => pt_val pa he) fun S H x v f b Q h hb q => ?_
  obtain ⟨g, h⟩ := h.rp
  have : x.d = .bl b := by
    cases e : x.d <;> rw [e] at hb <;> simp [blOf] at hb
    rw [hb]
  rw [this] at h
  exact ⟨b, h.vbl, q⟩
variable {ta' tb' : MT} {rest : List Expr} {pos : Pos}
theorem t_not (ha : ST ct X a ta') : ST ct X (.UnaryOp .Not a pos) (tnot ta') := by
  refine ⟨fun W tk => ?_⟩
  obtain ⟨ta, pa, ra⟩ := ha.run W tk
  refine ⟨_, pt_not pa, fun S F H σ ρ Q E ok G => ra S F H σ ρ _ E ok ?_⟩
  refine good_bind G fun x o v S1 F1 H1 f _ t1 h1 E1 k1 G => ?_
  obtain ⟨rfl, rfl⟩ := h1
  exact G _ S1 F1 H1 [] (by rw [thn_none]; exact t1) ⟨rfl, rfl⟩ E1 k1
theorem w_and1 (ha : ST ct X a ta') : SW ct X (.BoolOp .And [a] pos) ta' := ⟨fun W tk => let ⟨_, p, r⟩ := ha.run W tk; ⟨_, pw_and1 p, r⟩⟩
theorem w_or1 (ha : ST ct X a ta') : SW ct X (.BoolOp .Or [a] pos) ta' := ⟨fun W tk => let ⟨_, p, r⟩ := ha.run W tk; ⟨_, pw_or1 p, r⟩⟩
theorem w_pt (ha : SW ct X a ta') : ST ct X a ta' := ⟨fun W tk => let ⟨_, p, r⟩ := ha.run W tk; ⟨_, p.pt, r⟩⟩
theorem w_and (ha : ST ct X a ta') (hb : SW ct X (.BoolOp .And (b :: rest) pos) tb') : SW ct X (.BoolOp .And (a :: b :: rest) pos) (tand ta' tb') := by
  refine ⟨fun W tk => ?_⟩
  obtain ⟨ta, pa, ra⟩ := ha.run W tk
  obtain ⟨tb, pb, rb⟩ := hb.run W tk
  refine ⟨_, pw_and pa pb, fun S F H σ ρ Q E ok G => ra S F H σ ρ _ E ok ?_⟩
  refine good_bind G fun x o v S1 F1 H1 f _ t1 h1 E1 k1 G => ?_
  obtain ⟨rfl, rfl⟩ := h1
  cases x with
  | false =>
    rw [if_neg Bool.false_ne_true] at G ⊢
    exact G _ S1 F1 H1 [] (by rw [thn_none]; exact t1) ⟨rfl, rfl⟩ E1 k1
  | true =>
    rw [if_pos rfl] at G ⊢
    exact rb S1 F1 H1 σ _ Q E1 k1 (good_after t1 k1 G)
theorem w_or (ha : ST ct X a ta') (hb : SW ct X (.BoolOp .Or (b :: rest) pos) tb') : SW ct X (.BoolOp .Or (a :: b :: rest) pos) (tor ta' tb') := by
  refine ⟨fun W tk => ?_⟩
  obtain ⟨ta, pa, ra⟩ := ha.run W tk
  obtain ⟨tb, pb, rb⟩ := hb.run W tk
  refine ⟨_, pw_or pa pb, fun S F H σ ρ Q E ok G => ra S F H σ ρ _ E ok ?_⟩
  refine good_bind G fun x o v S1 F1 H1 f _ t1 h1 E1 k1 G => ?_
  obtain ⟨rfl, rfl⟩ := h1
  cases x with
  | true =>
    rw [if_pos rfl] at G ⊢
    exact G _ S1 F1 H1 [] (by rw [thn_none]; exact t1) ⟨rfl, rfl⟩ E1 k1
  | false =>
    rw [if_neg Bool.false_ne_true] at G ⊢
    exact rb S1 F1 H1 σ _ Q E1 k1 (good_after t1 k1 G)
theorem s_one {op} (h : SE ct X a ga) : SE ct X (.BoolOp op [a] pos) ga := ⟨fun W tk => let ⟨_, p, r⟩ := h.run W tk; ⟨_, pe_one p, r⟩⟩
theorem s_and (ha : SE ct X a ga) (hb : SE ct X (.BoolOp .And (b :: rest) pos) gb) : SE ct X (.BoolOp .And (a :: b :: rest) pos) (vand ga gb) := by
  refine ⟨fun W tk => ?_⟩
  obtain ⟨ta, pa, ra⟩ := ha.run W tk
  obtain ⟨tb, pb, rb⟩ := hb.run W tk
  refine ⟨_, pe_and pa pb, fun S F H σ ρ Q E ok G => ra S F H σ ρ _ E ok ?_⟩
  refine good_bind G fun x o v S1 F1 H1 f _ t1 h1 E1 k1 G => ?_
  obtain ⟨g, h⟩ := h1.rp
  cases q : x.d with
  | bl c =>
    rw [q] at G h
    obtain rfl := h.vbl
    refine ⟨c, rfl, ?_⟩
    cases c with
    | false =>
      rw [if_neg Bool.false_ne_true]
      exact G _ S1 F1 H1 [] (t1.thn (f := f) (g := []) (o' := none) k1 Fit.nil (fun b hb => absurd hb (by simp)) (Same.refl _)) (by rw [VOk.own]; exact .bl _ _) E1 k1.tail
    | true =>
      rw [if_pos rfl]
      exact rb S1 F1 H1 σ _ Q E1 k1.tail (good_after t1 k1 G)
  | _ => rw [q] at G; exact G.elim
theorem s_or (ha : SE ct X a ga) (hb : SE ct X (.BoolOp .Or (b :: rest) pos) gb) : SE ct X (.BoolOp .Or (a :: b :: rest) pos) (vor ga gb) := by
  refine ⟨fun W tk => ?_⟩
  obtain ⟨ta, pa, ra⟩ := ha.run W tk
  obtain ⟨tb, pb, rb⟩ := hb.run W tk
  refine ⟨_, pe_or pa pb, fun S F H σ ρ Q E ok G => ra S F H σ ρ _ E ok ?_⟩
  refine good_bind G fun x o v S1 F1 H1 f _ t1 h1 E1 k1 G => ?_
  obtain ⟨g, h⟩ := h1.rp
  cases q : x.d with
  | bl c =>
    rw [q] at G h
    obtain rfl := h.vbl
    refine ⟨c, rfl, ?_⟩
    cases c with
    | true =>
      rw [if_pos rfl]
      exact G _ S1 F1 H1 [] (t1.thn (f := f) (g := []) (o' := none) k1 Fit.nil (fun b hb => absurd hb (by simp)) (Same.refl _)) (by rw [VOk.own]; exact .bl _ _) E1 k1.tail
    | false =>
      rw [if_neg Bool.false_ne_true]
      exact rb S1 F1 H1 σ _ Q E1 k1.tail (good_after t1 k1 G)
  | _ => rw [q] at G; exact G.elim
theorem s_ift {c : Expr} (hc : ST ct X c ta') (ha : SE ct X a ga) (hb : SE ct X b gb) : SE ct X (.IfExp c a b pos) (ift ta' ga gb) := by
  refine ⟨fun W tk => ?_⟩
  obtain ⟨tc, pc, rc⟩ := hc.run W tk
  obtain ⟨ta, pa, ra⟩ := ha.run W tk
  obtain ⟨tb, pb, rb⟩ := hb.run W tk
  refine ⟨_, pe_ifExp pc pa pb, fun S F H σ ρ Q E ok G => rc S F H σ ρ _ E ok ?_⟩
  refine good_bind G fun x o v S1 F1 H1 f _ t1 h1 E1 k1 G => ?_
  obtain ⟨rfl, rfl⟩ := h1
  cases x with
  | true =>
    rw [if_pos rfl] at G ⊢
    exact ra S1 F1 H1 σ _ Q E1 k1 (good_after t1 k1 G)
  | false =>
    rw [if_neg Bool.false_ne_true] at G ⊢
    exact rb S1 F1 H1 σ _ Q E1 k1 (good_after t1 k1 G)
end
end Vs
set_option maxHeartbeats 4000000
/-! Vs: statements. -/
namespace Vs
open PySem PySem.Spec PyProof.Rows L2

/-- the parameters that are lent are never assigned -/
def Kp (lent : List Bool) (σ σ' : List (Option V)) : Prop := σ'.length = σ.length ∧ ∀ i : Nat, lent[i]? = some true → σ'[i]? = σ[i]?
theorem Kp.refl {lent : List Bool} {σ : List (Option V)} : Kp lent σ σ := ⟨rfl, fun _ _ => rfl⟩
theorem Kp.trans {lent : List Bool} {σ σ1 σ2 : List (Option V)} (a : Kp lent σ σ1) (b : Kp lent σ1 σ2) : Kp lent σ σ2 := ⟨b.1.trans a.1, fun i h => (b.2 i h).trans (a.2 i h)⟩
theorem Kp.set {lent : List Bool} {σ : List (Option V)} {i : Nat} {x : Option V} (h : lent[i]? ≠ some true) : Kp lent σ (σ.set i x) := ⟨List.length_set, fun j hj => List.getElem?_set_ne fun e => h (by rw [e]; exact hj)⟩

/-- what is wanted where a statement comes to fl -/
def GoodS (K : PySem.W.Frag) (ct : Str → Addr) (lent : List Bool) (W : WX) (D : Ends) (S : Addr → Prop) (F : List Addr) (H : Hp) (σ : L2.St) (fl : Fl) : Prop :=
  match fl with
  | .nx ρ' => ∀ σ' S' F' H', Step S F H S' F' H' → EnvRp K S' H' σ' ρ' F' → Ok S' H' F' → Kp lent σ σ' → D.nx σ' H'
  | .brk ρ' => ∀ σ' S' F' H', Step S F H S' F' H' → EnvRp K S' H' σ' ρ' F' → Ok S' H' F' → Kp lent σ σ' → D.bk σ' H'
  | .ct ρ' => ∀ σ' S' F' H', Step S F H S' F' H' → EnvRp K S' H' σ' ρ' F' → Ok S' H' F' → Kp lent σ σ' → D.ct σ' H'
  | .ret pv ρ' => ∀ v f σ' S' F' H', Step S F H S' (f ++ F') H' → Rp K S' H' pv.1 v pv.2 f → EnvRp K S' H' σ' ρ' F' → Ok S' H' (f ++ F') → Kp lent σ σ' → D.rt v H'
  | .ex e ρ' => ∀ C d σ' S' F' H', Step S F H S' F' H' → EnvRp K S' H' σ' ρ' F' → Ok S' H' F' → Kp lent σ σ' → ExOk K ct S' H' e C d → W C d σ' H'
  | .no => False
section
variable {K : PySem.W.Frag} {ct : Str → Addr} {lent : List Bool} {W : WX} {D D' : Ends} {S S1 : Addr → Prop} {F F1 : List Addr} {H H1 : Hp} {σ σ1 : L2.St} {fl : Fl}
theorem GoodS.from (st : Step S F H S1 F1 H1) (kp : Kp lent σ σ1) (g : GoodS K ct lent W D S F H σ fl) : GoodS K ct lent W D S1 F1 H1 σ1 fl := by
  cases fl with
  | nx ρ' => exact fun σ' S' F' H' t E o k => g σ' S' F' H' (st.trans t) E o (kp.trans k)
  | brk ρ' => exact fun σ' S' F' H' t E o k => g σ' S' F' H' (st.trans t) E o (kp.trans k)
  | ct ρ' => exact fun σ' S' F' H' t E o k => g σ' S' F' H' (st.trans t) E o (kp.trans k)
  | ret pv ρ' => exact fun v f σ' S' F' H' t h E o k => g v f σ' S' F' H' (st.trans t) h E o (kp.trans k)
  | ex e ρ' => exact fun C d σ' S' F' H' t E o k x => g C d σ' S' F' H' (st.trans t) E o (kp.trans k) x
  | no => exact g
theorem GoodS.narrow (s : ∀ b ∈ F1, b ∈ F) (g : GoodS K ct lent W D S F H σ fl) : GoodS K ct lent W D S F1 H σ fl := by
  have w : ∀ {S' : Addr → Prop} {F' : List Addr} {H' : Hp}, Step S F1 H S' F' H' → Step S F H S' F' H' := fun st => st.wide s fun b hb => .inl hb
  cases fl with
  | nx ρ' => exact fun σ' S' F' H' t E o k => g σ' S' F' H' (w t) E o k
  | brk ρ' => exact fun σ' S' F' H' t E o k => g σ' S' F' H' (w t) E o k
  | ct ρ' => exact fun σ' S' F' H' t E o k => g σ' S' F' H' (w t) E o k
  | ret pv ρ' => exact fun v f σ' S' F' H' t h E o k => g v f σ' S' F' H' (w t) h E o k
  | ex e ρ' => exact fun C d σ' S' F' H' t E o k x => g C d σ' S' F' H' (w t) E o k x
  | no => exact g
/-- an expression ahead of what follows -/
theorem good_go {α β : Type} {Rel : (Addr → Prop) → Hp → α → β → List Addr → Prop} {ρ : Env} {r : R α} {k : α → Env → Fl} {P : β → Hp → Prop} (G : GoodS K ct lent W D S F H σ (r.go ρ k))
    (cont : ∀ a o y S1 F1 H1 f, Step S F H S1 (f ++ F1) H1 → Rel S1 H1 a y f → EnvRp K S1 H1 σ (now o ρ) F1 → Ok S1 H1 (f ++ F1) → GoodS K ct lent W D S F H σ (k a (now o ρ)) → P y H1) : Good K ct Rel W S F H σ ρ r P := by
  cases r with
  | no => exact G
  | ex x ρ1 => exact fun C d S' F' H' st E o hx => G C d σ S' F' H' st E o Kp.refl hx
  | ok a o => exact fun y S1 F1 H1 f t h E ok => cont a o y S1 F1 H1 f t.step h E ok G
end

structure SS (ct : Str → Addr) (lent : List Bool) (X : Cx) (st : Stmt) (g : MS) : Prop where
  run : ∀ W, Takes X W → PassesOwn (model X.prog X.w) X.A X.env X.xe → ∃ t, PS X st t ∧ ∀ S F H σ ρ D, EnvRp X.K S H σ ρ F → Ok S H F → GoodS X.K ct lent W D S F H σ (g ρ) → t D σ H
structure SSs (ct : Str → Addr) (lent : List Bool) (X : Cx) (st : List Stmt) (g : MS) : Prop where
  run : ∀ W, Takes X W → PassesOwn (model X.prog X.w) X.A X.env X.xe → ∃ t, PSs X st t ∧ ∀ S F H σ ρ D, EnvRp X.K S H σ ρ F → Ok S H F → GoodS X.K ct lent W D S F H σ (g ρ) → t D σ H
/-- a target -/
structure SG (ct : Str → Addr) (lent : List Bool) (X : Cx) (tg : Expr) (g : MG) : Prop where
  run : ∀ W, Takes X W → ∃ t, PG X tg t ∧ ∀ S F H σ ρ x v f D Q, VOk X.K S H x v f → EnvRp X.K S H σ ρ F → Ok S H (f ++ F) → (∀ σ' H', D.nx σ' H' → Q σ' H') → GoodS X.K ct lent W D S (f ++ F) H σ (g x ρ) → t v σ H Q
structure SGs (ct : Str → Addr) (lent : List Bool) (X : Cx) (tg : List Expr) (gs : List MG) : Prop where
  run : ∀ W, Takes X W → ∃ t, PGs X tg t ∧ ∀ S F H σ ρ xs vs f D Q, VsOk X.K S H xs vs f → (∀ x ∈ xs, x.stable = true) → EnvRp X.K S H σ ρ F → Ok S H (f ++ F) → (∀ σ' H', D.nx σ' H' → Q σ' H') → GoodS X.K ct lent W D S (f ++ F) H σ (gall gs xs ρ) → t vs σ H Q

section
variable {ct : Str → Addr} {lent : List Bool} {X : Cx} {st : Stmt} {rest : List Stmt} {g h : MS} {e : Expr} {ge : M} {pos : Pos}
theorem ss_nil : SSs ct lent X [] skip := ⟨fun W tk po => ⟨_, pss_nil, fun S F H σ ρ D E ok G => G σ S F H Step.refl E ok Kp.refl⟩⟩
theorem ss_one (h1 : SS ct lent X st g) : SSs ct lent X [st] g := ⟨fun W tk po => let ⟨_, p, r⟩ := h1.run W tk po; ⟨_, pss_one p, r⟩⟩
theorem ss_cons (h1 : SS ct lent X st g) (h2 : SSs ct lent X rest h) : SSs ct lent X (st :: rest) (sq g h) := by
  refine ⟨fun W tk po => ?_⟩
  obtain ⟨t1, p1, r1⟩ := h1.run W tk po
  obtain ⟨t2, p2, r2⟩ := h2.run W tk po
  refine ⟨_, pss_cons p1 p2, fun S F H σ ρ D E ok G => ?_⟩
  show t1 { D with nx := t2 D } σ H
  refine r1 S F H σ ρ _ E ok ?_
  unfold sq at G
  cases q : g ρ with
  | nx ρ1 =>
    rw [q] at G
    exact fun σ1 S1 F1 H1 st1 E1 ok1 kp => r2 S1 F1 H1 σ1 ρ1 D E1 ok1 (GoodS.from st1 kp G)
  | _ => rw [q] at G; exact G
theorem ss_expr (he : SE ct X e ge) (hs : swapsWith e none pos.line X.env = pure false := by rfl) : SS ct lent X (.Expr e pos) (ex ge) := by
  refine ⟨fun W tk po => ?_⟩
  obtain ⟨ta, pa, ra⟩ := he.run W tk
  refine ⟨_, ps_expr pa hs, fun S F H σ ρ D E ok G => ra S F H σ ρ _ E ok ?_⟩
  exact good_go G fun a o y S1 F1 H1 f st h E1 ok1 G => G σ S1 F1 H1 (st.less fun b hb => List.mem_append_right _ hb) E1 ok1.tail Kp.refl
theorem kept_some {x : VV} {pv : PV} (h : x.kept = some pv) : x.stable = true ∧ pv = (x.m, x.d) := by
  unfold VV.kept at h
  split at h
  · rename_i hs
    exact ⟨hs, (Option.some.inj h).symm⟩
  · cases h
theorem ss_ret (he : SE ct X e ge) : SS ct lent X (.Return (some e) pos) (ret ge) := by
  refine ⟨fun W tk po => ?_⟩
  obtain ⟨ta, pa, ra⟩ := he.run W tk
  refine ⟨_, ps_ret pa, fun S F H σ ρ D E ok G => ra S F H σ ρ _ E ok ?_⟩
  refine good_go G fun a o y S1 F1 H1 f st h E1 ok1 G => ?_
  cases q : a.kept with
  | none => rw [q] at G; exact G.elim
  | some pv =>
    rw [q] at G
    obtain ⟨hs, rfl⟩ := kept_some q
    exact G y f σ S1 F1 H1 st (h.stab hs) E1 ok1 Kp.refl
theorem ss_retN : SS ct lent X (.Return none pos) retN := ⟨fun W tk po => ⟨_, ps_retN, fun S F H σ ρ D E ok G => G .non [] σ S F H Step.refl (.non _) E ok Kp.refl⟩⟩
theorem ss_pass : SS ct lent X (.Pass pos) skip := ⟨fun W tk po => ⟨_, ps_pass, fun S F H σ ρ D E ok G => G σ S F H Step.refl E ok Kp.refl⟩⟩
theorem ss_doc {x j pos pos'} : SS ct lent X (.Expr (.Constant (.str x) j pos) pos') skip := ⟨fun W tk po => ⟨_, ps_doc, fun S F H σ ρ D E ok G => G σ S F H Step.refl E ok Kp.refl⟩⟩
def brk : MS := fun ρ => .brk ρ
def cont : MS := fun ρ => .ct ρ
theorem ss_break : SS ct lent X (.Break pos) brk := ⟨fun W tk po => ⟨_, ps_break, fun S F H σ ρ D E ok G => G σ S F H Step.refl E ok Kp.refl⟩⟩
theorem ss_cont : SS ct lent X (.Continue pos) cont := ⟨fun W tk po => ⟨_, ps_continue, fun S F H σ ρ D E ok G => G σ S F H Step.refl E ok Kp.refl⟩⟩
theorem ss_if {c : Expr} {gc : MT} {a b : List Stmt} (hc : ST ct X c gc) (ha : SSs ct lent X a g) (hb : SSs ct lent X b h) : SS ct lent X (.If c a b pos) (ifs gc g h) := by
  refine ⟨fun W tk po => ?_⟩
  obtain ⟨tc, pc, rc⟩ := hc.run W tk
  obtain ⟨ta, pa, ra⟩ := ha.run W tk po
  obtain ⟨tb, pb, rb⟩ := hb.run W tk po
  refine ⟨_, ps_if pc pa pb, fun S F H σ ρ D E ok G => rc S F H σ ρ _ E ok ?_⟩
  refine good_go G fun a o y S1 F1 H1 f st h E1 ok1 G => ?_
  obtain ⟨rfl, rfl⟩ := h
  cases a with
  | true =>
    rw [if_pos rfl] at G ⊢
    exact ra S1 F1 H1 σ _ D E1 ok1 (GoodS.from st Kp.refl G)
  | false =>
    rw [if_neg Bool.false_ne_true] at G ⊢
    exact rb S1 F1 H1 σ _ D E1 ok1 (GoodS.from st Kp.refl G)
/-! ### targets -/
theorem put_over : ∀ (ρ : Env) (i : Nat) (x : Option PV), ρ.length ≤ i → Vs.put ρ i x = ρ
  | [], _, _, _ => rfl
  | _ :: _, 0, _, h => by simp at h
  | y :: r, i + 1, x, h => by show y :: Vs.put r i x = y :: r; rw [put_over r i x (by simpa using h)]
theorem sg_name {i : Nat} {x : Str} (hN : X.N.Nodup) (hi : X.N[i]? = some x) (hx : Loc X.env.scope x) (hl : lent[i]? ≠ some true) (hf : X.fn x = true ∨ X.env.scope.names.lookup x = some .local := by first | exact .inl rfl | exact .inr rfl | assumption) :
    SG ct lent X (.Name x pos) (gname i) := by
  refine ⟨fun W tk => ⟨_, pg_name hN hi hx hf, fun S F H σ ρ x v f D Q h E ok q G => ?_⟩⟩
  show Q (σ.set i (some v)) H
  refine q _ _ ?_
  unfold gname at G
  cases e : x.kept with
  | none => rw [e] at G; exact G.elim
  | some pv =>
    rw [e] at G
    obtain ⟨hs, rfl⟩ := kept_some e
    obtain ⟨f0, G0, p, E0⟩ := E.drop i
    have p2 : (f ++ F).Perm (f0 ++ (f ++ G0)) := by
      refine (List.Perm.append_left _ p).trans ?_
      rw [← List.append_assoc, ← List.append_assoc]
      exact List.Perm.append_right _ List.perm_append_comm
    have ok2 : Ok S H (f ++ G0) := (ok.perm p2).tail
    by_cases hl2 : i < σ.length
    · exact G _ S (f ++ G0) H (Step.refl.less fun b hb => p2.mem_iff.mpr (List.mem_append_right _ hb)) (E0.fill hl2 (h.stab hs)) ok2 (Kp.set hl)
    · have e1 : σ.set i (some v) = σ := List.set_eq_of_length_le (by omega)
      have e2 : Vs.put ρ i (some (x.m, x.d)) = ρ := put_over _ _ _ (by rw [← E.len]; omega)
      replace G : GoodS X.K ct lent W D S (f ++ F) H σ (.nx (Vs.put ρ i (some (x.m, x.d)))) := G
      rw [e2] at G
      rw [e1]
      exact G σ S F H (Step.refl.less fun b hb => List.mem_append_right _ hb) E ok.tail Kp.refl
theorem sgs_nil : SGs ct lent X [] [] := by
  refine ⟨fun W tk => ⟨_, pgs_nil, fun S F H σ ρ xs vs f D Q h hs E ok q G => ?_⟩⟩
  cases h with
  | nil => exact ⟨rfl, q _ _ (G σ S F H Step.refl E ok Kp.refl)⟩
  | cons _ _ => exact G.elim
theorem VsOk.step {K : PySem.W.Frag} {S S' : Addr → Prop} {H H' : Hp} {F F' : List Addr} (st : Step S F H S' F' H') (ok : Ok S H F) {xs : List VV} {vs : List V} {f : List Addr} (hf : ∀ b ∈ f, b ∉ F) (s : ∀ x ∈ xs, x.stable = true) (h : VsOk K S H xs vs f) : VsOk K S' H' xs vs f := by
  induction h with
  | nil => exact .nil
  | cons a b ih => exact .cons (a.step st ok (fun b hb => hf b (List.mem_append_left _ hb)) (s _ (List.mem_cons_self ..))) (ih (fun b hb => hf b (List.mem_append_right _ hb)) fun x hx => s x (List.mem_cons_of_mem _ hx))
theorem sgs_cons {t : Expr} {ts : List Expr} {g : MG} {gs : List MG} (h1 : SG ct lent X t g) (h2 : SGs ct lent X ts gs)
    (mk : ∀ {a b}, PG X t a → PGs X ts b → PGs X (t :: ts) (gCons a b)) : SGs ct lent X (t :: ts) (g :: gs) := by
  refine ⟨fun W tk => ?_⟩
  obtain ⟨t1, p1, r1⟩ := h1.run W tk
  obtain ⟨t2, p2, r2⟩ := h2.run W tk
  refine ⟨_, mk p1 p2, fun S F H σ ρ xs vs f D Q h hs E ok q G => ?_⟩
  cases h with
  | nil => exact G.elim
  | cons a b =>
    rename_i x v f xs vs g'
    refine ⟨v, vs, rfl, ?_⟩
    unfold gall at G
    have ok1 : Ok S H (g' ++ (f ++ F)) := ok.perm (by
      rw [← List.append_assoc]
      exact List.Perm.append_right _ List.perm_append_comm)
    have sb : ∀ b ∈ f ++ F, b ∈ f ++ g' ++ F := fun b hb => by
      simp only [List.mem_append] at hb ⊢
      exact hb.elim (fun z => .inl (.inl z)) .inr
    refine r1 S F H σ ρ x v f { D with nx := fun σ1 H1 => t2 vs σ1 H1 Q } _ a E ok1.tail (fun _ _ z => z) ?_
    cases q1 : g x ρ with
    | nx ρ1 =>
      rw [q1] at G
      intro σ1 S1 F1 H1 st E1 k1 kp
      have st' : Step S (f ++ g' ++ F) H S1 (g' ++ F1) H1 := st.wide sb fun b hb => by
        rcases List.mem_append.mp hb with z | z
        · exact .inr (List.mem_append_left _ (List.mem_append_right _ z))
        · exact .inl z
      exact r2 S1 F1 H1 σ1 ρ1 xs vs g' D Q (b.step st ok1.tail ok1.apart fun x hx => hs x (List.mem_cons_of_mem _ hx)) (fun x hx => hs x (List.mem_cons_of_mem _ hx)) E1 (Ok.join st ok1 k1) q (GoodS.from st' kp G)
    | ret pv ρ1 => rw [q1] at G; exact GoodS.narrow sb G
    | brk ρ1 => rw [q1] at G; exact GoodS.narrow sb G
    | ct ρ1 => rw [q1] at G; exact GoodS.narrow sb G
    | ex e ρ1 => rw [q1] at G; exact GoodS.narrow sb G
    | no => rw [q1] at G; exact G.elim
theorem VsOk.of_all {K : PySem.W.Frag} {S : Addr → Prop} {H : Hp} {m : Nat} : ∀ {vs : List V} {ds : List D} {f : List Addr}, RpAll K S H m vs ds f → VsOk K S H (ds.map fun d => ⟨false, m, d⟩) vs f
  | _, _, _, .nil _ => .nil
  | _, _, _, .cons h r => .cons (by rw [VOk.own]; exact h) (VsOk.of_all r)
theorem sg_tup {es : List Expr} {kk : Nat} {gs : List MG} {n : Nat} (h : SGs ct lent X es gs) (mk : ∀ {t}, PGs X es t → PG X (.Tuple es kk pos) (gTup X.K n t)) (hn : gs.length = n) : SG ct lent X (.Tuple es kk pos) (gtup gs) := by
  refine ⟨fun W tk => ?_⟩
  obtain ⟨t, p, r⟩ := h.run W tk
  refine ⟨_, mk p, fun S F H σ ρ x v f D Q h E ok q G => ?_⟩
  unfold gtup at G
  obtain ⟨b, m, d⟩ := x
  cases d with
  | tup ds =>
    cases b with
    | true => exact G.elim
    | false =>
      replace G : GoodS X.K ct lent W D S (f ++ F) H σ (if false = false ∧ ds.length = gs.length then gall gs (ds.map fun d => ⟨false, m - 1, d⟩) ρ else .no) := G
      by_cases hl : ds.length = gs.length
      · rw [if_pos ⟨rfl, hl⟩] at G
        rw [VOk.own] at h
        obtain ⟨a, xs, rfl, h1, h2⟩ := h.tup
        exact ⟨a, xs, rfl, h1, h2.length.trans (hl.trans hn), r S F H σ ρ _ xs f D Q (VsOk.of_all h2) (fun x hx => by obtain ⟨d, _, rfl⟩ := List.mem_map.mp hx; rfl) E ok q G⟩
      · rw [if_neg fun z => hl z.2] at G
        exact G.elim
  | _ => exact G.elim
end
end Vs
set_option maxHeartbeats 4000000
/-! Vs: loops. -/
namespace Vs
open PySem PySem.Spec PyProof.Rows L2

/-- some time later: what stays has stayed -/
structure Later (S : Addr → Prop) (H : Hp) (S' : Addr → Prop) (H' : Hp) : Prop where
  s : ∀ b, S b → S' b
  kS : ∀ b o, S b → H b = some o → H' b = some o
  kM : ∀ b o, H b = some o → ¬ Mut (some o) → H' b = some o
/-- the walked thing gives these, one after another -/
def ItOk (K : PySem.W.Frag) (S : Addr → Prop) (H : Hp) (ds : List D) (J : It) (f : List Addr) : Prop :=
  f = [] ∧ ∀ S2 H2, Later S H S2 H2 → ∀ i : Nat, (∀ d, ds[i]? = some d → J.go i H2 ∧ ∀ x H3, J.yld i H2 x H3 → Same H2 H3 ∧ Rp K S2 H3 0 x d []) ∧ (ds.length ≤ i → J.stop i H2)
structure SI (ct : Str → Addr) (X : Cx) (tg e : Expr) (g : MI) : Prop where
  run : ∀ W, Takes X W → ∃ wi, PI X tg e wi ∧ ∀ S F H σ ρ R, EnvRp X.K S H σ ρ F → Ok S H F → Good X.K ct (ItOk X.K) W S F H σ ρ (g ρ) R → wi σ H R
section
variable {S S1 : Addr → Prop} {F F1 : List Addr} {H H1 : Hp}
theorem Step.later (st : Step S F H S1 F1 H1) (ok : Ok S H F) : Later S H S1 H1 :=
  ⟨st.sub, fun b o hb e => st.keep b o e fun z => ok.ns b z hb, fun b o e nm => st.keep b o e fun z => nm (e ▸ ok.mu b z)⟩
theorem Later.refl : Later S H S H := ⟨fun _ z => z, fun _ _ _ e => e, fun _ _ e _ => e⟩
end
theorem whiles_good {K : PySem.W.Frag} {ct : Str → Addr} {lent : List Bool} {W : WX} {D : Ends} {S : Addr → Prop} {F : List Addr} {H : Hp} {σ : L2.St} {ρ : Env} {c : MT} {b : MS} (g : GoodS K ct lent W D S F H σ (whiles c b ρ)) : ∃ n, GoodS K ct lent W D S F H σ (whileN c b n ρ) := by
  unfold whiles at g
  split at g
  · rename_i h
    exact ⟨_, g⟩
  · exact g.elim
section
variable {ct : Str → Addr} {lent : List Bool} {X : Cx} {body : List Stmt} {gb : MS} {pos : Pos}
theorem ss_for {tg iter : Expr} {gi : MI} {gg : MG} (hc : X.calm = true) (hi : SI ct X tg iter gi) (hg : SG ct lent X tg gg) (hb : SSs ct lent X body gb) (hs : ∀ x, foldedSetIterable iter X.env x = pure x := by intro _; rfl) :
    SS ct lent X (.For tg iter body [] pos) (fors gi gg gb) := by
  refine ⟨fun W tk po => ?_⟩
  obtain ⟨wi, pi, ri⟩ := hi.run W tk
  obtain ⟨tg', pg, rg⟩ := hg.run W tk
  obtain ⟨tb, pb, rb⟩ := hb.run W tk po
  refine ⟨_, ps_for po hc pi pg pb hs, fun S F H σ ρ D E ok G => ri S F H σ ρ _ E ok ?_⟩
  refine good_go G fun ds o J S1 F1 H1 f st hJ E1 ok1 G => ?_
  obtain ⟨rfl, hJ⟩ := hJ
  replace ok1 : Ok S1 H1 F1 := ok1
  replace st : Step S F H S1 F1 H1 := st
  refine ⟨fun i m σ' H' => ∃ ρ' S' F', i + m = ds.length ∧ Step S1 F1 H1 S' F' H' ∧ EnvRp X.K S' H' σ' ρ' F' ∧ Ok S' H' F' ∧ Kp lent σ σ' ∧ GoodS X.K ct lent W D S' F' H' σ' (forL gg gb (ds.drop i) ρ'),
    ⟨ds.length, _, S1, F1, by omega, Step.refl, E1, ok1, Kp.refl, GoodS.from st Kp.refl G⟩, fun i m σ' H' hW => ?_⟩
  obtain ⟨ρ', S', F', em, st', E', ok', kp', G'⟩ := hW
  obtain ⟨j1, j2⟩ := hJ S' H' (st'.later ok1) i
  by_cases hi : i < ds.length
  · obtain ⟨d, hd⟩ : ∃ d, ds[i]? = some d := ⟨ds[i], List.getElem?_eq_getElem hi⟩
    obtain ⟨g1, g2⟩ := j1 d hd
    have ed : ds.drop i = d :: ds.drop (i + 1) := by
      have := List.drop_eq_getElem_cons hi
      rw [List.getElem?_eq_getElem hi] at hd
      rw [this, Option.some.inj hd]
    rw [ed] at G'
    refine .inr ⟨g1, fun σ2 H2 => ∃ ρ2 S2 F2, Step S1 F1 H1 S2 F2 H2 ∧ EnvRp X.K S2 H2 σ2 ρ2 F2 ∧ Ok S2 H2 F2 ∧ Kp lent σ σ2 ∧ GoodS X.K ct lent W D S2 F2 H2 σ2 (forL gg gb (ds.drop (i + 1)) ρ2), fun σ2 H2 hN => ?_, fun x H3 hy => ?_⟩
    · obtain ⟨ρ2, S2, F2, a1, a2, a3, a4, a5⟩ := hN
      exact ⟨m - 1, by omega, ρ2, S2, F2, by omega, a1, a2, a3, a4, a5⟩
    · obtain ⟨sm, rx⟩ := g2 x H3 hy
      have st3 : Step S' F' H' S' F' H3 := Step.of_same sm fun _ => .inl
      have G3 := GoodS.from st3 Kp.refl G'
      unfold forL at G3
      -- one turn
      let N : L2.St → Hp → Prop := fun σ2 H2 => ∃ ρ2 S2 F2, Step S1 F1 H1 S2 F2 H2 ∧ EnvRp X.K S2 H2 σ2 ρ2 F2 ∧ Ok S2 H2 F2 ∧ Kp lent σ σ2 ∧ GoodS X.K ct lent W D S2 F2 H2 σ2 (forL gg gb (ds.drop (i + 1)) ρ2)
      have turn : GoodS X.K ct lent W { D with nx := N, ct := N, bk := D.nx } S' F' H3 σ' ((gg ⟨false, 0, d⟩ ρ').seq gb) := by
        cases q : (gg ⟨false, 0, d⟩ ρ').seq gb with
        | nx ρ1 =>
          rw [q] at G3
          exact fun σ2 S2 F2 H2 t E2 o2 k2 => ⟨ρ1, S2, F2, (st'.trans st3).trans t, E2, o2, kp'.trans k2, GoodS.from t k2 G3⟩
        | ct ρ1 =>
          rw [q] at G3
          exact fun σ2 S2 F2 H2 t E2 o2 k2 => ⟨ρ1, S2, F2, (st'.trans st3).trans t, E2, o2, kp'.trans k2, GoodS.from t k2 G3⟩
        | brk ρ1 => rw [q] at G3; exact G3
        | ret pv ρ1 => rw [q] at G3; exact G3
        | ex e ρ1 => rw [q] at G3; exact G3
        | no => rw [q] at G3; exact G3
      refine rg S' F' H3 σ' ρ' ⟨false, 0, d⟩ x [] { D with nx := fun σ2 H2 => tb { D with nx := N, ct := N, bk := D.nx } σ2 H2, ct := N, bk := D.nx } _ (by rw [VOk.own]; exact rx) (E'.same sm) (ok'.same sm) (fun _ _ z => z) ?_
      cases q : gg ⟨false, 0, d⟩ ρ' with
      | nx ρ1 =>
        rw [q] at turn
        exact fun σ2 S2 F2 H2 t E2 o2 k2 => rb S2 F2 H2 σ2 ρ1 _ E2 o2 (GoodS.from t k2 turn)
      | _ => rw [q] at turn; exact turn
  · refine .inl ⟨j2 (by omega), ?_⟩
    rw [List.drop_eq_nil_of_le (by omega)] at G'
    exact G' σ' S' F' H' Step.refl E' ok' Kp.refl
theorem ss_while {c : Expr} {gc : MT} (hc : ST ct X c gc) (hb : SSs ct lent X body gb) : SS ct lent X (.While c body [] pos) (whiles gc gb) := by
  refine ⟨fun W tk po => ?_⟩
  obtain ⟨tc, pc, rc⟩ := hc.run W tk
  obtain ⟨tb, pb, rb⟩ := hb.run W tk po
  refine ⟨_, ps_while po pc pb, fun S F H σ ρ D E ok G => ?_⟩
  obtain ⟨n, G⟩ := whiles_good G
  refine ⟨fun m σ' H' => ∃ ρ' S' F', Step S F H S' F' H' ∧ EnvRp X.K S' H' σ' ρ' F' ∧ Ok S' H' F' ∧ Kp lent σ σ' ∧ GoodS X.K ct lent W D S' F' H' σ' (whileN gc gb m ρ'), ⟨n, ρ, S, F, Step.refl, E, ok, Kp.refl, G⟩, fun m σ' H' hW => ?_⟩
  obtain ⟨ρ', S', F', st', E', ok', kp', G'⟩ := hW
  cases m with
  | zero => exact G'.elim
  | succ m =>
    unfold whileN at G'
    refine rc S' F' H' σ' ρ' _ E' ok' ?_
    refine good_go G' fun b o y S1 F1 H1 f st h E1 ok1 G => ?_
    obtain ⟨rfl, rfl⟩ := h
    replace ok1 : Ok S1 H1 F1 := ok1
    replace st : Step S' F' H' S1 F1 H1 := st
    cases b with
    | false =>
      rw [if_neg Bool.false_ne_true] at G ⊢
      exact G σ' S1 F1 H1 st E1 ok1 Kp.refl
    | true =>
      rw [if_pos rfl] at G ⊢
      let N : L2.St → Hp → Prop := fun σ2 H2 => ∃ ρ2 S2 F2, Step S F H S2 F2 H2 ∧ EnvRp X.K S2 H2 σ2 ρ2 F2 ∧ Ok S2 H2 F2 ∧ Kp lent σ σ2 ∧ GoodS X.K ct lent W D S2 F2 H2 σ2 (whileN gc gb m ρ2)
      refine ⟨N, fun σ2 H2 hN => ⟨m, Nat.lt_succ_self m, hN⟩, rb S1 F1 H1 σ' _ _ E1 ok1 ?_⟩
      have G1 := GoodS.from st Kp.refl G
      cases q : gb (now o ρ') with
      | nx ρ1 =>
        rw [q] at G1
        exact fun σ2 S2 F2 H2 t E2 o2 k2 => ⟨ρ1, S2, F2, (st'.trans st).trans t, E2, o2, kp'.trans k2, GoodS.from t k2 G1⟩
      | ct ρ1 =>
        rw [q] at G1
        exact fun σ2 S2 F2 H2 t E2 o2 k2 => ⟨ρ1, S2, F2, (st'.trans st).trans t, E2, o2, kp'.trans k2, GoodS.from t k2 G1⟩
      | brk ρ1 => rw [q] at G1; exact G1
      | ret pv ρ1 => rw [q] at G1; exact G1
      | ex e ρ1 => rw [q] at G1; exact G1
      | no => rw [q] at G1; exact G1
end
end Vs
set_option maxHeartbeats 4000000
/-! Vs: what is walked. -/
namespace Vs
open PySem PySem.Spec PyProof.Rows L2
section
variable {K : PySem.W.Frag} {S S' : Addr → Prop} {H H' : Hp}
theorem RpAll.later (l : Later S H S' H') {v : List V} {d : List D} (h : RpAll K S H 0 v d []) : RpAll K S' H' 0 v d [] := h.keep l.kS l.kM l.s fun _ _ z => by cases z
theorem Rp.later (l : Later S H S' H') {v : V} {d : D} (h : Rp K S H 0 v d []) : Rp K S' H' 0 v d [] := h.keep l.kS l.kM l.s fun _ _ z => by cases z
/-- a list that stays: its place, its items -/
theorem Rp.lst0' {v : V} {ds : List D} (h : Rp K S H 0 v (.lst ds) []) : ∃ a xs, v = .ref a ∧ RpAll K S H 0 xs ds [] ∧ ∀ S2 H2, Later S H S2 H2 → SqL K H2 a xs := by
  cases h with
  | lst0 r s q =>
    refine ⟨_, _, rfl, q, fun S2 H2 l => ?_⟩
    rcases r with z | ⟨o, z⟩
    · exact .inl (.inl (l.kS _ _ s z))
    · exact .inl (.inr ⟨o, l.kS _ _ s z⟩)
  | lstK r q =>
    refine ⟨_, _, rfl, q, fun S2 H2 l => ?_⟩
    rcases r with (r | ⟨o, r⟩) | r
    · cases r
    · cases r
    · exact .inr r
theorem Rp.tup0' {v : V} {ds : List D} (h : Rp K S H 0 v (.tup ds) []) : ∃ a xs, v = .ref a ∧ RpAll K S H 0 xs ds [] ∧ ∀ S2 H2, Later S H S2 H2 → SqT K H2 a xs := by
  cases h with
  | tup0 r q => exact ⟨_, _, rfl, q, fun S2 H2 l => sqT_keep l.kM (.inl (.inl r))⟩
/-- what is kept from now on as it is -/
theorem froze {F : List Addr} {m : Nat} {d : D} {v : V} {f : List Addr} (h : Rp K S H m v d f) (ok : Ok S H (f ++ F)) : ∃ S', (∀ b, S b → S' b) ∧ (∀ b, S' b → S b ∨ b ∈ f) ∧ Rp K S' H 0 v d [] ∧ Ok S' H F := by
  obtain ⟨f0, f1, p, r⟩ := h.thin 0
  rw [Nat.min_zero] at r
  have e := r.own0
  subst e
  rw [List.nil_append] at p
  refine ⟨_, fun b => Or.inl, fun b hb => hb.imp id fun z => p.mem_iff.mpr z, r, ok.tail.nd, ok.tail.mu, fun b hb z => z.elim (ok.tail.ns b hb) fun z => ok.apart b (p.mem_iff.mpr z) hb, fun b hb => hb.elim (ok.tr b) fun z => ok.mem (List.mem_append_left _ (p.mem_iff.mpr z))⟩
theorem froze' {F : List Addr} {b : Bool} {m : Nat} {d : D} {v : V} {f : List Addr} (h : VOk K S H ⟨b, m, d⟩ v f) (ok : Ok S H (f ++ F)) (hb : b = false ∨ m = 0) :
    ∃ S', (∀ b, S b → S' b) ∧ (∀ b, S' b → S b ∨ b ∈ f) ∧ Rp K S' H 0 v d [] ∧ Ok S' H F := by
  cases b with
  | false => rw [VOk.own] at h; exact froze h ok
  | true =>
    obtain rfl : m = 0 := hb.resolve_left (by simp)
    rw [VOk.bor] at h
    obtain ⟨rfl, g, h⟩ := h
    obtain rfl := h.own0
    exact ⟨S, fun _ z => z, fun _ => Or.inl, h, ok⟩
theorem Fit.froze {o : Option Vs.Env} {S1 : Addr → Prop} {F F1 f : List Addr} {H1 : Hp} (t : Fit o S F H S1 F1 f H1) (k : Ok S1 H1 (f ++ F1)) (a : ∀ b, S1 b → S' b) (b : ∀ b, S' b → S1 b ∨ b ∈ f) : Fit o S F H S' F1 [] H1 := by
  cases o with
  | none =>
    obtain ⟨e, u1, u2, rfl, n⟩ := t
    exact ⟨e, fun x hx => a x (u1 x hx), fun x hx => (b x hx).elim (u2 x) fun z => .inr (n x z), rfl, by simp⟩
  | some _ =>
    have t : Step S F H S1 (f ++ F1) H1 := t
    exact ⟨t.keep, fun x hx => a x (t.sub x hx), fun x hx => t.newF x (List.mem_append_right _ hx), fun x hx => (b x hx).elim (t.newS x) fun z => .inr (t.newF x (List.mem_append_left _ z))⟩
theorem it_list {a : Addr} {xs : List V} {ds : List D} (h : RpAll K S H 0 xs ds []) (l : ∀ S2 H2, Later S H S2 H2 → SqL K H2 a xs) : ItOk K S H ds (Itl K a) [] := by
  refine ⟨rfl, fun S2 H2 t i => ⟨fun d hd => ?_, fun hi => ⟨xs, l _ _ t, by rw [h.length]; exact hi⟩⟩⟩
  obtain ⟨u, hu, ru⟩ := (h.later t).get0 hd
  refine ⟨⟨xs, u, l _ _ t, hu⟩, fun x H3 hy => ?_⟩
  obtain ⟨rfl, hx⟩ := hy
  have := (hx xs (l _ _ t)).symm.trans hu
  cases this
  exact ⟨Same.refl _, ru⟩
theorem it_tup {a : Addr} {xs : List V} {ds : List D} (h : RpAll K S H 0 xs ds []) (l : ∀ S2 H2, Later S H S2 H2 → SqT K H2 a xs) : ItOk K S H ds (Itt K a) [] := by
  refine ⟨rfl, fun S2 H2 t i => ⟨fun d hd => ?_, fun hi => ⟨xs, l _ _ t, by rw [h.length]; exact hi⟩⟩⟩
  obtain ⟨u, hu, ru⟩ := (h.later t).get0 hd
  refine ⟨⟨xs, u, l _ _ t, hu⟩, fun x H3 hy => ?_⟩
  obtain ⟨rfl, hx⟩ := hy
  have := (hx xs (l _ _ t)).symm.trans hu
  cases this
  exact ⟨Same.refl _, ru⟩
theorem it_rng {a b : Int} {n : Nat} (hn : n = (b - a).toNat) : ItOk K S H (rng a b) (Itr a n) [] := by
  subst hn
  refine ⟨rfl, fun S2 H2 t i => ⟨fun d hd => ?_, fun hi => ?_⟩⟩
  · unfold rng at hd
    rw [List.getElem?_map] at hd
    by_cases h : i < (b - a).toNat
    · rw [List.getElem?_range h] at hd
      obtain rfl := Option.some.inj hd
      refine ⟨h, fun x H3 hy => ?_⟩
      obtain ⟨rfl, rfl⟩ := hy
      exact ⟨Same.refl _, .int _ _⟩
    · rw [List.getElem?_eq_none (by rw [List.length_range]; omega)] at hd
      cases hd
  · unfold rng at hi
    rw [List.length_map, List.length_range] at hi
    exact hi
theorem same_upd {p : Addr} {o : HO} (h : H p = none) : Same H (upd H p o) := fun b x e => by
  rw [upd_ne (ne_of_none e h)]
  exact e
theorem enumD_get : ∀ (ds : List D) (n i : Nat), (enumD n ds)[i]? = ds[i]?.map fun d => .tup [.int ((n + i : Nat) : Int), d]
  | [], _, _ => rfl
  | d :: ds, n, 0 => rfl
  | d :: ds, n, i + 1 => by
    show (enumD (n + 1) ds)[i]? = ds[i]?.map _
    rw [enumD_get ds (n + 1) i]
    congr 1
    funext d
    congr 4
    omega
theorem enumD_len : ∀ (ds : List D) (n : Nat), (enumD n ds).length = ds.length
  | [], _ => rfl
  | d :: ds, n => congrArg (· + 1) (enumD_len ds (n + 1))
theorem it_enum {a : Addr} {xs : List V} {ds : List D} (h : RpAll K S H 0 xs ds []) (l : ∀ S2 H2, Later S H S2 H2 → SqL K H2 a xs) : ItOk K S H (enumD 0 ds) (Ite K a) [] := by
  refine ⟨rfl, fun S2 H2 t i => ⟨fun d hd => ?_, fun hi => ⟨xs, l _ _ t, by rw [h.length, ← enumD_len ds 0]; exact hi⟩⟩⟩
  rw [enumD_get] at hd
  cases q : ds[i]? with
  | none => rw [q] at hd; cases hd
  | some e =>
    rw [q] at hd
    obtain rfl := Option.some.inj hd
    obtain ⟨u, hu, ru⟩ := (h.later t).get0 q
    refine ⟨⟨xs, u, l _ _ t, hu⟩, fun x H3 hy => ?_⟩
    obtain ⟨T, y, rfl, nT, rfl, hx⟩ := hy
    have := (hx xs (l _ _ t)).symm.trans hu
    cases this
    refine ⟨same_upd nT, .tup0 upd_same ?_⟩
    rw [Nat.zero_add]
    exact .cons (f := []) (g := []) (.int _ _) (.cons (f := []) (g := []) (ru.same (same_upd nT)) (.nil _))
theorem zipD_get : ∀ (ds es : List D) (i : Nat), (zipD ds es)[i]? = ds[i]?.bind fun d => es[i]?.map fun e => .tup [d, e]
  | [], _, _ => by simp [zipD]
  | _ :: _, [], i => by cases i <;> simp [zipD]
  | d :: ds, e :: es, 0 => rfl
  | d :: ds, e :: es, i + 1 => zipD_get ds es i
theorem zipD_len : ∀ (ds es : List D), (zipD ds es).length = min ds.length es.length
  | [], es => by simp [zipD]
  | _ :: _, [] => by simp [zipD]
  | d :: ds, e :: es => by
    show (zipD ds es).length + 1 = min (ds.length + 1) (es.length + 1)
    rw [zipD_len ds es]
    omega
theorem it_zip {a b : Addr} {xs ys : List V} {ds es : List D} (h : RpAll K S H 0 xs ds []) (l : ∀ S2 H2, Later S H S2 H2 → SqL K H2 a xs) (h' : RpAll K S H 0 ys es []) (l' : ∀ S2 H2, Later S H S2 H2 → SqL K H2 b ys) :
    ItOk K S H (zipD ds es) (Itz K a b) [] := by
  refine ⟨rfl, fun S2 H2 t i => ⟨fun d hd => ?_, fun hi => ⟨xs, ys, l _ _ t, l' _ _ t, by rw [h.length, h'.length]; rw [zipD_len] at hi; omega⟩⟩⟩
  rw [zipD_get] at hd
  cases q : ds[i]? with
  | none => rw [q] at hd; cases hd
  | some e =>
    cases q' : es[i]? with
    | none => rw [q, q'] at hd; cases hd
    | some e' =>
      rw [q, q'] at hd
      obtain rfl := Option.some.inj hd
      obtain ⟨u, hu, ru⟩ := (h.later t).get0 q
      obtain ⟨u', hu', ru'⟩ := (h'.later t).get0 q'
      refine ⟨⟨xs, ys, u, u', l _ _ t, l' _ _ t, hu, hu'⟩, fun x H3 hy => ?_⟩
      obtain ⟨T, y, z, rfl, nT, rfl, hx, hx'⟩ := hy
      have e1 := (hx xs (l _ _ t)).symm.trans hu
      have e2 := (hx' ys (l' _ _ t)).symm.trans hu'
      cases e1
      cases e2
      exact ⟨same_upd nT, .tup0 upd_same (.cons (f := []) (g := []) (ru.same (same_upd nT)) (.cons (f := []) (g := []) (ru'.same (same_upd nT)) (.nil _)))⟩
end
section
variable {ct : Str → Addr} {X : Cx} {tg e : Expr} {ge : M} {ga : MA}
theorem Fit.rid {o : Option Vs.Env} {S S1 : Addr → Prop} {F F1 f : List Addr} {H H1 : Hp} (t : Fit o S F H S1 F1 f H1) (k : Ok S1 H1 (f ++ F1)) : Fit o S F H S1 F1 [] H1 := t.froze k (fun _ z => z) fun _ => Or.inl
/-- the walked thing's rule gives these -/
def It1 (K : PySem.W.Frag) (r : V → Hp → (It → Hp → Prop) → Prop) (k : VV → Option (List D)) : Prop :=
  ∀ S H F x v f ds RR, VOk K S H x v f → Ok S H (f ++ F) → k x = some ds → (∀ J S', (∀ b, S b → S' b) → (∀ b, S' b → S b ∨ b ∈ f) → Ok S' H F → ItOk K S' H ds J [] → RR J H) → r v H RR
def ItN (K : PySem.W.Frag) (r : List V → Hp → (It → Hp → Prop) → Prop) (k : List VV → Option (List D)) : Prop :=
  ∀ S H F xs vs f ds RR, VsOk K S H xs vs f → Ok S H (f ++ F) → k xs = some ds → (∀ J S', (∀ b, S b → S' b) → (∀ b, S' b → S b ∨ b ∈ f) → Ok S' H F → ItOk K S' H ds J [] → RR J H) → r vs H RR
theorem run_it1 {r : V → Hp → (It → Hp → Prop) → Prop} {k : VV → Option (List D)} {a : Expr} (ha : SE ct X a ge) (mk : ∀ {t}, PE X a t → PI X tg e (fun σ H RR => t σ H fun v H1 => r v H1 RR)) (ho : It1 X.K r k) : SI ct X tg e (it1 k ge) := by
  refine ⟨fun W tk => ?_⟩
  obtain ⟨ta, pa, ra⟩ := ha.run W tk
  refine ⟨_, mk pa, fun S F H σ ρ RR E ok G => ra S F H σ ρ _ E ok ?_⟩
  refine good_bind G fun x o v S1 F1 H1 f _ t1 h1 E1 k1 G => ?_
  cases q : k x with
  | none => rw [q] at G; exact G.elim
  | some ds =>
    rw [q] at G
    exact ho S1 H1 F1 x v f ds RR h1 k1 q fun J S' u1 u2 k2 it => G J S' F1 H1 [] (t1.froze k1 u1 u2) it (E1.more u1) k2
theorem run_itN {r : List V → Hp → (It → Hp → Prop) → Prop} {k : List VV → Option (List D)} {as : List Expr} (ha : SA ct X as ga) (mk : ∀ {t}, PA X as t → PI X tg e (fun σ H RR => t σ H fun v H1 => r v H1 RR)) (ho : ItN X.K r k) : SI ct X tg e (itN k ga) := by
  refine ⟨fun W tk => ?_⟩
  obtain ⟨ta, pa, ra⟩ := ha.run W tk
  refine ⟨_, mk pa, fun S F H σ ρ RR E ok G => ra S F H σ ρ _ E ok ?_⟩
  refine good_bind G fun x o v S1 F1 H1 f _ t1 h1 E1 k1 G => ?_
  cases q : k x with
  | none => rw [q] at G; exact G.elim
  | some ds =>
    rw [q] at G
    exact ho S1 H1 F1 x v f ds RR h1 k1 q fun J S' u1 u2 k2 it => G J S' F1 H1 [] (t1.froze k1 u1 u2) it (E1.more u1) k2
theorem kL_some {x : VV} {ds : List D} (h : kL x = some ds) : (x.b = false ∨ x.m = 0) ∧ x.d = .lst ds := by
  unfold kL at h
  split at h
  · split at h
    · rename_i q
      exact ⟨q, by rw [Option.some.inj h]⟩
    · cases h
  · cases h
theorem i_list (he : SE ct X e ge) : SI ct X tg e (it1 kL ge) := by
  refine run_it1 (r := fun x H1 RR => ∃ a, x = .ref a ∧ (∃ xs, SqL X.K H1 a xs) ∧ RR (Itl X.K a) H1) he pi_list fun S H F x v f ds RR h1 k1 q hR => ?_
  obtain ⟨b, m, d⟩ := x
  obtain ⟨hb, rfl⟩ := kL_some q
  obtain ⟨S', u1, u2, r, k2⟩ := froze' h1 k1 hb
  obtain ⟨a, xs, rfl, q1, q2⟩ := r.lst0'
  exact ⟨a, rfl, ⟨xs, q2 _ _ Later.refl⟩, hR _ S' u1 u2 k2 (it_list q1 q2)⟩
theorem kT_some {x : VV} {ds : List D} (h : kT x = some ds) : (x.b = false ∨ x.m ≤ 1) ∧ x.d = .tup ds := by
  unfold kT at h
  split at h
  · split at h
    · rename_i q
      exact ⟨q, by rw [Option.some.inj h]⟩
    · cases h
  · cases h
theorem i_tup (he : SE ct X e ge) : SI ct X tg e (it1 kT ge) := by
  refine run_it1 (r := fun x H1 RR => ∃ a, x = .ref a ∧ (∃ xs, SqT X.K H1 a xs) ∧ RR (Itt X.K a) H1) he pi_tup fun S H F x v f ds RR h1 k1 q hR => ?_
  obtain ⟨b, m, d⟩ := x
  obtain ⟨hb, rfl⟩ := kT_some q
  by_cases hb2 : b = false ∨ m = 0
  · obtain ⟨S', u1, u2, r, k2⟩ := froze' h1 k1 hb2
    obtain ⟨a, xs, rfl, q1, q2⟩ := r.tup0'
    exact ⟨a, rfl, ⟨xs, q2 _ _ Later.refl⟩, hR _ S' u1 u2 k2 (it_tup q1 q2)⟩
  · obtain ⟨rfl, rfl⟩ : b = true ∧ m = 1 := by
      cases b with
      | false => exact absurd (.inl rfl) hb2
      | true => exact ⟨rfl, by
          have hb : true = false ∨ m ≤ 1 := hb
          have : ¬ m = 0 := fun z => hb2 (.inr z)
          rcases hb with z | z
          · cases z
          · omega⟩
    rw [VOk.bor] at h1
    obtain ⟨rfl, g, h⟩ := h1
    obtain ⟨a, xs, rfl, r1, r2⟩ := h.tup
    obtain rfl := r2.own0
    exact ⟨a, rfl, ⟨xs, r1⟩, hR _ S (fun _ z => z) (fun _ => Or.inl) k1 (it_tup r2 fun S2 H2 l => sqT_keep l.kM r1)⟩
theorem VsOk.one {K : PySem.W.Frag} {S : Addr → Prop} {H : Hp} {x : VV} {vs : List V} {f : List Addr} (h : VsOk K S H [x] vs f) : ∃ v, vs = [v] ∧ VOk K S H x v f := by
  cases h with
  | cons a b =>
    cases b
    rw [List.append_nil]
    exact ⟨_, rfl, a⟩
theorem VsOk.two {K : PySem.W.Frag} {S : Addr → Prop} {H : Hp} {x y : VV} {vs : List V} {f : List Addr} (h : VsOk K S H [x, y] vs f) : ∃ v w f1 f2, vs = [v, w] ∧ f = f1 ++ f2 ∧ VOk K S H x v f1 ∧ VOk K S H y w f2 := by
  cases h with
  | cons a b =>
    obtain ⟨w, e, c⟩ := VsOk.one b
    subst e
    exact ⟨_, w, _, _, rfl, rfl, a, c⟩
theorem VOk.int' {K : PySem.W.Frag} {S : Addr → Prop} {H : Hp} {b : Bool} {m : Nat} {i : Int} {v : V} {f : List Addr} (h : VOk K S H ⟨b, m, .int i⟩ v f) : v = .int i := by
  obtain ⟨g, h⟩ := h.rp
  exact h.vint
theorem kR1_some {xs : List VV} {ds : List D} (h : kR1 xs = some ds) : ∃ b m j, xs = [⟨b, m, .int j⟩] ∧ (-(2 ^ 62) ≤ j ∧ j < 2 ^ 62) ∧ ds = rng 0 j := by
  unfold kR1 at h
  split at h
  · split at h
    · rename_i q
      exact ⟨_, _, _, rfl, q, (Option.some.inj h).symm⟩
    · cases h
  · cases h
theorem kR2_some {xs : List VV} {ds : List D} (h : kR2 xs = some ds) : ∃ b m i b' m' j, xs = [⟨b, m, .int i⟩, ⟨b', m', .int j⟩] ∧ (-(2 ^ 62) ≤ i ∧ i < 2 ^ 62 ∧ -(2 ^ 62) ≤ j ∧ j < 2 ^ 62) ∧ ds = rng i j := by
  unfold kR2 at h
  split at h
  · split at h
    · rename_i q
      exact ⟨_, _, _, _, _, _, rfl, q, (Option.some.inj h).symm⟩
    · cases h
  · cases h
theorem i_range1 {a : Expr} {p pos : Pos} (hg : Gl X "range") (hm : X.mg "range" = none) (ha : SA ct X [a] ga) (hs : starEach [a] X.env = [(false, eval a X.env)] := by rfl) : SI ct X tg (.Call (.Name "range" p) [a] [] pos) (itN kR1 ga) := by
  refine run_itN (r := fun vs H1 RR => ∃ j : Int, vs = [.int j] ∧ -(2 ^ 62) ≤ j ∧ j < 2 ^ 62 ∧ RR (Itr 0 j.toNat) H1) ha (fun pa => pi_range1 hg hm pa hs) fun S H F xs vs f ds RR h1 k1 q hR => ?_
  obtain ⟨b, m, j, rfl, hb, rfl⟩ := kR1_some q
  obtain ⟨v, rfl, h⟩ := h1.one
  obtain rfl := h.int'
  exact ⟨j, rfl, hb.1, hb.2, hR _ S (fun _ z => z) (fun _ => Or.inl) k1.tail (it_rng (by rw [Int.sub_zero]))⟩
theorem i_range2 {a a' : Expr} {p pos : Pos} (hg : Gl X "range") (hm : X.mg "range" = none) (ha : SA ct X [a, a'] ga) (hs : starEach [a, a'] X.env = [(false, eval a X.env), (false, eval a' X.env)] := by rfl) (hs2 : starEach [a'] X.env = [(false, eval a' X.env)] := by rfl) :
    SI ct X tg (.Call (.Name "range" p) [a, a'] [] pos) (itN kR2 ga) := by
  refine run_itN (r := fun vs H1 RR => ∃ i j : Int, vs = [.int i, .int j] ∧ (-(2 ^ 62) ≤ i ∧ i < 2 ^ 62 ∧ -(2 ^ 62) ≤ j ∧ j < 2 ^ 62) ∧ RR (Itr i (j - i).toNat) H1) ha (fun pa => pi_range2 hg hm pa hs hs2) fun S H F xs vs f ds RR h1 k1 q hR => ?_
  obtain ⟨b, m, i, b', m', j, rfl, hb, rfl⟩ := kR2_some q
  obtain ⟨v, w, f1, f2, rfl, rfl, h, h'⟩ := h1.two
  obtain rfl := h.int'
  obtain rfl := h'.int'
  exact ⟨i, j, rfl, hb, hR _ S (fun _ z => z) (fun _ => Or.inl) k1.tail (it_rng rfl)⟩
theorem kE_some {xs : List VV} {ds : List D} (h : kE xs = some ds) : ∃ b m es, xs = [⟨b, m, .lst es⟩] ∧ (b = false ∨ m = 0) ∧ ds = enumD 0 es := by
  unfold kE at h
  split at h
  · split at h
    · rename_i q
      exact ⟨_, _, _, rfl, q, (Option.some.inj h).symm⟩
    · cases h
  · cases h
theorem i_enum {a : Expr} {p pos tpos : Pos} {elts : List Expr} {kk : Nat} (hg : Gl X "enumerate") (hm : X.mg "enumerate" = none) (ha : SA ct X [a] ga) (hs : starEach [a] X.env = [(false, eval a X.env)] := by rfl) :
    SI ct X (.Tuple elts kk tpos) (.Call (.Name "enumerate" p) [a] [] pos) (itN kE ga) := by
  refine run_itN (r := fun vs H1 RR => ∃ a xs, vs = [.ref a] ∧ SqL X.K H1 a xs ∧ RR (Ite X.K a) H1) ha (fun pa => pi_enum hg hm pa hs) fun S H F xs vs f ds RR h1 k1 q hR => ?_
  obtain ⟨b, m, es, rfl, hb, rfl⟩ := kE_some q
  obtain ⟨v, rfl, h⟩ := h1.one
  obtain ⟨S', u1, u2, r, k2⟩ := froze' h k1 hb
  obtain ⟨a, xs, rfl, q1, q2⟩ := r.lst0'
  exact ⟨a, xs, rfl, q2 _ _ Later.refl, hR _ S' u1 u2 k2 (it_enum q1 q2)⟩
theorem kZ_some {xs : List VV} {ds : List D} (h : kZ xs = some ds) : ∃ b m es b' m' es', xs = [⟨b, m, .lst es⟩, ⟨b', m', .lst es'⟩] ∧ ((b = false ∨ m = 0) ∧ (b' = false ∨ m' = 0)) ∧ ds = zipD es es' := by
  unfold kZ at h
  split at h
  · split at h
    · rename_i q
      exact ⟨_, _, _, _, _, _, rfl, q, (Option.some.inj h).symm⟩
    · cases h
  · cases h
theorem i_zip {a e2 : Expr} {p pos tpos : Pos} {elts : List Expr} {kk : Nat} (hg : Gl X "zip") (hm : X.mg "zip" = none) (ha : SA ct X [a, e2] ga)
    (hs : starEach [a, e2] X.env = (false, eval a X.env) :: starEach [e2] X.env := by rfl) (hpl : (backTo pos (starEach [e2] X.env)).any (·.1) = false := by rfl) :
    SI ct X (.Tuple elts kk tpos) (.Call (.Name "zip" p) [a, e2] [] pos) (itN kZ ga) := by
  refine run_itN (r := fun vs H1 RR => ∃ a b xs ys, vs = [.ref a, .ref b] ∧ SqL X.K H1 a xs ∧ SqL X.K H1 b ys ∧ RR (Itz X.K a b) H1) ha (fun pa => pi_zip hg hm pa hs hpl) fun S H F xs vs f ds RR h1 k1 q hR => ?_
  obtain ⟨b, m, es, b', m', es', rfl, hb, rfl⟩ := kZ_some q
  obtain ⟨v, w, f1, f2, rfl, rfl, h, h'⟩ := h1.two
  rw [List.append_assoc] at k1
  obtain ⟨S', u1, u2, r, k2⟩ := froze' h k1 hb.1
  obtain ⟨S'', w1, w2, r', k3⟩ := froze' (h'.more u1) k2 hb.2
  obtain ⟨a, xs, rfl, q1, q2⟩ := (r.more w1).lst0'
  obtain ⟨a', xs', rfl, q1', q2'⟩ := r'.lst0'
  refine ⟨a, a', xs, xs', rfl, q2 _ _ Later.refl, q2' _ _ Later.refl, hR _ S'' (fun b hb => w1 b (u1 b hb)) (fun b hb => ?_) k3 (it_zip q1 q2 q1' q2')⟩
  rcases w2 b hb with z | z
  · exact (u2 b z).imp id (List.mem_append_left _)
  · exact .inr (List.mem_append_right _ z)
end
end Vs
set_option maxHeartbeats 4000000
/-! Vs: defs and their calls. -/
namespace Vs
open PySem PySem.Spec PyProof.Rows L2

/-- what a def promises: it does what m says -/
def SpF (K : PySem.W.Frag) (ct : Str → Addr) (n : Nat) (m : List PV → RF) : Sp := fun vs H Q E =>
  ∃ S F pvs, EnvRp K S H (vs.map some) (pvs.map some) F ∧ Ok S H F ∧ vs.length = n ∧ match m pvs with
    | .ok r out => ∀ v S' H' F' f, Step S F H S' (f ++ F') H' → Rp K S' H' r.1 v r.2 f → EnvRp K S' H' (vs.map some) out F' → Ok S' H' (f ++ F') → Q v H'
    | .ex e out => ∀ C d S' H' F', Step S F H S' F' H' → EnvRp K S' H' (vs.map some) out F' → Ok S' H' F' → ExOk K ct S' H' e C d → E C d H'
    | .no => False
/-- a def of the text that does what m says; no text of a value is being written ahead of it -/
structure Fn (P : Program) (w : World) (K : PySem.W.Frag) (mg : Str → Option Value) (base : Heap) (ct : Str → Addr) (k : Nat) (f : Addr) (fd : FuncData) (ps : List Str) (m : List PV → RF) : Prop where
  run : ∀ (A : Around) (outer : List PySem.Env) (s : Shared) (H : Hp) (args : Args) (us : List Value) (vs : List V) (Q : VK) (E : XK), A.guards = some [] → Room k A → Env0 P w K mg base A outer s H →
    BindsTo s fd args (ps.zip us) → Vals vs us → SpF K ct ps.length m vs H Q E → codeAny (model P w) A (.call (.ref f) args) (CR (L2N.CX P w) outer P w H s Q E) s

section
variable {K : PySem.W.Frag} {S : Addr → Prop} {H : Hp}
theorem EnvRp.deads {σ : List (Option V)} {ρ : Env} {F : List Addr} (h : EnvRp K S H σ ρ F) (n : Nat) : EnvRp K S H (σ ++ List.replicate n none) (ρ ++ List.replicate n none) F := by
  induction h with
  | nil =>
    simp only [List.nil_append]
    induction n with
    | zero => exact .nil
    | succ n ih => exact .dead ih
  | dead _ ih => exact .dead ih
  | live r _ p ih => exact .live r ih p
/-- the lent parameters behind a body -/
theorem EnvRp.outs : ∀ {lent : List Bool} {σ : List (Option V)} {ρ : Env} {F : List Addr} {vs : List V}, EnvRp K S H σ ρ F → vs.length = lent.length →
    (∀ i : Nat, lent[i]? = some true → σ[i]? = (vs.map some)[i]?) → ∃ F1 G, F.Perm (G ++ F1) ∧ EnvRp K S H (vs.map some) (Vs.outs lent ρ) F1
  | [], _, _, F, vs, _, hl, _ => by
    obtain rfl : vs = [] := List.length_eq_zero_iff.mp hl
    exact ⟨[], F, by simp, .nil⟩
  | b :: bs, _, _, F, [], _, hl, _ => by cases hl
  | b :: bs, _, _, F, v :: vs, h, hl, hk => by
    cases h with
    | nil =>
      obtain ⟨F1, G, p, q⟩ := EnvRp.outs (lent := bs) (vs := vs) (EnvRp.nil (K := K) (S := S) (H := H)) (by simpa using hl) fun i hi => by simpa using hk (i + 1) (by simpa using hi)
      exact ⟨F1, G, p, .dead q⟩
    | dead h =>
      obtain ⟨F1, G, p, q⟩ := EnvRp.outs (lent := bs) (vs := vs) h (by simpa using hl) fun i hi => by simpa using hk (i + 1) (by simpa using hi)
      refine ⟨F1, G, p, ?_⟩
      show EnvRp K S H (some v :: vs.map some) ((if b = true then none else none) :: _) F1
      rw [ite_self]
      exact .dead q
    | live r h p0 =>
      rename_i x m d f σ ρ F0
      obtain ⟨F1, G, p, q⟩ := EnvRp.outs (lent := bs) (vs := vs) h (by simpa using hl) fun i hi => by simpa using hk (i + 1) (by simpa using hi)
      show ∃ F1 G, F.Perm (G ++ F1) ∧ EnvRp K S H (some v :: vs.map some) ((if b = true then some (m, d) else none) :: _) F1
      cases b with
      | true =>
        have e : some (some x) = some (some v) := by simpa using hk 0 rfl
        cases e
        rw [if_pos rfl]
        refine ⟨f ++ F1, G, (p0.trans (List.Perm.append_left _ p)).trans ?_, .live r q (.refl _)⟩
        rw [← List.append_assoc, ← List.append_assoc]
        exact List.Perm.append_right _ List.perm_append_comm
      | false =>
        rw [if_neg Bool.false_ne_true]
        refine ⟨F1, f ++ G, (p0.trans (List.Perm.append_left _ p)).trans ?_, .dead q⟩
        rw [List.append_assoc]
end

/-- a body's end, for its caller -/
theorem body_ends {K : PySem.W.Frag} {ct : Str → Addr} {lent : List Bool} {N ps : List Str} {g : MS} {vs : List V} {H : Hp} {Q : VK} {E : XK} {t : TS} (hn : ps.length ≤ N.length) (hl : lent.length = ps.length)
    (ht : ∀ S F H σ ρ D, EnvRp K S H σ ρ F → Ok S H F → GoodS K ct lent (fun cls d _ H => E cls d H) D S F H σ (g ρ) → t D σ H) (h : SpF K ct ps.length (fnM N.length lent g) vs H Q E) :
    t { nx := fun _ H' => Q .non H', rt := Q } (L2.start N vs) H := by
  obtain ⟨S, F, pvs, EV, ok, hv, q⟩ := h
  have hp : pvs.length = vs.length := by simpa using EV.len.symm
  have e1 : EnvRp K S H (L2.start N vs) (pvs.map some ++ List.replicate (N.length - pvs.length) none) F := by
    unfold L2.start
    rw [hp]
    exact EV.deads _
  have at0 : ∀ i : Nat, lent[i]? = some true → (L2.start N vs)[i]? = (vs.map some)[i]? := fun i hi => by
    have : i < lent.length := (List.getElem?_eq_some_iff.mp hi).1
    unfold L2.start
    exact List.getElem?_append_left (by rw [List.length_map]; omega)
  -- the parameters
  have out : ∀ {S' : Addr → Prop} {H' : Hp} {σ' : List (Option V)} {ρ' : Env} {f F' : List Addr}, EnvRp K S' H' σ' ρ' F' → Kp lent (L2.start N vs) σ' → Ok S' H' (f ++ F') → ∃ F1, EnvRp K S' H' (vs.map some) (outs lent ρ') F1 ∧ Ok S' H' (f ++ F1) ∧ ∀ b ∈ f ++ F1, b ∈ f ++ F' :=
    fun {S' H' σ' ρ' f F'} e kp o => by
      obtain ⟨F1, G, p, r⟩ := e.outs (lent := lent) (vs := vs) (by omega) fun i hi => (kp.2 i hi).trans (at0 i hi)
      have p2 : (f ++ F').Perm (G ++ (f ++ F1)) := by
        refine (List.Perm.append_left _ p).trans ?_
        rw [← List.append_assoc, ← List.append_assoc]
        exact List.Perm.append_right _ List.perm_append_comm
      exact ⟨F1, r, (o.perm p2).tail, fun b hb => p2.mem_iff.mpr (List.mem_append_right _ hb)⟩
  refine ht S F H _ _ _ e1 ok ?_
  unfold fnM at q
  cases r : g (pvs.map some ++ List.replicate (N.length - pvs.length) none) with
  | no => rw [r] at q; exact q
  | brk ρ' => rw [r] at q; exact False.elim q
  | ct ρ' => rw [r] at q; exact False.elim q
  | nx ρ' =>
    rw [r] at q
    intro σ' S' F' H' st E' ok' kp
    obtain ⟨F1, a, b, c⟩ := out (f := []) E' kp ok'
    exact q .non S' H' F1 [] (st.less c) (.non _) a b
  | ret pv ρ' =>
    rw [r] at q
    intro v f σ' S' F' H' st hr E' ok' kp
    obtain ⟨F1, a, b, c⟩ := out E' kp ok'
    exact q v S' H' F1 f (st.less c) hr a b
  | ex e ρ' =>
    rw [r] at q
    intro C d σ' S' F' H' st E' ok' kp hx
    obtain ⟨F1, a, b, c⟩ := out (f := []) E' kp ok'
    exact q C d S' H' F1 (st.less c) a b hx

section
variable {P : Program} {w : World} {K : PySem.W.Frag} {mg : Str → Option Value} {base : Heap} {ct : Str → Addr}
/-- a def's body's context -/
abbrev bodyX (P : Program) (w : World) (K : PySem.W.Frag) (mg : Str → Option Value) (base : Heap) (N : List Str) (qual : Str) (st : Stmt) (f : Addr) (cdv : Value) (A : Around) (outer : List PySem.Env) (s : Shared) (H : Hp) (E : XK) : Cx :=
  cxOf (L2N.CX P w) P w K mg base N qual (defScope st) f cdv A outer s H E
/-- the rule for a def -/
theorem fn_of {x qual : Str} {st : Stmt} {f : Addr} {fd : FuncData} {N ps : List Str} {k : Nat} {lent : List Bool} {g : MS} (F : Fun K x qual st f fd) (Sc : FnScope N ps (defScope st)) (hn : ps.length ≤ N.length) (hl : lent.length = ps.length)
    (hbody : ∀ (cdv : Value) (A : Around) (outer : List PySem.Env) (s : Shared) (H : Hp) (E : XK), Room k (bodyX P w K mg base N qual st f cdv A outer s H E).A → (bodyX P w K mg base N qual st f cdv A outer s H E).A.guards = some [] →
      SSs ct lent (bodyX P w K mg base N qual st f cdv A outer s H E) (defBody st) g) : Fn P w K mg base ct (k + 1) f fd ps (fnM N.length lent g) := by
  obtain ⟨oc, od, kV, doc, pm, an, cdv, cv, osl, rfl, lk, hcd⟩ := F.ex
  refine ⟨fun A outer s H args us vs Q E hgd hr e0 hb r hsp => ?_⟩
  have hlen : vs.length = ps.length := by
    obtain ⟨_, _, _, _, _, z, _⟩ := hsp
    exact z
  have inn : K.In s.heap := e0.mod.kin.keeps fun b o e => (e0.bs b o e).1
  have lim : s.heap.NoLimit := e0.mod.nolimit.keeps fun b o e => (e0.bs b o e).1
  refine codeAny_call_function hr.depth (inn _ _ lk) rfl Sc.co Sc.gen rfl (PySem.W.codeRec_of inn hcd) (hb _ _ _ _ ?_)
  refine wpAny_newFunctionEnv_cells Sc.kind (fun ⟨n, u⟩ hm => ?_) fun env henv s1 made => ?_
  · rcases Sc.par n (List.of_mem_zip hm).1 with z | z
    · exact .inl z
    · exact .inr ⟨z, PySem.W.cellsFrom_some _ _ _ (.inl z)⟩
  · subst henv
    refine ⟨lim.keeps made.toInCall.keep, codeAny_func ?_⟩
    have I : Inv (bodyX P w K mg base N qual st f cdv A outer s H E) [] (L2.start N vs) H s1 := inv_start Sc hr.hd e0 hlen r made
    obtain ⟨t, ht, run⟩ := (hbody cdv A outer s H E (hr.deeper _) hgd).run (fun cls d _ H => E cls d H) (L2N.takes_of rfl rfl rfl rfl) (passes_of rfl)
    refine wpAny_mono (ht.run [] s1 (L2.start N vs) H _ I (body_ends hn hl run hsp)) (fun fl s2 hs => ?_) fun _ _ z => z
    have ends : ∀ {σ' : L2.St} {H' : Hp} {v : V} {u : Value}, Inv (bodyX P w K mg base N qual st f cdv A outer s H E) [] σ' H' s2 → RelV v u → Q v H' → CE outer P w H s Q u s2 :=
      fun {σ' H' v u} J rv q => ⟨v, H', J.os, J.bare, J.base, J.hok, rv, q⟩
    cases fl with
    | ret u =>
      obtain ⟨v, σ', H', J, rv, q⟩ := hs
      exact ends J rv q
    | next =>
      obtain ⟨σ', H', J, q⟩ := hs
      exact ends (v := .non) (u := .none) J rfl q
    | brk =>
      obtain ⟨_, _, _, q⟩ := hs
      exact q.elim
    | cont =>
      obtain ⟨_, _, _, q⟩ := hs
      exact q.elim
end

/-! ### calls -/
/-- arguments: slots that are lent; values -/
inductive AvOk (K : PySem.W.Frag) (σ : List (Option V)) (S : Addr → Prop) (H : Hp) : List AV → List V → List Addr → Prop
  | nil : AvOk K σ S H [] [] []
  | l {i : Nat} {v : V} {as : List AV} {vs : List V} {f : List Addr} : σ[i]? = some (some v) → AvOk K σ S H as vs f → AvOk K σ S H (.l i :: as) (v :: vs) f
  | o {m : Nat} {d : D} {v : V} {f : List Addr} {as : List AV} {vs : List V} {g : List Addr} : Rp K S H m v d f → AvOk K σ S H as vs g → AvOk K σ S H (.o (m, d) :: as) (v :: vs) (f ++ g)
structure SC (ct : Str → Addr) (X : Cx) (es : List Expr) (g : Vs.Env → R (List AV)) : Prop where
  run : ∀ W, Takes X W → ∃ t, PA X es t ∧ ∀ S F H σ ρ Q, EnvRp X.K S H σ ρ F → Ok S H F → Good X.K ct (AvOk X.K σ) W S F H σ ρ (g ρ) Q → t σ H Q
section
variable {K : PySem.W.Frag} {S S' : Addr → Prop} {H H' : Hp} {σ : List (Option V)}
theorem AvOk.len {as : List AV} {vs : List V} {f : List Addr} (h : AvOk K σ S H as vs f) : as.length = vs.length := by
  induction h with
  | nil => rfl
  | l _ _ ih => exact congrArg (· + 1) ih
  | o _ _ ih => exact congrArg (· + 1) ih
theorem perm_mid {a b c : List Addr} : (a ++ (b ++ c)).Perm (b ++ (a ++ c)) := by
  rw [← List.append_assoc, ← List.append_assoc]
  exact List.Perm.append_right _ List.perm_append_comm
theorem grab_ok : ∀ {as : List AV} {vs : List V} {f F : List Addr} {ρ ρ' : Vs.Env} {pvs : List PV}, AvOk K σ S H as vs f → EnvRp K S H σ ρ F → grab as ρ = some (pvs, ρ') →
    ∃ Fa F', EnvRp K S H (vs.map some) (pvs.map some) Fa ∧ EnvRp K S H σ ρ' F' ∧ (f ++ F).Perm (Fa ++ F')
  | _, _, _, F, ρ, ρ', pvs, .nil, E, h => by
    obtain ⟨rfl, rfl⟩ := Prod.mk.inj (Option.some.inj h)
    exact ⟨[], F, .nil, E, .refl _⟩
  | _, _, _, F, ρ, ρ', pvs, .l (i := i) (as := as) (f := f) hv a, E, h => by
    unfold grab at h
    cases q : look ρ i with
    | none => rw [q] at h; cases h
    | some pv =>
      obtain ⟨m, d⟩ := pv
      rw [q] at h
      obtain ⟨v', f', G, h1, h2, p, E'⟩ := E.take q
      rw [hv] at h1
      cases h1
      cases q2 : grab as (Vs.put ρ i none) with
      | none => rw [q2] at h; cases h
      | some z =>
        obtain ⟨pvs', ρ2⟩ := z
        rw [q2] at h
        obtain ⟨rfl, rfl⟩ := Prod.mk.inj (Option.some.inj h)
        obtain ⟨Fa, F', b1, b2, b3⟩ := grab_ok a E' q2
        refine ⟨f' ++ Fa, F', .live h2 b1 (.refl _), b2, ?_⟩
        refine (List.Perm.append_left _ p).trans (perm_mid.trans ?_)
        rw [List.append_assoc]
        exact List.Perm.append_left _ b3
  | _, _, _, F, ρ, ρ', pvs, .o (f := f) (as := as) (g := g) r a, E, h => by
    unfold grab at h
    cases q2 : grab as ρ with
    | none => rw [q2] at h; cases h
    | some z =>
      obtain ⟨pvs', ρ2⟩ := z
      rw [q2] at h
      obtain ⟨rfl, rfl⟩ := Prod.mk.inj (Option.some.inj h)
      obtain ⟨Fa, F', b1, b2, b3⟩ := grab_ok a E q2
      refine ⟨f ++ Fa, F', .live r b1 (.refl _), b2, ?_⟩
      rw [List.append_assoc, List.append_assoc]
      exact List.Perm.append_left _ b3
theorem back_ok : ∀ {as : List AV} {vs : List V} {f Fo F : List Addr} {ρ out : Vs.Env} {S0 : Addr → Prop} {H0 : Hp}, AvOk K σ S0 H0 as vs f → EnvRp K S H (vs.map some) out Fo → EnvRp K S H σ ρ F →
    ∃ G F', (Fo ++ F).Perm (G ++ F') ∧ EnvRp K S H σ (back as out ρ) F'
  | _, _, _, _, F, ρ, out, _, _, .nil, EO, E => by
    cases EO
    exact ⟨[], F, .refl _, E⟩
  | _, _, _, _, F, ρ, out, _, _, .l (i := i) (as := as) hv a, EO, E => by
    cases EO with
    | dead EO =>
      obtain ⟨f0, G0, p0, E0⟩ := E.drop i
      obtain ⟨G, F', p, E'⟩ := back_ok a EO E0
      refine ⟨f0 ++ G, F', (List.Perm.append_left _ p0).trans (perm_mid.trans ?_), E'⟩
      rw [List.append_assoc]
      exact List.Perm.append_left _ p
    | live r EO q =>
      rename_i m d f1 ρ1 F1
      obtain ⟨f0, G0, p0, E0⟩ := E.drop i
      obtain ⟨G, F', p, E'⟩ := back_ok a EO (E0.back hv r)
      refine ⟨f0 ++ G, F', ((q.append p0).trans ?_), E'⟩
      rw [List.append_assoc f0, List.append_assoc]
      exact (((List.Perm.append_left _ perm_mid).trans perm_mid).trans (List.Perm.append_left _ perm_mid)).trans (List.Perm.append_left _ p)
  | _, _, _, _, F, ρ, out, _, _, .o a0 a, EO, E => by
    cases EO with
    | dead EO =>
      obtain ⟨G, F', p, E'⟩ := back_ok a EO E
      exact ⟨G, F', p, E'⟩
    | live r EO q =>
      rename_i m d f1 ρ1 F1
      obtain ⟨G, F', p, E'⟩ := back_ok a EO E
      refine ⟨f1 ++ G, F', (List.Perm.append_right _ q).trans ?_, E'⟩
      rw [List.append_assoc, List.append_assoc]
      exact List.Perm.append_left _ p
end
section
variable {ct : Str → Addr} {X : Cx} {e : Expr} {es : List Expr} {ge : M} {as : List AK}
theorem sc_nil : SC ct X [] (cargs []) := ⟨fun W tk => ⟨_, pa_nil, fun S F H σ ρ Q E ok G => G [] S F H [] Fit.nil .nil E ok⟩⟩
theorem sc_lend (i : Nat) {x : Str} {pos : Pos} (h : SC ct X es (cargs as)) (hN : X.N[i]? = some x := by rfl) (hv : Vis X.env.scope x := by first | exact Or.inl rfl | exact Or.inr (Or.inl rfl) | exact Or.inr (Or.inr rfl)) (hd : (x == ("__debug__" : Str)) = false := by decide)
    (hcd : (x == ("__classdict__" : Str)) = false := by decide) : SC ct X (.Name x pos :: es) (cargs (.lend i :: as)) := by
  refine ⟨fun W tk => ?_⟩
  obtain ⟨t, p, r⟩ := h.run W tk
  refine ⟨_, pa_cons (pv i hN hv hd hcd) p, fun S F H σ ρ Q E ok G => ?_⟩
  unfold cargs at G
  cases q : look ρ i with
  | none => rw [q] at G; exact G.elim
  | some pv =>
    obtain ⟨m, d⟩ := pv
    rw [q] at G
    obtain ⟨v, f, G', h1, _⟩ := E.take q
    refine ⟨v, h1, r S F H σ ρ _ E ok ?_⟩
    refine good_bind G fun a o y S1 F1 H1 f _ t1 hr E1 k1 G => ?_
    exact G (v :: y) S1 F1 H1 f (by rw [thn_none]; exact t1) (.l h1 hr) E1 k1
theorem AvOk.step {K : PySem.W.Frag} {S S' : Addr → Prop} {H H' : Hp} {σ : List (Option V)} {F F' : List Addr} (st : Step S F H S' F' H') (ok : Ok S H F) {xs : List AV} {vs : List V} {f : List Addr} (hf : ∀ b ∈ f, b ∉ F) (h : AvOk K σ S H xs vs f) : AvOk K σ S' H' xs vs f := by
  induction h with
  | nil => exact .nil
  | l a _ ih => exact .l a (ih hf)
  | o a b ih => exact .o (a.step st ok fun b hb => hf b (List.mem_append_left _ hb)) (ih fun b hb => hf b (List.mem_append_right _ hb))
theorem sc_val (ha : SE ct X e ge) (h : SC ct X es (cargs as)) (hs : starEach (e :: es) X.env = (false, eval e X.env) :: starEach es X.env := by rfl) : SC ct X (e :: es) (cargs (.val ge :: as)) := by
  refine ⟨fun W tk => ?_⟩
  obtain ⟨ta, pa, ra⟩ := ha.run W tk
  obtain ⟨t, p, r⟩ := h.run W tk
  refine ⟨_, pa_cons pa p hs, fun S F H σ ρ Q E ok G => ra S F H σ ρ _ E ok ?_⟩
  unfold cargs at G
  refine good_bind G fun x o v S1 F1 H1 f _ t1 h1 E1 k1 G => ?_
  cases q : x.kept with
  | none => rw [q] at G; exact G.elim
  | some pv =>
    rw [q] at G
    obtain ⟨hs, rfl⟩ := kept_some q
    refine r S1 F1 H1 σ _ _ E1 k1.tail ?_
    cases qb : cargs as (now o ρ) with
    | no => rw [qb] at G; exact G
    | ex x ρ1 =>
      rw [qb] at G
      intro C d S2 F2 H2 st E2 k2 hx
      exact G C d S2 F2 H2 ((t1.step.less fun b hb => List.mem_append_right _ hb).trans st) E2 k2 hx
    | ok y o2 =>
      rw [qb] at G
      intro u S2 F2 H2 g t2 h2 E2 k2
      have k3 : Ok S2 H2 ((f ++ g) ++ F2) := Fit.both k1 t2 k2
      refine G (v :: u) S2 F2 H2 (f ++ g) ?_ (.o ((h1.stab hs).step t2.step k1.tail k1.apart) h2) ?_ k3
      · exact t1.thn k1 t2 (fun b hb => by rw [List.mem_append] at hb; exact hb.imp id .inl) (Same.refl _)
      · rw [thn_none, now_thn]
        exact E2
theorem cargs_len {as : List AK} {ρ : Vs.Env} {avs : List AV} {o : Option Vs.Env} (hr : cargs as ρ = .ok avs o) : avs.length = as.length := by
  induction as generalizing ρ avs o with
  | nil =>
    unfold cargs at hr
    cases hr
    rfl
  | cons a as ih =>
    cases a with
    | lend i =>
      unfold cargs at hr
      cases q : look ρ i with
      | none => rw [q] at hr; cases hr
      | some pv =>
        rw [q] at hr
        cases q2 : cargs as ρ with
        | no => rw [q2] at hr; cases hr
        | ex _ _ => rw [q2] at hr; cases hr
        | ok y o2 =>
          rw [q2] at hr
          cases hr
          exact congrArg (· + 1) (ih q2)
    | val e =>
      unfold cargs at hr
      cases q : e ρ with
      | no => rw [q] at hr; cases hr
      | ex _ _ => rw [q] at hr; cases hr
      | ok x o1 =>
        rw [q, R.bind_ok] at hr
        cases q3 : x.kept with
        | none => rw [q3] at hr; cases hr
        | some pv =>
          rw [q3] at hr
          cases q2 : cargs as (now o1 ρ) with
          | no => rw [q2] at hr; cases hr
          | ex _ _ => rw [q2] at hr; cases hr
          | ok y o2 =>
            rw [q2] at hr
            cases hr
            exact congrArg (· + 1) (ih q2)
/-- the parameters' own values -/
def DfOk (K : PySem.W.Frag) : List PV → List V → Prop := Paired fun (pv : PV) (v : V) => pv.2.imm = true ∧ ∀ S H, Rp K S H pv.1 v pv.2 []
theorem AvOk.nils {K : PySem.W.Frag} {S : Addr → Prop} {H : Hp} {σ : List (Option V)} : ∀ {df : List PV} {dvs : List V}, DfOk K df dvs → AvOk K σ S H (df.map .o) dvs []
  | _, _, .nil => .nil
  | _, _, .cons a b => .o (f := []) (g := []) (a.2 _ _) (AvOk.nils b)
theorem AvOk.append {K : PySem.W.Frag} {S : Addr → Prop} {H : Hp} {σ : List (Option V)} {as bs : List AV} {vs ws : List V} {f : List Addr} (h : AvOk K σ S H as vs f) (g : AvOk K σ S H bs ws []) : AvOk K σ S H (as ++ bs) (vs ++ ws) f := by
  induction h with
  | nil => exact g
  | l a _ ih => exact .l a ih
  | o a _ ih => exact .o a ih
theorem EnvRp.cold {K : PySem.W.Frag} {S : Addr → Prop} {H : Hp} : ∀ {vs : List V} {pvs : List PV} {F : List Addr}, EnvRp K S H (vs.map some) (pvs.map some) F → pvs.all PV.cold = true → F = []
  | [], [], _, .nil, _ => rfl
  | v :: vs, (m, d) :: pvs, F, .live r h p, hc => by
    rw [List.all_cons, Bool.and_eq_true] at hc
    obtain rfl := EnvRp.cold h hc.2
    rename_i f
    have : f = [] := by
      have c := hc.1
      unfold PV.cold at c
      rw [Bool.or_eq_true] at c
      rcases c with c | c
      · have : m = 0 := by simpa using c
        subst this
        exact r.own0
      · exact (r.imm c).1
    subst this
    exact List.Perm.eq_nil p
theorem look_putF : ∀ {ρ : Vs.Env} {i j : Nat} {pv : PV}, look (Vs.put ρ i none) j = some pv → look ρ j = some pv
  | [], _, _, _, h => h
  | x :: r, 0, 0, _, h => by cases h
  | x :: r, 0, j + 1, _, h => h
  | x :: r, i + 1, 0, _, h => h
  | x :: r, i + 1, j + 1, _, h => look_putF (ρ := r) h
theorem grab_quiet {K : PySem.W.Frag} {σ : L2.St} {S : Addr → Prop} {H : Hp} {ρ0 : Vs.Env} : ∀ {as : List AV} {vs : List V} {f F : List Addr} {ρ ρ' : Vs.Env} {pvs : List PV}, AvOk K σ S H as vs f → EnvRp K S H σ ρ F → grab as ρ = some (pvs, ρ') → as.all (AV.quiet ρ0) = true → (∀ j pv, look ρ j = some pv → look ρ0 j = some pv) →
    ∃ Fa, EnvRp K S H (vs.map some) (pvs.map some) Fa ∧ Fa.Perm f
  | _, _, _, F, ρ, ρ', pvs, .nil, E, h, _, _ => by
    obtain ⟨rfl, rfl⟩ := Prod.mk.inj (Option.some.inj h)
    exact ⟨[], .nil, .refl _⟩
  | _, _, _, F, ρ, ρ', pvs, .l (i := i) (as := as) (f := f) hv a, E, h, hq, hs => by
    rw [List.all_cons, Bool.and_eq_true] at hq
    unfold grab at h
    cases q : look ρ i with
    | none => rw [q] at h; cases h
    | some pv =>
      obtain ⟨m, d⟩ := pv
      rw [q] at h
      obtain ⟨v', f', G, h1, h2, p, E'⟩ := E.take q
      rw [hv] at h1
      cases h1
      cases q2 : grab as (Vs.put ρ i none) with
      | none => rw [q2] at h; cases h
      | some z =>
        obtain ⟨pvs', ρ2⟩ := z
        rw [q2] at h
        obtain ⟨rfl, rfl⟩ := Prod.mk.inj (Option.some.inj h)
        have hc : PV.cold (m, d) = true := by
          have := hq.1
          replace this : (match look ρ0 i with | some pv => pv.cold | none => false) = true := this
          rw [hs i _ q] at this
          exact this
        have hf : f' = [] := by
          unfold PV.cold at hc
          rw [Bool.or_eq_true] at hc
          rcases hc with c | c
          · have : m = 0 := by simpa using c
            subst this
            exact h2.own0
          · exact (h2.imm c).1
        subst hf
        obtain ⟨Fa, b1, b3⟩ := grab_quiet a E' q2 hq.2 fun j pv hj => hs j pv (look_putF hj)
        exact ⟨Fa, .live h2 b1 (.refl _), b3⟩
  | _, _, _, F, ρ, ρ', pvs, .o (f := f) (as := as) (g := g) r a, E, h, hq, hs => by
    rw [List.all_cons, Bool.and_eq_true] at hq
    unfold grab at h
    cases q2 : grab as ρ with
    | none => rw [q2] at h; cases h
    | some z =>
      obtain ⟨pvs', ρ2⟩ := z
      rw [q2] at h
      obtain ⟨rfl, rfl⟩ := Prod.mk.inj (Option.some.inj h)
      obtain ⟨Fa, b1, b3⟩ := grab_quiet a E q2 hq.2 hs
      exact ⟨f ++ Fa, .live r b1 (.refl _), List.Perm.append_left _ b3⟩
/-- what waits is used up -/
theorem Fit.use {o : Option Vs.Env} {S S1 S2 : Addr → Prop} {F F1 f Fa fr Fo : List Addr} {H H1 H2 : Hp} (t1 : Fit o S F H S1 F1 f H1) (p : Fa.Perm f) (st2 : Step S1 Fa H1 S2 (fr ++ Fo) H2) : Fit o S F H S2 F1 fr H2 := by
  cases o with
  | none =>
    obtain ⟨e, u1, u2, rfl, n⟩ := t1
    have hn : ∀ b, b ∈ Fa ∨ H1 b = none → H b = none := fun b hb => by
      rcases hb with z | z
      · exact n b (p.mem_iff.mp z)
      · cases q : H b with
        | none => rfl
        | some o => rw [e b o q] at z; cases z
    refine ⟨fun b o q => st2.keep b o (e b o q) fun z => ?_, fun b hb => st2.sub b (u1 b hb), fun b hb => (st2.newS b hb).elim (u2 b) fun z => .inr (hn b z), rfl, fun b hb => hn b (st2.newF b (List.mem_append_left _ hb))⟩
    rw [hn b (.inl z)] at q
    cases q
  | some _ =>
    have t1 : Step S F H S1 (f ++ F1) H1 := t1
    exact t1.trans (st2.wide (fun b hb => List.mem_append_left _ (p.mem_iff.mp hb)) fun b hb => (List.mem_append.mp hb).elim (fun z => .inl (List.mem_append_left _ z)) fun z => .inr (List.mem_append_right _ z))
/-- what a call does, once its arguments are there -/
theorem run_call {x : V} {n : Nat} {W : WX} {m : List PV → RF} {df : List PV} {dvs : List V} {t : TA} {S : Addr → Prop} {F : List Addr} {H : Hp} {σ : L2.St} {ρ : Vs.Env} {Q : VK} (hd : DfOk X.K df dvs) (hn : as.length + dvs.length = n)
    (r : ∀ S F H σ ρ Q, EnvRp X.K S H σ ρ F → Ok S H F → Good X.K ct (AvOk X.K σ) W S F H σ ρ (cargs as ρ) Q → t σ H Q) (E : EnvRp X.K S H σ ρ F) (ok : Ok S H F) (G : Good X.K ct (VOk X.K) W S F H σ ρ (call m df as ρ) Q) :
    t σ H fun vs H1 => SpF X.K ct n m (vs ++ dvs) H1 Q fun C d H' => W C d σ H' := by
  refine r S F H σ ρ _ E ok ?_
  unfold call at G
  refine good_bind G fun avs0 o vs0 S1 F1 H1 f hr t1 h0 E1 k1 G => ?_
  have hlen : avs0.length = as.length := cargs_len hr
  have h1 : AvOk X.K σ S1 H1 (avs0 ++ df.map .o) (vs0 ++ dvs) f := h0.append (AvOk.nils hd)
  have hlen2 : (vs0 ++ dvs).length = n := by
    rw [List.length_append, ← h0.len, hlen]
    exact hn
  generalize avs0 ++ df.map .o = avs at h1 G
  generalize vs0 ++ dvs = vs at h1 hlen2 ⊢
  cases q : grab avs (now o ρ) with
  | none => rw [q] at G; exact G.elim
  | some z =>
    obtain ⟨pvs, ρ2⟩ := z
    rw [q] at G
    obtain ⟨Fa, F', b1, b2, b3⟩ := grab_ok h1 E1 q
    by_cases hc : avs.all (AV.quiet (now o ρ)) = true
    · have G : Good X.K ct (VOk X.K) W S F H σ ρ ((if avs.all (AV.quiet (now o ρ)) = true then (m pvs).pure (now o ρ) else (m pvs).fin avs ρ2).aft o) Q := G
      rw [if_pos hc] at G
      obtain ⟨Fq, c1, c2⟩ := grab_quiet h1 E1 q hc fun _ _ z => z
      have kq : Ok S1 H1 (Fq ++ F1) := k1.perm (List.Perm.append_right _ c2.symm)
      have kq' : Ok S1 H1 (F1 ++ Fq) := kq.perm List.perm_append_comm
      refine ⟨S1, Fq, pvs, c1, kq.head, hlen2, ?_⟩
      cases qm : m pvs with
      | no => rw [qm] at G; exact G.elim
      | ok rv out =>
        rw [qm] at G
        intro v S2 H2 Fo fr st2 hv EO k4
        have k5 : Ok S2 H2 (F1 ++ (fr ++ Fo)) := Ok.join st2 kq' k4
        have k6 : Ok S2 H2 (fr ++ F1) := (k5.perm (List.perm_iff_count.mpr fun b => (by simp only [List.count_append]; omega) : (F1 ++ (fr ++ Fo)).Perm (Fo ++ (fr ++ F1)))).tail
        exact G v S2 F1 H2 fr (t1.use c2 st2) (by rw [VOk.own]; exact hv) (E1.step st2 kq.head fun b hb z => kq.apart b z hb) k6
      | ex ee out =>
        rw [qm] at G
        intro C d S2 H2 Fo st2 EO k4 hx
        have k5 : Ok S2 H2 (F1 ++ Fo) := Ok.join st2 kq' k4
        have st3 : Step S1 (f ++ F1) H1 S2 F1 H2 := st2.wide (fun b hb => List.mem_append_left _ (c2.mem_iff.mp hb)) fun b hb => .inr (List.mem_append_right _ hb)
        exact G C d S2 F1 H2 (t1.step.trans st3) (E1.step st2 kq.head fun b hb z => kq.apart b z hb) k5.head hx
    replace G : Good X.K ct (VOk X.K) W S F H σ ρ ((if avs.all (AV.quiet (now o ρ)) = true then (m pvs).pure (now o ρ) else (m pvs).fin avs ρ2).aft o) Q := G
    rw [if_neg hc] at G
    have k2 : Ok S1 H1 (Fa ++ F') := k1.perm b3
    have k2' : Ok S1 H1 (F' ++ Fa) := k2.perm List.perm_append_comm
    refine ⟨S1, Fa, pvs, b1, k2.head, hlen2, ?_⟩
    have st0 : Step S F H S1 (Fa ++ F') H1 := t1.step.less fun b hb => b3.mem_iff.mpr hb
    cases qm : m pvs with
    | no => rw [qm] at G; exact G.elim
    | ok rv out =>
      rw [qm] at G
      intro v S2 H2 Fo fr st2 hv EO k4
      have E3 : EnvRp X.K S2 H2 σ ρ2 F' := b2.step st2 k2.head fun b hb z => k2.apart b z hb
      obtain ⟨G2, F2, p, E4⟩ := back_ok h1 EO E3
      have k5 : Ok S2 H2 (F' ++ (fr ++ Fo)) := Ok.join st2 k2' k4
      have p6 : (F' ++ (fr ++ Fo)).Perm (G2 ++ (fr ++ F2)) := by
        refine List.perm_append_comm.trans ?_
        rw [List.append_assoc]
        exact (List.Perm.append_left _ p).trans perm_mid
      have st3 : Step S1 (Fa ++ F') H1 S2 (fr ++ F2) H2 := st2.wide (fun b hb => List.mem_append_left _ hb) fun b hb => by
        have := p6.mem_iff.mpr (List.mem_append_right G2 hb)
        rcases List.mem_append.mp this with z | z
        · exact .inr (List.mem_append_right _ z)
        · exact .inl z
      exact G v S2 F2 H2 fr (st0.trans st3) (by rw [VOk.own]; exact hv) E4 (k5.perm p6).tail
    | ex ee out =>
      rw [qm] at G
      intro C d S2 H2 Fo st2 EO k4 hx
      have E3 : EnvRp X.K S2 H2 σ ρ2 F' := b2.step st2 k2.head fun b hb z => k2.apart b z hb
      obtain ⟨G2, F2, p, E4⟩ := back_ok h1 EO E3
      have k5 : Ok S2 H2 (F' ++ Fo) := Ok.join st2 k2' k4
      have p6 : (F' ++ Fo).Perm (G2 ++ F2) := List.perm_append_comm.trans p
      have st3 : Step S1 (Fa ++ F') H1 S2 F2 H2 := st2.wide (fun b hb => List.mem_append_left _ hb) fun b hb => by
        have := p6.mem_iff.mpr (List.mem_append_right G2 hb)
        rcases List.mem_append.mp this with z | z
        · exact .inr (List.mem_append_right _ z)
        · exact .inl z
      exact G C d S2 F2 H2 (st0.trans st3) E4 (k5.perm p6).tail hx
end
section
variable {ct : Str → Addr} {X : Cx} {W : WX} {k : Nat} {f : Addr} {fd : FuncData} {ps : List Str} {m : List PV → RF} {as : List AK} {df : List PV} {dvs : List V} {ds : List Value}
theorem s_call {x : Str} {p pos : Pos} {e : Expr} {es : List Expr} (F : Fn X.prog X.w X.K X.mg X.base ct k f fd ps m) (hgd : X.A.guards = some []) (hr : Room k X.A) (hg : Gl X x) (hm : X.mg x = some (.ref f)) (hk : PySem.W.keepIn X.K (.ref f) = true) (hb : Binds X.K fd ps ds) (hdv : Vals dvs ds) (hd : DfOk X.K df dvs)
    (ha : SC ct X (e :: es) (cargs as)) (hn : as.length + dvs.length = ps.length) (hdb : (x == ("__debug__" : Str)) = false := by decide) (he : starEach (e :: es) X.env = (false, eval e X.env) :: starEach es X.env := by rfl) (hpl : (backTo pos (starEach es X.env)).any (·.1) = false := by rfl) :
    SE ct X (.Call (.Name x p) (e :: es) [] pos) (call m df as) := by
  refine ⟨fun W tk => ?_⟩
  obtain ⟨t, pa, r⟩ := ha.run W tk
  refine ⟨fun σ H Q => t σ H fun vs H1 => SpF X.K ct ps.length m (vs ++ dvs) H1 Q fun C d H' => W C d σ H', ⟨fun pins s σ H Q I h => ?_⟩, fun S F H σ ρ Q E ok G => run_call (x := .non) hd hn r E ok G⟩
  refine wpAny_Call_Name_kw (ld_glob I hg hm ?_ hdb)
  refine PySem.W.callWith_K (h₀ := X.base) I.ok.mod.kin hk (L2.thn (pa.run pos pins s σ H _ I h) fun us s1 ⟨vs, H1, I1, rv, q⟩ => ⟨I1.kIn, ?_⟩) he hpl
  have hl : (us ++ ds).length = ps.length := by
    obtain ⟨_, _, _, _, _, z, _⟩ := q
    rw [List.length_append, ← rv.length, ← hdv.length, ← List.length_append, z]
  refine wpAny_call (codeAny_mono (F.run X.A X.stack s1 H1 ⟨us, []⟩ (us ++ ds) (vs ++ dvs) Q _ hgd hr I1.env0 (hb s1 us I1.kIn hl) (rv.append hdv) q) fun rr s' hq => ?_)
  cases rr with
  | error e => exact L2N.passAt tk σ pins H1 s1 e s' I1 hq
  | ok fl =>
    cases fl with
    | ret u => exact I1.after hq
    | next => exact False.elim hq
    | brk => exact False.elim hq
    | cont => exact False.elim hq
end
end Vs
set_option maxHeartbeats 4000000
/-! Vs: operators. -/
namespace Vs
open PySem PySem.Spec PyProof.Rows L2
theorem lim_eq : lim = sizeLine := by rw [sizeLine_eq]; rfl
/-- either rule -/
theorem OpR.or {X : Cx} {f : Value → Value → Sem Value} {r r' : R2} (h : OpR X f r) (h' : OpR X f r') : OpR X f (fun x y H Q => r x y H Q ∨ r' x y H Q) :=
  fun pins s σ H x y v u Q I rx ry q => q.elim (h pins s σ H x y v u Q I rx ry) (h' pins s σ H x y v u Q I rx ry)
section
variable {K : PySem.W.Frag} {S S' : Addr → Prop} {H : Hp} {f g : List Addr} {Q : VK}
theorem Ok.nil (ok : Ok S H f) : Ok S H [] := ok.sub (List.nil_sublist _)
/-- a value without a place is handed back -/
theorem ret_imm {b : Bool} {m : Nat} {d : D} {v : V} (ok : Ok S H f) (i : d.imm = true) (r : Rp K S H m v d []) (hQ : ∀ w H' S' h, Grow S H f S' h H' → VOk K S' H' ⟨b, m, d⟩ w h → Ok S' H' h → Q w H') : Q v H :=
  hQ v H S [] Grow.refl (.of_rp (by simp [VV.stable, i]) r) ok.nil
/-- a new list, a new tuple -/
theorem new_grow {p : Addr} {o : HO} {h : List Addr} (ok : Ok S H f) (hp : H p = none) (u1 : ∀ b, S b → S' b) (u2 : ∀ b, S' b → S b ∨ b ∈ f) (hh : ∀ b ∈ h, b ∈ f ∨ b = p) : Grow S H f S' h (upd H p o) :=
  ⟨same_upd hp, u1, fun b hb => (u2 b hb).imp id .inl, fun b hb => (hh b hb).imp id fun z => by rw [z]; exact hp⟩
theorem new_ok {p : Addr} {o : HO} (ok' : Ok S' H g) (hp : H p = none) : Ok S' (upd H p o) g := ok'.same (same_upd hp)
theorem new_okp {p : Addr} {o : HO} (ok' : Ok S' H g) (hp : H p = none) (hm : Mut (some o)) : Ok S' (upd H p o) (p :: g) := by
  have k := new_ok (o := o) ok' hp
  refine ⟨List.nodup_cons.mpr ⟨fun z => ok'.mem z hp, k.nd⟩, fun b hb => ?_, fun b hb => ?_, k.tr⟩
  · rcases List.mem_cons.mp hb with rfl | z
    · rw [upd_same]; exact hm
    · exact k.mu b z
  · rcases List.mem_cons.mp hb with rfl | z
    · exact fun q => ok'.tr b q hp
    · exact k.ns b z
theorem ret_lst {m : Nat} {xs : List V} {ds : List D} (ok : Ok S H f) (u1 : ∀ b, S b → S' b) (u2 : ∀ b, S' b → S b ∨ b ∈ f) (ok' : Ok S' H g) (hg : ∀ b ∈ g, b ∈ f) (r : RpAll K S' H m xs ds g)
    (hQ : ∀ w H' S' h, Grow S H f S' h H' → VOk K S' H' ⟨false, m + 1, .lst ds⟩ w h → Ok S' H' h → Q w H') (p : Addr) (hp : H p = none) : Q (.ref p) (upd H p (.lst xs)) :=
  hQ _ _ S' (p :: g) (new_grow ok hp u1 u2 fun b hb => (List.mem_cons.mp hb).elim .inr fun z => .inl (hg b z)) (by rw [VOk.own]; exact .lst1 upd_same (r.same (same_upd hp))) (new_okp ok' hp trivial)
theorem ret_tup {m : Nat} {xs : List V} {ds : List D} (ok : Ok S H f) (u1 : ∀ b, S b → S' b) (u2 : ∀ b, S' b → S b ∨ b ∈ f) (ok' : Ok S' H g) (hg : ∀ b ∈ g, b ∈ f) (r : RpAll K S' H m xs ds g)
    (hQ : ∀ w H' S' h, Grow S H f S' h H' → VOk K S' H' ⟨false, m + 1, .tup ds⟩ w h → Ok S' H' h → Q w H') (p : Addr) (hp : H p = none) : Q (.ref p) (upd H p (.tup xs)) :=
  hQ _ _ S' g (new_grow ok hp u1 u2 fun b hb => .inl (hg b hb)) (by rw [VOk.own]; exact .tup1 upd_same (r.same (same_upd hp))) (new_ok ok' hp)
/-- a list whose items may be kept elsewhere -/
theorem opn {F : List Addr} {b : Bool} {m : Nat} {ds : List D} {v : V} (h : VOk K S H ⟨b, m, .lst ds⟩ v f) (ok : Ok S H (f ++ F)) (ho : VV.open ⟨b, m, .lst ds⟩) :
    ∃ a xs S', v = .ref a ∧ SqL K H a xs ∧ (∀ b, S b → S' b) ∧ (∀ b, S' b → S b ∨ b ∈ f) ∧ RpAll K S' H 0 xs ds [] ∧ Ok S' H F := by
  by_cases hb : b = false ∨ m = 0
  · obtain ⟨S', u1, u2, r, k⟩ := froze' h ok hb
    obtain ⟨a, xs, rfl, q1, q2⟩ := r.lst0'
    exact ⟨a, xs, S', rfl, q2 _ _ Later.refl, u1, u2, q1, k⟩
  · obtain ⟨rfl, rfl⟩ : b = true ∧ m = 1 := by
      have ho : b = false ∨ m ≤ 1 := ho
      cases b with
      | false => exact absurd (.inl rfl) hb
      | true =>
        have : ¬ m = 0 := fun z => hb (.inr z)
        rcases ho with z | z
        · cases z
        · exact ⟨rfl, by omega⟩
    rw [VOk.bor] at h
    obtain ⟨rfl, g, h⟩ := h
    obtain ⟨a, xs, g', rfl, r1, r2, _⟩ := h.lst
    obtain rfl := r2.own0
    exact ⟨a, xs, S, rfl, r1, fun _ z => z, fun _ => .inl, r2, ok⟩
theorem opnT {F : List Addr} {b : Bool} {m : Nat} {ds : List D} {v : V} (h : VOk K S H ⟨b, m, .tup ds⟩ v f) (ok : Ok S H (f ++ F)) (ho : VV.open ⟨b, m, .tup ds⟩) :
    ∃ a xs S', v = .ref a ∧ SqT K H a xs ∧ (∀ b, S b → S' b) ∧ (∀ b, S' b → S b ∨ b ∈ f) ∧ RpAll K S' H 0 xs ds [] ∧ Ok S' H F := by
  by_cases hb : b = false ∨ m = 0
  · obtain ⟨S', u1, u2, r, k⟩ := froze' h ok hb
    obtain ⟨a, xs, rfl, q1, q2⟩ := r.tup0'
    exact ⟨a, xs, S', rfl, q2 _ _ Later.refl, u1, u2, q1, k⟩
  · obtain ⟨rfl, rfl⟩ : b = true ∧ m = 1 := by
      have ho : b = false ∨ m ≤ 1 := ho
      cases b with
      | false => exact absurd (.inl rfl) hb
      | true =>
        have : ¬ m = 0 := fun z => hb (.inr z)
        rcases ho with z | z
        · cases z
        · exact ⟨rfl, by omega⟩
    rw [VOk.bor] at h
    obtain ⟨rfl, g, h⟩ := h
    obtain ⟨a, xs, rfl, r1, r2⟩ := h.tup
    obtain rfl := r2.own0
    exact ⟨a, xs, S, rfl, r1, fun _ z => z, fun _ => .inl, r2, ok⟩
theorem VOk.int {x : VV} {i : Int} {v : V} (h : VOk K S H x v f) (e : x.d = .int i) : v = .int i := by
  obtain ⟨g, h⟩ := h.rp
  rw [e] at h
  exact h.vint
theorem VOk.str {x : VV} {i : Str} {v : V} (h : VOk K S H x v f) (e : x.d = .str i) : v = .str i := by
  obtain ⟨g, h⟩ := h.rp
  rw [e] at h
  exact h.vstr
theorem VOk.bl {x : VV} {i : Bool} {v : V} (h : VOk K S H x v f) (e : x.d = .bl i) : v = .bl i := by
  obtain ⟨g, h⟩ := h.rp
  rw [e] at h
  exact h.vbl
end

/-! ### ints -/
section
variable {X : Cx} {K : PySem.W.Frag}
/-- a rule of two ints -/
theorem op2_int {C : Int → Int → Prop} {φ : Int → Int → V} {k : VV → VV → Option VV} (hk : ∀ x y z, k x y = some z → ∃ i j, x.d = .int i ∧ y.d = .int j ∧ C i j ∧ z.d.imm = true ∧ ∀ S H, Rp K S H z.m (φ i j) z.d []) :
    Op2 K (rI C φ) k := fun S H x v f y u g z Q h1 h2 ok e hQ => by
  obtain ⟨i, j, e1, e2, c, im, r⟩ := hk x y z e
  exact ⟨i, j, h1.int e1, h2.int e2, c, ret_imm ok im (r S H) hQ⟩
theorem op2_int0 {φ : Int → Int → V} {k : VV → VV → Option VV} (hk : ∀ x y z, k x y = some z → ∃ i j, x.d = .int i ∧ y.d = .int j ∧ z.d.imm = true ∧ ∀ S H, Rp K S H z.m (φ i j) z.d []) :
    Op2 K (rI0 φ) k := fun S H x v f y u g z Q h1 h2 ok e hQ => by
  obtain ⟨i, j, e1, e2, im, r⟩ := hk x y z e
  exact ⟨i, j, h1.int e1, h2.int e2, ret_imm ok im (r S H) hQ⟩
theorem kCmp_op {φ : Int → Int → Bool} : Op2 K (rI0 fun i j => .bl (φ i j)) (kCmp φ) := op2_int0 fun x y z e => by
  unfold kCmp at e
  split at e
  · rename_i i j h1 h2
    obtain rfl := Option.some.inj e
    exact ⟨i, j, h1, h2, rfl, fun _ _ => .bl _ _⟩
  · cases e
theorem kSub_op : Op2 K (rI0 fun i j => .int (i - j)) kSub := op2_int0 fun x y z e => by
  unfold kSub at e
  split at e
  · rename_i i j h1 h2
    obtain rfl := Option.some.inj e
    exact ⟨i, j, h1, h2, rfl, fun _ _ => .int _ _⟩
  · cases e
theorem kMod_op : Op2 K (rI (fun _ j => 0 < j) fun i j => .int (i % j)) kMod := op2_int fun x y z e => by
  unfold kMod at e
  split at e
  · rename_i i j h1 h2
    split at e
    · rename_i c
      obtain rfl := Option.some.inj e
      exact ⟨i, j, h1, h2, c, rfl, fun _ _ => .int _ _⟩
    · cases e
  · cases e
theorem big_pos : (0 : Nat) < 4000 := by decide
theorem kDiv_op : Op2 K (rI CDivW fun i j => .int (i / j)) kDiv := op2_int fun x y z e => by
  unfold kDiv at e
  split at e
  · rename_i i j h1 h2
    split at e
    · rename_i c
      obtain rfl := Option.some.inj e
      exact ⟨i, j, h1, h2, wide_div c.1 (by have := c.2; rw [big_eq] at this; exact this) big_pos (by decide), rfl, fun _ _ => .int _ _⟩
    · cases e
  · cases e
/-- a power of great ints -/
theorem bits_big {i : Int} (h : i.natAbs < big) : Builtin.Int.intBits i ≤ 4000 := by
  unfold Builtin.Int.intBits
  split
  · omega
  · exact PySem.Flt.log2_lt_of big_pos (by rw [big_eq] at h; exact h)
theorem op_powB : OpR X (binaryOp .Pow) (rI (fun i j => i.natAbs < big ∧ 0 ≤ j ∧ j ≤ 100) fun i j => .int (i ^ j.toNat)) := opI fun i j t u s Q E hc q => by
  have hb := bits_big hc.1
  refine pow_int hc.2.1 ?_ q
  have h1 : (Builtin.Int.intBits i : Int) * j ≤ 4000 * j := Int.mul_le_mul_of_nonneg_right (by omega) hc.2.1
  have := hc.2.2
  omega
theorem kPow_op : Op2 K (rI (fun i j => i.natAbs < big ∧ 0 ≤ j ∧ j ≤ 100) fun i j => .int (i ^ j.toNat)) kPow := op2_int fun x y z e => by
  unfold kPow at e
  split at e
  · rename_i i j h1 h2
    split at e
    · rename_i c
      obtain rfl := Option.some.inj e
      exact ⟨i, j, h1, h2, c, rfl, fun _ _ => .int _ _⟩
    · cases e
  · cases e
end

/-! ### +, *, lists -/
section
variable {X : Cx} {K : PySem.W.Frag}
/-- list + list, whatever lists -/
def rCatL (K : PySem.W.Frag) : R2 := fun x y H Q => ∃ a b xs ys, x = .ref a ∧ y = .ref b ∧ SqL K H a xs ∧ SqL K H b ys ∧ xs.length + ys.length ≤ sizeLine ∧ ∀ p, H p = none → Q (.ref p) (upd H p (.lst (xs ++ ys)))
theorem op_catL : OpR X (binaryOp .Add) (rCatL X.K) := by
  intro pins s σ H x y v u Q I rx ry h
  obtain ⟨a, b, xs, ys, rfl, rfl, h1, h2, hz, q⟩ := h
  cases rx
  cases ry
  obtain ⟨as, ra, pa, _⟩ := I.list h1
  obtain ⟨bs, rb, pb, _⟩ := I.list h2
  obtain ⟨⟨c1, d1, t1, l1⟩, g1, m1, n1, e1⟩ := pa.isList
  obtain ⟨⟨c2, d2, t2, l2⟩, g2, m2, n2, e2⟩ := pb.isList
  simp only at m1 e1 m2 e2
  subst m1 e1 m2 e2
  have hs : as.length + bs.length ≤ sizeLine := by rw [← ra.length, ← rb.length]; exact hz
  refine concat_meets ⟨_, g1, rfl⟩ ⟨_, g2, rfl⟩ noFill_list_add seq_list_add PySem.F.slot_list_add PySem.F.entry_list_add (PySem.F.args_list_add_2 _ _) (list_addW a b as.toArray bs.toArray n1 n2 d1 d2 l1 l2 (by simpa using hs)) ⟨g1, g2, ?_⟩
  rw [show as.toArray ++ bs.toArray = (as ++ bs).toArray by simp]
  exact ⟨.ref _, _, I.lnew (t' := s.toks) (ra.append rb) (by rw [List.length_append]; omega), rfl, q _ I.fresh⟩
def rAdd3 (K : PySem.W.Frag) : R2 := fun x y H Q => rI0 (fun i j => .int (i + j)) x y H Q ∨ (∃ i j, x = .str i ∧ y = .str j ∧ i.length + j.length ≤ sizeLine ∧ Q (.str (i ++ j)) H) ∨ rCatL K x y H Q
theorem op_add3 : OpR X (binaryOp .Add) (rAdd3 X.K) := OpR.or op_add (OpR.or op_add_str op_catL)
theorem kAdd_op : Op2 K (rAdd3 K) kAdd := fun S H x v f y u g z Q h1 h2 ok e hQ => by
  unfold kAdd at e
  split at e
  · rename_i i j e1 e2
    obtain rfl := Option.some.inj e
    exact .inl ⟨i, j, h1.int e1, h2.int e2, ret_imm ok rfl (.int _ _) hQ⟩
  · rename_i i j e1 e2
    split at e
    · rename_i c
      obtain rfl := Option.some.inj e
      rw [lim_eq] at c
      exact .inr (.inl ⟨i, j, h1.str e1, h2.str e2, c, ret_imm ok rfl (.str _ _) hQ⟩)
    · cases e
  · rename_i l k e1 e2
    split at e
    · rename_i c
      obtain rfl := Option.some.inj e
      obtain ⟨b1, m1, d1⟩ := x
      obtain ⟨b2, m2, d2⟩ := y
      obtain rfl : d1 = .lst l := e1
      obtain rfl : d2 = .lst k := e2
      obtain ⟨a, xs, S1, rfl, q1, u1, u2, r1, k1⟩ := opn h1 ok c.1
      have k1' : Ok S1 H (g ++ []) := by rw [List.append_nil]; exact k1
      obtain ⟨a', ys, S2, rfl, q2, w1, w2, r2, k2⟩ := opn (h2.more u1) k1' c.2.1
      refine .inr (.inr ⟨a, a', xs, ys, rfl, rfl, q1, q2, ?_, fun p hp => ?_⟩)
      · rw [r1.length, r2.length, ← lim_eq]
        exact c.2.2
      · refine ret_lst ok (fun b hb => w1 b (u1 b hb)) (fun b hb => ?_) k2 (by simp) (RpAll.append (r1.more w1) r2) hQ p hp
        rcases w2 b hb with z | z
        · exact (u2 b z).imp id (List.mem_append_left _)
        · exact .inr (List.mem_append_right _ z)
    · cases e
  · cases e
/-- list * int, whatever list -/
def rRepL' (K : PySem.W.Frag) : R2 := fun x y H Q => ∃ a k xs, x = .ref a ∧ y = .int k ∧ H a = some (.lst xs) ∧ -(2 ^ 63) ≤ k ∧ k < 2 ^ 63 ∧ xs.length * k.toNat ≤ sizeLine ∧ ∀ p, H p = none → Q (.ref p) (upd H p (.lst (List.replicate k.toNat xs).flatten))
def rMul2 : R2 := fun x y H Q => rI CMulX (fun i j => .int (i * j)) x y H Q ∨ (rI CMul (fun i j => .int (i * j)) x y H Q ∨ rRep x y H Q)
theorem op_mul2 : OpR X (binaryOp .Mult) rMul2 := OpR.or op_mulX (OpR.or op_mul op_rep)
theorem RpAll.rep {S : Addr → Prop} {H : Hp} {xs : List V} {ds : List D} (h : RpAll K S H 0 xs ds []) : ∀ n, RpAll K S H 0 (List.replicate n xs).flatten (List.replicate n ds).flatten []
  | 0 => .nil _
  | n + 1 => by
    rw [List.replicate_succ, List.replicate_succ, List.flatten_cons, List.flatten_cons]
    exact RpAll.append (f := []) (g := []) h (RpAll.rep h n)
theorem kMul_op : Op2 K rMul2 kMul := fun S H x v f y u g z Q h1 h2 ok e hQ => by
  unfold kMul at e
  split at e
  · rename_i i j e1 e2
    split at e
    · rename_i c
      obtain rfl := Option.some.inj e
      rw [big_eq] at c
      rcases c with c | c
      · exact .inl ⟨i, j, h1.int e1, h2.int e2, mulx_ok c.1 c.2 (by decide), ret_imm ok rfl (.int _ _) hQ⟩
      · exact .inr (.inl ⟨i, j, h1.int e1, h2.int e2, .inr ⟨by omega, by omega⟩, ret_imm ok rfl (.int _ _) hQ⟩)
    · cases e
  · rename_i l k e1 e2
    split at e
    · rename_i c
      obtain rfl := Option.some.inj e
      obtain ⟨b1, m1, d1⟩ := x
      obtain rfl : d1 = .lst l := e1
      have hk := h2.int e2
      obtain ⟨hb, c⟩ := c
      obtain rfl : b1 = false := hb.1
      rw [VOk.own] at h1
      obtain ⟨a, xs, g', rfl, q1, r1, q2, q3⟩ := h1.lst
      have hm : m1 ≠ 0 := fun z => by
        have h0 : 0 < m1 := hb.2
        omega
      obtain ⟨q4, rfl⟩ := q3 hm
      obtain ⟨f0, f1, p, r2⟩ := r1.thin 0
      rw [Nat.min_zero] at r2
      obtain rfl := r2.own0
      rw [List.nil_append] at p
      have okf : Ok S H (f1 ++ g) := by
        have : Ok S H (a :: (g' ++ g)) := ok
        have : Ok S H (g' ++ g) := this.sub (List.sublist_cons_self _ _)
        exact this.perm (List.Perm.append_right _ p)
      refine .inr (.inr ⟨a, k, xs, rfl, hk, q4, c.1, c.2.1, by rw [r1.length, ← lim_eq]; exact c.2.2, fun pp hp => ?_⟩)
      refine ret_lst (S' := fun b => S b ∨ b ∈ f1) (g := []) ok (fun b => Or.inl) (fun b hb => hb.imp id fun z => ?_) ⟨.nil, by simp, by simp, fun b hb => hb.elim (ok.tr b) fun z => okf.mem (List.mem_append_left _ z)⟩ (by simp) (RpAll.rep r2 _) hQ pp hp
      exact List.mem_append_left _ (List.mem_cons_of_mem _ (p.mem_iff.mpr z))
    · cases e
  · cases e

/-! ### ==, in, is -/
theorem shp_flat {d : D} (h : d.shp = true) : d.flat = true ∧ SeqAt.shaped d.py = true := by
  unfold D.shp at h
  rwa [Bool.and_eq_true] at h
theorem VOk.dp {S : Addr → Prop} {H : Hp} {x : VV} {v : V} {f : List Addr} (h : VOk K S H x v f) (s : x.d.shp = true) : Dp K H v x.d.py := by
  obtain ⟨g, h⟩ := h.rp
  exact h.dp (shp_flat s).1
def rEqS (K : PySem.W.Frag) : R2 := fun x y H Q => (∃ a b : Str, x = .str a ∧ y = .str b ∧ Q (.bl (decide (a = b))) H) ∨ rEqD K x y H Q
def rNeS (K : PySem.W.Frag) : R2 := fun x y H Q => (∃ a b : Str, x = .str a ∧ y = .str b ∧ Q (.bl (!decide (a = b))) H) ∨ rNeD K x y H Q
theorem dec_strV {a b : Str} : decide (V.str a = V.str b) = decide (a = b) := by
  rw [Bool.eq_iff_iff]
  simp
theorem op_eqS {X : Cx} (hu : X.A.units + 65 < cLine) : OpR X (compareOp .Eq) (rEqS X.K) := OpR.or (fun pins s σ H x y v u Q I rx ry h => by
  obtain ⟨a, b, rfl, rfl, q⟩ := h
  exact op_eq pins s σ H _ _ v u Q I rx ry ⟨rfl, by rw [dec_strV]; exact q⟩) (op_eqD (by omega))
theorem op_neS {X : Cx} (hu : X.A.units + 65 < cLine) : OpR X (compareOp .NotEq) (rNeS X.K) := OpR.or (fun pins s σ H x y v u Q I rx ry h => by
  obtain ⟨a, b, rfl, rfl, q⟩ := h
  exact op_ne pins s σ H _ _ v u Q I rx ry ⟨rfl, by rw [dec_strV]; exact q⟩) (op_neD (by omega))
theorem strs2_some {x y : D} {b : Bool} (h : strs2 x y = some b) : ∃ s t : Str, x = .str s ∧ y = .str t ∧ b = decide (s = t) := by
  unfold strs2 at h
  split at h
  · exact ⟨_, _, rfl, rfl, (Option.some.inj h).symm⟩
  · cases h
theorem kEq_op : Op2 K (rEqS K) kEq := fun S H x v f y u g z Q h1 h2 ok e hQ => by
  unfold kEq at e
  split at e
  · rename_i b q
    obtain ⟨s, t, e1, e2, rfl⟩ := strs2_some q
    obtain rfl := Option.some.inj e
    exact .inl ⟨s, t, h1.str e1, h2.str e2, ret_imm ok rfl (.bl _ _) hQ⟩
  · split at e
    · rename_i c
      obtain rfl := Option.some.inj e
      exact .inr ⟨_, _, h1.dp c.1, h2.dp c.2, (shp_flat c.1).2, (shp_flat c.2).2, ret_imm ok rfl (.bl _ _) hQ⟩
    · cases e
theorem kNe_op : Op2 K (rNeS K) kNe := fun S H x v f y u g z Q h1 h2 ok e hQ => by
  unfold kNe at e
  split at e
  · rename_i b q
    obtain ⟨s, t, e1, e2, rfl⟩ := strs2_some q
    obtain rfl := Option.some.inj e
    exact .inl ⟨s, t, h1.str e1, h2.str e2, ret_imm ok rfl (.bl _ _) hQ⟩
  · split at e
    · rename_i c
      obtain rfl := Option.some.inj e
      exact .inr ⟨_, _, h1.dp c.1, h2.dp c.2, (shp_flat c.1).2, (shp_flat c.2).2, ret_imm ok rfl (.bl _ _) hQ⟩
    · cases e
theorem pyAll_eq : ∀ l : List D, pyAll l = l.map D.py
  | [] => rfl
  | d :: ds => by rw [pyAll, pyAll_eq ds, List.map_cons]
/-- in, a tuple -/
def rInT (K : PySem.W.Frag) : R2 := fun x y H Q => ∃ d ds, Dp K H x d ∧ Dp K H y (.tuple ds) ∧ SeqAt.shaped d = true ∧ SeqAt.shaped (.tuple ds) = true ∧ Q (.bl (ds.any fun z => PyData.eqv z d)) H
def rNotInT (K : PySem.W.Frag) : R2 := fun x y H Q => ∃ d ds, Dp K H x d ∧ Dp K H y (.tuple ds) ∧ SeqAt.shaped d = true ∧ SeqAt.shaped (.tuple ds) = true ∧ Q (.bl (!ds.any fun z => PyData.eqv z d)) H
theorem room_in' {A : Around} {d : PyData} {k : Nat} (hd : SeqAt.shaped d = true) (hu : A.units + 65 < cLine) : A.units + 1 + min k d.depth < cLine := by
  have := SeqAt.depth_of_shaped hd
  omega
theorem op_inT (hu : X.A.units + 65 < cLine) : OpR X (compareOp .In) (rInT X.K) := fun pins s σ H x y v u Q I rx ry h => by
  obtain ⟨d, ds, hd, he, sd, se, q⟩ := h
  obtain ⟨as, r1⟩ := Dp.reads I d x v hd rx
  obtain ⟨bs, r2⟩ := Dp.reads I (.tuple ds) y u he ry
  exact SeqAt.in_tuple_reads r2 r1 (SeqAt.canLay_of_shaped se) (SeqAt.canLay_of_shaped sd) (room_in' sd hu) ⟨.bl _, H, I, rfl, q⟩
theorem op_notInT (hu : X.A.units + 65 < cLine) : OpR X (compareOp .NotIn) (rNotInT X.K) := fun pins s σ H x y v u Q I rx ry h => by
  obtain ⟨d, ds, hd, he, sd, se, q⟩ := h
  obtain ⟨as, r1⟩ := Dp.reads I d x v hd rx
  obtain ⟨bs, r2⟩ := Dp.reads I (.tuple ds) y u he ry
  exact SeqAt.notIn_tuple_reads r2 r1 (SeqAt.canLay_of_shaped se) (SeqAt.canLay_of_shaped sd) (room_in' sd hu) ⟨.bl _, H, I, rfl, q⟩
def rIn2 (K : PySem.W.Frag) : R2 := fun x y H Q => rInD K x y H Q ∨ rInT K x y H Q
def rNotIn2 (K : PySem.W.Frag) : R2 := fun x y H Q => rNotInD K x y H Q ∨ rNotInT K x y H Q
theorem op_in2 (hu : X.A.units + 65 < cLine) : OpR X (compareOp .In) (rIn2 X.K) := OpR.or (op_inD hu) (op_inT hu)
theorem op_notIn2 (hu : X.A.units + 65 < cLine) : OpR X (compareOp .NotIn) (rNotIn2 X.K) := OpR.or (op_notInD hu) (op_notInT hu)
theorem kIn_op : Op2 K (rIn2 K) kIn := fun S H x v f y u g z Q h1 h2 ok e hQ => by
  unfold kIn at e
  split at e
  · rename_i l el
    split at e
    · rename_i c
      obtain rfl := Option.some.inj e
      have q := h2.dp c.2
      have s := (shp_flat c.2).2
      rw [el, D.py, pyAll_eq] at q s
      refine .inr ⟨_, _, h1.dp c.1, q, (shp_flat c.1).2, s, ?_⟩
      rw [List.any_map]
      exact ret_imm ok rfl (.bl _ _) hQ
    · cases e
  · rename_i l el
    split at e
    · rename_i c
      obtain rfl := Option.some.inj e
      have q := h2.dp c.2
      have s := (shp_flat c.2).2
      rw [el, D.py, pyAll_eq] at q s
      refine .inl ⟨_, _, h1.dp c.1, q, (shp_flat c.1).2, s, ?_⟩
      rw [List.any_map]
      exact ret_imm ok rfl (.bl _ _) hQ
    · cases e
  · cases e
theorem kNotIn_op : Op2 K (rNotIn2 K) kNotIn := fun S H x v f y u g z Q h1 h2 ok e hQ => by
  unfold kNotIn at e
  split at e
  · rename_i l el
    split at e
    · rename_i c
      obtain rfl := Option.some.inj e
      have q := h2.dp c.2
      have s := (shp_flat c.2).2
      rw [el, D.py, pyAll_eq] at q s
      refine .inr ⟨_, _, h1.dp c.1, q, (shp_flat c.1).2, s, ?_⟩
      rw [List.any_map]
      exact ret_imm ok rfl (.bl _ _) hQ
    · cases e
  · rename_i l el
    split at e
    · rename_i c
      obtain rfl := Option.some.inj e
      have q := h2.dp c.2
      have s := (shp_flat c.2).2
      rw [el, D.py, pyAll_eq] at q s
      refine .inl ⟨_, _, h1.dp c.1, q, (shp_flat c.1).2, s, ?_⟩
      rw [List.any_map]
      exact ret_imm ok rfl (.bl _ _) hQ
    · cases e
  · cases e
def rIs2 : R2 := fun x y H Q => (y = .non ∧ Q (.bl (decide (x = .non))) H) ∨ rIsB x y H Q
def rIsNot2 : R2 := fun x y H Q => (y = .non ∧ Q (.bl (!decide (x = .non))) H) ∨ rNotB x y H Q
theorem op_is2 : OpR X (compareOp .Is) rIs2 := OpR.or op_isN op_isBl
theorem op_isNot2 : OpR X (compareOp .IsNot) rIsNot2 := OpR.or op_notN op_notBl
theorem isNon_ok {S : Addr → Prop} {H : Hp} {x : VV} {v : V} {f : List Addr} (h : VOk K S H x v f) : decide (v = .non) = x.d.isNon := by
  obtain ⟨g, h⟩ := h.rp
  generalize x.d = d at h ⊢
  generalize x.m = m at h
  cases h <;> rfl
theorem VOk.non {S : Addr → Prop} {H : Hp} {x : VV} {v : V} {f : List Addr} (h : VOk K S H x v f) (e : x.d = .non) : v = .non := by
  obtain ⟨g, h⟩ := h.rp
  rw [e] at h
  exact h.vnon
theorem kIs_op : Op2 K rIs2 kIs := fun S H x v f y u g z Q h1 h2 ok e hQ => by
  unfold kIs at e
  split at e
  · rename_i ey
    obtain rfl := Option.some.inj e
    refine .inl ⟨h2.non ey, ?_⟩
    rw [isNon_ok h1]
    exact ret_imm ok rfl (.bl _ _) hQ
  · rename_i b ey
    split at e
    · rename_i a ex
      obtain rfl := Option.some.inj e
      exact .inr ⟨a, b, h1.bl ex, h2.bl ey, ret_imm ok rfl (.bl _ _) hQ⟩
    · cases e
  · cases e
theorem kIsNot_op : Op2 K rIsNot2 kIsNot := fun S H x v f y u g z Q h1 h2 ok e hQ => by
  unfold kIsNot at e
  split at e
  · rename_i ey
    obtain rfl := Option.some.inj e
    refine .inl ⟨h2.non ey, ?_⟩
    rw [isNon_ok h1]
    exact ret_imm ok rfl (.bl _ _) hQ
  · rename_i b ey
    split at e
    · rename_i a ex
      obtain rfl := Option.some.inj e
      exact .inr ⟨a, b, h1.bl ex, h2.bl ey, ret_imm ok rfl (.bl _ _) hQ⟩
    · cases e
  · cases e

/-! ### items -/
theorem RpAll.atI {S : Addr → Prop} {H : Hp} {m : Nat} {xs : List V} {ds : List D} {f : List Addr} {i : Int} {e : D} (h : RpAll K S H m xs ds f) (q : atD ds i = some e) : ∃ u g1 g g2, L2.atI xs i = some u ∧ f = g1 ++ g ++ g2 ∧ Rp K S H m u e g := by
  unfold atD at q
  have en : nix ds.length i = ixN xs.length i := by rw [h.length]; rfl
  rw [en] at q
  unfold L2.atI
  cases z : ixN xs.length i with
  | none => rw [z] at q; cases q
  | some j =>
    rw [z] at q
    obtain ⟨u, g1, g, g2, a1, a2, a3, _⟩ := h.at (i := j) q
    exact ⟨u, g1, g, g2, a1, a2, a3⟩
/-- an item of a value, as it is handed on -/
theorem sub_ok {S : Addr → Prop} {H : Hp} {x : VV} {u : V} {e : D} {f g1 g g2 : List Addr} (ok : Ok S H f) (hb : x.b = false → f = g1 ++ g ++ g2 ∨ f.tail = g1 ++ g ++ g2) (h : Rp K S H (x.m - 1) u e g) :
    ∃ g', VOk K S H (sub x e) u g' ∧ Ok S H g' ∧ ∀ b ∈ g', b ∈ f := by
  unfold sub
  cases q : x.b with
  | true =>
    cases q2 : (x.m - 1 == 0) with
    | true =>
      have e0 : x.m - 1 = 0 := by simpa using q2
      rw [e0] at h ⊢
      obtain rfl := h.own0
      exact ⟨[], by show VOk K S H ⟨false, 0, e⟩ u []; rw [VOk.own]; exact h, ok.nil, by simp⟩
    | false => exact ⟨[], by show VOk K S H ⟨true, x.m - 1, e⟩ u []; rw [VOk.bor]; exact ⟨rfl, _, h⟩, ok.nil, by simp⟩
  | false =>
    have sl : g.Sublist f := by
      have s1 : g.Sublist (g1 ++ g ++ g2) := (List.sublist_append_right g1 g).trans (List.sublist_append_left _ _)
      rcases hb q with z | z
      · rw [z]; exact s1
      · rw [← z] at s1; exact s1.trans (List.tail_sublist f)
    exact ⟨g, by show VOk K S H ⟨false, x.m - 1, e⟩ u g; rw [VOk.own]; exact h, ok.sub sl, fun b hb => sl.subset hb⟩
theorem kIx_op : Op2 K (rIx K) kIx := fun S H x v f y u g z Q h1 h2 ok e hQ => by
  have okf : Ok S H f := ok.head
  unfold kIx at e
  split at e
  · rename_i l i e1 e2
    cases q : atD l i with
    | none => rw [q] at e; cases e
    | some d =>
      rw [q] at e
      obtain rfl := Option.some.inj e
      unfold VOk at h1
      split at h1
      · rename_i hb
        obtain ⟨rfl, f0, h⟩ := h1
        rw [e1] at h
        obtain ⟨a, xs, g', rfl, q1, r1, _, _⟩ := h.lst
        obtain ⟨w, g1, gg, g2, p1, p2, p3⟩ := r1.atI q
        obtain ⟨g'', w1, w2, w3⟩ := sub_ok (x := x) (f := []) (g1 := []) (g2 := []) okf (fun z => by rw [hb] at z; cases z) p3
        exact .inl ⟨a, xs, i, w, rfl, h2.int e2, q1, p1, hQ w H S g'' ⟨Same.refl _, fun _ z => z, fun _ => .inl, fun b hb => absurd (w3 b hb) (by simp)⟩ w1 w2⟩
      · rw [e1] at h1
        obtain ⟨a, xs, g', rfl, q1, r1, q2, q3⟩ := h1.lst
        obtain ⟨w, g1, gg, g2, p1, p2, p3⟩ := r1.atI q
        obtain ⟨g'', w1, w2, w3⟩ := sub_ok (x := x) (g1 := g1) (g2 := g2) okf (fun z => by
          by_cases hm : x.m = 0
          · have := q2 hm
            subst this
            rw [hm] at h1
            have := h1.own0
            subst this
            left; exact p2
          · right; rw [(q3 hm).2]; exact p2) p3
        exact .inl ⟨a, xs, i, w, rfl, h2.int e2, q1, p1, hQ w H S g'' ⟨Same.refl _, fun _ z => z, fun _ => .inl, fun b hb => .inl (List.mem_append_left _ (w3 b hb))⟩ w1 w2⟩
  · rename_i l i e1 e2
    cases q : atD l i with
    | none => rw [q] at e; cases e
    | some d =>
      rw [q] at e
      obtain rfl := Option.some.inj e
      unfold VOk at h1
      split at h1
      · rename_i hb
        obtain ⟨rfl, f0, h⟩ := h1
        rw [e1] at h
        obtain ⟨a, xs, rfl, q1, r1⟩ := h.tup
        obtain ⟨w, g1, gg, g2, p1, p2, p3⟩ := r1.atI q
        obtain ⟨g'', w1, w2, w3⟩ := sub_ok (x := x) (f := []) (g1 := []) (g2 := []) okf (fun z => by rw [hb] at z; cases z) p3
        exact .inr (.inl ⟨a, xs, i, w, rfl, h2.int e2, q1, p1, hQ w H S g'' ⟨Same.refl _, fun _ z => z, fun _ => .inl, fun b hb => absurd (w3 b hb) (by simp)⟩ w1 w2⟩)
      · rw [e1] at h1
        obtain ⟨a, xs, rfl, q1, r1⟩ := h1.tup
        obtain ⟨w, g1, gg, g2, p1, p2, p3⟩ := r1.atI q
        obtain ⟨g'', w1, w2, w3⟩ := sub_ok (x := x) (g1 := g1) (g2 := g2) okf (fun z => .inl p2) p3
        exact .inr (.inl ⟨a, xs, i, w, rfl, h2.int e2, q1, p1, hQ w H S g'' ⟨Same.refl _, fun _ z => z, fun _ => .inl, fun b hb => .inl (List.mem_append_left _ (w3 b hb))⟩ w1 w2⟩)
  · rename_i z' i e1 e2
    split at e
    · rename_i c
      cases q : (nix z'.cps.toList.length i).bind fun j => z'.cps.toList[j]? with
      | none => rw [q] at e; cases e
      | some d =>
        rw [q] at e
        obtain rfl := Option.some.inj e
        exact .inr (.inr ⟨z', i, d, h1.str e1, h2.int e2, by rw [← lim_eq]; exact c, q, ret_imm ok rfl (.str _ _) hQ⟩)
    · cases e
  · cases e
end
end Vs
set_option maxHeartbeats 4000000
/-! Vs: displays, slices, built-ins. -/
namespace Vs
open PySem PySem.Spec PyProof.Rows L2
section
variable {K : PySem.W.Frag} {S S' : Addr → Prop} {H : Hp}
theorem minM_none : ∀ {xs : List VV}, minM xs = none → ∀ x ∈ xs, x.d.imm = true
  | [], _, _, hx => by cases hx
  | z :: zs, q, x, hx => by
    unfold minM at q
    by_cases hz : z.d.imm = true
    · rw [if_pos hz] at q
      rcases List.mem_cons.mp hx with rfl | hx
      · exact hz
      · exact minM_none q x hx
    · rw [if_neg hz] at q
      cases q
theorem minM_le : ∀ {xs : List VV} {n : Nat}, minM xs = some n → ∀ x ∈ xs, x.d.imm = true ∨ n ≤ x.m
  | [], _, h, _, _ => by cases h
  | y :: ys, n, h, x, hx => by
    unfold minM at h
    by_cases hy : y.d.imm = true
    · rw [if_pos hy] at h
      rcases List.mem_cons.mp hx with rfl | hx
      · exact .inl hy
      · exact minM_le h x hx
    · rw [if_neg hy] at h
      have h := Option.some.inj h
      cases q : minM ys with
      | none =>
        rw [q] at h
        rcases List.mem_cons.mp hx with rfl | hx
        · exact .inr (Nat.le_of_eq h.symm)
        · left
          exact minM_none q x hx
      | some k =>
        rw [q] at h
        have h : min y.m k = n := h
        rcases List.mem_cons.mp hx with rfl | hx
        · exact .inr (by omega)
        · rcases minM_le q x hx with z | z
          · exact .inl z
          · exact .inr (by omega)
/-- values put together, as deep as all bear -/
theorem VsOk.all (n : Nat) : ∀ {xs : List VV} {vs : List V} {f : List Addr}, VsOk K S H xs vs f → xs.all VV.stable = true → (∀ x ∈ xs, x.d.imm = true ∨ n ≤ x.m) →
    ∃ g f1, f.Perm (g ++ f1) ∧ RpAll K (fun b => S b ∨ b ∈ f1) H n vs (xs.map VV.d) g
  | _, _, _, .nil, _, _ => ⟨[], [], .nil, .nil _⟩
  | _, _, _, .cons (x := x) (v := v) (f := f) (xs := xs) (vs := vs) (g := g) h r, hs, hn => by
    rw [List.all_cons, Bool.and_eq_true] at hs
    obtain ⟨g2, f2, p2, r2⟩ := VsOk.all n r hs.2 fun x hx => hn x (List.mem_cons_of_mem _ hx)
    have hx := h.stab hs.1
    have one : ∃ g1 f1, f.Perm (g1 ++ f1) ∧ Rp K (fun b => S b ∨ b ∈ f1) H n v x.d g1 := by
      rcases hn x (List.mem_cons_self ..) with z | z
      · obtain ⟨rfl, q⟩ := hx.imm z
        exact ⟨[], [], .nil, q _ _ _⟩
      · obtain ⟨g1, f1, p, q⟩ := hx.thin n
        rw [Nat.min_eq_right z] at q
        exact ⟨g1, f1, p, q⟩
    obtain ⟨g1, f1, p1, r1⟩ := one
    refine ⟨g1 ++ g2, f1 ++ f2, thin_perm p1 p2, .cons (r1.more fun b hb => hb.imp id (List.mem_append_left _)) (r2.more fun b hb => hb.imp id (List.mem_append_right _))⟩
theorem split_ok {f g f1 : List Addr} (ok : Ok S H f) (p : f.Perm (g ++ f1)) : Ok (fun b => S b ∨ b ∈ f1) H g := by
  have k := ok.perm p
  have k2 := k.perm List.perm_append_comm
  exact ⟨k.head.nd, k.head.mu, fun b hb z => z.elim (k.head.ns b hb) fun z => k2.apart b z hb, fun b hb => hb.elim (ok.tr b) fun z => ok.mem (p.mem_iff.mpr (List.mem_append_right _ z))⟩
theorem dmode_pos (xs : List VV) : ∃ n, dmode xs = n + 1 ∧ ∀ x ∈ xs, x.d.imm = true ∨ n ≤ x.m := by
  unfold dmode
  cases q : minM xs with
  | none => exact ⟨0, rfl, fun x _ => .inr (Nat.zero_le _)⟩
  | some n => exact ⟨n, rfl, minM_le q⟩
theorem kLst_op : OpN K (fun xs H Q => xs.length ≤ sizeLine ∧ ∀ p, H p = none → Q (.ref p) (upd H p (.lst xs))) kLst := fun S H xs vs f z Q h ok e hQ => by
  unfold kLst at e
  split at e
  · rename_i c
    obtain rfl := Option.some.inj e
    obtain ⟨n, hn, hle⟩ := dmode_pos xs
    rw [hn] at hQ
    obtain ⟨g, f1, p, r⟩ := h.all n c.1 hle
    refine ⟨?_, fun q hq => ret_lst ok (fun b => Or.inl) (fun b hb => hb.imp id fun z => p.mem_iff.mpr (List.mem_append_right _ z)) (split_ok ok p) (fun b hb => p.mem_iff.mpr (List.mem_append_left _ hb)) r hQ q hq⟩
    have := r.length
    rw [List.length_map] at this
    rw [this, ← lim_eq]
    exact c.2
  · cases e
theorem kTup_op : OpN K (fun xs H Q => xs.length ≤ sizeLine ∧ ∀ p, H p = none → Q (.ref p) (upd H p (.tup xs))) kTup := fun S H xs vs f z Q h ok e hQ => by
  unfold kTup at e
  split at e
  · rename_i c
    obtain rfl := Option.some.inj e
    obtain ⟨n, hn, hle⟩ := dmode_pos xs
    rw [hn] at hQ
    obtain ⟨g, f1, p, r⟩ := h.all n c.1 hle
    refine ⟨?_, fun q hq => ret_tup ok (fun b => Or.inl) (fun b hb => hb.imp id fun z => p.mem_iff.mpr (List.mem_append_right _ z)) (split_ok ok p) (fun b hb => p.mem_iff.mpr (List.mem_append_left _ hb)) r hQ q hq⟩
    have := r.length
    rw [List.length_map] at this
    rw [this, ← lim_eq]
    exact c.2
  · cases e

/-! ### built-ins of one value -/
theorem RpAll.of_intsOf : ∀ {m : Nat} {xs : List V} {ds : List D} {f : List Addr} {l : List Int}, RpAll K S H m xs ds f → intsOf ds = some l → xs = l.map V.int ∧ ds = Vs.dints l
  | _, _, _, _, l, .nil _, e => by
    obtain rfl := Option.some.inj e
    exact ⟨rfl, rfl⟩
  | _, _, _, _, l, .cons h r, e => by
    cases h with
    | int m i =>
      unfold intsOf at e
      rename_i ds _
      cases q : intsOf ds with
      | none => rw [q] at e; cases e
      | some k =>
        rw [q] at e
        obtain rfl := Option.some.inj e
        obtain ⟨h1, h2⟩ := RpAll.of_intsOf r q
        exact ⟨by rw [h1]; rfl, by rw [h2]; rfl⟩
    | _ => cases e
theorem RpAll.of_blsOf : ∀ {m : Nat} {xs : List V} {ds : List D} {f : List Addr} {l : List Bool}, RpAll K S H m xs ds f → blsOf ds = some l → xs = l.map V.bl
  | _, _, _, _, l, .nil _, e => by
    obtain rfl := Option.some.inj e
    rfl
  | _, _, _, _, l, .cons h r, e => by
    cases h with
    | bl m i =>
      unfold blsOf at e
      rename_i ds _
      cases q : blsOf ds with
      | none => rw [q] at e; cases e
      | some k =>
        rw [q] at e
        obtain rfl := Option.some.inj e
        rw [RpAll.of_blsOf r q]
        rfl
    | _ => cases e
theorem VOk.seqL {x : VV} {v : V} {f : List Addr} {ds : List D} (h : VOk K S H x v f) (e : x.d = .lst ds) : ∃ a xs m g, v = .ref a ∧ SqL K H a xs ∧ RpAll K S H m xs ds g := by
  obtain ⟨g, h⟩ := h.rp
  rw [e] at h
  obtain ⟨a, xs, g', h1, h2, h3, _⟩ := h.lst
  exact ⟨a, xs, _, g', h1, h2, h3⟩
theorem VOk.seqT {x : VV} {v : V} {f : List Addr} {ds : List D} (h : VOk K S H x v f) (e : x.d = .tup ds) : ∃ a xs m g, v = .ref a ∧ SqT K H a xs ∧ RpAll K S H m xs ds g := by
  obtain ⟨g, h⟩ := h.rp
  rw [e] at h
  obtain ⟨a, xs, h1, h2, h3⟩ := h.tup
  exact ⟨a, xs, _, _, h1, h2, h3⟩
/-- one argument -/
theorem opn_one {r : List V → Hp → VK → Prop} {k : List VV → Option VV} (h1 : ∀ xs z, k xs = some z → ∃ x, xs = [x])
    (h2 : ∀ S H x v f z Q, VOk K S H x v f → Ok S H f → k [x] = some z → (∀ w H' S' h, Grow S H f S' h H' → VOk K S' H' z w h → Ok S' H' h → Q w H') → r [v] H Q) : OpN K r k := fun S H xs vs f z Q h ok e hQ => by
  obtain ⟨x, rfl⟩ := h1 xs z e
  obtain ⟨v, rfl, h'⟩ := h.one
  exact h2 S H x v f z Q h' ok e hQ
theorem kLen_op : OpN K (fun xs H Q => (∃ p ys, xs = [.ref p] ∧ (SqL K H p ys ∨ SqT K H p ys) ∧ Q (.int ys.length) H) ∨ (∃ z, xs = [.str z] ∧ z.length ≤ sizeLine ∧ Q (.int z.length) H) ∨ (∃ d kvs, xs = [.ref d] ∧ Rd H d (.dK kvs) ∧ Q (.int kvs.length) H) ∨ (∃ d kvs, xs = [.ref d] ∧ H d = some (.dT kvs) ∧ Q (.int kvs.length) H)) kLen := by
  refine opn_one (fun xs z e => ?_) fun S H x v f z Q h ok e hQ => ?_
  · unfold kLen at e
    split at e
    · exact ⟨_, rfl⟩
    · cases e
  · unfold kLen at e
    simp only at e
    split at e
    · rename_i l el
      obtain rfl := Option.some.inj e
      obtain ⟨a, xs, m, g, rfl, q1, q2⟩ := h.seqL el
      refine .inl ⟨a, xs, rfl, .inl q1, ?_⟩
      rw [q2.length]
      exact ret_imm ok rfl (.int _ _) hQ
    · rename_i l el
      obtain rfl := Option.some.inj e
      obtain ⟨a, xs, m, g, rfl, q1, q2⟩ := h.seqT el
      refine .inl ⟨a, xs, rfl, .inr q1, ?_⟩
      rw [q2.length]
      exact ret_imm ok rfl (.int _ _) hQ
    · rename_i s el
      split at e
      · rename_i c
        obtain rfl := Option.some.inj e
        exact .inr (.inl ⟨s, by rw [h.str el], by rw [← lim_eq]; exact c, ret_imm ok rfl (.int _ _) hQ⟩)
      · cases e
    · rename_i l el
      obtain rfl := Option.some.inj e
      obtain ⟨g, h⟩ := h.rp
      rw [el] at h
      generalize hm : x.m = m at h
      generalize hd : D.dic _ l = d at h
      cases h with
      | dk0 q _ r =>
        obtain ⟨_, rfl⟩ := D.dic.inj hd
        have hl := r.length
        rw [List.length_map] at hl
        refine .inr (.inr (.inl ⟨_, _, rfl, q, ?_⟩))
        rw [List.length_zip, List.length_map, ← hl, Nat.min_self] at hQ
        exact ret_imm ok rfl (.int _ _) hQ
      | dk1 q r =>
        obtain ⟨_, rfl⟩ := D.dic.inj hd
        have hl := r.length
        rw [List.length_map] at hl
        refine .inr (.inr (.inl ⟨_, _, rfl, .inl q, ?_⟩))
        rw [List.length_zip, List.length_map, ← hl, Nat.min_self] at hQ
        exact ret_imm ok rfl (.int _ _) hQ
      | dt0 q _ r =>
        obtain ⟨_, rfl⟩ := D.dic.inj hd
        have hl := r.length
        rw [List.length_map] at hl
        refine .inr (.inr (.inr ⟨_, _, rfl, q, ?_⟩))
        rw [List.length_zip, List.length_map, ← hl, Nat.min_self] at hQ
        exact ret_imm ok rfl (.int _ _) hQ
      | dt1 q r =>
        obtain ⟨_, rfl⟩ := D.dic.inj hd
        have hl := r.length
        rw [List.length_map] at hl
        refine .inr (.inr (.inr ⟨_, _, rfl, q, ?_⟩))
        rw [List.length_zip, List.length_map, ← hl, Nat.min_self] at hQ
        exact ret_imm ok rfl (.int _ _) hQ
      | _ => cases hd
    · cases e
theorem kAbs_op : OpN K (fun xs H Q => ∃ i, xs = [.int i] ∧ Q (.int (if i < 0 then -i else i)) H) kAbs := by
  refine opn_one (fun xs z e => ?_) fun S H x v f z Q h ok e hQ => ?_
  · unfold kAbs at e
    split at e
    · exact ⟨_, rfl⟩
    · cases e
  · unfold kAbs at e
    simp only at e
    split at e
    · rename_i i el
      obtain rfl := Option.some.inj e
      exact ⟨i, by rw [h.int el], ret_imm ok rfl (.int _ _) hQ⟩
    · cases e
theorem kInt_op : OpN K (fun xs H Q => (∃ i, xs = [.int i] ∧ Q (.int i) H) ∨ ∃ k : Bool, xs = [.bl k] ∧ Q (.int (if k then 1 else 0)) H) kInt := by
  refine opn_one (fun xs z e => ?_) fun S H x v f z Q h ok e hQ => ?_
  · unfold kInt at e
    split at e
    · exact ⟨_, rfl⟩
    · cases e
  · unfold kInt at e
    simp only at e
    split at e
    · rename_i i el
      obtain rfl := Option.some.inj e
      exact .inl ⟨i, by rw [h.int el], ret_imm ok rfl (.int _ _) hQ⟩
    · rename_i i el
      obtain rfl := Option.some.inj e
      exact .inr ⟨i, by rw [h.bl el], ret_imm ok rfl (.int _ _) hQ⟩
    · cases e
theorem kAll_op : OpN K (rAll K) kAll := by
  refine opn_one (fun xs z e => ?_) fun S H x v f z Q h ok e hQ => ?_
  · unfold kAll at e
    split at e
    · exact ⟨_, rfl⟩
    · cases e
  · unfold kAll at e
    simp only at e
    split at e
    · rename_i l el
      cases q : blsOf l with
      | none => rw [q] at e; cases e
      | some bs =>
        rw [q] at e
        obtain rfl := Option.some.inj e
        obtain ⟨a, xs, m, g, rfl, q1, q2⟩ := h.seqL el
        exact ⟨a, bs, rfl, by rw [← q2.of_blsOf q]; exact q1, ret_imm ok rfl (.bl _ _) hQ⟩
    · cases e
theorem kAny_op : OpN K (rAny K) kAny := by
  refine opn_one (fun xs z e => ?_) fun S H x v f z Q h ok e hQ => ?_
  · unfold kAny at e
    split at e
    · exact ⟨_, rfl⟩
    · cases e
  · unfold kAny at e
    simp only at e
    split at e
    · rename_i l el
      cases q : blsOf l with
      | none => rw [q] at e; cases e
      | some bs =>
        rw [q] at e
        obtain rfl := Option.some.inj e
        obtain ⟨a, xs, m, g, rfl, q1, q2⟩ := h.seqL el
        exact ⟨a, bs, rfl, by rw [← q2.of_blsOf q]; exact q1, ret_imm ok rfl (.bl _ _) hQ⟩
    · cases e
theorem kSum_op : OpN K (rSum K) kSum := by
  refine opn_one (fun xs z e => ?_) fun S H x v f z Q h ok e hQ => ?_
  · unfold kSum at e
    split at e
    · exact ⟨_, rfl⟩
    · cases e
  · unfold kSum at e
    simp only at e
    split at e
    · rename_i l el
      cases q : intsOf l with
      | none => rw [q] at e; cases e
      | some bs =>
        rw [q] at e
        obtain rfl := Option.some.inj e
        obtain ⟨a, xs, m, g, rfl, q1, q2⟩ := h.seqL el
        exact ⟨a, bs, rfl, by have z := (RpAll.of_intsOf q2 q).1; rw [← z]; exact q1, ret_imm ok rfl (.int _ _) hQ⟩
    · cases e
theorem sortI_eq {l l' : List Int} (p : l'.Perm l) (s : l'.Pairwise (· ≤ ·)) : l' = sortI l := by
  unfold sortI
  have p2 : (l.mergeSort fun a b => decide (a ≤ b)).Perm l := List.mergeSort_perm l _
  have s2 : (l.mergeSort fun a b => decide (a ≤ b)).Pairwise fun a b => decide (a ≤ b) = true := List.pairwise_mergeSort (le := fun a b => decide (a ≤ b)) (fun a b c h1 h2 => by simp at *; omega) (fun a b => by simp; omega) l
  refine List.Perm.eq_of_pairwise (le := (· ≤ ·)) (fun a b _ _ h1 h2 => by omega) s (s2.imp fun h => by simpa using h) (p.trans p2.symm)
theorem kSorted_op : OpN K (rSorted K) kSorted := by
  refine opn_one (fun xs z e => ?_) fun S H x v f z Q h ok e hQ => ?_
  · unfold kSorted at e
    split at e
    · exact ⟨_, rfl⟩
    · cases e
  · unfold kSorted at e
    simp only at e
    split at e
    · rename_i l el
      cases q : intsOf l with
      | none => rw [q] at e; cases e
      | some bs =>
        rw [q] at e
        replace e : (if bs.length < 64 then some (⟨false, 1, .lst (dints (sortI bs))⟩ : VV) else none) = some z := e
        split at e
        · rename_i c
          obtain rfl := Option.some.inj e
          obtain ⟨a, xs, m, g, rfl, q1, q2⟩ := h.seqL el
          refine ⟨a, bs, rfl, by have z := (RpAll.of_intsOf q2 q).1; rw [← z]; exact q1, c, fun ns p hp hs hn => ?_⟩
          rw [← sortI_eq hp hs] at hQ
          exact ret_lst (S' := S) (g := []) ok (fun _ z => z) (fun _ => .inl) ok.nil (by simp) (RpAll.dints 0 ns) hQ p hn
        · cases e
    · cases e
theorem kList_op : OpN K (fun xs H Q => ∃ p ys, xs = [.ref p] ∧ (SqL K H p ys ∨ SqT K H p ys) ∧ ∀ l, H l = none → Q (.ref l) (upd H l (.lst ys))) kList := by
  refine opn_one (fun xs z e => ?_) fun S H x v f z Q h ok e hQ => ?_
  · unfold kList at e
    split at e
    · exact ⟨_, rfl⟩
    · cases e
  · unfold kList at e
    simp only at e
    obtain ⟨b, m, d⟩ := x
    have ok' : Ok S H (f ++ []) := by rw [List.append_nil]; exact ok
    split at e
    · rename_i l el
      obtain rfl : d = .lst l := el
      split at e
      · rename_i c
        obtain rfl := Option.some.inj e
        obtain ⟨a, xs, S1, rfl, q1, u1, u2, r1, k1⟩ := opn h ok' c
        exact ⟨a, xs, rfl, .inl q1, fun p hp => ret_lst ok u1 u2 k1 (by simp) r1 hQ p hp⟩
      · cases e
    · rename_i l el
      obtain rfl : d = .tup l := el
      split at e
      · rename_i c
        obtain rfl := Option.some.inj e
        obtain ⟨a, xs, S1, rfl, q1, u1, u2, r1, k1⟩ := opnT h ok' c
        exact ⟨a, xs, rfl, .inr q1, fun p hp => ret_lst ok u1 u2 k1 (by simp) r1 hQ p hp⟩
      · cases e
    · cases e
theorem kTuple_op : OpN K (fun xs H Q => ∃ p ys, xs = [.ref p] ∧ ((SqL K H p ys ∧ ∀ l, H l = none → Q (.ref l) (upd H l (.tup ys))) ∨ (SqT K H p ys ∧ Q (.ref p) H))) kTuple := by
  refine opn_one (fun xs z e => ?_) fun S H x v f z Q h ok e hQ => ?_
  · unfold kTuple at e
    split at e
    · exact ⟨_, rfl⟩
    · cases e
  · unfold kTuple at e
    simp only at e
    obtain ⟨b, m, d⟩ := x
    have ok' : Ok S H (f ++ []) := by rw [List.append_nil]; exact ok
    split at e
    · rename_i l el
      obtain rfl : d = .lst l := el
      split at e
      · rename_i c
        obtain rfl := Option.some.inj e
        obtain ⟨a, xs, S1, rfl, q1, u1, u2, r1, k1⟩ := opn h ok' c
        exact ⟨a, xs, rfl, .inl ⟨q1, fun p hp => ret_tup ok u1 u2 k1 (by simp) r1 hQ p hp⟩⟩
      · cases e
    · cases e
theorem kMax_op : OpN K (fun xs H Q => ∃ i j, xs = [.int i, .int j] ∧ Q (.int (if j > i then j else i)) H) kMax := fun S H xs vs f z Q h ok e hQ => by
  unfold kMax at e
  split at e
  · obtain ⟨v, w, f1, f2, rfl, rfl, h1, h2⟩ := h.two
    split at e
    · rename_i i j e1 e2
      obtain rfl := Option.some.inj e
      exact ⟨i, j, by rw [h1.int e1, h2.int e2], ret_imm ok rfl (.int _ _) hQ⟩
    · cases e
  · cases e
theorem kMin_op : OpN K (fun xs H Q => ∃ i j, xs = [.int i, .int j] ∧ Q (.int (if j < i then j else i)) H) kMin := fun S H xs vs f z Q h ok e hQ => by
  unfold kMin at e
  split at e
  · obtain ⟨v, w, f1, f2, rfl, rfl, h1, h2⟩ := h.two
    split at e
    · rename_i i j e1 e2
      obtain rfl := Option.some.inj e
      exact ⟨i, j, by rw [h1.int e1, h2.int e2], ret_imm ok rfl (.int _ _) hQ⟩
    · cases e
  · cases e
end
end Vs
set_option maxHeartbeats 4000000
/-! Vs: comprehensions. -/
namespace Vs
open PySem PySem.Spec PyProof.Rows L2

theorem compL_len {own : List Nat} {g : MG} {cs : MT} {e : M} : ∀ {ds : List D} {ρ : Vs.Env} {acc xs : List VV} {o : Option Vs.Env}, compL own g cs e ds ρ acc = .ok xs o → acc.length ≤ xs.length
  | [], ρ, acc, xs, o, h => by
    unfold compL at h
    injection h with h1 _
    rw [h1]
    exact Nat.le_refl _
  | d :: ds, ρ, acc, xs, o, h => by
    unfold compL at h
    cases q1 : g ⟨false, 0, d⟩ ρ with
    | nx ρ1 =>
      rw [q1] at h
      simp only at h
      cases q2 : cs ρ1 with
      | ok b o1 =>
        rw [q2] at h
        cases b with
        | false =>
          simp only at h
          cases q3 : compL own g cs e ds (now (o1.map (wipeE own)) ρ) acc with
          | ok ys o2 =>
            rw [q3] at h
            injection h with h1 _
            rw [← h1]
            exact compL_len q3
          | ex _ _ => rw [q3] at h; cases h
          | no => rw [q3] at h; cases h
        | true =>
          simp only at h
          cases q4 : e (now o1 ρ1) with
          | ok x o2 =>
            rw [q4] at h
            simp only at h
            split at h
            · cases q3 : compL own g cs e ds (now ((thn o1 o2).map (wipeE own)) ρ) (acc ++ [x]) with
              | ok ys o3 =>
                rw [q3] at h
                injection h with h1 _
                rw [← h1]
                have := compL_len q3
                rw [List.length_append] at this
                exact Nat.le_trans (Nat.le_add_right _ _) this
              | ex _ _ => rw [q3] at h; cases h
              | no => rw [q3] at h; cases h
            · cases h
          | ex _ _ => rw [q4] at h; cases h
          | no => rw [q4] at h; cases h
      | ex _ _ => rw [q2] at h; cases h
      | no => rw [q2] at h; cases h
    | _ => rw [q1] at h; cases h

section
variable {K : PySem.W.Frag} {S S' : Addr → Prop} {H H' : Hp}
theorem EnvRp.wipe {σ : L2.St} {ρ : Vs.Env} {F : List Addr} (own : List Nat) (h : EnvRp K S H σ ρ F) : ∃ f G, F.Perm (f ++ G) ∧ EnvRp K S H σ (wipeE own ρ) G := by
  induction own generalizing ρ F with
  | nil => exact ⟨[], F, .refl _, h⟩
  | cons j own ih =>
    obtain ⟨f, G, p, h1⟩ := h.drop j
    obtain ⟨f2, G2, p2, h2⟩ := ih h1
    refine ⟨f ++ f2, G2, p.trans ?_, h2⟩
    rw [List.append_assoc]
    exact List.Perm.append_left _ p2
theorem look_put_ne : ∀ (ρ : Vs.Env) {i j : Nat} (x : Option PV), i ≠ j → look (Vs.put ρ i x) j = look ρ j
  | [], _, _, _, _ => rfl
  | _ :: _, 0, 0, _, h => absurd rfl h
  | _ :: _, 0, _ + 1, _, _ => rfl
  | _ :: _, _ + 1, 0, _, _ => rfl
  | _ :: r, i + 1, j + 1, x, h => look_put_ne r x fun e => h (congrArg (· + 1) e)
theorem look_put_none : ∀ (ρ : Vs.Env) (i : Nat), look (Vs.put ρ i none) i = none
  | [], _ => rfl
  | _ :: _, 0 => rfl
  | _ :: r, i + 1 => look_put_none r i
theorem look_wipe {own : List Nat} {ρ : Vs.Env} {i : Nat} (h : look ρ i = none ∨ i ∈ own) : look (wipeE own ρ) i = none := by
  induction own generalizing ρ with
  | nil => exact h.resolve_right (by simp)
  | cons j own ih =>
    refine ih (ρ := Vs.put ρ j none) ?_
    by_cases e : j = i
    · subst e; exact .inl (look_put_none _ _)
    · rw [look_put_ne _ _ e]
      exact h.imp id fun z => (List.mem_cons.mp z).resolve_left (Ne.symm e)
/-- what dead slots hold is of no matter -/
theorem EnvRp.other : ∀ {σ σ' : List (Option V)} {ρ : Vs.Env} {F : List Addr}, EnvRp K S H σ ρ F → σ'.length = σ.length → (∀ i : Nat, look ρ i ≠ none → σ'[i]? = σ[i]?) → EnvRp K S H σ' ρ F
  | _, σ', _, _, .nil, hl, _ => by
    obtain rfl : σ' = [] := List.length_eq_zero_iff.mp hl
    exact .nil
  | _, [], _, _, .dead _, hl, _ => by cases hl
  | _, x :: σ', _, _, .dead h, hl, hs => .dead (EnvRp.other h (by simpa using hl) fun i hi => by simpa using hs (i + 1) hi)
  | _, [], _, _, .live _ _ _, hl, _ => by cases hl
  | _, x :: σ', _, _, .live (v := v) r h p, hl, hs => by
    have e : x = some v := by simpa using hs 0 (by simp)
    subst e
    exact .live r (EnvRp.other h (by simpa using hl) fun i hi => by simpa using hs (i + 1) hi) p
theorem wipe_get {σ : L2.St} {own : List Nat} {i : Nat} (h : i ∉ own) : (L2.wipe σ own)[i]? = (σ[i]? : Option (Option V)) := by
  induction own with
  | nil => rfl
  | cons j own ih =>
    show ((L2.wipe σ own).set j none)[i]? = _
    rw [List.getElem?_set_ne (fun e => h (by rw [e]; exact List.mem_cons_self ..))]
    exact ih fun z => h (List.mem_cons_of_mem _ z)
theorem VsOk.snoc {x : VV} {v : V} {f : List Addr} : ∀ {xs : List VV} {vs : List V} {g : List Addr}, VsOk K S H xs vs g → VOk K S H x v f → VsOk K S H (xs ++ [x]) (vs ++ [v]) (g ++ f)
  | _, _, _, .nil, h => by
    have := VsOk.cons h .nil
    rwa [List.append_nil] at this
  | _, _, _, .cons a b, h => by
    have := VsOk.cons a (b.snoc h)
    rwa [← List.append_assoc] at this
theorem VsOk.more (s : ∀ b, S b → S' b) {xs : List VV} {vs : List V} {f : List Addr} (h : VsOk K S H xs vs f) : VsOk K S' H xs vs f := by
  induction h with
  | nil => exact .nil
  | cons a _ ih => exact .cons (a.more s) ih
theorem VsOk.len {xs : List VV} {vs : List V} {f : List Addr} (h : VsOk K S H xs vs f) : xs.length = vs.length := by
  induction h with
  | nil => rfl
  | cons _ _ ih => exact congrArg (· + 1) ih
end
/-- the slots but the block's own -/
def others (n : Nat) (own : List Nat) : List Bool := (List.range n).map fun i => !own.contains i
theorem others_get {n : Nat} {own : List Nat} {i : Nat} (hi : i < n) (h : i ∉ own) : (others n own)[i]? = some true := by
  unfold others
  rw [List.getElem?_map, List.getElem?_range hi]
  simp [h]
theorem Fit.map {o : Option Vs.Env} {S S1 : Addr → Prop} {F F1 f : List Addr} {H H1 : Hp} (φ : Vs.Env → Vs.Env) (t : Fit o S F H S1 F1 f H1) : Fit (o.map φ) S F H S1 F1 f H1 := by cases o <;> exact t

/-- a target of names: the heap stays as it is -/
structure SN (ct : Str → Addr) (lent : List Bool) (X : Cx) (tg : Expr) (g : MG) : Prop where
  run : ∃ t, PG X tg t ∧ ∀ S F H σ ρ x v f ρ' Q, VOk X.K S H x v f → EnvRp X.K S H σ ρ F → Ok S H (f ++ F) → g x ρ = .nx ρ' →
    (∀ σ' F', (∀ b ∈ F', b ∈ f ++ F) → EnvRp X.K S H σ' ρ' F' → Ok S H F' → Kp lent σ σ' → Q σ' H) → t v σ H Q
structure SNs (ct : Str → Addr) (lent : List Bool) (X : Cx) (tg : List Expr) (gs : List MG) : Prop where
  run : ∃ t, PGs X tg t ∧ ∀ S F H σ ρ xs vs f ρ' Q, VsOk X.K S H xs vs f → EnvRp X.K S H σ ρ F → Ok S H (f ++ F) → gall gs xs ρ = .nx ρ' →
    (∀ σ' F', (∀ b ∈ F', b ∈ f ++ F) → EnvRp X.K S H σ' ρ' F' → Ok S H F' → Kp lent σ σ' → Q σ' H) → t vs σ H Q
section
variable {ct : Str → Addr} {lent : List Bool} {X : Cx} {pos : Pos}
theorem sn_name {i : Nat} {x : Str} (hN : X.N.Nodup) (hi : X.N[i]? = some x) (hx : Loc X.env.scope x) (hl : lent[i]? ≠ some true) (hf : X.fn x = true ∨ X.env.scope.names.lookup x = some .local := by first | exact .inl rfl | exact .inr rfl | assumption) :
    SN ct lent X (.Name x pos) (gname i) := by
  refine ⟨_, pg_name hN hi hx hf, fun S F H σ ρ x v f ρ' Q h E ok e q => ?_⟩
  show Q (σ.set i (some v)) H
  unfold gname at e
  cases ek : x.kept with
  | none => rw [ek] at e; cases e
  | some pv =>
    rw [ek] at e
    obtain ⟨hs, rfl⟩ := kept_some ek
    have e : Fl.nx (Vs.put ρ i (some (x.m, x.d))) = .nx ρ' := e
    injection e with e
    subst e
    obtain ⟨f0, G0, p, E0⟩ := E.drop i
    have p2 : (f ++ F).Perm (f0 ++ (f ++ G0)) := (List.Perm.append_left _ p).trans perm_mid
    have ok2 : Ok S H (f ++ G0) := (ok.perm p2).tail
    by_cases hl2 : i < σ.length
    · exact q _ (f ++ G0) (fun b hb => p2.mem_iff.mpr (List.mem_append_right _ hb)) (E0.fill hl2 (h.stab hs)) ok2 (Kp.set hl)
    · rw [List.set_eq_of_length_le (by omega)]
      rw [put_over _ _ _ (by rw [← E.len]; omega)] at q
      exact q σ F (fun b hb => List.mem_append_right _ hb) E ok.tail Kp.refl
theorem sns_nil : SNs ct lent X [] [] := by
  refine ⟨_, pgs_nil, fun S F H σ ρ xs vs f ρ' Q h E ok e q => ?_⟩
  cases h with
  | nil =>
    have e : Fl.nx ρ = .nx ρ' := e
    injection e with e
    subst e
    exact ⟨rfl, q σ F (fun b hb => hb) E ok Kp.refl⟩
  | cons _ _ => cases e
theorem sns_cons {t : Expr} {ts : List Expr} {g : MG} {gs : List MG} (h1 : SN ct lent X t g) (h2 : SNs ct lent X ts gs)
    (mk : ∀ {a b}, PG X t a → PGs X ts b → PGs X (t :: ts) (gCons a b)) : SNs ct lent X (t :: ts) (g :: gs) := by
  obtain ⟨t1, p1, r1⟩ := h1.run
  obtain ⟨t2, p2, r2⟩ := h2.run
  refine ⟨_, mk p1 p2, fun S F H σ ρ xs vs f ρ' Q h E ok e q => ?_⟩
  cases h with
  | nil => cases e
  | cons a b =>
    rename_i x v f xs vs g'
    refine ⟨v, vs, rfl, ?_⟩
    unfold gall at e
    cases q1 : g x ρ with
    | nx ρ1 =>
      rw [q1] at e
      have ok1 : Ok S H (g' ++ (f ++ F)) := ok.perm (by rw [List.append_assoc]; exact perm_mid)
      refine r1 S F H σ ρ x v f ρ1 _ a E ok1.tail q1 fun σ1 F1 s1 E1 k1 kp1 => ?_
      refine r2 S F1 H σ1 ρ1 xs vs g' ρ' Q b E1 (ok1.head.two k1 fun b hb z => ok1.apart b hb (s1 b z)) e fun σ2 F2 s2 E2 k2 kp2 => q σ2 F2 (fun b hb => ?_) E2 k2 (kp1.trans kp2)
      rcases List.mem_append.mp (s2 b hb) with z | z
      · exact List.mem_append_left _ (List.mem_append_right _ z)
      · rcases List.mem_append.mp (s1 b z) with z | z
        · exact List.mem_append_left _ (List.mem_append_left _ z)
        · exact List.mem_append_right _ z
    | _ => rw [q1] at e; cases e
theorem sn_tup {es : List Expr} {kk : Nat} {gs : List MG} {n : Nat} (h : SNs ct lent X es gs) (mk : ∀ {t}, PGs X es t → PG X (.Tuple es kk pos) (gTup X.K n t)) (hn : gs.length = n) : SN ct lent X (.Tuple es kk pos) (gtup gs) := by
  obtain ⟨t, p, r⟩ := h.run
  refine ⟨_, mk p, fun S F H σ ρ x v f ρ' Q h E ok e q => ?_⟩
  unfold gtup at e
  obtain ⟨b, m, d⟩ := x
  cases d with
  | tup ds =>
    cases b with
    | true => cases e
    | false =>
      replace e : (if false = false ∧ ds.length = gs.length then gall gs (ds.map fun d => ⟨false, m - 1, d⟩) ρ else .no) = .nx ρ' := e
      by_cases hl : ds.length = gs.length
      · rw [if_pos ⟨rfl, hl⟩] at e
        rw [VOk.own] at h
        obtain ⟨a, xs, rfl, h1, h2⟩ := h.tup
        exact ⟨a, xs, rfl, h1, h2.length.trans (hl.trans hn), r S F H σ ρ _ xs f ρ' Q (VsOk.of_all h2) E ok e q⟩
      · rw [if_neg fun z => hl z.2] at e
        cases e
  | _ => cases e
end
/-- a clause's tests -/
structure STs (ct : Str → Addr) (X : Cx) (ifs : List Expr) (g : MT) : Prop where
  run : ∀ W, Takes X W → ∃ t, PTs X ifs t ∧ ∀ S F H σ ρ Q, EnvRp X.K S H σ ρ F → Ok S H F → Good X.K ct BOk W S F H σ ρ (g ρ) Q → t σ H Q
section
variable {ct : Str → Addr} {X : Cx}
theorem sts_nil : STs ct X [] yes := ⟨fun W tk => ⟨_, pts_nil, fun S F H σ ρ Q E ok G => G true S F H [] Fit.nil ⟨rfl, rfl⟩ E ok⟩⟩
theorem sts_one {c : Expr} {g : MT} (h : ST ct X c g) : STs ct X [c] g := ⟨fun W tk => let ⟨_, p, r⟩ := h.run W tk; ⟨_, pts_one p, r⟩⟩
end
theorem others_own {n : Nat} {own : List Nat} {i : Nat} (h : i ∈ own) : (others n own)[i]? ≠ some true := by
  unfold others
  rw [List.getElem?_map]
  by_cases hi : i < n
  · rw [List.getElem?_range hi]
    simp [h]
  · rw [List.getElem?_eq_none (by rw [List.length_range]; omega)]
    simp
theorem compF_some {r : R (List VV)} {o : Option Vs.Env} (h : compF (r.aft o) ≠ .no) : ∃ xs o', r = .ok xs o' ∧ xs.length ≤ lim := by
  cases r with
  | ok xs o' =>
    refine ⟨xs, o', rfl, ?_⟩
    have h : (R.ofO (kLst xs)).aft (thn o o') ≠ .no := h
    unfold kLst at h
    split at h
    · rename_i c
      exact c.2
    · exact absurd rfl h
  | ex _ _ => exact absurd rfl h
  | no => exact absurd rfl h
theorem Fit.over {o : Option Vs.Env} {S S2 : Addr → Prop} {F F2 h : List Addr} {H H2 : Hp} {D : Addr} {u : HO} (t : Fit o S F H S2 F2 h H2) (n : H D = none) : Fit o S F H S2 F2 h (upd H2 D u) := by
  have k : ∀ b o, H b = some o → b ≠ D := fun b o e z => by rw [z, n] at e; cases e
  cases o with
  | none =>
    obtain ⟨e, u1, u2, f, m⟩ := t
    exact ⟨fun b o q => by rw [upd_ne (k b o q)]; exact e b o q, u1, u2, f, m⟩
  | some _ =>
    have t : Step S F H S2 (h ++ F2) H2 := t
    exact ⟨fun b o q hb => by rw [upd_ne (k b o q)]; exact t.keep b o q hb, t.sub, t.newF, t.newS⟩
theorem Ok.dead {S : Addr → Prop} {F : List Addr} {H : Hp} (ok : Ok S H F) : ∀ b, H b = none → b ∉ F ∧ ¬ S b := fun b e => ⟨fun z => ok.mem z e, fun z => ok.tr b z e⟩
section
variable {ct : Str → Addr} {X : Cx} {elt tg iter : Expr} {ifs : List Expr} {scope : Scope} {own : List (Str × Nat)} {pos : Pos} {gi : MI} {gg : MG} {gt : MT} {ge : M}
abbrev BI := Shared × Hp × Addr × List (Str × Addr) × List Addr
abbrev blkX (X : Cx) (scope : Scope) (i : BI) : Cx := X.blk i.1 i.2.1 scope (compEnvC scope i.2.2.2.1 i.2.2.1 X.env) i.2.2.2.2
/-- between two turns -/
structure Turn' (K : PySem.W.Frag) (own : List Nat) (σ : L2.St) (ρw : Vs.Env) (S1 : Addr → Prop) (F1 : List Addr) (H1 : Hp) (Dd : Addr) (o : Option Vs.Env) (acc : List VV) (ws : List V) (fa : List Addr) (S' : Addr → Prop) (F' : List Addr) (H' : Hp) : Prop where
  fit : Fit o S1 F1 H1 S' F' (Dd :: fa) H'
  env : EnvRp K S' H' (L2.wipe σ own) (now o ρw) F'
  ok : Ok S' H' ((Dd :: fa) ++ F')
  vs : VsOk K S' H' acc ws fa
  st : ∀ x ∈ acc, x.stable = true
  at_ : H' Dd = some (.lst ws)
  dead : ∀ j ∈ own, look (now o ρw) j = none
/-- what an expression within has done, for the next turn -/
theorem Turn'.next {K : PySem.W.Frag} {own : List Nat} {σ σ2 : L2.St} {ρw ρ1 : Vs.Env} {S1 S' S3 : Addr → Prop} {F1 F' F2 F3 fa f : List Addr} {H1 H' H3 H4 : Hp} {Dd : Addr} {o o1 : Option Vs.Env} {acc : List VV} {ws : List V}
    (T : Turn' K own σ ρw S1 F1 H1 Dd o acc ws fa S' F' H') (sm : Same H' H3) (sub : ∀ b ∈ F2, b ∈ F') (t : Fit o1 S' F2 H3 S3 F3 f H4) (E3 : EnvRp K S3 H4 σ2 (now o1 ρ1) F3) (k3 : Ok S3 H4 (f ++ F3))
    (hl : σ2.length = (L2.wipe σ own).length) (hk : ∀ i : Nat, i ∉ own → σ2[i]? = (L2.wipe σ own)[i]?) :
    ∃ F4, Turn' K own σ ρw S1 F1 H1 Dd (thn o (o1.map (wipeE own))) acc ws fa S3 F4 H4 ∧ Fit (o1.map (wipeE own)) S' F' H' S3 F4 f H4 ∧ (f ≠ [] → True) ∧ Ok S3 H4 (f ++ ((Dd :: fa) ++ F4)) := by
  have kF' : Ok S' H' F' := T.ok.tail
  have apart : ∀ b ∈ Dd :: fa, b ∉ F' := T.ok.apart
  -- the slots behind
  have slots : ∃ F4, Fit (o1.map (wipeE own)) S' F' H' S3 F4 f H4 ∧ EnvRp K S3 H4 (L2.wipe σ own) (now (o1.map (wipeE own)) (now o ρw)) F4 ∧ Ok S3 H4 (f ++ F4) ∧ ∀ j ∈ own, look (now (o1.map (wipeE own)) (now o ρw)) j = none := by
    cases o1 with
    | none =>
      obtain ⟨e, u1, u2, rfl, n⟩ := t
      have e' := sm.trans e
      have ft : Fit (none : Option Vs.Env) S' F' H' S3 F' f H4 := ⟨e', u1, fun b hb => (u2 b hb).imp id sm.free, rfl, fun b hb => sm.free (n b hb)⟩
      refine ⟨F', ft, (T.env.same e').more u1, ?_, T.dead⟩
      have := Ok.join (G := []) (F := F') (F' := f ++ F') ft.step kF' (by
        refine k3.head.two ⟨kF'.nd, fun b hb => (kF'.same e').mu b hb, fun b hb z => ?_, k3.tr⟩ fun b hb z => ?_
        · rcases u2 b z with q | q
          · exact kF'.ns b hb q
          · exact kF'.mem hb (sm.free q)
        · exact kF'.mem z (sm.free (n b hb)))
      exact this
    | some ρ4 =>
      have t : Step S' F2 H3 S3 (f ++ F3) H4 := t
      obtain ⟨f0, G, p, E4⟩ := EnvRp.wipe own (show EnvRp K S3 H4 σ2 ρ4 F3 from E3)
      have p2 : (f ++ F3).Perm (f0 ++ (f ++ G)) := (List.Perm.append_left _ p).trans perm_mid
      refine ⟨G, ?_, E4.other hl.symm fun i hi => ?_, (k3.perm p2).tail, fun j hj => look_wipe (.inr hj)⟩
      · refine Step.trans (Step.of_same sm fun b => .inl : Step S' F' H' S' F' H3) ((t.wide sub fun b hb => .inl hb).less fun b hb => p2.mem_iff.mpr (List.mem_append_right _ hb))
      · refine (hk i fun z => hi (look_wipe (.inr z))).symm
  obtain ⟨F4, t4, E4, k4, d4⟩ := slots
  have st4 : Step S' F' H' S3 (f ++ F4) H4 := t4.step
  have st5 : Step S' F' H' S3 F4 H4 := st4.less fun b hb => List.mem_append_right _ hb
  have all : Ok S3 H4 ((Dd :: fa) ++ (f ++ F4)) := Ok.join st4 T.ok k4
  have all2 : Ok S3 H4 (f ++ ((Dd :: fa) ++ F4)) := all.perm perm_mid
  refine ⟨F4, ⟨?_, by rw [now_thn]; exact E4, all2.tail, ?_, T.st, ?_, by rw [now_thn]; exact d4⟩, t4, fun _ => trivial, all2⟩
  · exact T.fit.thn T.ok t4 (fun b hb => .inl hb) (Same.refl _)
  · exact T.vs.step st5 kF' (fun b hb => apart b (List.mem_cons_of_mem _ hb)) T.st
  · exact st5.keep _ _ T.at_ (apart _ (List.mem_cons_self ..))
/-- one more item -/
theorem Turn'.push {K : PySem.W.Frag} {own : List Nat} {σ : L2.St} {ρw : Vs.Env} {S1 S' : Addr → Prop} {F1 F' fa f : List Addr} {H1 H' : Hp} {Dd : Addr} {o : Option Vs.Env} {acc : List VV} {ws : List V} {x : VV} {y : V}
    (T : Turn' K own σ ρw S1 F1 H1 Dd o acc ws fa S' F' H') (nD : H1 Dd = none) (hx : VOk K S' H' x y f) (hs : x.stable = true) (k : Ok S' H' (f ++ ((Dd :: fa) ++ F'))) (ff : ∀ b ∈ f, b ∈ F1 ∨ H1 b = none) (fn : o = none → ∀ b ∈ f, H1 b = none) :
    Turn' K own σ ρw S1 F1 H1 Dd o (acc ++ [x]) (ws ++ [y]) (fa ++ f) S' F' (upd H' Dd (.lst (ws ++ [y]))) := by
  have k1 : Ok S' H' ((fa ++ f) ++ (F' ++ [Dd])) := k.perm (by
    have a1 : (f ++ (Dd :: fa ++ F')).Perm ((Dd :: fa ++ F') ++ f) := List.perm_append_comm
    refine a1.trans ?_
    show (Dd :: (fa ++ F' ++ f)).Perm _
    refine List.Perm.trans ?_ (List.perm_append_comm (l₁ := [Dd]) (l₂ := (fa ++ f) ++ F') |>.trans (by rw [List.append_assoc]))
    refine List.Perm.cons _ ?_
    rw [List.append_assoc, List.append_assoc]
    exact List.Perm.append_left _ List.perm_append_comm)
  have k2 : Ok S' H' (((fa ++ f) ++ F') ++ [Dd]) := by rw [List.append_assoc]; exact k1
  have kD : Ok S' H' [Dd] := k2.tail
  have kD' : Ok S' (upd H' Dd (.lst (ws ++ [y]))) [Dd] := ⟨kD.nd, fun b hb => by
    obtain rfl := List.mem_singleton.mp hb
    rw [upd_same]
    trivial, kD.ns, fun b hb e => by
    have hb' : b ≠ Dd := fun z => kD.ns Dd (List.mem_singleton.mpr rfl) (z ▸ hb)
    rw [upd_ne hb'] at e
    exact kD.tr b hb e⟩
  have st : Step S' [Dd] H' S' [Dd] (upd H' Dd (.lst (ws ++ [y]))) := ⟨fun b o e hb => by rw [upd_ne fun z => hb (by rw [z]; exact List.mem_singleton.mpr rfl)]; exact e, fun _ z => z, fun _ => .inl, fun _ => .inl⟩
  have all : Ok S' (upd H' Dd (.lst (ws ++ [y]))) (((fa ++ f) ++ F') ++ [Dd]) := Ok.join st k2 kD'
  have nf : ∀ b ∈ (fa ++ f) ++ F', b ∉ [Dd] := k2.apart
  refine ⟨?_, T.env.step st kD fun b hb => nf b (List.mem_append_right _ hb), all.perm ?_, ?_, fun z hz => ?_, upd_same, T.dead⟩
  · refine Fit.over ?_ nD
    cases o with
    | none =>
      obtain ⟨e, u1, u2, e2, n⟩ := T.fit
      refine ⟨e, u1, u2, e2, fun b hb => ?_⟩
      rcases List.mem_cons.mp hb with z | z
      · exact n b (by rw [z]; exact List.mem_cons_self ..)
      · rcases List.mem_append.mp z with z | z
        · exact n b (List.mem_cons_of_mem _ z)
        · exact fn rfl b z
    | some ρ =>
      have t : Step S1 F1 H1 S' ((Dd :: fa) ++ F') H' := T.fit
      refine ⟨t.keep, t.sub, fun b hb => ?_, t.newS⟩
      rcases List.mem_append.mp hb with z | z
      · rcases List.mem_cons.mp z with z | z
        · exact t.newF b (by rw [z]; exact List.mem_append_left _ (List.mem_cons_self ..))
        · rcases List.mem_append.mp z with z | z
          · exact t.newF b (List.mem_append_left _ (List.mem_cons_of_mem _ z))
          · exact ff b z
      · exact t.newF b (List.mem_append_right _ z)
  · rw [List.append_assoc]
    refine (List.perm_append_comm (l₁ := fa ++ f) (l₂ := F' ++ [Dd])).trans ?_
    rw [List.append_assoc]
    refine List.perm_append_comm.trans ?_
    show ((Dd :: (fa ++ f)) ++ F').Perm _
    exact .refl _
  · refine VsOk.snoc (T.vs.step st kD (fun b hb => nf b (List.mem_append_left _ (List.mem_append_left _ hb))) T.st) (hx.step st kD (fun b hb => nf b (List.mem_append_left _ (List.mem_append_right _ hb))) hs)
  · rcases List.mem_append.mp hz with z | z
    · exact T.st _ z
    · rw [List.mem_singleton.mp z]; exact hs
theorem compF_cons {own : List Nat} {d : D} {ds : List D} {ρ : Vs.Env} {acc : List VV} {o : Option Vs.Env} (h : compF ((compL own gg gt ge (d :: ds) ρ acc).aft o) ≠ .no) :
    ∃ ρ1 b o1, gg ⟨false, 0, d⟩ ρ = .nx ρ1 ∧ gt ρ1 = .ok b o1 ∧
      (b = false → compF ((compL own gg gt ge (d :: ds) ρ acc).aft o) = compF ((compL own gg gt ge ds (now (o1.map (wipeE own)) ρ) acc).aft (thn o (o1.map (wipeE own))))) ∧
      (b = true → ∃ x o2, ge (now o1 ρ1) = .ok x o2 ∧ x.stable = true ∧
        compF ((compL own gg gt ge (d :: ds) ρ acc).aft o) = compF ((compL own gg gt ge ds (now ((thn o1 o2).map (wipeE own)) ρ) (acc ++ [x])).aft (thn o ((thn o1 o2).map (wipeE own))))) := by
  cases q1 : gg ⟨false, 0, d⟩ ρ with
  | nx ρ1 =>
    cases q2 : gt ρ1 with
    | ok b o1 =>
      refine ⟨ρ1, b, o1, rfl, q2, fun hb => ?_, fun hb => ?_⟩
      · subst hb
        conv => lhs; unfold compL
        rw [q1]
        simp only [q2]
        rw [aft_aft]
      · subst hb
        cases q3 : ge (now o1 ρ1) with
        | ok x o2 =>
          by_cases hs : x.stable = true
          · refine ⟨x, o2, rfl, hs, ?_⟩
            conv => lhs; unfold compL
            rw [q1]
            simp only [q2, q3, hs]
            rw [if_pos trivial, aft_aft]
          · exfalso
            apply h
            unfold compL
            rw [q1]
            simp only [q2, q3]
            rw [if_neg hs]
            rfl
        | ex _ _ =>
          exfalso; apply h; unfold compL; rw [q1]; simp only [q2, q3]; rfl
        | no =>
          exfalso; apply h; unfold compL; rw [q1]; simp only [q2, q3]; rfl
    | ex _ _ => exfalso; apply h; unfold compL; rw [q1]; simp only [q2]; rfl
    | no => exfalso; apply h; unfold compL; rw [q1]; simp only [q2]; rfl
  | _ => exfalso; apply h; unfold compL; rw [q1]; rfl
theorem kp_wipe {n : Nat} {own : List Nat} {σ σ2 : List (Option V)} (k : Kp (others n own) (L2.wipe σ own) σ2) (hn : n = σ.length) : ∀ i : Nat, i ∉ own → σ2[i]? = (L2.wipe σ own)[i]? := fun i hi => by
  by_cases h : i < n
  · exact k.2 i (others_get h hi)
  · have l1 : (L2.wipe σ own).length = σ.length := L2.wipe_length σ own
    rw [List.getElem?_eq_none (by rw [k.1, l1]; omega), List.getElem?_eq_none (by rw [l1]; omega)]
theorem wipe_same {own : List Nat} {σ σ2 : List (Option V)} (hl : σ2.length = (L2.wipe σ own).length) (h : ∀ i : Nat, i ∉ own → σ2[i]? = (L2.wipe σ own)[i]?) : L2.wipe σ2 own = L2.wipe σ own := by
  have l1 : (L2.wipe σ own).length = σ.length := L2.wipe_length σ own
  have l2 : (L2.wipe σ2 own).length = σ2.length := L2.wipe_length σ2 own
  refine List.ext_getElem? fun i => ?_
  by_cases hi : i ∈ own
  · have e : ∀ (τ : List (Option V)) (ow : List Nat), i ∈ ow → (L2.wipe τ ow)[i]? = if i < τ.length then some none else none := by
      intro τ ow
      induction ow with
      | nil => intro z; cases z
      | cons j ow ih =>
        intro z
        have lw : (L2.wipe τ ow).length = τ.length := L2.wipe_length τ ow
        show ((L2.wipe τ ow).set j none)[i]? = _
        by_cases e : j = i
        · subst e
          by_cases h : j < τ.length
          · rw [List.getElem?_set_self (by rw [lw]; exact h), if_pos h]
          · rw [List.getElem?_eq_none (by rw [List.length_set, lw]; omega), if_neg h]
        · rw [List.getElem?_set_ne e]
          exact ih ((List.mem_cons.mp z).resolve_left (Ne.symm e))
    rw [e _ _ hi, e _ _ hi, hl, l1]
  · rw [wipe_get hi]
    exact h i hi
theorem comp_runG {PX : TI → Prop} {Hi : BI → Prop} (hN : X.N.Nodup) (hi : ∀ W, Takes X W → ∃ wi, PX wi ∧ ∀ S F H σ ρ R, EnvRp X.K S H σ ρ F → Ok S H F → Good X.K ct (ItOk X.K) W S F H σ ρ (gi ρ) R → wi σ H R)
    (hg : ∀ n i, Hi i → SN ct (others n (own.map (·.2))) (blkX X scope i) tg gg) (ht : ∀ i, Hi i → STs ct (blkX X scope i) ifs gt) (he : ∀ i, Hi i → SE ct (blkX X scope i) elt ge) :
    ∀ W, Takes X W → ∃ wi g tt te, PX wi ∧ (∀ i, Hi i → PG (blkX X scope i) tg g) ∧ (∀ i, Hi i → PTs (blkX X scope i) ifs tt) ∧ (∀ i, Hi i → PE (blkX X scope i) elt te) ∧
      ∀ S F H σ ρ Q, EnvRp X.K S H σ ρ F → Ok S H F → Good X.K ct (VOk X.K) W S F H σ ρ (comp gi gg gt ge (own.map (·.2)) ρ) Q → tLc wi g tt te (own.map (·.2)) σ H Q := by
  intro W tk
  obtain ⟨wi, pi, ri⟩ := hi W tk
  refine ⟨wi, fun v σ H Q => ∀ i (z : Hi i), (hg σ.length i z).run.choose v σ H Q, fun σ H Q => ∀ i (z : Hi i), ((ht i z).run _ takes0).choose σ H Q, fun σ H Q => ∀ i (z : Hi i), ((he i z).run _ takes0).choose σ H Q, pi,
    fun i z => ⟨fun pins s σ H v u Q I r q => (hg σ.length i z).run.choose_spec.1.run pins s σ H v u Q I r (q i z)⟩,
    fun i z => ⟨fun pins s σ H Q I q => ((ht i z).run _ takes0).choose_spec.1.run pins s σ H Q I (q i z)⟩,
    fun i z => ⟨fun pins s σ H Q I q => ((he i z).run _ takes0).choose_spec.1.run pins s σ H Q I (q i z)⟩, fun S F H σ ρ Q E ok G => ?_⟩
  have rt : ∀ (i : BI) (z : Hi i) S F H σ ρ Q, EnvRp X.K S H σ ρ F → Ok S H F → Good X.K ct BOk (fun _ _ _ _ => False) S F H σ ρ (gt ρ) Q → ((ht i z).run _ takes0).choose σ H Q := fun i z => ((ht i z).run _ takes0).choose_spec.2
  have re : ∀ (i : BI) (z : Hi i) S F H σ ρ Q, EnvRp X.K S H σ ρ F → Ok S H F → Good X.K ct (VOk X.K) (fun _ _ _ _ => False) S F H σ ρ (ge ρ) Q → ((he i z).run _ takes0).choose σ H Q := fun i z => ((he i z).run _ takes0).choose_spec.2
  generalize hw : own.map (·.2) = ow at *
  refine ri S F H σ ρ _ E ok ?_
  unfold comp at G
  refine good_bind G fun ds o0 J S1 F1 H1 f0 _ t1 hJ E1 k1 G => ?_
  obtain ⟨rfl, hJ⟩ := hJ
  replace k1 : Ok S1 H1 F1 := k1
  intro Dd nD
  obtain ⟨fd, Fw, pw, Ew⟩ := E1.wipe ow
  generalize hρw : wipeE ow (now o0 ρ) = ρw at *
  have kw : Ok S1 H1 Fw := (k1.perm pw).tail
  have dead0 : ∀ j ∈ ow, look ρw j = none := fun j hj => by rw [← hρw]; exact look_wipe (.inr hj)
  have hE0 : EnvRp X.K S1 H1 (L2.wipe σ ow) ρw Fw := Ew.other (L2.wipe_length σ ow) fun i hi => wipe_get fun z => hi (dead0 i z)
  generalize hwh : compF (compL ow gg gt ge ds ρw []) = whole at G
  -- it comes to something
  have some_ : whole ≠ .no := fun z => by rw [z] at G; exact G
  have T0 : Turn' X.K ow σ ρw S1 Fw H1 Dd none [] [] [] S1 Fw (upd H1 Dd (.lst [])) := by
    have n2 := kw.dead Dd nD
    have sm : Same H1 (upd H1 Dd (.lst [])) := same_upd nD
    refine ⟨⟨sm, fun _ z => z, fun _ => .inl, rfl, fun b hb => by rw [List.mem_singleton.mp hb]; exact nD⟩, hE0.same sm, ?_, .nil, by simp, upd_same, dead0⟩
    exact new_okp kw nD trivial
  refine ⟨fun i m H' => ∃ o acc ws fa S' F', i + m = ds.length ∧ Turn' X.K ow σ ρw S1 Fw H1 Dd o acc ws fa S' F' H' ∧ compF ((compL ow gg gt ge (ds.drop i) (now o ρw) acc).aft o) = whole,
    ⟨ds.length, none, [], [], [], S1, Fw, by omega, T0, by rw [R.aft_none]; exact hwh⟩, fun i m H' hW => ?_⟩
  obtain ⟨o, acc, ws, fa, S', F', em, T, hwhole⟩ := hW
  have lat : Later S1 H1 S' H' := (T.fit.step.less fun b hb => List.mem_append_right _ hb).later kw
  obtain ⟨j1, j2⟩ := hJ S' H' lat i
  by_cases hlt : i < ds.length
  · -- one more turn
    obtain ⟨d, hd⟩ : ∃ d, ds[i]? = some d := ⟨ds[i], List.getElem?_eq_getElem hlt⟩
    obtain ⟨g1, g2⟩ := j1 d hd
    have ed : ds.drop i = d :: ds.drop (i + 1) := by
      have := List.drop_eq_getElem_cons hlt
      rw [List.getElem?_eq_getElem hlt] at hd
      rw [this, Option.some.inj hd]
    rw [ed] at hwhole
    obtain ⟨ρ1, b, o1, q1, q2, hF, hT⟩ := compF_cons (by rw [hwhole]; exact some_)
    rw [hwhole] at hF hT
    let Nx : Hp → Prop := fun H2 => ∃ o acc ws fa S' F', Turn' X.K ow σ ρw S1 Fw H1 Dd o acc ws fa S' F' H2 ∧ compF ((compL ow gg gt ge (ds.drop (i + 1)) (now o ρw) acc).aft o) = whole
    refine .inr ⟨g1, Nx, fun H2 hN => ?_, fun x H3 hy => ?_⟩
    · obtain ⟨o, acc, ws, fa, S', F', a, b⟩ := hN
      exact ⟨m - 1, by omega, o, acc, ws, fa, S', F', by omega, a, b⟩
    · obtain ⟨sm, rx⟩ := g2 x H3 hy
      have kF' : Ok S' H3 F' := T.ok.tail.same sm
      intro ib zb
      refine (hg _ ib zb).run.choose_spec.2 S' F' H3 (L2.wipe σ ow) (now o ρw) ⟨false, 0, d⟩ x [] ρ1 _ (by rw [VOk.own]; exact rx) (T.env.same sm) kF' q1 fun σ2 F2 s2 E2 k2 kp => ?_
      have hl2 : σ2.length = (L2.wipe σ ow).length := kp.1
      have hk2 := kp_wipe kp (L2.wipe_length σ ow)
      refine ⟨wipe_same hl2 hk2, fun ib2 zb2 => ?_⟩
      refine rt ib2 zb2 S' F2 H3 σ2 ρ1 _ E2 k2 ?_
      rw [q2]
      intro y S3 F3 H4 f t3 hb E3 k3
      obtain ⟨rfl, rfl⟩ := hb
      cases b with
      | false =>
        rw [if_neg Bool.false_ne_true]
        obtain ⟨F4, T4, _, _, _⟩ := T.next sm s2 t3 E3 k3 hl2 hk2
        refine ⟨_, acc, ws, fa, S3, F4, T4, ?_⟩
        rw [hF rfl, now_thn]
      | true =>
        rw [if_pos rfl]
        obtain ⟨xv, o2, q3, hs, hT⟩ := hT rfl
        intro ib3 zb3
        replace k3 : Ok S3 H4 F3 := k3
        refine re ib3 zb3 S3 F3 H4 σ2 (now o1 ρ1) _ E3 k3 ?_
        rw [q3]
        intro yv S5 F5 H5 fx t5 hx E5 k5
        have t35 : Fit (Vs.thn o1 o2) S' F2 H3 S5 F5 fx H5 := t3.thn (f := []) k3 t5 (fun b hb => .inr (.inl hb)) (Same.refl _)
        obtain ⟨F4, T4, t4, _, k4⟩ := T.next sm s2 t35 (by rw [now_thn]; exact E5) k5 hl2 hk2
        have bk : ∀ c, H' c = none → c ∈ Fw ∨ H1 c = none := fun c e => by
          by_cases hc : c ∈ Fw
          · exact .inl hc
          · cases q : H1 c with
            | none => exact .inr rfl
            | some u => rw [T.fit.step.keep c u q hc] at e; cases e
        have T5 := T4.push nD hx hs k4 (fun b hb => by
          rcases t4.step.newF b (List.mem_append_left _ hb) with z | z
          · exact T.fit.step.newF b (List.mem_append_right _ z)
          · exact bk b z) fun en b hb => by
          have eo : o = none ∧ (Vs.thn o1 o2).map (wipeE ow) = none := by
            cases hh : (Vs.thn o1 o2).map (wipeE ow) with
            | none => rw [hh] at en; exact ⟨en, rfl⟩
            | some _ => rw [hh] at en; cases en
          obtain ⟨rfl, e2⟩ := eo
          rw [e2] at t4
          obtain ⟨_, _, _, _, n4⟩ := t4
          obtain ⟨e1, _⟩ := T.fit
          exact e1.free (n4 b hb)
        have hlen : (acc ++ [xv]).length ≤ lim := by
          obtain ⟨xs, o', e1, e2⟩ := compF_some (by rw [← hT]; exact some_)
          exact Nat.le_trans (compL_len e1) e2
        refine ⟨ws, T4.at_, ?_, _, _, _, _, S5, F4, T5, ?_⟩
        · rw [← T4.vs.len, ← lim_eq]
          rw [List.length_append] at hlen
          exact hlen
        · rw [hT, now_thn]
  · -- the end
    refine .inl ⟨j2 (by omega), ?_⟩
    rw [List.drop_eq_nil_of_le (by omega)] at hwhole
    have hwhole : (R.ofO (kLst acc)).aft o = whole := by
      rw [← hwhole]
      show _ = (R.ofO (kLst acc)).aft (Vs.thn o none)
      rw [thn_none]
    rw [← hwhole] at G some_
    -- all slots behind
    have fin : ∃ F2, Fit o S1 F1 H1 S' F2 (Dd :: fa) H' ∧ EnvRp X.K S' H' σ (now o (now o0 ρ)) F2 ∧ Ok S' H' ((Dd :: fa) ++ F2) := by
      have j : Ok S' H' (fd ++ ((Dd :: fa) ++ F')) := Ok.join T.fit.step (k1.perm pw) T.ok
      cases o with
      | none =>
        obtain ⟨e, u1, u2, rfl, n⟩ := T.fit
        exact ⟨F1, ⟨e, u1, u2, rfl, n⟩, (E1.same e).more u1, (j.perm perm_mid).perm (List.Perm.append_left _ pw.symm)⟩
      | some ρe =>
        refine ⟨F', Step.wide T.fit (fun b hb => pw.mem_iff.mpr (List.mem_append_right _ hb)) fun b hb => .inl hb, T.env.other (L2.wipe_length σ ow).symm fun i hi => ?_, T.ok⟩
        exact (wipe_get fun z => hi (T.dead i z)).symm
    obtain ⟨F2, t2, E2, k2⟩ := fin
    cases q : kLst acc with
    | none => rw [q] at some_; exact absurd rfl some_
    | some z =>
      rw [q] at G
      unfold kLst at q
      split at q
      · rename_i c
        obtain rfl := Option.some.inj q
        obtain ⟨n, hn, hle⟩ := dmode_pos acc
        rw [hn] at G
        obtain ⟨g, f1, p, r⟩ := T.vs.all n c.1 hle
        have gr : Grow S' H' (Dd :: fa) (fun b => S' b ∨ b ∈ f1) (Dd :: g) H' := ⟨Same.refl _, fun b => Or.inl, fun b hb => hb.imp id fun z => .inl (List.mem_cons_of_mem _ (p.mem_iff.mpr (List.mem_append_right _ z))),
          fun b hb => .inl (by
            rcases List.mem_cons.mp hb with z | z
            · rw [z]; exact List.mem_cons_self ..
            · exact List.mem_cons_of_mem _ (p.mem_iff.mpr (List.mem_append_left _ z)))⟩
        have okg : Ok (fun b => S' b ∨ b ∈ f1) H' (Dd :: g) := split_ok (f := Dd :: fa) (g := Dd :: g) T.ok.head (List.Perm.cons _ p)
        have t3 := t1.thn (f := []) k1 (t2.grow k2 gr) (h := Dd :: g) (fun b hb => .inr (.inl hb)) (Same.refl _)
        refine G _ _ F2 H' (Dd :: g) t3 (by rw [VOk.own]; exact .lst1 T.at_ r) ?_ (gr.ok k2 okg)
        rw [now_thn]
        exact E2.more gr.sub
      · cases q
theorem comp_run (hN : X.N.Nodup) (hi : SI ct X tg iter gi)
    (hg : ∀ n i, SN ct (others n (own.map (·.2))) (blkX X scope i) tg gg) (ht : ∀ i, STs ct (blkX X scope i) ifs gt) (he : ∀ i, SE ct (blkX X scope i) elt ge) :
    ∀ W, Takes X W → ∃ wi g tt te, PI X tg iter wi ∧ (∀ i, PG (blkX X scope i) tg g) ∧ (∀ i, PTs (blkX X scope i) ifs tt) ∧ (∀ i, PE (blkX X scope i) elt te) ∧
      ∀ S F H σ ρ Q, EnvRp X.K S H σ ρ F → Ok S H F → Good X.K ct (VOk X.K) W S F H σ ρ (comp gi gg gt ge (own.map (·.2)) ρ) Q → tLc wi g tt te (own.map (·.2)) σ H Q := fun W tk =>
  let ⟨wi, g, tt, te, a, b, c, d, e⟩ := comp_runG (PX := PI X tg iter) (Hi := fun _ => True) (own := own) hN hi.run (fun n i _ => hg n i) (fun i _ => ht i) (fun i _ => he i) W tk
  ⟨wi, g, tt, te, a, fun i => b i trivial, fun i => c i trivial, fun i => d i trivial, e⟩
end
end Vs
set_option maxHeartbeats 4000000
/-! Vs: a rule per construct. -/
namespace Vs
open PySem PySem.Spec PyProof.Rows L2
section
variable {ct : Str → Addr} {lent : List Bool} {X : Cx} {a b c e : Expr} {es : List Expr} {ga gb gc ge : M} {gs : MA} {pos p : Pos}
/-! ### nothing known -/
theorem se_no : SE ct X e (fun _ => .no) := ⟨fun W tk => ⟨fun _ _ _ => False, ⟨fun _ _ _ _ _ _ h => h.elim⟩, fun _ _ _ _ _ _ _ _ G => G⟩⟩
theorem ss_no {st : Stmt} : SS ct lent X st (fun _ => .no) := ⟨fun W tk po => ⟨fun _ _ _ => False, ⟨fun _ _ _ _ _ _ h => h.elim⟩, fun _ _ _ _ _ _ _ _ G => G⟩⟩
/-! ### operators -/
theorem s_op {op : Operator} {r : R2} {k : VV → VV → Option VV} (ho : OpR X (binaryOp op) r) (hk : Op2 X.K r k) (ha : SE ct X a ga) (hb : SE ct X b gb) : SE ct X (.BinOp a op b pos) (two ga gb k) := run_two ha hb (fun pa pb => pe_op ho pa pb) hk
theorem s_cmp {op : CmpOp} {r : R2} {k : VV → VV → Option VV} (ho : OpR X (compareOp op) r) (hk : Op2 X.K r k) (hm : behindInMarks op b = false) (ha : SE ct X a ga) (hb : SE ct X b gb) : SE ct X (.Compare a [op] [b] pos) (two ga gb k) := run_two ha hb (fun pa pb => pe_cmpR ho pa pb hm) hk
theorem s_add (ha : SE ct X a ga) (hb : SE ct X b gb) : SE ct X (.BinOp a .Add b pos) (two ga gb kAdd) := s_op op_add3 kAdd_op ha hb
theorem s_sub (ha : SE ct X a ga) (hb : SE ct X b gb) : SE ct X (.BinOp a .Sub b pos) (two ga gb kSub) := s_op op_sub kSub_op ha hb
theorem s_mul (ha : SE ct X a ga) (hb : SE ct X b gb) : SE ct X (.BinOp a .Mult b pos) (two ga gb kMul) := s_op op_mul2 kMul_op ha hb
theorem s_mod (ha : SE ct X a ga) (hb : SE ct X b gb) : SE ct X (.BinOp a .Mod b pos) (two ga gb kMod) := s_op op_mod kMod_op ha hb
theorem s_div (ha : SE ct X a ga) (hb : SE ct X b gb) : SE ct X (.BinOp a .FloorDiv b pos) (two ga gb kDiv) := s_op op_fdivW kDiv_op ha hb
theorem s_pow (ha : SE ct X a ga) (hb : SE ct X b gb) : SE ct X (.BinOp a .Pow b pos) (two ga gb kPow) := s_op op_powB kPow_op ha hb
theorem kBit_op {φ : Int → Int → Int} : Op2 X.K (rI0 fun i j => .int (φ i j)) (kBit φ) := op2_int0 fun x y z e => by
  unfold kBit at e
  split at e
  · rename_i i j h1 h2
    obtain rfl := Option.some.inj e
    exact ⟨i, j, h1, h2, rfl, fun _ _ => .int _ _⟩
  · cases e
theorem s_band (ha : SE ct X a ga) (hb : SE ct X b gb) : SE ct X (.BinOp a .BitAnd b pos) (two ga gb (kBit Builtin.bitAnd)) := s_op op_and kBit_op ha hb
theorem s_bor (ha : SE ct X a ga) (hb : SE ct X b gb) : SE ct X (.BinOp a .BitOr b pos) (two ga gb (kBit Builtin.bitOr)) := s_op op_or kBit_op ha hb
theorem s_bxor (ha : SE ct X a ga) (hb : SE ct X b gb) : SE ct X (.BinOp a .BitXor b pos) (two ga gb (kBit Builtin.bitXor)) := s_op op_xor kBit_op ha hb
theorem s_lt (ha : SE ct X a ga) (hb : SE ct X b gb) : SE ct X (.Compare a [.Lt] [b] pos) (two ga gb kLt) := s_cmp op_lt kCmp_op (nomark _) ha hb
theorem s_le (ha : SE ct X a ga) (hb : SE ct X b gb) : SE ct X (.Compare a [.LtE] [b] pos) (two ga gb kLe) := s_cmp op_le kCmp_op (nomark _) ha hb
theorem s_gt (ha : SE ct X a ga) (hb : SE ct X b gb) : SE ct X (.Compare a [.Gt] [b] pos) (two ga gb kGt) := s_cmp op_gt kCmp_op (nomark _) ha hb
theorem s_ge (ha : SE ct X a ga) (hb : SE ct X b gb) : SE ct X (.Compare a [.GtE] [b] pos) (two ga gb kGe) := s_cmp op_ge kCmp_op (nomark _) ha hb
theorem s_is (ha : SE ct X a ga) (hb : SE ct X b gb) : SE ct X (.Compare a [.Is] [b] pos) (two ga gb kIs) := s_cmp op_is2 kIs_op (nomark _) ha hb
theorem s_isnot (ha : SE ct X a ga) (hb : SE ct X b gb) : SE ct X (.Compare a [.IsNot] [b] pos) (two ga gb kIsNot) := s_cmp op_isNot2 kIsNot_op (nomark _) ha hb
theorem units_of {A : Around} {k : Nat} (hr : Room k A) : A.units + 65 < cLine := by
  have := hr.un
  omega
theorem s_eq {k : Nat} (hr : Room k X.A) (ha : SE ct X a ga) (hb : SE ct X b gb) : SE ct X (.Compare a [.Eq] [b] pos) (two ga gb kEq) := s_cmp (op_eqS (units_of hr)) kEq_op (nomark _) ha hb
theorem s_ne {k : Nat} (hr : Room k X.A) (ha : SE ct X a ga) (hb : SE ct X b gb) : SE ct X (.Compare a [.NotEq] [b] pos) (two ga gb kNe) := s_cmp (op_neS (units_of hr)) kNe_op (nomark _) ha hb
theorem s_in {k : Nat} (hr : Room k X.A) (ha : SE ct X a ga) (hb : SE ct X b gb) (hm : behindInMarks .In b = false := by with_unfolding_all rfl) : SE ct X (.Compare a [.In] [b] pos) (two ga gb kIn) := s_cmp (op_in2 (units_of hr)) kIn_op hm ha hb
theorem s_notin {k : Nat} (hr : Room k X.A) (ha : SE ct X a ga) (hb : SE ct X b gb) (hm : behindInMarks .NotIn b = false := by with_unfolding_all rfl) : SE ct X (.Compare a [.NotIn] [b] pos) (two ga gb kNotIn) := s_cmp (op_notIn2 (units_of hr)) kNotIn_op hm ha hb
theorem s_ix (ha : SE ct X a ga) (hb : SE ct X b gb) (hs : PlainIx b := by exact fun _ _ => rfl) : SE ct X (.Subscript a b pos) (two ga gb kIx) := run_two ha hb (fun pa pb => pe_ix ix_seq pa pb hs) kIx_op
theorem kNeg_op : Op1 X.K (rU fun i => .int (-i)) kNeg := fun S H x v f z Q h ok e hQ => by
  unfold kNeg at e
  split at e
  · rename_i i el
    obtain rfl := Option.some.inj e
    exact ⟨i, h.int el, ret_imm ok rfl (.int _ _) hQ⟩
  · cases e
theorem s_neg (ha : SE ct X a ga) : SE ct X (.UnaryOp .USub a pos) (one ga kNeg) := run_one ha (fun pa => pe_un un_neg pa) kNeg_op
/-! ### displays -/
theorem s_lst (ha : SA ct X es gs) : SE ct X (.List es pos) (argsk gs kLst) := run_args ha (fun pa => pe_lst pa) kLst_op
theorem s_tup {j : Nat} (ha : SA ct X es gs) : SE ct X (.Tuple es j pos) (argsk gs kTup) := run_args ha (fun pa => pe_tup pa) kTup_op
/-! ### built-ins -/
theorem s_bi {x : Str} {id : String} {r : List V → Hp → VK → Prop} {k : List VV → Option VV} (hc : CallR X (.builtin id) r) (hk : OpN X.K r k) (hg : Gl X x) (hm : X.mg x = none) (hv : bootBuiltins x = some (.builtin id)) (hn : x ≠ "__name__") (hdb : (x == ("__debug__" : Str)) = false) (ha : SA ct X (e :: es) gs)
    (he : starEach (e :: es) X.env = (false, eval e X.env) :: starEach es X.env := by rfl) (hpl : (backTo pos (starEach es X.env)).any (·.1) = false := by rfl) : SE ct X (.Call (.Name x p) (e :: es) [] pos) (argsk gs k) :=
  run_args ha (fun pa => pe_callB hc hg hm hv pa hn hdb he hpl) hk
theorem s_ty {x : Str} {T : String} {r : List V → Hp → VK → Prop} {k : List VV → Option VV} (hc : CallR X (.type T) r) (hk : OpN X.K r k) (hg : Gl X x) (hm : X.mg x = none) (hv : bootBuiltins x = some (.type T)) (hn : x ≠ "__name__") (hdb : (x == ("__debug__" : Str)) = false) (ha : SA ct X (e :: es) gs)
    (he : starEach (e :: es) X.env = (false, eval e X.env) :: starEach es X.env := by rfl) (hpl : (backTo pos (starEach es X.env)).any (·.1) = false := by rfl) : SE ct X (.Call (.Name x p) (e :: es) [] pos) (argsk gs k) :=
  run_args ha (fun pa => pe_callTy hc hg hm hv pa hn hdb he hpl) hk
/-! ### assignments -/
theorem ss_asg {tg : Expr} {gg : MG} (he : SE ct X e ge) (hg : SG ct lent X tg gg) (hs : swapsWithSole [tg] e pos.line X.env = pure false := by rfl) (hw : swappedStores [tg] e X.env = pure none := by rfl)
    (h1 : (assignEach [tg] X.env).map (·.2) = [assign tg X.env] := by rfl) : SS ct lent X (.Assign [tg] e pos) (asg ge gg) := by
  refine ⟨fun W tk po => ?_⟩
  obtain ⟨te, pe, re⟩ := he.run W tk
  obtain ⟨tg', pg, rg⟩ := hg.run W tk
  refine ⟨_, ps_asg pe pg hs hw h1, fun S F H σ ρ D E ok G => re S F H σ ρ _ E ok ?_⟩
  refine good_go G fun x o v S1 F1 H1 f st h E1 ok1 G => ?_
  exact rg S1 F1 H1 σ _ x v f D D.nx h E1 ok1 (fun _ _ z => z) (GoodS.from st Kp.refl G)
/-- the slots named are read as they are -/
theorem VV.plain_ok {K : PySem.W.Frag} {S S' : Addr → Prop} {H : Hp} {x : VV} {v : V} {f : List Addr} (hp : x.plain = true) (h : VOk K S H x v f) : VOk K S' H x v f := by
  have all0 : ∀ {m : Nat} {xs : List V} {ds : List D} {g : List Addr}, RpAll K S H m xs ds g → ds.all D.imm = true → g = [] ∧ RpAll K S' H m xs ds [] := by
    intro m xs ds g h
    induction ds generalizing xs g with
    | nil => cases h; exact fun _ => ⟨rfl, .nil _⟩
    | cons d ds ih =>
      intro hc
      rw [List.all_cons, Bool.and_eq_true] at hc
      cases h with
      | cons h1 h2 =>
        obtain ⟨rfl, q⟩ := ih h2 hc.2
        obtain ⟨rfl, q1⟩ := h1.imm hc.1
        exact ⟨rfl, .cons (f := []) (g := []) (q1 _ _ _) q⟩
  obtain ⟨b, m, d⟩ := x
  unfold VV.plain at hp
  rw [Bool.and_eq_true] at hp
  obtain ⟨h1, h2⟩ := hp
  cases b with
  | true => cases h1
  | false =>
    rw [VOk.own] at h ⊢
    have im : d.imm = true → Rp K S' H m v d f := fun i => by
      obtain ⟨rfl, q⟩ := h.imm i
      exact q _ _ _
    cases d with
    | lst ds =>
      replace h2 : (m == 1 && ds.all D.imm) = true := h2
      rw [Bool.and_eq_true] at h2
      obtain rfl : m = 1 := by simpa using h2.1
      cases h with
      | lst1 q r =>
        obtain ⟨rfl, r'⟩ := all0 r h2.2
        exact .lst1 q r'
    | tup ds =>
      replace h2 : ds.all D.imm = true := h2
      cases h with
      | tup0 q r => exact .tup0 q (all0 r h2).2
      | tup1 q r =>
        obtain ⟨rfl, r'⟩ := all0 r h2
        exact .tup1 q r'
    | non => exact im rfl
    | bl _ => exact im rfl
    | int _ => exact im rfl
    | str _ => exact im rfl
    | dic _ => cases h2
    | ins _ _ => cases h2
theorem peek_run {ta : TE} {W : WX} {is : List Nat} (ra : ∀ S F H σ ρ Q, EnvRp X.K S H σ ρ F → Ok S H F → Good X.K ct (VOk X.K) W S F H σ ρ (ga ρ) Q → ta σ H Q)
    (S F H) (σ : L2.St) (ρ : Vs.Env) (Q : VK) (E : EnvRp X.K S H σ ρ F) (ok : Ok S H F) (G : Good X.K ct (VOk X.K) W S F H σ ρ (peek is ga ρ) Q) : ta σ H Q := by
  obtain ⟨S', F', st, E', ok'⟩ := thin_env 0 is E ok
  refine ra S' F' H σ _ Q E' ok' ?_
  unfold peek at G
  cases q : ga (thin 0 is ρ) with
  | no => rw [q] at G; exact G
  | ex _ _ => rw [q] at G; exact G.elim
  | ok x o =>
    rw [q] at G
    cases o with
    | some _ => exact G.elim
    | none =>
      by_cases hp : x.plain = true
      · replace G : Good X.K ct (VOk X.K) W S F H σ ρ (if x.plain = true then .pu x else .no) Q := G
        rw [if_pos hp] at G
        intro y S2 F2 H2 f t h E2 k2
        obtain ⟨sm, u1, u2, rfl, n⟩ := t
        refine G y S F H2 f ⟨sm, fun _ z => z, fun _ => .inl, rfl, n⟩ (VV.plain_ok hp h) (E.same sm) ?_
        have kf := k2.head
        exact (⟨kf.nd, kf.mu, fun b hb z => ok.tr b z (n b hb), (ok.same sm).tr⟩ : Ok S H2 f).two (ok.same sm) fun b hb z => ok.mem z (n b hb)
      · replace G : Good X.K ct (VOk X.K) W S F H σ ρ (if x.plain = true then .pu x else .no) Q := G
        rw [if_neg hp] at G
        exact G.elim
theorem s_peek {is : List Nat} (ha : SE ct X a ga) : SE ct X a (peek is ga) := by
  refine ⟨fun W tk => ?_⟩
  obtain ⟨ta, pa, ra⟩ := ha.run W tk
  exact ⟨ta, pa, peek_run ra⟩
theorem s_soft {is : List Nat} (ha : SE ct X a ga) : SE ct X a (soft is ga) := by
  refine ⟨fun W tk => ?_⟩
  obtain ⟨ta, pa, ra⟩ := ha.run W tk
  refine ⟨ta, pa, fun S F H σ ρ Q E ok G => ?_⟩
  have rest : Good X.K ct (VOk X.K) W S F H σ ρ (fz 0 is ga ρ) Q → ta σ H Q := fun G => by
    unfold fz at G
    by_cases hk : isThin 0 is ρ = true
    · rw [if_pos hk] at G
      exact ra S F H σ ρ Q E ok G
    · rw [if_neg hk] at G
      obtain ⟨S', F', st, E', ok'⟩ := thin_env 0 is E ok
      exact ra S' F' H σ _ Q E' ok' (good_after (o := some (thin 0 is ρ)) (f := []) st ok' G)
  unfold soft at G
  cases q : ga (thin 0 is ρ) with
  | no => rw [q] at G; exact G.elim
  | ex _ _ => rw [q] at G; exact rest G
  | ok x o =>
    rw [q] at G
    cases o with
    | some _ => exact rest G
    | none =>
      replace G : Good X.K ct (VOk X.K) W S F H σ ρ (if x.plain = true then .pu x else fz 0 is ga ρ) Q := G
      by_cases hp : x.plain = true
      · rw [if_pos hp] at G
        refine peek_run (is := is) ra S F H σ ρ Q E ok ?_
        unfold peek
        rw [q]
        show Good X.K ct (VOk X.K) W S F H σ ρ (if x.plain = true then .pu x else .no) Q
        rw [if_pos hp]
        exact G
      · rw [if_neg hp] at G
        exact rest G
end
end Vs
set_option maxHeartbeats 4000000
/-! Vs: methods, stores into lists. -/
namespace Vs
open PySem PySem.Spec PyProof.Rows L2
section
variable {K : PySem.W.Frag} {S S' : Addr → Prop} {H : Hp}
theorem mut_lst {a : Addr} {xs : List V} (h : H a = some (.lst xs)) : Mut (H a) := by rw [h]; trivial
/-- a list's place is written -/
theorem RpAll.wr {a : Addr} {o : HO} (hm : Mut (H a)) (hS : ¬ S a) {m : Nat} {v : List V} {d : List D} {f : List Addr} (hf : a ∉ f) (h : RpAll K S H m v d f) : RpAll K S (upd H a o) m v d f :=
  h.keep (fun b u hb e => by rw [upd_ne (show b ≠ a from fun z => hS (by rw [← z]; exact hb))]; exact e) (fun b u e nm => by
    rw [upd_ne fun z => nm (by rw [← e, z]; exact hm)]
    exact e) (fun _ z => z) fun b u hb e => by rw [upd_ne (show b ≠ a from fun z => hf (by rw [← z]; exact hb))]; exact e
theorem Ok.wr {a : Addr} {o : HO} {F : List Addr} (ho : Mut (some o)) (ok : Ok S H F) (ha : H a ≠ none) : Ok S (upd H a o) F :=
  ⟨ok.nd, fun b hb => by
    by_cases e : b = a
    · rw [e, upd_same]; exact ho
    · rw [upd_ne e]; exact ok.mu b hb, ok.ns, fun b hb => by
    by_cases e : b = a
    · rw [e, upd_same]; simp
    · rw [upd_ne e]; exact ok.tr b hb⟩
/-- a new item beside the others: all as deep as they can be -/
theorem RpAll.meet {m : Nat} {xs : List V} {ds : List D} {f g : List Addr} {n : Nat} {y : V} {d : D} (h : RpAll K S H m xs ds f) (r : Rp K S H n y d g) :
    ∃ ff gg f1, (f ++ g).Perm ((ff ++ gg) ++ f1) ∧ RpAll K (fun b => S b ∨ b ∈ f1) H (if d.imm = true then m else min m n) xs ds ff ∧ Rp K (fun b => S b ∨ b ∈ f1) H (if d.imm = true then m else min m n) y d gg := by
  by_cases hi : d.imm = true
  · rw [if_pos hi]
    obtain ⟨rfl, q⟩ := r.imm hi
    exact ⟨f, [], [], by simp, h.more fun _ => .inl, q _ _ _⟩
  · rw [if_neg hi]
    obtain ⟨f0, f1, p, h0⟩ := h.thin n
    obtain ⟨g0, g1, p', r0⟩ := r.thin m
    rw [Nat.min_comm n m] at r0
    exact ⟨f0, g0, f1 ++ g1, thin_perm p p', h0.more fun b hb => hb.imp id (List.mem_append_left _), r0.more fun b hb => hb.imp id (List.mem_append_right _)⟩
/-- the list at a of a slot is written anew: items xs, with ff of their own; h goes elsewhere -/
theorem write_ok {a : Addr} {f1 ff h G : List Addr} {ys : List V} {ds : List D} {n : Nat} {zs : List V} (ha : H a = some (.lst zs)) (ok : Ok S H G) (p : G.Perm ((h ++ (a :: ff)) ++ f1)) (r : RpAll K (fun b => S b ∨ b ∈ f1) H n ys ds ff) :
    Step S G H (fun b => S b ∨ b ∈ f1) (h ++ (a :: ff)) (upd H a (.lst ys)) ∧ Rp K (fun b => S b ∨ b ∈ f1) (upd H a (.lst ys)) (n + 1) (.ref a) (.lst ds) (a :: ff) ∧ Ok (fun b => S b ∨ b ∈ f1) (upd H a (.lst ys)) (h ++ (a :: ff)) := by
  have k := split_ok ok p
  have ka : Ok (fun b => S b ∨ b ∈ f1) H (a :: ff) := k.tail
  have nS : ¬ (S a ∨ a ∈ f1) := ka.ns a (List.mem_cons_self ..)
  have nf : a ∉ ff := (List.nodup_cons.mp ka.nd).1
  have hg : a ∈ G := p.mem_iff.mpr (List.mem_append_left _ (List.mem_append_right _ (List.mem_cons_self ..)))
  refine ⟨⟨fun b o e hb => by rw [upd_ne fun z => hb (by rw [z]; exact hg)]; exact e, fun _ => .inl, fun b hb => .inl (p.mem_iff.mpr (List.mem_append_left _ hb)), fun b hb => hb.imp id fun z => .inl (p.mem_iff.mpr (List.mem_append_right _ z))⟩, ?_, k.wr trivial (by rw [ha]; simp)⟩
  exact .lst1 upd_same (r.wr (mut_lst ha) nS nf)
/-- a method's call on a list of a slot -/
def Recv1 (K : PySem.W.Frag) (r : V → List V → Hp → VK → Prop) (k : PV → List VV → Option (VV × PV)) : Prop :=
  ∀ S H pv v f xs vs g z pv' Q, Rp K S H pv.1 v pv.2 f → VsOk K S H xs vs g → Ok S H (g ++ f) → k pv xs = some (z, pv') →
    (∀ w H' S' h f', Step S (g ++ f) H S' (h ++ f') H' → VOk K S' H' z w h → Rp K S' H' pv'.1 v pv'.2 f' → Ok S' H' (h ++ f') → Q w H') → r v vs H Q
theorem rAppend_rc : Recv1 K L2.rAppend rAppend := fun S H pv v f xs vs g z pv' Q h hx ok e hQ => by
  unfold rAppend at e
  split at e
  · rename_i m l x
    split at e
    · rename_i c
      obtain ⟨rfl, rfl⟩ := Prod.mk.inj (Option.some.inj e)
      obtain ⟨y, rfl, hy⟩ := hx.one
      have hy := hy.stab c.1
      replace h : Rp K S H (m + 1) v (.lst l) f := h
      cases h with
      | lst1 ha r =>
        rename_i a zs f0
        obtain ⟨ff, gg, f1, p, r1, r2⟩ := r.meet hy
        refine ⟨a, zs, y, rfl, rfl, ha, by rw [r.length, ← lim_eq]; exact c.2, ?_⟩
        have p2 : (g ++ (a :: f0)).Perm (([] ++ (a :: (ff ++ gg))) ++ f1) := by
          refine List.perm_append_comm.trans ?_
          exact List.Perm.cons a p
        have r3 := RpAll.append r1 (RpAll.cons r2 (.nil _))
        rw [List.append_nil] at r3
        obtain ⟨w1, w2, w3⟩ := write_ok (h := []) ha ok p2 r3
        exact hQ .non _ _ [] _ w1 (by rw [VOk.own]; exact .non _) w2 w3
    · cases e
  · cases e
theorem take_ok {a : Addr} {g1 gg g2 : List Addr} {zs ys : List V} {ds : List D} {m : Nat} {u : V} {d : D} (ha : H a = some (.lst zs)) (ok : Ok S H ([] ++ (a :: (g1 ++ gg ++ g2)))) (p3 : Rp K S H m u d gg) (p5 : RpAll K S H m ys ds (g1 ++ g2)) :
    ∃ S', Step S ([] ++ (a :: (g1 ++ gg ++ g2))) H S' (gg ++ (a :: (g1 ++ g2))) (upd H a (.lst ys)) ∧ Rp K S' (upd H a (.lst ys)) m u d gg ∧ Rp K S' (upd H a (.lst ys)) (m + 1) (.ref a) (.lst ds) (a :: (g1 ++ g2)) ∧ Ok S' (upd H a (.lst ys)) (gg ++ (a :: (g1 ++ g2))) := by
  have p2 : ([] ++ (a :: (g1 ++ gg ++ g2))).Perm ((gg ++ (a :: (g1 ++ g2))) ++ []) := by
    rw [List.append_nil, List.nil_append]
    refine List.Perm.trans (List.Perm.cons a ?_) (List.perm_middle (l₁ := gg) (l₂ := g1 ++ g2)).symm
    rw [List.append_assoc]
    exact perm_mid
  obtain ⟨w1, w2, w3⟩ := write_ok (h := gg) ha ok p2 (p5.more fun _ => .inl)
  have ka := ok.perm p2
  rw [List.append_nil] at ka
  refine ⟨_, w1, ?_, w2, w3⟩
  refine (p3.more fun _ => .inl).keep (fun b o hb e => ?_) (fun b o e nm => ?_) (fun _ z => z) fun b o hb e => ?_
  · rw [upd_ne (show b ≠ a from fun z => ka.ns a (List.mem_append_right _ (List.mem_cons_self ..)) (by rw [← z]; exact hb.resolve_right (by simp)))]
    exact e
  · rw [upd_ne (show b ≠ a from fun z => nm (by rw [← e, z]; exact mut_lst ha))]
    exact e
  · rw [upd_ne (show b ≠ a from fun z => ka.apart b hb (by rw [z]; exact List.mem_cons_self ..))]
    exact e
theorem line63' {n : Nat} (h : n ≤ lim) : n < 2 ^ 63 := by unfold lim at h; omega
theorem rPopAt_rc : Recv1 K L2.rPopAt rPopAt := fun S H pv v f xs vs g z pv' Q h hx ok e hQ => by
  unfold rPopAt at e
  split at e
  · rename_i m l b n i
    split at e
    · rename_i c
      cases q1 : nix l.length i with
      | none => rw [q1] at e; cases e
      | some j =>
        rw [q1] at e
        cases q2 : l[j]? with
        | none => rw [Option.bind_some, q2] at e; cases e
        | some d =>
          rw [Option.bind_some, q2] at e
          obtain ⟨rfl, rfl⟩ := Prod.mk.inj (Option.some.inj e)
          obtain ⟨y, rfl, hy⟩ := hx.one
          obtain rfl := hy.int'
          have hg : g = [] := by
            unfold VOk at hy
            split at hy
            · exact hy.1
            · exact (hy.imm rfl).1
          subst hg
          replace h : Rp K S H (m + 1) v (.lst l) f := h
          cases h with
          | lst1 ha r =>
            rename_i a zs f0
            obtain ⟨u, g1, gg, g2, p1, rfl, p3, _, p5⟩ := r.at q2
            have hj : ixN zs.length i = some j := by rw [r.length]; exact q1
            obtain ⟨s1, s2, s3, s4⟩ := ixN_seq hj
            have hb := line63' c
            rw [← r.length] at hb
            refine ⟨a, zs, i, j, u, rfl, rfl, ha, by omega, by omega, s1, p1, ?_⟩
            obtain ⟨S', w1, hu, w2, w3⟩ := take_ok ha ok p3 p5
            exact hQ u _ _ gg _ w1 (by rw [VOk.own]; exact hu) w2 w3
    · cases e
  · cases e
theorem rPop_rc : Recv1 K L2.rPop rPop := fun S H pv v f xs vs g z pv' Q h hx ok e hQ => by
  unfold rPop at e
  split at e
  · rename_i m l
    cases q2 : l[l.length - 1]? with
    | none => rw [q2] at e; cases e
    | some d =>
      rw [q2] at e
      obtain ⟨rfl, rfl⟩ := Prod.mk.inj (Option.some.inj e)
      cases hx with
      | nil =>
        replace h : Rp K S H (m + 1) v (.lst l) f := h
        cases h with
        | lst1 ha r =>
          rename_i a zs f0
          obtain ⟨u, g1, gg, g2, p1, rfl, p3, _, p5⟩ := r.at q2
          have el : zs.length - 1 = l.length - 1 := by rw [r.length]
          have hz : 0 < zs.length := by
            have := (List.getElem?_eq_some_iff.mp p1).1
            omega
          have hl : 0 < l.length := by rw [← r.length]; exact hz
          rw [List.eraseIdx_eq_dropLast (by omega), List.eraseIdx_eq_dropLast (by omega)] at p5
          obtain ⟨S', w1, hu, w2, w3⟩ := take_ok ha ok p3 p5
          exact ⟨a, zs, u, rfl, rfl, ha, by rw [el]; exact p1, hQ u _ _ gg _ w1 (by rw [VOk.own]; exact hu) w2 w3⟩
  · cases e
/-- o.m(..), o a list in a slot -/
theorem s_recv {i : Nat} {x : Str} {es : List Expr} {ga : MA} {e : Expr} {p : Pos} {ct : Str → Addr} {X : Cx} {r : V → List V → Hp → VK → Prop} {k : PV → List VV → Option (VV × PV)} (ho : Recv1 X.K r k) (ha : SA ct X es ga)
    (mk : ∀ {to t}, PE X (.Name x p) to → PA X es t → PE X e (tBM X.K "list" r to t))
    (hN : X.N[i]? = some x := by rfl) (hv : Vis X.env.scope x := by first | exact Or.inl rfl | exact Or.inr (Or.inl rfl) | exact Or.inr (Or.inr rfl)) (hd : (x == ("__debug__" : Str)) = false := by decide)
    (hcd : (x == ("__classdict__" : Str)) = false := by decide) : SE ct X e (recv i ga k) := by
  refine ⟨fun W tk => ?_⟩
  obtain ⟨ta, pa, ra⟩ := ha.run W tk
  refine ⟨_, mk (pv i hN hv hd hcd) pa, fun S F H σ ρ Q E ok G => ?_⟩
  unfold recv at G
  cases q : look ρ i with
  | none => rw [q] at G; exact G.elim
  | some pv0 =>
    obtain ⟨m, d⟩ := pv0
    rw [q] at G
    cases d with
    | lst l =>
      obtain ⟨v, f0, G0, h1, h2, _⟩ := E.take q
      refine ⟨v, h1, ?_, ?_⟩
      · obtain ⟨a, xs, g, rfl, q1, _⟩ := h2.lst
        exact .inl ⟨rfl, xs, q1⟩
      · refine ra S F H σ ρ _ E ok ?_
        refine good_bind G fun xs o vs S1 F1 H1 g _ t1 hx E1 k1 G => ?_
        cases q2 : look (now o ρ) i with
        | none => rw [q2] at G; exact G.elim
        | some pv =>
          rw [q2] at G
          cases q3 : k pv xs with
          | none => simp only [q3] at G; exact G.elim
          | some z =>
            obtain ⟨z, pv'⟩ := z
            simp only [q3] at G
            obtain ⟨v', f, G1, h1', h2', pf, E2⟩ := E1.take q2
            rw [h1] at h1'
            cases h1'
            have k2 : Ok S1 H1 ((g ++ f) ++ G1) := by
              rw [List.append_assoc]
              exact k1.perm (List.Perm.append_left _ pf)
            refine ho S1 H1 pv v f xs vs g z pv' Q h2' hx k2.head q3 fun w H' S' h f' st hw hr ok' => ?_
            have k3 : Ok S1 H1 (G1 ++ (g ++ f)) := k2.perm List.perm_append_comm
            have E3 : EnvRp X.K S' H' σ (Vs.put (now o ρ) i none) G1 := E2.step st k2.head fun b hb z => k2.apart b z hb
            have k4 : Ok S' H' (G1 ++ (h ++ f')) := Ok.join st k3 ok'
            have p5 : (G1 ++ (h ++ f')).Perm (h ++ (f' ++ G1)) := by
              refine List.perm_append_comm.trans ?_
              rw [List.append_assoc]
            refine G w S' (f' ++ G1) H' h ?_ hw (E3.back h1 hr) (k4.perm p5)
            refine t1.step.trans (st.wide (fun b hb => ?_) fun b hb => ?_)
            · rcases List.mem_append.mp hb with z | z
              · exact List.mem_append_left _ z
              · exact List.mem_append_right _ (pf.mem_iff.mpr (List.mem_append_left _ z))
            · rcases List.mem_append.mp (p5.mem_iff.mpr hb) with z | z
              · exact .inr (List.mem_append_right _ (pf.mem_iff.mpr (List.mem_append_right _ z)))
              · exact .inl z
    | _ => exact G.elim
end
end Vs
set_option maxHeartbeats 4000000
/-! Vs: stores, methods that change nothing, comprehensions, calls by keyword. -/
namespace Vs
open PySem PySem.Spec PyProof.Rows L2
section
variable {K : PySem.W.Frag} {S S' : Addr → Prop} {H : Hp}
theorem VOk.nil_int {b : Bool} {m : Nat} {i : Int} {v : V} {f : List Addr} (h : VOk K S H ⟨b, m, .int i⟩ v f) : f = [] := by
  unfold VOk at h
  split at h
  · exact h.1
  · exact (h.imm rfl).1
theorem nix_lt {n : Nat} {i : Int} {j : Nat} (h : nix n i = some j) : j < n := by
  unfold nix at h
  split at h
  · split at h
    · obtain rfl := Option.some.inj h; omega
    · cases h
  · split at h
    · obtain rfl := Option.some.inj h; omega
    · cases h
/-- an item is put into a list of a slot -/
theorem set_ok {a : Addr} {f f0 : List Addr} {xs : List V} {l : List D} {m n j : Nat} {v : V} {d : D} (ha : H a = some (.lst xs)) (ok : Ok S H (f ++ (a :: f0))) (r : RpAll K S H m xs l f0) (h : Rp K S H n v d f) (hj : j < l.length) :
    ∃ S' ff, Step S (f ++ (a :: f0)) H S' (a :: ff) (upd H a (.lst (xs.set j v))) ∧ Rp K S' (upd H a (.lst (xs.set j v))) ((if d.imm = true then m else min m n) + 1) (.ref a) (.lst (l.set j d)) (a :: ff) ∧ Ok S' (upd H a (.lst (xs.set j v))) (a :: ff) := by
  obtain ⟨ff, gg, fx, p, r1, r2⟩ := r.meet h
  obtain ⟨u, g1, g, g2, p1, rfl, p3, p4, _⟩ := r1.at (List.getElem?_eq_getElem hj)
  have r3 := p4 v d gg r2
  have pp : (f ++ (a :: f0)).Perm (([] ++ (a :: (g1 ++ gg ++ g2))) ++ (g ++ fx)) := by
    refine List.perm_append_comm.trans ?_
    refine List.Perm.cons a (p.trans ?_)
    show (((g1 ++ g ++ g2) ++ gg) ++ fx).Perm ((g1 ++ gg ++ g2) ++ (g ++ fx))
    rw [← List.append_assoc]
    refine List.Perm.append_right _ ?_
    rw [List.append_assoc, List.append_assoc, List.append_assoc, List.append_assoc]
    refine List.Perm.append_left _ ?_
    exact List.perm_append_comm.trans (by
      rw [List.append_assoc]
      exact (List.perm_append_comm).trans (by rw [List.append_assoc]; exact List.Perm.append_left _ List.perm_append_comm))
  obtain ⟨w1, w2, w3⟩ := write_ok (h := []) ha ok pp (r3.more fun b hb => hb.imp id fun z => List.mem_append_right _ z)
  exact ⟨_, _, w1, w2, w3⟩
end
section
variable {ct : Str → Addr} {lent : List Bool} {X : Cx} {a b c e : Expr} {es : List Expr} {ga gb gc ge : M} {gs : MA} {pos p : Pos}
theorem sg_set {i : Nat} {x : Str} (hb : SE ct X b gb) (hN : X.N[i]? = some x := by rfl) (hv : Vis X.env.scope x := by first | exact Or.inl rfl | exact Or.inr (Or.inl rfl) | exact Or.inr (Or.inr rfl)) (hd : (x == ("__debug__" : Str)) = false := by decide)
    (hcd : (x == ("__classdict__" : Str)) = false := by decide)
    (ha : ∀ v, assign (.Subscript (.Name x p) b pos) X.env v = (do
      let ov ← holding [v] (eval (.Name x p) X.env)
      let iv ← holding [v, ov] (eval b X.env)
      standAt pos
      holding [v, ov, iv] (setItem ov iv v)
      release [v, ov, iv] []) := by intro _; rfl) : SG ct lent X (.Subscript (.Name x p) b pos) (gset i gb) := by
  refine ⟨fun W tk => ?_⟩
  obtain ⟨tb, pb, rb⟩ := hb.run W tk
  refine ⟨_, pg_sub (pv i hN hv hd hcd) pb set_list ha, fun S F H σ ρ xx v f D Q h E ok q G => ?_⟩
  unfold gset at G
  cases q0 : look ρ i with
  | none => rw [q0] at G; exact G.elim
  | some pv0 =>
    obtain ⟨m0, d0⟩ := pv0
    obtain ⟨v0, f0', G0, h1, hz0⟩ := E.take q0
    refine ⟨v0, h1, rb S F H σ ρ _ E ok.tail ?_⟩
    rw [q0] at G
    cases qb : gb ρ with
    | no => rw [qb] at G; exact G
    | ex ee ρ1 =>
      rw [qb] at G
      exact fun C d S' F' H' st E' o' hx => G C d σ S' F' H' (st.wide (fun b hb => List.mem_append_right _ hb) fun b hb => .inl hb) E' o' Kp.refl hx
    | ok y o =>
      rw [qb] at G
      intro w S1 F1 H1 g t1 hy E1 k1
      replace G : GoodS X.K ct lent W D S (f ++ F) H σ (match look (now o ρ) i, y.d with
        | some (m + 1, .lst l), .int k => if xx.stable = true then (match nix l.length k with
            | some j => .nx (Vs.put (now o ρ) i (some ((if xx.d.imm = true then m else min m xx.m) + 1, .lst (l.set j xx.d))))
            | none => .no) else .no
        | _, _ => .no) := G
      split at G
      · rename_i _ m l k ql qk
        by_cases hs : xx.stable = true
        · rw [if_pos hs] at G
          cases qn : nix l.length k with
          | none => rw [qn] at G; exact G.elim
          | some j =>
            rw [qn] at G
            obtain ⟨yb, ym, yd⟩ := y
            obtain rfl : yd = .int k := qk
            obtain rfl := hy.int'
            obtain rfl := hy.nil_int
            have hx := (h.step (t1.step.less fun b hb => hb) ok.tail ok.apart hs).stab hs
            obtain ⟨v1, f1, G1, h1', h2, pf, E2⟩ := E1.take ql
            rw [h1] at h1'
            cases h1'
            have k1 : Ok S1 H1 F1 := k1
            have st1 : Step S F H S1 F1 H1 := t1.step
            cases h2 with
            | lst1 ha r =>
              rename_i aa zs ff0
              have k2 : Ok S1 H1 (f ++ ((aa :: ff0) ++ G1)) := (Ok.join st1 ok k1).perm (List.Perm.append_left _ pf)
              have k3 : Ok S1 H1 ((f ++ (aa :: ff0)) ++ G1) := by rw [List.append_assoc]; exact k2
              have hj : ixN zs.length k = some j := by rw [r.length]; exact qn
              obtain ⟨S2, ff, w1, w2, w3⟩ := set_ok ha k3.head r hx (nix_lt qn)
              refine ⟨aa, zs, k, j, rfl, rfl, ha, hj, q _ _ ?_⟩
              have E3 : EnvRp X.K S2 _ σ (Vs.put (now o ρ) i none) G1 := E2.step w1 k3.head fun b hb z => k3.apart b z hb
              have k4 : Ok S2 _ (G1 ++ (aa :: ff)) := Ok.join w1 (k3.perm List.perm_append_comm) w3
              have st2 : Step S (f ++ F) H S1 (f ++ F1) H1 := st1.wide (fun b hb => List.mem_append_right _ hb) fun b hb => (List.mem_append.mp hb).elim (fun z => .inr (List.mem_append_left _ z)) .inl
              refine G σ S2 ((aa :: ff) ++ G1) _ (st2.trans (w1.wide (fun b hb => ?_) fun b hb => ?_)) (E3.back h1 w2) (k4.perm List.perm_append_comm) Kp.refl
              · rcases List.mem_append.mp hb with z | z
                · exact List.mem_append_left _ z
                · exact List.mem_append_right _ (pf.mem_iff.mpr (List.mem_append_left _ z))
              · rcases List.mem_append.mp hb with z | z
                · exact .inl z
                · exact .inr (List.mem_append_right _ (pf.mem_iff.mpr (List.mem_append_right _ z)))
        · rw [if_neg hs] at G
          exact G.elim
      · exact G.elim
/-! ### comprehensions -/
section
variable {elt tg iter : Expr} {ifs : List Expr} {scope : Scope} {own : List (Str × Nat)} {gi : MI} {gg : MG} {gt : MT}
theorem s_comp (hc : X.calm = true) (hN : X.N.Nodup) (hi : SI ct X tg iter gi) (ok : BlkOk X.N X.env.scope scope own)
    (hg : ∀ n i, SN ct (others n (own.map (·.2))) (blkX X scope i) tg gg) (ht : ∀ i, STs ct (blkX X scope i) ifs gt) (he : ∀ i, SE ct (blkX X scope i) elt ge) (hs : ∀ x, foldedSetIterable iter X.env x = pure x := by intro _; rfl) :
    SE ct X (.ListComp elt [⟨tg, iter, ifs, 0⟩] scope pos) (comp gi gg gt ge (own.map (·.2))) := by
  refine ⟨fun W tk => ?_⟩
  obtain ⟨wi, g, tt, te, h1, h2, h3, h4, h5⟩ := comp_run hN hi hg ht he W tk
  exact ⟨_, pe_lc hc hN h1 ok (fun s H C cl fp => h2 (s, H, C, cl, fp)) (fun s H C cl fp => h3 (s, H, C, cl, fp)) (fun s H C cl fp => h4 (s, H, C, cl, fp)) hs, h5⟩
theorem ss_setc {i : Nat} {y : Str} {py spos : Pos} (hc : X.calm = true) (hN : X.N.Nodup) (hy : X.N[i]? = some y) (hyl : X.env.scope.names.lookup y = some .local) (hl : lent[i]? ≠ some true)
    (hsw : swapsWith (.ListComp elt [⟨tg, iter, ifs, 0⟩] scope pos) (some (.Name y py)) spos.line X.env = pure true) (hi : SI ct X tg iter gi) (ok : BlkOk X.N X.env.scope scope own)
    (hg : ∀ n i, SN ct (others n (own.map (·.2))) (blkX X scope i) tg gg) (ht : ∀ i, STs ct (blkX X scope i) ifs gt) (he : ∀ i, SE ct (blkX X scope i) elt ge) (hs : ∀ x, foldedSetIterable iter X.env x = pure x := by intro _; rfl) :
    SS ct lent X (.Assign [.Name y py] (.ListComp elt [⟨tg, iter, ifs, 0⟩] scope pos) spos) (asg (comp gi gg gt ge (own.map (·.2))) (gname i)) := by
  refine ⟨fun W tk po => ?_⟩
  obtain ⟨wi, g, tt, te, h1, h2, h3, h4, h5⟩ := comp_run hN hi hg ht he W tk
  refine ⟨_, ps_setLc hc hN hy hyl hsw h1 ok (fun s H C cl fp => h2 (s, H, C, cl, fp)) (fun s H C cl fp => h3 (s, H, C, cl, fp)) (fun s H C cl fp => h4 (s, H, C, cl, fp)) hs, fun S F H σ ρ D E okk G => ?_⟩
  obtain ⟨tn, pn, rn⟩ := (sg_name (ct := ct) (lent := lent) (X := X) (pos := py) hN hy (.inl hyl) hl (.inr hyl)).run W tk
  refine h5 S F H σ ρ _ E okk ?_
  refine good_go G fun x o v S1 F1 H1 f st h E1 ok1 G => ?_
  -- the name's store
  unfold gname at G
  cases e : x.kept with
  | none => rw [e] at G; exact G.elim
  | some pv =>
    rw [e] at G
    obtain ⟨hs', rfl⟩ := kept_some e
    obtain ⟨f0, G0, p, E0⟩ := E1.drop i
    have p2 : (f ++ F1).Perm (f0 ++ (f ++ G0)) := (List.Perm.append_left _ p).trans perm_mid
    have ok2 : Ok S1 H1 (f ++ G0) := (ok1.perm p2).tail
    show D.nx (σ.set i (some v)) H1
    by_cases hl2 : i < σ.length
    · exact G _ S1 (f ++ G0) H1 (st.less fun b hb => p2.mem_iff.mpr (List.mem_append_right _ hb)) (E0.fill hl2 (h.stab hs')) ok2 (Kp.set hl)
    · have e1 : σ.set i (some v) = σ := List.set_eq_of_length_le (by omega)
      have e2 : Vs.put (now o ρ) i (some (x.m, x.d)) = now o ρ := put_over _ _ _ (by rw [← E1.len]; omega)
      replace G : GoodS X.K ct lent W D S F H σ (.nx (Vs.put (now o ρ) i (some (x.m, x.d)))) := G
      rw [e2] at G
      rw [e1]
      exact G σ S1 F1 H1 (st.less fun b hb => List.mem_append_right _ hb) E1 ok1.tail Kp.refl
end
end
end Vs
set_option maxHeartbeats 4000000
/-! Vs: calls by keyword; what tests of kinds, slices, chains come to. -/
namespace Vs
open PySem PySem.Spec PyProof.Rows L2
theorem RpAll.rev0 {K : PySem.W.Frag} {S : Addr → Prop} {H : Hp} : ∀ {v : List V} {d : List D} {f : List Addr}, RpAll K S H 0 v d f → RpAll K S H 0 v.reverse d.reverse []
  | _, _, _, .nil _ => .nil _
  | _, _, _, .cons h r => by
    obtain rfl := h.own0
    rw [List.reverse_cons, List.reverse_cons]
    exact RpAll.append (f := []) (g := []) (RpAll.rev0 r) (.cons (f := []) (g := []) h (.nil _))
section
variable {ct : Str → Addr} {lent : List Bool} {X : Cx} {a b c e : Expr} {es : List Expr} {ga gb gc ge : M} {gs : MA} {pos p : Pos}
/-! ### methods that change nothing -/
def Meth1 (K : PySem.W.Frag) (r : V → List V → Hp → VK → Prop) (k : VV → List VV → Option VV) : Prop :=
  ∀ S H x v f xs vs g z Q, VOk K S H x v f → VsOk K S H xs vs g → Ok S H (f ++ g) → k x xs = some z →
    (∀ w H' S' h, Grow S H (f ++ g) S' h H' → VOk K S' H' z w h → Ok S' H' h → Q w H') → r v vs H Q
theorem s_methL {r : V → List V → Hp → VK → Prop} {k : VV → List VV → Option VV} (ho : Meth1 X.K r k) (ha : SE ct X a ga) (hb : SA ct X es gs)
    (mk : ∀ {to t}, PE X a to → PA X es t → PE X e (tBM X.K "list" r to t)) : SE ct X e (meth isL ga gs k) := by
  refine ⟨fun W tk => ?_⟩
  obtain ⟨ta, pa, ra⟩ := ha.run W tk
  obtain ⟨tb, pb, rb⟩ := hb.run W tk
  refine ⟨_, mk pa pb, fun S F H σ ρ Q E ok G => ra S F H σ ρ _ E ok ?_⟩
  unfold meth at G
  refine good_bind G fun x o1 v S1 F1 H1 f _ t1 h1 E1 k1 G => ?_
  by_cases hT : isL x.d = true
  · rw [if_pos hT] at G
    refine ⟨?_, ?_⟩
    · cases q : x.d with
      | lst ds =>
        obtain ⟨a, xs, m, g, rfl, q1, _⟩ := h1.seqL q
        exact .inl ⟨rfl, xs, q1⟩
      | _ => rw [q] at hT; cases hT
    · refine rb S1 F1 H1 σ _ _ E1 k1.tail ?_
      cases qb : gs (now o1 ρ) with
      | no => rw [qb] at G; exact G
      | ex x ρ1 =>
        rw [qb] at G
        intro C d S2 F2 H2 st E2 k2 hx
        exact G C d S2 F2 H2 ((t1.step.less fun b hb => List.mem_append_right _ hb).trans st) E2 k2 hx
      | ok y o2 =>
        rw [qb, R.nxt_ok] at G
        intro u S2 F2 H2 g t2 h2 E2 k2
        split at G
        · rename_i hs
          have k3 : Ok S2 H2 ((f ++ g) ++ F2) := Fit.both k1 t2 k2
          have h1' : VOk X.K S2 H2 x v f := by
            cases o2 with
            | none =>
              obtain ⟨e, w1, _, rfl, _⟩ := t2
              exact (h1.same e).more w1
            | some _ => exact h1.step (t2.step.less fun b hb => hb) k1.tail k1.apart (by simpa using hs)
          have ea : ((R.ofO (k x y)).aft o2).aft o1 = (R.ofO (k x y)).aft (Vs.thn o1 o2) := aft_aft _ _ _
          rw [ea] at G
          refine fin_rule (g := f ++ g) (F2 := F2) (S2 := S2) (t := fun Q => r v u H2 Q) (t1.thn k1 t2 (fun b hb => by rw [List.mem_append] at hb; exact hb.imp id .inl) (Same.refl _)) ?_ k3 (fun z hz Q hq => ?_) G
          · rw [now_thn]
            exact E2
          · exact ho S2 H2 x v f y u g z Q h1' h2 k3.head hz hq
        · exact G.elim
  · rw [if_neg hT] at G
    exact G.elim
theorem kCount_mt : Meth1 X.K (rCntI X.K) kCount := fun S H x v f xs vs g z Q h hx ok e hQ => by
  unfold kCount at e
  split at e
  · rename_i l b m i el
    cases q : intsOf l with
    | none => rw [q] at e; cases e
    | some ns =>
      rw [q] at e
      obtain rfl := Option.some.inj e
      obtain ⟨a, ys, m', g', rfl, q1, q2⟩ := h.seqL el
      obtain ⟨y, rfl, hy⟩ := hx.one
      obtain rfl := hy.int'
      exact ⟨a, ns, i, rfl, rfl, by have z := (RpAll.of_intsOf q2 q).1; rw [← z]; exact q1, ret_imm ok rfl (.int _ _) hQ⟩
  · cases e
theorem kIndex_mt : Meth1 X.K (rIndexD X.K) kIndex := fun S H x v f xs vs g z Q h hx ok e hQ => by
  unfold kIndex at e
  split at e
  · rename_i l y el
    split at e
    · rename_i c
      split at e
      · rename_i j hj
        obtain rfl := Option.some.inj e
        obtain ⟨u, rfl, hy⟩ := hx.one
        have q := h.dp c.1
        have s := (shp_flat c.1).2
        obtain ⟨a, ys, m', g', rfl, q1, q2⟩ := h.seqL el
        rw [el, D.py, pyAll_eq] at q s
        obtain ⟨h1, h2, h3⟩ := List.findIdx?_eq_some_iff_getElem.mp hj
        refine ⟨a, u, y.d.py, l.map D.py, j, l[j].py, rfl, rfl, q, hy.dp c.2, s, (shp_flat c.2).2, ?_, h2, fun m z' hm hz' => ?_, ret_imm ok rfl (.int _ _) hQ⟩
        · rw [List.getElem?_map, List.getElem?_eq_getElem h1]; rfl
        · have hml : m < l.length := by omega
          rw [List.getElem?_map, List.getElem?_eq_getElem hml] at hz'
          obtain rfl := Option.some.inj hz'
          have := h3 m hm
          simpa [D.eqv] using this
      · cases e
    · cases e
  · cases e
/-! ### xs[::-1], xs[a:b], a op b op c -/
theorem kRev_op : Op1 X.K (fun x H Q => ∃ a xs, x = .ref a ∧ SqL X.K H a xs ∧ ∀ p, H p = none → Q (.ref p) (upd H p (.lst xs.reverse))) kRev := fun S H x v f z Q h ok e hQ => by
  unfold kRev at e
  split at e
  · rename_i l el
    split at e
    · rename_i c
      obtain rfl := Option.some.inj e
      obtain ⟨b1, m1, d1⟩ := x
      obtain rfl : d1 = .lst l := el
      obtain ⟨a, xs, S1, rfl, q1, u1, u2, r1, k1⟩ := opn (F := []) h (by rw [List.append_nil]; exact ok) c
      have rv := r1.rev0
      exact ⟨a, xs, rfl, q1, fun p hp => ret_lst ok u1 u2 k1 (by simp) rv hQ p hp⟩
    · cases e
  · cases e
theorem s_rev {k : Nat} {p1 p2 p3 : Pos} (ha : SE ct X a ga) : SE ct X (.Subscript a (.Slice none none (some (.UnaryOp .USub (.Constant (.int 1) k p1) p2)) p3) pos) (one ga kRev) := run_one ha (fun pa => pe_revL pa) kRev_op
/-- a slice's ends -/
structure SO (ct : Str → Addr) (X : Cx) (o : Option Expr) (g : Vs.Env → R (Option Int)) : Prop where
  run : ∀ W, Takes X W → ∃ t, PO X o t ∧ ∀ S F H σ ρ Q, EnvRp X.K S H σ ρ F → Ok S H F → Good X.K ct (fun _ _ (a b : Option Int) f => a = b ∧ f = []) W S F H σ ρ (g ρ) Q → t σ H Q
theorem so_none : SO ct X none (part none) := ⟨fun W tk => ⟨_, po_none, fun S F H σ ρ Q E ok G => G none S F H [] Fit.nil ⟨rfl, rfl⟩ E ok⟩⟩
theorem so_some (ha : SE ct X a ga) : SO ct X (some a) (part (some ga)) := by
  refine ⟨fun W tk => ?_⟩
  obtain ⟨ta, pa, ra⟩ := ha.run W tk
  refine ⟨_, po_some pa, fun S F H σ ρ Q E ok G => ra S F H σ ρ _ E ok ?_⟩
  unfold part at G
  refine good_bind G fun x o v S1 F1 H1 f _ t1 h1 E1 k1 G => ?_
  obtain ⟨b, m, d⟩ := x
  cases d with
  | int i =>
    obtain rfl := h1.int'
    obtain rfl := h1.nil_int
    exact ⟨i, rfl, G (some i) S1 F1 H1 [] (by rw [thn_none]; exact t1) ⟨rfl, rfl⟩ E1 k1⟩
  | _ => exact G.elim
theorem six_eq (n d : Nat) (o : Option Int) : six n d o = HT.sIx n d o := by cases o <;> rfl
theorem s_slc {lo hi : Option Expr} {gl gh : Option M} {p2 : Pos} (ha : SE ct X a ga) (hl : SO ct X lo (part gl)) (hh : SO ct X hi (part gh)) : SE ct X (.Subscript a (.Slice lo hi none p2) pos) (slc ga gl gh) := by
  refine ⟨fun W tk => ?_⟩
  obtain ⟨ta, pa, ra⟩ := ha.run W tk
  obtain ⟨tl, pl, rl⟩ := hl.run W tk
  obtain ⟨th, ph, rh⟩ := hh.run W tk
  refine ⟨_, pe_slice sl_list pa pl ph, fun S F H σ ρ Q E ok G => ra S F H σ ρ _ E ok ?_⟩
  unfold slc at G
  refine good_bind G fun x o1 v S1 F1 H1 f _ t1 h1 E1 k1 G => ?_
  refine rl S1 F1 H1 σ _ _ E1 k1.tail ?_
  have none_of : ∀ {β : Type} {r : R (Option Int)} {kk : Option Int → R β}, (∃ a o, r = .ok a (some o)) → (r.nxt false kk) = .no := by
    rintro β r kk ⟨a, o, rfl⟩
    rfl
  cases ql : part gl (now o1 ρ) with
  | no => rw [ql] at G; exact G
  | ex x ρ1 =>
    rw [ql] at G
    intro C d S2 F2 H2 st E2 k2 hx
    exact G C d S2 F2 H2 ((t1.step.less fun b hb => List.mem_append_right _ hb).trans st) E2 k2 hx
  | ok l ol =>
    rw [ql] at G
    cases ol with
    | some _ => exact G.elim
    | none =>
      intro l' S2 F2 H2 f2 t2 hl2 E2 k2
      obtain ⟨rfl, rfl⟩ := hl2
      obtain ⟨e2, w2, w2', rfl, _⟩ := id t2
      have h2 := (h1.same e2).more w2
      have k2' : Ok S2 H2 (f ++ F2) := Ok.join (t2.step.less fun b hb => hb) k1 k2
      refine rh S2 F2 H2 σ _ _ E2 k2 ?_
      replace G : Good X.K ct (VOk X.K) W S F H σ ρ ((((part gh (now o1 ρ)).nxt false fun u => .ofO (kSl x l u)).aft none).aft o1) Q := G
      rw [R.aft_none] at G
      show Good X.K ct _ W S2 F2 H2 σ (now o1 ρ) (part gh (now o1 ρ)) _
      cases qh : part gh (now o1 ρ) with
      | no => rw [qh] at G; exact G
      | ex x ρ1 =>
        rw [qh] at G
        intro C d S3 F3 H3 st E3 k3 hx
        exact G C d S3 F3 H3 ((t1.step.less fun b hb => List.mem_append_right _ hb).trans (t2.step.trans st)) E3 k3 hx
      | ok u oh =>
        rw [qh] at G
        cases oh with
        | some _ => exact G.elim
        | none =>
          intro u' S3 F3 H3 f3 t3 hl3 E3 k3
          obtain ⟨rfl, rfl⟩ := hl3
          obtain ⟨e3, w3, w3', rfl, _⟩ := id t3
          have h3 := (h2.same e3).more w3
          have k3' : Ok S3 H3 (f ++ F3) := Ok.join (t3.step.less fun b hb => hb) k2' k3
          replace G : Good X.K ct (VOk X.K) W S F H σ ρ ((R.ofO (kSl x l u)).aft o1) Q := by
            have e : (((R.ok u none : R (Option Int)).nxt false fun u => R.ofO (kSl x l u))).aft o1 = (R.ofO (kSl x l u)).aft o1 := by
              show ((R.ofO (kSl x l u)).aft none).aft o1 = _
              rw [R.aft_none]
            rw [e] at G
            exact G
          have t13 : Fit o1 S F H S3 F3 f H3 := by
            have a1 := t1.thn k1 (o' := none) t2 (h := f) (fun b hb => .inl hb) (Same.refl _)
            have a2 := a1.thn k2' (o' := none) t3 (h := f) (fun b hb => .inl hb) (Same.refl _)
            exact a2
          refine fin_rule (g := f) (F2 := F3) (S2 := S3) (t := fun Q => rSlL X.K v l u H3 Q) t13 E3 k3' (fun z hz Q hq => ?_) G
          unfold kSl at hz
          split at hz
          · rename_i ds el
            split at hz
            · rename_i c
              obtain rfl := Option.some.inj hz
              obtain ⟨b1, m1, d1⟩ := x
              obtain rfl : d1 = .lst ds := el
              obtain ⟨a, xs, S4, rfl, q1, u1, u2, r1, k4⟩ := opn (F := []) h3 (by rw [List.append_nil]; exact k3'.head) c
              refine ⟨a, xs, rfl, q1, fun p hp => ?_⟩
              have rc : RpAll X.K S4 H3 0 (cutV xs l u) (cutD ds l u) [] := by
                unfold cutV cutD
                rw [six_eq, six_eq, r1.length]
                exact ((r1.cut0 _).2.cut0 _).1
              exact ret_lst k3'.head u1 u2 k4 (by simp) rc hq p hp
            · cases hz
          · cases hz
theorem run_chain {φ ψ : Int → Int → Bool} {Pe : TE → Prop} (ha : SE ct X a ga) (hb : SE ct X b gb) (hc : SE ct X c gc) (mk : ∀ {ta tb tc}, PE X a ta → PE X b tb → PE X c tc → Pe (tChain (rI0 fun i j => .bl (φ i j)) (rI0 fun i j => .bl (ψ i j)) ta tb tc)) :
    ∀ W, Takes X W → ∃ t, Pe t ∧ ∀ S F H σ ρ Q, EnvRp X.K S H σ ρ F → Ok S H F → Good X.K ct (VOk X.K) W S F H σ ρ (chain ga gb gc φ ψ ρ) Q → t σ H Q := by
  intro W tk
  obtain ⟨ta, pa, ra⟩ := ha.run W tk
  obtain ⟨tb, pb, rb⟩ := hb.run W tk
  obtain ⟨tc, pc, rc⟩ := hc.run W tk
  refine ⟨_, mk pa pb pc, fun S F H σ ρ Q E ok G => ra S F H σ ρ _ E ok ?_⟩
  unfold chain at G
  refine good_bind G fun x o1 v S1 F1 H1 f _ t1 h1 E1 k1 G => ?_
  replace G := good_after t1 k1 G
  refine rb S1 F1 H1 σ _ _ E1 k1.tail ?_
  have fix : ∀ {m : Nat} {r : R VV} {ρ'' : Vs.Env}, Good X.K ct (VOk X.K) W S1 F1 H1 σ ρ'' r Q → Good X.K ct (VOk X.K) W S1 F1 H1 σ ρ'' r Q := fun h => h
  refine good_bind G fun y o2 u S2 F2 H2 g _ t2 h2 E2 k2 G => ?_
  replace G := good_after t2 k2 G
  split at G
  · rename_i i j e1 e2
    obtain rfl := h1.int e1
    obtain rfl := h2.int e2
    refine ⟨i, j, rfl, rfl, φ i j, rfl, ?_⟩
    by_cases hφ : φ i j = true
    · rw [if_pos hφ] at G ⊢
      refine rc S2 F2 H2 σ _ _ E2 k2.tail ?_
      refine good_bind G fun w o3 z S3 F3 H3 h _ t3 h3 E3 k3 G => ?_
      replace G := good_after t3 k3 G
      split at G
      · rename_i k e3
        obtain rfl := h3.int e3
        exact ⟨j, k, rfl, rfl, G (.bl (ψ j k)) S3 F3 H3 [] Fit.nil (by rw [VOk.own]; exact .bl _ _) E3 k3.tail⟩
      · exact G.elim
    · rw [if_neg hφ] at G ⊢
      have : φ i j = false := by simpa using hφ
      exact G (.bl false) S2 F2 H2 [] Fit.nil (by rw [VOk.own]; exact .bl _ _) E2 k2.tail
  · exact G.elim
theorem s_chain {op op' : CmpOp} {φ ψ : Int → Int → Bool} (ho : OpR X (compareOp op) (rI0 fun i j => .bl (φ i j))) (ho' : OpR X (compareOp op') (rI0 fun i j => .bl (ψ i j))) (ha : SE ct X a ga) (hb : SE ct X b gb) (hc : SE ct X c gc)
    (hm : lastMarks [op, op'] [b, c] = false := by with_unfolding_all rfl) : SE ct X (.Compare a [op, op'] [b, c] pos) (chain ga gb gc φ ψ) := ⟨run_chain ha hb hc fun pa pb pc => pe_chain ho ho' pa pb pc hm⟩
end
end Vs
set_option maxHeartbeats 4000000
/-! Vs: list(range(..)), isinstance, calls by keyword. -/
namespace Vs
open PySem PySem.Spec PyProof.Rows L2
section
variable {ct : Str → Addr} {lent : List Bool} {X : Cx} {a b c e : Expr} {es : List Expr} {ga gb gc ge : M} {gs : MA} {pos p : Pos}
theorem rng_rp {K : PySem.W.Frag} {S : Addr → Prop} {H : Hp} (lo hi : Int) : RpAll K S H 0 (rgV lo hi) (rng lo hi) [] := by
  unfold rgV rng
  generalize List.range (hi - lo).toNat = l
  induction l with
  | nil => exact .nil _
  | cons i l ih => exact .cons (f := []) (g := []) (.int _ _) ih
theorem kRange_op : Op1 X.K (fun x H Q => ∃ n, x = V.int n ∧ RgOk 0 n ∧ ∀ q, H q = none → Q (.ref q) (upd H q (.lst (rgV 0 n)))) (fun x => kRange [x]) := fun S H x v f z Q h ok e hQ => by
  obtain ⟨b, m, d⟩ := x
  cases d with
  | int j =>
    replace e : (if -(2 ^ 62) ≤ j ∧ j ≤ 16777216 then some (⟨false, 1, .lst (rng 0 j)⟩ : VV) else none) = some z := e
    split at e
    · rename_i c
      obtain rfl := Option.some.inj e
      obtain rfl := h.int'
      exact ⟨j, rfl, ⟨by omega, by omega, by omega, by omega, by omega⟩, fun q hq => ret_lst ok (fun _ z => z) (fun _ => .inl) ok.nil (by simp) (rng_rp 0 j) hQ q hq⟩
    · cases e
  | _ => cases e
theorem s_listRg {p1 pos1 : Pos} (hc : X.calm = true) (hg : Gl X "list") (hm : X.mg "list" = none) (hg' : Gl X "range") (hm' : X.mg "range" = none) (ha : SE ct X a ga) (na : starEach [a] X.env = (false, eval a X.env) :: starEach [] X.env := by rfl)
    (na' : starEach [.Call (.Name "range" p1) [a] [] pos1] X.env = (false, eval (.Call (.Name "range" p1) [a] [] pos1) X.env) :: starEach [] X.env := by rfl) : SE ct X (.Call (.Name "list" p) [.Call (.Name "range" p1) [a] [] pos1] [] pos) (one ga fun x => kRange [x]) :=
  run_one ha (fun pa => pe_listRg hc hg hm (prg_1 hg' hm' pa na) na') kRange_op
/-! ### isinstance -/
theorem Rp.tyx {K : PySem.W.Frag} {S : Addr → Prop} {H : Hp} {m : Nat} {v : V} {d : D} {f : List Addr} (h : Rp K S H m v d f) (hd : ∀ c l, d ≠ .ins c l) : ∃ n, TyX K H v (.type n) ∧ ∀ t r, d.isTy t = some r → kitB n (Ty.nm t) = some r := by
  have rdl : ∀ {a : Addr} {xs : List V}, Rd H a (.lst xs) → TyX K H (.ref a) (.type "list") := fun h => h.elim (fun h => .base (.lst h)) fun ⟨o, h⟩ => .base (.frz h)
  have rdt : ∀ {a : Addr} {xs : List V}, SqT K H a xs → TyX K H (.ref a) (.type "tuple") := fun h => by
    rcases h with (h | ⟨o, h⟩) | h
    · exact .base (.tup h)
    · exact .fTuple h
    · obtain ⟨o, _, _, hk, hc, _⟩ := h
      exact .kTuple hk hc
  have rdd : ∀ {a : Addr} {xs : List (Key × V)}, Rd H a (.dK xs) → TyX K H (.ref a) (.type "dict") := fun h => h.elim (fun h => .base (.dK h)) fun ⟨o, h⟩ => .fDict h
  cases h with
  | non => exact ⟨"NoneType", .base .non, fun t r e => by cases t <;> (cases e; decide +kernel)⟩
  | bl => exact ⟨"bool", .base (.bl _), fun t r e => by cases t <;> (cases e; decide +kernel)⟩
  | int => exact ⟨"int", .base (.int _), fun t r e => by cases t <;> (cases e; decide +kernel)⟩
  | str => exact ⟨"str", .base (.str _), fun t r e => by cases t <;> (cases e; decide +kernel)⟩
  | lst0 h _ _ => exact ⟨"list", rdl h, fun t r e => by cases t <;> (cases e; decide +kernel)⟩
  | lstK h _ =>
    refine ⟨"list", ?_, fun t r e => by cases t <;> (cases e; decide +kernel)⟩
    rcases h with (h | ⟨o, h⟩) | h
    · cases h
    · cases h
    · obtain ⟨o, _, _, hk, hc, _⟩ := h
      exact .kList hk hc
  | lst1 h _ => exact ⟨"list", rdl (.inl h), fun t r e => by cases t <;> (cases e; decide +kernel)⟩
  | tup0 h _ => exact ⟨"tuple", rdt (.inl (.inl h)), fun t r e => by cases t <;> (cases e; decide +kernel)⟩
  | tup1 h _ => exact ⟨"tuple", rdt (.inl (.inl h)), fun t r e => by cases t <;> (cases e; decide +kernel)⟩
  | dk0 h _ _ => exact ⟨"dict", rdd h, fun t r e => by cases t <;> (cases e; decide +kernel)⟩
  | dk1 h _ => exact ⟨"dict", rdd (.inl h), fun t r e => by cases t <;> (cases e; decide +kernel)⟩
  | dt0 h _ _ => exact ⟨"dict", .base (.dT h), fun t r e => by cases t <;> (cases e; decide +kernel)⟩
  | dt1 h _ => exact ⟨"dict", .base (.dT h), fun t r e => by cases t <;> (cases e; decide +kernel)⟩
  | ob0 => exact absurd rfl (hd _ _)
  | ob1 => exact absurd rfl (hd _ _)
  | exn0 => exact absurd rfl (hd _ _)
  | anyR => exact absurd rfl (hd _ _)
  | exn1 => exact absurd rfl (hd _ _)
theorem kIsi_op (t : Ty) : Op1 X.K (fun x H Q => rIsi X.K [x, .ty (Ty.nm t)] H Q) (kIsi t) := fun S H x v f z Q h ok e hQ => by
  unfold kIsi at e
  cases q : x.d.isTy t with
  | none => rw [q] at e; cases e
  | some r =>
    rw [q] at e
    obtain rfl := Option.some.inj e
    obtain ⟨g, h'⟩ := h.rp
    obtain ⟨n, h1, h2⟩ := h'.tyx (fun c l z => by rw [z] at q; cases q)
    exact ⟨v, _, _, _, r, rfl, .ty _, h1, kit_ty (h2 t r q), ret_imm ok rfl (.bl _ _) hQ⟩
theorem s_isi (t : Ty) {y : Str} {p1 : Pos} (hg : Gl X "isinstance") (hm : X.mg "isinstance" = none) (hg' : Gl X y) (hm' : X.mg y = none) (hv : bootBuiltins y = some (.type (Ty.nm t))) (hn : y ≠ "__name__") (hd : (y == ("__debug__" : Str)) = false) (ha : SE ct X a ga)
    (he : starEach (a :: [.Name y p1]) X.env = (false, eval a X.env) :: starEach [.Name y p1] X.env := by rfl) (he' : starEach [.Name y p1] X.env = (false, eval (.Name y p1) X.env) :: starEach [] X.env := by rfl)
    (hpl : (backTo pos (starEach [.Name y p1] X.env)).any (·.1) = false := by rfl) : SE ct X (.Call (.Name "isinstance" p) [a, .Name y p1] [] pos) (one ga (kIsi t)) :=
  run_one ha (fun pa => pe_callB call_isi hg hm PyProof.Rows.boot_isinstance (pa_cons pa (pa_cons (pe_bltn hg' hm' hv (by rfl) hn hd) pa_nil he') he) (by decide) (by decide) he hpl) (kIsi_op t)
/-! ### calls by keyword -/
structure SK (ct : Str → Addr) (X : Cx) (es : List Expr) (kws : List Keyword) (g : Vs.Env → R (List AV)) : Prop where
  run : ∀ W, Takes X W → ∃ t tk, PA X es t ∧ PK X kws tk ∧ ∀ S F H σ ρ Q, EnvRp X.K S H σ ρ F → Ok S H F → Good X.K ct (AvOk X.K σ) W S F H σ ρ (g ρ) Q → t σ H fun vs H1 => tk σ H1 fun zs H2 => zs.length = kws.length ∧ Q (vs ++ zs) H2
section
variable {kws : List Keyword} {as : List AK} {nm : Option Str} {kpos : Pos}
theorem ca_lend {i : Nat} {r : L2.St → Hp → (List V → Hp → Prop) → Prop} {W : WX} (hr : ∀ S F H σ ρ Q, EnvRp X.K S H σ ρ F → Ok S H F → Good X.K ct (AvOk X.K σ) W S F H σ ρ (cargs as ρ) Q → r σ H Q)
    (S F H) (σ : L2.St) (ρ) (Q : List V → Hp → Prop) (E : EnvRp X.K S H σ ρ F) (ok : Ok S H F) (G : Good X.K ct (AvOk X.K σ) W S F H σ ρ (cargs (.lend i :: as) ρ) Q) : ∃ v, σ[i]? = some (some v) ∧ r σ H fun vs H1 => Q (v :: vs) H1 := by
  unfold cargs at G
  cases q : look ρ i with
  | none => rw [q] at G; exact G.elim
  | some pv =>
    obtain ⟨m, d⟩ := pv
    rw [q] at G
    obtain ⟨v, f, G', h1, _⟩ := E.take q
    refine ⟨v, h1, hr S F H σ ρ _ E ok ?_⟩
    refine good_bind G fun a o y S1 F1 H1 f _ t1 hr E1 k1 G => ?_
    exact G (v :: y) S1 F1 H1 f (by rw [thn_none]; exact t1) (.l h1 hr) E1 k1
theorem ca_val {ta : TE} {r : L2.St → Hp → (List V → Hp → Prop) → Prop} {W : WX} (ra : ∀ S F H σ ρ Q, EnvRp X.K S H σ ρ F → Ok S H F → Good X.K ct (VOk X.K) W S F H σ ρ (ge ρ) Q → ta σ H Q)
    (hr : ∀ S F H σ ρ Q, EnvRp X.K S H σ ρ F → Ok S H F → Good X.K ct (AvOk X.K σ) W S F H σ ρ (cargs as ρ) Q → r σ H Q)
    (S F H) (σ : L2.St) (ρ) (Q : List V → Hp → Prop) (E : EnvRp X.K S H σ ρ F) (ok : Ok S H F) (G : Good X.K ct (AvOk X.K σ) W S F H σ ρ (cargs (.val ge :: as) ρ) Q) : ta σ H fun v H1 => r σ H1 fun vs H2 => Q (v :: vs) H2 := by
  refine ra S F H σ ρ _ E ok ?_
  unfold cargs at G
  refine good_bind G fun x o v S1 F1 H1 f _ t1 h1 E1 k1 G => ?_
  cases q : x.kept with
  | none => rw [q] at G; exact G.elim
  | some pv =>
    rw [q] at G
    obtain ⟨hs, rfl⟩ := kept_some q
    refine hr S1 F1 H1 σ _ _ E1 k1.tail ?_
    cases qb : cargs as (now o ρ) with
    | no => rw [qb] at G; exact G
    | ex x ρ1 =>
      rw [qb] at G
      intro C d S2 F2 H2 st E2 k2 hx
      exact G C d S2 F2 H2 ((t1.step.less fun b hb => List.mem_append_right _ hb).trans st) E2 k2 hx
    | ok y o2 =>
      rw [qb] at G
      intro u S2 F2 H2 g t2 h2 E2 k2
      have k3 : Ok S2 H2 ((f ++ g) ++ F2) := Fit.both k1 t2 k2
      refine G (v :: u) S2 F2 H2 (f ++ g) ?_ (.o ((h1.stab hs).step t2.step k1.tail k1.apart) h2) ?_ k3
      · exact t1.thn k1 t2 (fun b hb => by rw [List.mem_append] at hb; exact hb.imp id .inl) (Same.refl _)
      · rw [thn_none, now_thn]
        exact E2
/-- the keywords' values -/
structure SKw (ct : Str → Addr) (X : Cx) (kws : List Keyword) (g : Vs.Env → R (List AV)) : Prop where
  run : ∀ W, Takes X W → ∃ tk, PK X kws tk ∧ ∀ S F H σ ρ Q, EnvRp X.K S H σ ρ F → Ok S H F → Good X.K ct (AvOk X.K σ) W S F H σ ρ (g ρ) Q → tk σ H fun zs H2 => zs.length = kws.length ∧ Q zs H2
theorem skw_nil : SKw ct X [] (cargs []) := ⟨fun W tk => ⟨_, pk_nil, fun S F H σ ρ Q E ok G => ⟨rfl, G [] S F H [] Fit.nil .nil E ok⟩⟩⟩
theorem len_more {v : V} {n : Nat} {Q : List V → Hp → Prop} : (fun zs H' => (v :: zs).length = n + 1 ∧ Q (v :: zs) H') = (fun (zs : List V) H' => zs.length = n ∧ Q (v :: zs) H') := by
  funext zs H'
  rw [List.length_cons, Nat.add_right_cancel_iff]
theorem skw_lend (i : Nat) {x : Str} {pos : Pos} (h : SKw ct X kws (cargs as)) (hN : X.N[i]? = some x := by rfl) (hv : Vis X.env.scope x := by first | exact Or.inl rfl | exact Or.inr (Or.inl rfl) | exact Or.inr (Or.inr rfl)) (hd : (x == ("__debug__" : Str)) = false := by decide)
    (hcd : (x == ("__classdict__" : Str)) = false := by decide) : SKw ct X (⟨nm, .Name x pos, kpos⟩ :: kws) (cargs (.lend i :: as)) := by
  refine ⟨fun W tk => ?_⟩
  obtain ⟨t2, p2, r⟩ := h.run W tk
  refine ⟨_, pk_cons (pv i hN hv hd hcd) p2, fun S F H σ ρ Q E ok G => ?_⟩
  obtain ⟨v, h1, h2⟩ := ca_lend (r := fun σ H Q => t2 σ H fun zs H2 => zs.length = kws.length ∧ Q zs H2) r S F H σ ρ Q E ok G
  refine ⟨v, h1, ?_⟩
  rw [← len_more] at h2
  exact h2
theorem skw_val (ha : SE ct X e ge) (h : SKw ct X kws (cargs as)) : SKw ct X (⟨nm, e, kpos⟩ :: kws) (cargs (.val ge :: as)) := by
  refine ⟨fun W tk => ?_⟩
  obtain ⟨ta, pa, ra⟩ := ha.run W tk
  obtain ⟨t2, p2, r⟩ := h.run W tk
  refine ⟨_, pk_cons pa p2, fun S F H σ ρ Q E ok G => ?_⟩
  have h2 := ca_val (r := fun σ H Q => t2 σ H fun zs H2 => zs.length = kws.length ∧ Q zs H2) ra r S F H σ ρ Q E ok G
  have e : (fun v H1 => (fun σ H Q => t2 σ H fun zs H2 => zs.length = kws.length ∧ Q zs H2) σ H1 fun vs H2 => Q (v :: vs) H2) = fun v H1 => t2 σ H1 fun zs H2 => (v :: zs).length = kws.length + 1 ∧ Q (v :: zs) H2 := by
    funext v H1
    rw [len_more]
  rw [e] at h2
  exact h2
theorem sk_kw (h : SKw ct X kws (cargs as)) : SK ct X [] kws (cargs as) := by
  refine ⟨fun W tk => ?_⟩
  obtain ⟨t2, p2, r⟩ := h.run W tk
  exact ⟨_, t2, pa_nil, p2, fun S F H σ ρ Q E ok G => r S F H σ ρ Q E ok G⟩
theorem sk_lend (i : Nat) {x : Str} {pos : Pos} (h : SK ct X es kws (cargs as)) (hN : X.N[i]? = some x := by rfl) (hv : Vis X.env.scope x := by first | exact Or.inl rfl | exact Or.inr (Or.inl rfl) | exact Or.inr (Or.inr rfl)) (hd : (x == ("__debug__" : Str)) = false := by decide)
    (hcd : (x == ("__classdict__" : Str)) = false := by decide) : SK ct X (.Name x pos :: es) kws (cargs (.lend i :: as)) := by
  refine ⟨fun W tk => ?_⟩
  obtain ⟨t1, t2, p1, p2, r⟩ := h.run W tk
  exact ⟨_, t2, pa_cons (pv i hN hv hd hcd) p1, p2, fun S F H σ ρ Q E ok G => ca_lend (r := fun σ H Q => t1 σ H fun vs H1 => t2 σ H1 fun zs H2 => zs.length = kws.length ∧ Q (vs ++ zs) H2) r S F H σ ρ Q E ok G⟩
theorem sk_val (ha : SE ct X e ge) (h : SK ct X es kws (cargs as)) (hs : starEach (e :: es) X.env = (false, eval e X.env) :: starEach es X.env := by rfl) : SK ct X (e :: es) kws (cargs (.val ge :: as)) := by
  refine ⟨fun W tk => ?_⟩
  obtain ⟨ta, pa, ra⟩ := ha.run W tk
  obtain ⟨t1, t2, p1, p2, r⟩ := h.run W tk
  exact ⟨_, t2, pa_cons pa p1 hs, p2, fun S F H σ ρ Q E ok G => ca_val (r := fun σ H Q => t1 σ H fun vs H1 => t2 σ H1 fun zs H2 => zs.length = kws.length ∧ Q (vs ++ zs) H2) ra r S F H σ ρ Q E ok G⟩
end
end
/-! ### the parameters' order -/
theorem sel_map {α β : Type} (f : α → β) : ∀ (is : List Nat) (l : List α), sel is (l.map f) = (sel is l).map f
  | [], _ => rfl
  | i :: is, l => by
    unfold sel
    rw [List.getElem?_map, sel_map f is l]
    cases l[i]? <;> rfl
theorem sel_succ {α : Type} (x : α) : ∀ (is : List Nat) (l : List α), sel (is.map Nat.succ) (x :: l) = sel is l
  | [], _ => rfl
  | i :: is, l => by
    show (match (x :: l)[i + 1]? with | some y => y :: sel (is.map Nat.succ) (x :: l) | none => sel (is.map Nat.succ) (x :: l)) = sel (i :: is) l
    rw [List.getElem?_cons_succ, sel_succ x is l]
    rfl
theorem sel_range {α : Type} : ∀ (l : List α), sel (List.range l.length) l = l
  | [] => rfl
  | x :: l => by
    rw [List.length_cons, List.range_succ_eq_map]
    show x :: sel ((List.range l.length).map Nat.succ) (x :: l) = x :: l
    rw [sel_succ, sel_range l]
theorem sel_perm {α : Type} (l : List α) {is js : List Nat} (p : is.Perm js) : (sel is l).Perm (sel js l) := by
  induction p with
  | nil => exact .nil
  | cons i _ ih =>
    unfold sel
    cases l[i]? with
    | none => exact ih
    | some x => exact .cons x ih
  | swap i j is =>
    unfold sel
    unfold sel
    cases l[i]? with
    | none => cases l[j]? <;> exact .refl _
    | some x =>
      cases l[j]? with
      | none => exact .refl _
      | some y => exact .swap _ _ _
  | trans _ _ a b => exact a.trans b
theorem EnvRp.reorder {K : PySem.W.Frag} {S : Addr → Prop} {H : Hp} {l l' : List (Option V × Option PV)} (p : l.Perm l') : ∀ {F : List Addr}, EnvRp K S H (l.map (·.1)) (l.map (·.2)) F → EnvRp K S H (l'.map (·.1)) (l'.map (·.2)) F := by
  induction p with
  | nil => exact fun h => h
  | cons x _ ih =>
    obtain ⟨x, y⟩ := x
    intro F h
    cases h with
    | dead h => exact .dead (ih h)
    | live r h q => exact .live r (ih h) q
  | swap x y l =>
    obtain ⟨x, x'⟩ := x
    obtain ⟨y, y'⟩ := y
    intro F h
    cases h with
    | dead h =>
      cases h with
      | dead h => exact .dead (.dead h)
      | live r h q => exact .live r (.dead h) q
    | live r h q =>
      cases h with
      | dead h => exact .dead (.live r h q)
      | live r' h q' => exact .live r' (.live r h (.refl _)) (q.trans ((List.Perm.append_left _ q').trans perm_mid))
  | trans _ _ a b => exact fun h => b (a h)
theorem zip_fst {α β : Type} {l : List α} {k : List β} (h : l.length = k.length) : (l.zip k).map (·.1) = l := by rw [List.map_fst_zip]; omega
theorem zip_snd {α β : Type} {l : List α} {k : List β} (h : l.length = k.length) : (l.zip k).map (·.2) = k := by rw [List.map_snd_zip]; omega
/-- the two orders undo each other -/
structure Ord (n : Nat) (is js : List Nat) : Prop where
  pi : is.Perm (List.range n)
  pj : js.Perm (List.range n)
  un : ∀ {α : Type} (l : List α), l.length = n → sel js (sel is l) = l
theorem Ord.len {α : Type} {n : Nat} {is js : List Nat} (o : Ord n is js) (l : List α) (h : l.length = n) : (sel is l).Perm l := by
  subst h
  have := sel_perm l o.pi
  rwa [sel_range] at this
theorem Ord.lenj {α : Type} {n : Nat} {is js : List Nat} (o : Ord n is js) (l : List α) (h : l.length = n) : (sel js l).Perm l := by
  subst h
  have := sel_perm l o.pj
  rwa [sel_range] at this
theorem spF_byK {K : PySem.W.Frag} {ct : Str → Addr} {n : Nat} {m : List PV → RF} {is js : List Nat} (o : Ord n is js) {vs : List V} {H : Hp} {Q : VK} {E : XK} (h : SpF K ct n (byK is js m) vs H Q E) : SpF K ct n m (sel is vs) H Q E := by
  obtain ⟨S, F, pvs, EV, ok, hl, q⟩ := h
  have hp : vs.length = pvs.length := by simpa using EV.len
  have e1 : ((vs.map some).zip (pvs.map some)).map (·.1) = vs.map some := zip_fst (by simpa using hp)
  have e2 : ((vs.map some).zip (pvs.map some)).map (·.2) = pvs.map some := zip_snd (by simpa using hp)
  have hz : ((vs.map some).zip (pvs.map some)).length = n := by rw [List.length_zip, List.length_map, List.length_map]; omega
  have a1 : (sel is ((vs.map some).zip (pvs.map some))).map (·.1) = (sel is vs).map some := by rw [← sel_map, e1, sel_map]
  have a2 : (sel is ((vs.map some).zip (pvs.map some))).map (·.2) = (sel is pvs).map some := by rw [← sel_map, e2, sel_map]
  have EV2 : EnvRp K S H ((sel is vs).map some) ((sel is pvs).map some) F := by
    rw [← a1, ← a2]
    refine EnvRp.reorder (o.len _ hz).symm ?_
    rw [e1, e2]
    exact EV
  have hls : (sel is vs).length = n := by rw [(o.len vs hl).length_eq]; exact hl
  refine ⟨S, F, sel is pvs, EV2, ok, hls, ?_⟩
  have back : ∀ {S' : Addr → Prop} {H' : Hp} {out : Vs.Env} {F' : List Addr}, EnvRp K S' H' ((sel is vs).map some) out F' → EnvRp K S' H' (vs.map some) (sel js out) F' := fun {S' H' out F'} EO => by
    have hlo : ((sel is vs).map some).length = out.length := EO.len
    have f1 : (((sel is vs).map some).zip out).map (·.1) = (sel is vs).map some := zip_fst hlo
    have f2 : (((sel is vs).map some).zip out).map (·.2) = out := zip_snd hlo
    have hz2 : (((sel is vs).map some).zip out).length = n := by rw [List.length_zip, ← hlo, List.length_map, hls]; omega
    have := EnvRp.reorder (K := K) (S := S') (H := H') (F := F') (o.lenj _ hz2).symm (by rw [f1, f2]; exact EO)
    have b1 : (sel js (((sel is vs).map some).zip out)).map (·.1) = vs.map some := by rw [← sel_map, f1, sel_map, o.un vs hl]
    have b2 : (sel js (((sel is vs).map some).zip out)).map (·.2) = sel js out := by rw [← sel_map, f2]
    rw [b1, b2] at this
    exact this
  unfold byK at q
  cases qm : m (sel is pvs) with
  | no => rw [qm] at q; exact q
  | ok r out =>
    rw [qm] at q
    exact fun v S' H' F' f st hr EO k => q v S' H' F' f st hr (back EO) k
  | ex e out =>
    rw [qm] at q
    exact fun C d S' H' F' st EO k hx => q C d S' H' F' st (back EO) k hx
section
variable {ct : Str → Addr} {X : Cx} {W : WX} {k : Nat} {f : Addr} {fd : FuncData} {ps : List Str} {m : List PV → RF} {as : List AK} {df : List PV} {dvs : List V} {ds : List Value} {kws : List Keyword}
/-- how keywords are bound -/
structure BindK (K : PySem.W.Frag) (fd : FuncData) (ps ks : List Str) (ds : List Value) (is : List Nat) : Prop where
  to : ∀ (s : Shared) (us ws : List Value), K.In s.heap → ws.length = ks.length → us.length + ws.length + ds.length = ps.length → BindsTo s fd ⟨us, ks.zip ws⟩ (ps.zip (sel is ((us ++ ws) ++ ds)))
theorem sel_vals {vs : List V} {us : List Value} (h : Vals vs us) : ∀ is : List Nat, Vals (sel is vs) (sel is us)
  | [] => .nil
  | i :: is => by
    unfold sel
    cases q : vs[i]? with
    | none =>
      have : us[i]? = none := by
        rw [List.getElem?_eq_none_iff] at q ⊢
        rw [← h.length]
        exact q
      rw [this]
      exact sel_vals h is
    | some x =>
      obtain ⟨u, e, r⟩ := h.get q
      rw [e]
      exact .cons r (sel_vals h is)
theorem callK_end {is js : List Nat} {ks : List Str} {pins : List (Addr × Obj)} {σ : L2.St} {H2 : Hp} {s2 : Shared} {Q : VK} {us ws : List Value} {vs zs : List V} (F : Fn X.prog X.w X.K X.mg X.base ct k f fd ps m) (hgd : X.A.guards = some []) (hr : Room k X.A) (hb : BindK X.K fd ps ks ds is) (hdv : Vals dvs ds) (o : Ord ps.length is js)
    (tk : Takes X W) (I2 : Inv X pins σ H2 s2) (rv : Vals vs us) (rz : Vals zs ws) (hks : ws.length = ks.length) (q : SpF X.K ct ps.length (byK is js m) ((vs ++ zs) ++ dvs) H2 Q fun C d H' => W C d σ H') :
    wpAny (model X.prog X.w) X.A (PySem.call (.ref f) us (ks.zip ws)) (EP X pins σ Q) X.xe s2 := by
  have hl : us.length + ws.length + ds.length = ps.length := by
    obtain ⟨_, _, _, _, _, z, _⟩ := q
    rw [← z, List.length_append, List.length_append, rv.length, rz.length, hdv.length]
  refine wpAny_call (codeAny_mono (F.run X.A X.stack s2 H2 ⟨us, ks.zip ws⟩ _ _ Q _ hgd hr I2.env0 (hb.to s2 us ws I2.kIn hks hl) (sel_vals ((rv.append rz).append hdv) is) (spF_byK o q)) fun rr s' hq => ?_)
  cases rr with
  | error e => exact L2N.passAt tk σ pins H2 s2 e s' I2 hq
  | ok fl =>
    cases fl with
    | ret u => exact I2.after hq
    | next => exact False.elim hq
    | brk => exact False.elim hq
    | cont => exact False.elim hq
/-- f(a, .., x = b, ..) -/
theorem s_callK {is js : List Nat} {ks : List Str} {x : Str} {p pos : Pos} {e : Expr} {es : List Expr} (F : Fn X.prog X.w X.K X.mg X.base ct k f fd ps m) (hgd : X.A.guards = some []) (hr : Room k X.A) (hg : Gl X x) (hm : X.mg x = some (.ref f)) (hk : PySem.W.keepIn X.K (.ref f) = true) (hb : BindK X.K fd ps ks ds is) (hdv : Vals dvs ds) (hd : DfOk X.K df dvs) (o : Ord ps.length is js)
    (ha : SK ct X (e :: es) kws (cargs as)) (hn : as.length + dvs.length = ps.length) (hkl : kws.length = ks.length) (hall : (backToKw pos (keywordEach kws X.env)).all (·.1.isSome) = true := by rfl) (hks : (backToKw pos (keywordEach kws X.env)).filterMap (·.1) = ks := by rfl)
    (hdb : (x == ("__debug__" : Str)) = false := by decide) (he : starEach (e :: es) X.env = (false, eval e X.env) :: starEach es X.env := by rfl)
    (hpl : ((backTo pos (starEach (e :: es) X.env)).any (·.1) || (backToKw pos (keywordEach kws X.env)).any (·.1.isNone)) = false := by rfl) :
    SE ct X (.Call (.Name x p) (e :: es) kws pos) (call (byK is js m) df as) := by
  refine ⟨fun W tk => ?_⟩
  obtain ⟨t, t2, pa, pk, r⟩ := ha.run W tk
  refine ⟨fun σ H Q => t σ H fun vs H1 => t2 σ H1 fun zs H2 => zs.length = kws.length ∧ SpF X.K ct ps.length (byK is js m) ((vs ++ zs) ++ dvs) H2 Q fun C d H' => W C d σ H', ⟨fun pins s σ H Q I h => ?_⟩,
    fun S F H σ ρ Q E ok G => run_call (x := .non) (t := fun σ H Q => t σ H fun vs H1 => t2 σ H1 fun zs H2 => zs.length = kws.length ∧ Q (vs ++ zs) H2) hd hn r E ok G⟩
  refine wpAny_Call_Name_kw (ld_glob I hg hm ?_ hdb)
  refine PySem.W.callWith_KW (h₀ := X.base) I.ok.mod.kin hk hall (L2.thn (pa.run pos pins s σ H _ I h) fun us s1 ⟨vs, H1, I1, rv, q1⟩ => L2.thn (pk.run pos pins s1 σ H1 _ I1 q1) fun ws s2 ⟨zs, H2, I2, rz, hzs, q⟩ => ⟨I2.kIn, ?_⟩) hpl he
  rw [hks]
  exact callK_end F hgd hr hb hdv o tk I2 rv rz (by rw [← rz.length, hzs, hkl]) q
/-- f(x = b, ..) -/
theorem s_callK0 {is js : List Nat} {ks : List Str} {x : Str} {p pos : Pos} (F : Fn X.prog X.w X.K X.mg X.base ct k f fd ps m) (hgd : X.A.guards = some []) (hr : Room k X.A) (hg : Gl X x) (hm : X.mg x = some (.ref f)) (hk : PySem.W.keepIn X.K (.ref f) = true) (hb : BindK X.K fd ps ks ds is) (hdv : Vals dvs ds) (hd : DfOk X.K df dvs) (o : Ord ps.length is js)
    (ha : SKw ct X kws (cargs as)) (hn : as.length + dvs.length = ps.length) (hkl : kws.length = ks.length) (hall : (backToKw pos (keywordEach kws X.env)).all (·.1.isSome) = true := by rfl) (hks : (backToKw pos (keywordEach kws X.env)).filterMap (·.1) = ks := by rfl)
    (hdb : (x == ("__debug__" : Str)) = false := by decide) (hpl : ((backTo pos (starEach [] X.env)).any (·.1) || (backToKw pos (keywordEach kws X.env)).any (·.1.isNone)) = false := by rfl) :
    SE ct X (.Call (.Name x p) [] kws pos) (call (byK is js m) df as) := by
  refine ⟨fun W tk => ?_⟩
  obtain ⟨t2, pk, r⟩ := ha.run W tk
  refine ⟨fun σ H Q => t2 σ H fun zs H2 => zs.length = kws.length ∧ SpF X.K ct ps.length (byK is js m) (zs ++ dvs) H2 Q fun C d H' => W C d σ H', ⟨fun pins s σ H Q I h => ?_⟩,
    fun S F H σ ρ Q E ok G => run_call (x := .non) (t := fun σ H Q => t2 σ H fun zs H2 => zs.length = kws.length ∧ Q zs H2) hd hn r E ok G⟩
  refine wpAny_Call_Name_kw (ld_glob I hg hm ?_ hdb)
  refine PySem.W.callWith_KW0 (h₀ := X.base) I.ok.mod.kin hk hall (L2.thn (pk.run pos pins s σ H _ I h) fun ws s2 ⟨zs, H2, I2, rz, hzs, q⟩ => ⟨I2.kIn, ?_⟩) hpl
  rw [hks]
  exact callK_end (us := []) (vs := []) F hgd hr hb hdv o tk I2 .nil rz (by rw [← rz.length, hzs, hkl]) q
end
end Vs
set_option maxHeartbeats 4000000
/-! Vs: comparisons as tests; not; returns; names of the module. -/
namespace Vs
open PySem PySem.Spec PyProof.Rows L2
section
variable {ct : Str → Addr} {lent : List Bool} {X : Cx} {a b c e : Expr} {es : List Expr} {ga gb gc ge : M} {gs : MA} {pos p : Pos}
theorem kNot_op : Op1 X.K (fun x H Q => ∃ c, x = V.bl c ∧ Q (.bl (!c)) H) kNot := fun S H x v f z Q h ok e hQ => by
  unfold kNot at e
  split at e
  · rename_i c el
    obtain rfl := Option.some.inj e
    exact ⟨c, h.bl el, ret_imm ok rfl (.bl _ _) hQ⟩
  · cases e
theorem s_not (ha : SE ct X a ga) : SE ct X (.UnaryOp .Not a pos) (one ga kNot) := run_one ha (fun pa => pe_not pa) kNot_op
/-- a value's reading as a test's -/
theorem run_tB {g : M} {e : Expr} (h : ∀ W, Takes X W → ∃ t, PT X e (tTest t) ∧ ∀ S F H σ ρ Q, EnvRp X.K S H σ ρ F → Ok S H F → Good X.K ct (VOk X.K) W S F H σ ρ (g ρ) Q → t σ H Q) : ST ct X e (tst g blOf) := by
  refine ⟨fun W tk => ?_⟩
  obtain ⟨ta, pa, ra⟩ := h W tk
  refine ⟨_, pa, fun S F H σ ρ Q E ok G => ra S F H σ ρ _ E ok ?_⟩
  refine good_bind G fun x o v S1 F1 H1 f _ t1 h1 E1 k1 G => ?_
  cases q : blOf x.d with
  | none => rw [q] at G; exact G.elim
  | some b =>
    rw [q] at G
    have e : x.d = .bl b := by
      cases e : x.d <;> rw [e] at q <;> simp [blOf] at q
      rw [q]
    obtain ⟨g, hr⟩ := h1.rp
    rw [e] at hr
    exact ⟨b, hr.vbl, G b S1 F1 H1 [] (t1.thn (f := f) (g := []) (o' := none) k1 Fit.nil (fun b hb => absurd hb (by simp)) (Same.refl _)) ⟨rfl, rfl⟩ E1 k1.tail⟩
theorem t_cmp {op : CmpOp} {r : R2} {k : VV → VV → Option VV} (ho : OpR X (compareOp op) r) (hk : Op2 X.K r k) (hm : behindInMarks op b = false) (ha : SE ct X a ga) (hb : SE ct X b gb) : ST ct X (.Compare a [op] [b] pos) (tst (two ga gb k) blOf) :=
  run_tB (run_twoG (Pe := fun t => PT X _ (tTest t)) ha hb (fun pa pb => pt_cmpR ho pa pb hm) hk)
theorem t_lt (ha : SE ct X a ga) (hb : SE ct X b gb) : ST ct X (.Compare a [.Lt] [b] pos) (tst (two ga gb kLt) blOf) := t_cmp op_lt kCmp_op (nomark _) ha hb
theorem t_le (ha : SE ct X a ga) (hb : SE ct X b gb) : ST ct X (.Compare a [.LtE] [b] pos) (tst (two ga gb kLe) blOf) := t_cmp op_le kCmp_op (nomark _) ha hb
theorem t_gt (ha : SE ct X a ga) (hb : SE ct X b gb) : ST ct X (.Compare a [.Gt] [b] pos) (tst (two ga gb kGt) blOf) := t_cmp op_gt kCmp_op (nomark _) ha hb
theorem t_ge (ha : SE ct X a ga) (hb : SE ct X b gb) : ST ct X (.Compare a [.GtE] [b] pos) (tst (two ga gb kGe) blOf) := t_cmp op_ge kCmp_op (nomark _) ha hb
theorem t_is (ha : SE ct X a ga) (hb : SE ct X b gb) : ST ct X (.Compare a [.Is] [b] pos) (tst (two ga gb kIs) blOf) := t_cmp op_is2 kIs_op (nomark _) ha hb
theorem t_isnot (ha : SE ct X a ga) (hb : SE ct X b gb) : ST ct X (.Compare a [.IsNot] [b] pos) (tst (two ga gb kIsNot) blOf) := t_cmp op_isNot2 kIsNot_op (nomark _) ha hb
theorem t_eq {k : Nat} (hr : Room k X.A) (ha : SE ct X a ga) (hb : SE ct X b gb) : ST ct X (.Compare a [.Eq] [b] pos) (tst (two ga gb kEq) blOf) := t_cmp (op_eqS (units_of hr)) kEq_op (nomark _) ha hb
theorem t_ne {k : Nat} (hr : Room k X.A) (ha : SE ct X a ga) (hb : SE ct X b gb) : ST ct X (.Compare a [.NotEq] [b] pos) (tst (two ga gb kNe) blOf) := t_cmp (op_neS (units_of hr)) kNe_op (nomark _) ha hb
theorem t_in {k : Nat} (hr : Room k X.A) (ha : SE ct X a ga) (hb : SE ct X b gb) (hm : behindInMarks .In b = false := by with_unfolding_all rfl) : ST ct X (.Compare a [.In] [b] pos) (tst (two ga gb kIn) blOf) := t_cmp (op_in2 (units_of hr)) kIn_op hm ha hb
theorem t_notin {k : Nat} (hr : Room k X.A) (ha : SE ct X a ga) (hb : SE ct X b gb) (hm : behindInMarks .NotIn b = false := by with_unfolding_all rfl) : ST ct X (.Compare a [.NotIn] [b] pos) (tst (two ga gb kNotIn) blOf) := t_cmp (op_notIn2 (units_of hr)) kNotIn_op hm ha hb
theorem t_chain {op op' : CmpOp} {φ ψ : Int → Int → Bool} (ho : OpR X (compareOp op) (rI0 fun i j => .bl (φ i j))) (ho' : OpR X (compareOp op') (rI0 fun i j => .bl (ψ i j))) (ha : SE ct X a ga) (hb : SE ct X b gb) (hc : SE ct X c gc)
    (hm : lastMarks [op, op'] [b, c] = false := by with_unfolding_all rfl) : ST ct X (.Compare a [op, op'] [b, c] pos) (tst (chain ga gb gc φ ψ) blOf) :=
  run_tB (run_chain (Pe := fun t => PT X _ (tTest t)) ha hb hc (fun pa pb pc => pt_chain ho ho' pa pb pc hm))
/-- a name of the module -/
theorem s_globD {z : VV} {x : Str} {u : Value} {w : V} (hb : z.b = false) (hv : ∀ S H, Rp X.K S H z.m w z.d []) (hg : Gl X x) (hm : X.mg x = some u) (r : RelV w u) (hdb : (x == ("__debug__" : Str)) = false := by decide) : SE ct X (.Name x pos) (cst z) := by
  refine ⟨fun W tk => ⟨_, pe_glob hg hm r (hd := hdb), fun S F H σ ρ Q E ok G => G w S F H [] Fit.nil ?_ E ok⟩⟩
  obtain ⟨b, m, d⟩ := z
  obtain rfl : b = false := hb
  rw [VOk.own]
  exact hv S H
/-- return of a local name -/
theorem ss_retv (i : Nat) {x : Str} (hN : X.N[i]? = some x := by rfl) (hv : Vis X.env.scope x := by first | exact Or.inl rfl | exact Or.inr (Or.inl rfl) | exact Or.inr (Or.inr rfl)) (hd : (x == ("__debug__" : Str)) = false := by decide)
    (hcd : (x == ("__classdict__" : Str)) = false := by decide) : SS ct lent X (.Return (some (.Name x p)) pos) (retv i) := by
  refine ⟨fun W tk po => ⟨_, ps_ret (pv i hN hv hd hcd), fun S F H σ ρ D E ok G => ?_⟩⟩
  unfold retv at G
  cases q : look ρ i with
  | none => rw [q] at G; exact G.elim
  | some pv =>
    obtain ⟨m, d⟩ := pv
    rw [q] at G
    obtain ⟨v, f, G', h1, h2, p, E'⟩ := E.take q
    exact ⟨v, h1, G v f σ S G' H (Step.refl.less fun b hb => p.mem_iff.mpr hb) h2 E' (ok.perm p) Kp.refl⟩
/-- x op= e of ints -/
theorem ss_aug {i : Nat} {x : Str} {op : Operator} {r : R2} {k : VV → VV → Option VV} {pos' : Pos} (hp : PIp X op r) (hk : Op2 X.K r k) (hi0 : ∀ x y z, k x y = some z → x.d.imm = true ∧ z.d.imm = true) (hN : X.N.Nodup) (hi : X.N[i]? = some x) (hx : Loc X.env.scope x) (hl : lent[i]? ≠ some true) (he : SE ct X e ge)
    (hf : X.fn x = true ∨ X.env.scope.names.lookup x = some .local := by first | exact .inl rfl | exact .inr rfl | assumption) : SS ct lent X (.AugAssign (.Name x pos') op e pos) (asg (two (v i) ge k) (gname i)) := by
  refine ⟨fun W tk po => ?_⟩
  obtain ⟨te, pe, re⟩ := he.run W tk
  refine ⟨_, ps_aug hN hi hx pe hp hf, fun S F H σ ρ D E ok G => ?_⟩
  obtain ⟨tn, _, rn⟩ := (sg_name (ct := ct) (lent := lent) (X := X) (pos := pos') hN hi hx hl hf).run W tk
  unfold asg two v at G
  cases q : look ρ i with
  | none => rw [q] at G; exact G.elim
  | some pv =>
    obtain ⟨m, d⟩ := pv
    rw [q] at G
    obtain ⟨v, f, G', h1, h2, p, E'⟩ := E.take q
    refine ⟨v, h1, re S F H σ ρ _ E ok ?_⟩
    replace G : GoodS X.K ct lent W D S F H σ ((((ge ρ).nxt (VV.stable ⟨!(m == 0), m, d⟩) fun y => .ofO (k ⟨!(m == 0), m, d⟩ y)).aft none).go ρ fun x ρ1 => gname i x ρ1) := G
    rw [R.aft_none] at G
    cases qe : ge ρ with
    | no => rw [qe] at G; exact G
    | ex ee ρ1 =>
      rw [qe] at G
      exact fun C d S' F' H' st E' o' hx => G C d σ S' F' H' st E' o' Kp.refl hx
    | ok y o =>
      rw [qe, R.nxt_ok] at G
      intro u S2 F2 H2 g t2 hy E2 k2
      split at G
      · cases qk : k ⟨!(m == 0), m, d⟩ y with
        | none => rw [qk] at G; exact G.elim
        | some z =>
          rw [qk] at G
          obtain ⟨im, iz⟩ := hi0 _ _ _ qk
          obtain ⟨rfl, im2⟩ := h2.imm im
          have hv : VOk X.K S2 H2 ⟨!(m == 0), m, d⟩ v [] := .of_rp (by simp [VV.stable, im]) (im2 _ _ _)
          refine hk S2 H2 _ v [] y u g z _ hv hy (by simpa using k2.head) qk fun w H' S' h gr hw oh => ?_
          have hw0 := hw.stab (by simp [VV.stable, iz])
          obtain ⟨rfl, iw⟩ := hw0.imm iz
          have gr : Grow S2 H2 g S' [] H' := gr
          have t3 := t2.grow k2 gr
          have k3 : Ok S' H' ([] ++ F2) := gr.ok k2 oh
          have E3 : EnvRp X.K S' H' σ (now o ρ) F2 := (E2.same gr.same).more gr.sub
          replace G : GoodS X.K ct lent W D S F H σ (gname i z (now o ρ)) := by
            have e : (((R.ofO (some z)).aft o).go ρ fun x ρ1 => gname i x ρ1) = gname i z (now o ρ) := by cases o <;> rfl
            rw [e] at G
            exact G
          unfold gname at G
          have hk2 : z.kept = some (z.m, z.d) := by simp [VV.kept, VV.stable, iz]
          rw [hk2] at G
          obtain ⟨f0, G0, p, E0⟩ := E3.drop i
          show D.nx (σ.set i (some w)) H'
          have k3' : Ok S' H' F2 := k3
          by_cases hl2 : i < σ.length
          · exact G _ S' ([] ++ G0) H' (t3.step.less fun b hb => p.mem_iff.mpr (List.mem_append_right _ hb)) (E0.fill hl2 hw0) (k3'.perm p).tail (Kp.set hl)
          · have e1 : σ.set i (some w) = σ := List.set_eq_of_length_le (by omega)
            have e2 : Vs.put (now o ρ) i (some (z.m, z.d)) = now o ρ := put_over _ _ _ (by rw [← E3.len]; omega)
            replace G : GoodS X.K ct lent W D S F H σ (.nx (Vs.put (now o ρ) i (some (z.m, z.d)))) := G
            rw [e2] at G
            rw [e1]
            exact G σ S' F2 H' t3.step E3 k3' Kp.refl
      · exact G.elim
theorem kBit_imm {φ : Int → Int → Int} {x y z : VV} (h : kBit φ x y = some z) : x.d.imm = true ∧ z.d.imm = true := by
  unfold kBit at h
  split at h
  · rename_i i j h1 h2
    obtain rfl := Option.some.inj h
    rw [h1]
    exact ⟨rfl, rfl⟩
  · cases h
theorem ss_augAdd {i : Nat} {x : Str} {pos' : Pos} (hN : X.N.Nodup) (hi : X.N[i]? = some x) (hx : Loc X.env.scope x) (hl : lent[i]? ≠ some true) (he : SE ct X e ge)
    (hf : X.fn x = true ∨ X.env.scope.names.lookup x = some .local := by first | exact .inl rfl | exact .inr rfl | assumption) : SS ct lent X (.AugAssign (.Name x pos') .Add e pos) (asg (two (v i) ge (kBit fun i j => i + j)) (gname i)) :=
  ss_aug ip_add kBit_op (fun _ _ _ => kBit_imm) hN hi hx hl he hf
theorem ss_augSub {i : Nat} {x : Str} {pos' : Pos} (hN : X.N.Nodup) (hi : X.N[i]? = some x) (hx : Loc X.env.scope x) (hl : lent[i]? ≠ some true) (he : SE ct X e ge)
    (hf : X.fn x = true ∨ X.env.scope.names.lookup x = some .local := by first | exact .inl rfl | exact .inr rfl | assumption) : SS ct lent X (.AugAssign (.Name x pos') .Sub e pos) (asg (two (v i) ge (kBit fun i j => i - j)) (gname i)) :=
  ss_aug ip_sub kBit_op (fun _ _ _ => kBit_imm) hN hi hx hl he hf
theorem kMulS_op : Op2 X.K (rI CMul fun i j => .int (i * j)) kMulS := op2_int fun x y z e => by
  unfold kMulS at e
  split at e
  · rename_i i j h1 h2
    split at e
    · rename_i c
      obtain rfl := Option.some.inj e
      exact ⟨i, j, h1, h2, .inl ⟨by omega, by omega⟩, rfl, fun _ _ => .int _ _⟩
    · cases e
  · cases e
theorem kMulS_imm {x y z : VV} (h : kMulS x y = some z) : x.d.imm = true ∧ z.d.imm = true := by
  unfold kMulS at h
  split at h
  · rename_i i j h1 h2
    split at h
    · obtain rfl := Option.some.inj h
      rw [h1]
      exact ⟨rfl, rfl⟩
    · cases h
  · cases h
theorem ss_augMul {i : Nat} {x : Str} {pos' : Pos} (hN : X.N.Nodup) (hi : X.N[i]? = some x) (hx : Loc X.env.scope x) (hl : lent[i]? ≠ some true) (he : SE ct X e ge)
    (hf : X.fn x = true ∨ X.env.scope.names.lookup x = some .local := by first | exact .inl rfl | exact .inr rfl | assumption) : SS ct lent X (.AugAssign (.Name x pos') .Mult e pos) (asg (two (v i) ge kMulS) (gname i)) :=
  ss_aug iop_mul kMulS_op (fun _ _ _ => kMulS_imm) hN hi hx hl he hf
end
end Vs
set_option maxHeartbeats 4000000
/-! Vs: the law's own head. -/
namespace Vs
open PySem PySem.Spec PyProof.Rows L2
section
variable {P : Program} {w : World} {K : PySem.W.Frag} {mg mb : Str → Option Value} {ct : Str → Addr} {k : Nat} {fa a : Addr} {fd : FuncData} {x : Str} {m : List PV → RF} {s1 : Shared} {vs : List Value} {ns : List Int}
/-- at most the script at a is tracked -/
structure Start (P : Program) (w : World) (K : PySem.W.Frag) (H : Hp) (h : Heap) (a : Addr) (ns : List Int) : Prop where
  one : ∀ b, H b = none ∨ ∃ o xs, H b = some (.frz o (.lst xs))
  at_ : ∀ b, H b ≠ none → b = a
  out : H a ≠ none → K.lookup a = none
  ok : HOk P w H h
  sq : SqL K H a (ns.map V.int)
/-- one of the two -/
theorem start_of {vs : List Value} (KX : K.In s1.heap) (ha : s1.heap.get? a = some { cls := .type "list", data := .seq vs.toArray }) (hi : IntsAre vs ns) (hl : ns.length ≤ sizeLine) : ∃ H, Start P w K H s1.heap a ns := by
  have rv := vals_ints hi
  have le := hi.length
  cases hk : K.lookup a with
  | some o =>
    have e := KX a o hk
    rw [ha] at e
    cases e
    exact ⟨fun _ => none, fun _ => .inl rfl, fun _ z => absurd rfl z, fun z => absurd rfl z, fun b u z => (by cases (show (none : Option HO) = some u from z)), .inr ⟨_, vs.toArray, _, hk, rfl, rfl, rfl, by rw [List.size_toArray, le]; exact hl, by simpa using rv⟩⟩
  | none =>
    let H : Hp := fun b => if b = a then some (.frz { cls := .type "list", data := .seq vs.toArray } (.lst (ns.map V.int))) else none
    have at1 : H a = some (.frz { cls := .type "list", data := .seq vs.toArray } (.lst (ns.map V.int))) := if_pos rfl
    have at2 : ∀ {b}, b ≠ a → H b = none := fun h => if_neg h
    refine ⟨H, fun b => ?_, fun b z => Classical.byContradiction fun hb => z (at2 hb), fun _ => hk, fun b u z => ?_, .inl (.inr ⟨_, at1⟩)⟩
    · by_cases hb : b = a
      · exact .inr ⟨_, _, by rw [hb]; exact at1⟩
      · exact .inl (at2 hb)
    · by_cases hb : b = a
      · subst hb
        rw [at1] at z
        cases z
        exact ⟨ha, by rw [List.length_map]; exact hl, vs, _, rv, ha⟩
      · rw [at2 hb] at z
        cases z
theorem start_sp {H : Hp} {h : Heap} {r : PV} {out : Vs.Env} (T : Start P w K H h a ns) (hm : m [(0, .lst (dints ns))] = .ok r out) (hr : r.2 = .bl true) : SpF K ct 1 m [.ref a] H (fun v _ => v = .bl true) fun _ _ _ => False := by
  have ok : Ok (fun b => H b ≠ none) H [] := ⟨.nil, by simp, by simp, fun _ z => z⟩
  refine ⟨fun b => H b ≠ none, [], [(0, .lst (dints ns))], .live (f := []) (F := []) ?_ .nil (.refl _), ok, rfl, ?_⟩
  · rcases T.sq with h | h
    · refine .lst0 h ?_ (RpAll.dints 0 ns)
      rcases h with h | ⟨o, h⟩ <;> rw [h] <;> simp
    · exact .lstK (.inr h) (RpAll.dints 0 ns)
  · rw [hm]
    intro v S' H' F' f _ hv _ _
    rw [hr] at hv
    exact hv.vbl
/-- the def's promise at the heap behind the top -/
theorem law_runs {r : PV} {out : Vs.Env} (KX : K.In s1.heap) (hns : s1.heap.Ns mainGlobals mg) (hb : s1.heap.Ns builtinsNs mb) (hbb : ∀ x : Str, x ≠ "__name__" → mb x = bootBuiltins x) (hlim : s1.heap.NoLimit) (hg : s1.gens = #[])
    (ha : s1.heap.get? a = some { cls := .type "list", data := .seq vs.toArray }) (hi : IntsAre vs ns) (hl : ns.length ≤ sizeLine) (hr : Room k callerA)
    (F : ∀ base : Heap, K.In base → base.Ns mainGlobals mg → Fn P w K mg base ct k fa fd [x] m) (hbind : ∀ (s : Shared) (u : Value), BindsTo s fd ⟨[u], []⟩ [(x, u)])
    (hm : m [(0, .lst (dints ns))] = .ok r out) (hr2 : r.2 = .bl true) :
    codeAny (model P w) callerA (.call (.ref fa) ⟨[.ref a], []⟩) (fun r s' => r = .ok (.ret (.bool true)) ∧ OldK s1.heap s'.heap ∧ s'.os = s1.os ∧ AllBare s'.gens) s1 := by
  obtain ⟨H, T⟩ := start_of (P := P) (w := w) KX ha hi hl
  let base := hidT s1.heap H
  have tell : ∀ {b : Addr} {o : Obj}, s1.heap.get? b = some o → (H b ≠ none → False) → base.get? b = some o := fun e n => hidT_get e (Classical.byContradiction fun z => n z)
  have notD : ∀ {b : Addr} {o : Obj} {es : Array DictEntry} {ep : Nat}, s1.heap.get? b = some o → o.data = .dict es ep → H b ≠ none → False := fun {b o es ep} e d z => by
    obtain rfl := T.at_ b z
    rw [ha] at e
    cases e
    cases (show Data.seq vs.toArray _ = Data.dict es ep from d)
  have ns_ : ∀ {b : Addr} {g : Str → Option Value}, s1.heap.Ns b g → base.Ns b g := fun {b g} ⟨o, es, ep, e, d, z⟩ => ⟨o, es, ep, tell e (notD e d), d, z⟩
  have inn : K.In base := fun b o e => tell (KX b o e) fun z => by
    obtain rfl := T.at_ b z
    rw [T.out z] at e
    cases e
  have md : Mod K mg base := ⟨inn, ns_ hns, ⟨mb, ns_ hb, hbb⟩, let ⟨mc, z1, z2⟩ := hlim; ⟨mc, ns_ z1, z2⟩⟩
  have env0 : Env0 P w K mg base callerA [] s1 H := ⟨rfl, md, fun b o e => of_hidT e, Nat.le_of_eq (hidT_size _ _), trivial, fun b hb => (by cases hb), T.ok, .of_eq hg⟩
  refine codeAny_mono ((F base inn (ns_ hns)).run callerA [] s1 H ⟨[.ref a], []⟩ [.ref a] [.ref a] _ _ rfl hr env0 (hbind s1 (.ref a)) (.cons rfl .nil) (start_sp T hm hr2)) fun rr s' h => ?_
  cases rr with
  | error e =>
    obtain ⟨_, _, _, _, _, _, _, _, _, _, _, _, z⟩ := h
    exact z.elim
  | ok fl =>
    cases fl with
    | next => exact h.elim
    | brk => exact h.elim
    | cont => exact h.elim
    | ret u =>
      obtain ⟨v, H', os, bare, un, hok', rv, rfl⟩ := h
      obtain rfl : u = Value.bool true := rv
      refine ⟨rfl, OldK.of_keep fun b o e => ?_, os, bare⟩
      rcases T.one b with z | ⟨ob, xs, z⟩
      · exact un.keep b o e z (fun z => by cases z) (by simp)
      · obtain ⟨e1, _⟩ := T.ok b _ z
        obtain ⟨e2, _⟩ := hok' b _ (un.frzs b ob _ z)
        rw [e] at e1
        cases e1
        exact e2
end
/-- what k_head leaves -/
theorem walk_of {l : PySem.W.OpenLaw} {n k : Nat} {q : Program} {loose : List Str} {XP : (Str → Option Value) → Heap → Prop} {YP : World → Heap → Prop} {d : DefRec} {K : Params → PySem.W.Frag} {x : Str} {m : List PV → RF}
    (hn : l.most = some n) (hn2 : n ≤ sizeLine) (hdf : d.params.defaults = []) (hr : Room k callerA) (hY : ∀ (w : World) (h : Heap), YP w h → (K w.params).In h)
    (F : ∀ (w : World) (mg : Str → Option Value) (fa : Addr) (h : Heap), (K w.params).In h → h.Ns mainGlobals mg → mg d.name = some (.ref fa) →
      ∃ (ct : Str → Addr) (fd : FuncData), (∀ (s : Shared) (u : Value), BindsTo s fd ⟨[u], []⟩ [(x, u)]) ∧ ∀ base : Heap, (K w.params).In base → base.Ns mainGlobals mg → Fn l.prog w (K w.params) mg base ct k fa fd [x] m)
    (hm : ∀ ns : List Int, ns.length ≤ n → ∃ r out, m [(0, .lst (dints ns))] = .ok r out ∧ r.2 = .bl true) : PySem.W.WalkO q loose XP YP l.row.toRowW d [] (fun f vs => PySem.call f vs) := by
  refine Att.attach_call hn hdf fun w s0 s1 mg mb fa o pm cd doc a vs ns G Y ho hd hcd hmg hobj hints hlen hg => ?_
  obtain ⟨ct, fd, hb, hF⟩ := F w mg fa _ (hY w _ Y) G.T.g hmg
  obtain ⟨r, out, h1, h2⟩ := hm ns hlen
  exact law_runs (hY w _ Y) G.T.g G.T.b G.T.builtins G.T.nolimit hg hobj hints (Nat.le_trans hlen hn2) hr hF hb h1 h2
end Vs
set_option maxHeartbeats 4000000
/-! Vs: defs with values of their own; methods on an item of a slot. -/
namespace Vs
open PySem PySem.Spec PyProof.Rows L2
section
variable {P : Program} {w : World} {K : PySem.W.Frag} {mg : Str → Option Value} {base : Heap} {ct : Str → Addr}
/-- the rule for a def -/
theorem fn_ofD {dvs : List V} {kws : List (Str × V)} {x qual : Str} {st : Stmt} {f : Addr} {fd : FuncData} {N ps : List Str} {k : Nat} {lent : List Bool} {g : MS} (F : FunD K x qual (defArgs st) (defBody st) (defScope st) dvs kws f fd) (Sc : FnScope N ps (defScope st)) (hn : ps.length ≤ N.length) (hl : lent.length = ps.length)
    (hbody : ∀ (cdv : Value) (A : Around) (outer : List PySem.Env) (s : Shared) (H : Hp) (E : XK), Room k (bodyX P w K mg base N qual st f cdv A outer s H E).A → (bodyX P w K mg base N qual st f cdv A outer s H E).A.guards = some [] →
      SSs ct lent (bodyX P w K mg base N qual st f cdv A outer s H E) (defBody st) g) : Fn P w K mg base ct (k + 1) f fd ps (fnM N.length lent g) := by
  obtain ⟨oc, od, dV, kV, doc, pm, an, cdv, cv, osl, rfl, lk, hcd, _, _⟩ := F.ex
  refine ⟨fun A outer s H args us vs Q E hgd hr e0 hb r hsp => ?_⟩
  have hlen : vs.length = ps.length := by
    obtain ⟨_, _, _, _, _, z, _⟩ := hsp
    exact z
  have inn : K.In s.heap := e0.mod.kin.keeps fun b o e => (e0.bs b o e).1
  have lim : s.heap.NoLimit := e0.mod.nolimit.keeps fun b o e => (e0.bs b o e).1
  refine codeAny_call_function hr.depth (inn _ _ lk) rfl Sc.co Sc.gen rfl (PySem.W.codeRec_of inn hcd) (hb _ _ _ _ ?_)
  refine wpAny_newFunctionEnv_cells Sc.kind (fun ⟨n, u⟩ hm => ?_) fun env henv s1 made => ?_
  · rcases Sc.par n (List.of_mem_zip hm).1 with z | z
    · exact .inl z
    · exact .inr ⟨z, PySem.W.cellsFrom_some _ _ _ (.inl z)⟩
  · subst henv
    refine ⟨lim.keeps made.toInCall.keep, codeAny_func ?_⟩
    have I : Inv (bodyX P w K mg base N qual st f cdv A outer s H E) [] (L2.start N vs) H s1 := inv_start Sc hr.hd e0 hlen r made
    obtain ⟨t, ht, run⟩ := (hbody cdv A outer s H E (hr.deeper _) hgd).run (fun cls d _ H => E cls d H) (L2N.takes_of rfl rfl rfl rfl) (passes_of rfl)
    refine wpAny_mono (ht.run [] s1 (L2.start N vs) H _ I (body_ends hn hl run hsp)) (fun fl s2 hs => ?_) fun _ _ z => z
    have ends : ∀ {σ' : L2.St} {H' : Hp} {v : V} {u : Value}, Inv (bodyX P w K mg base N qual st f cdv A outer s H E) [] σ' H' s2 → RelV v u → Q v H' → CE outer P w H s Q u s2 :=
      fun {σ' H' v u} J rv q => ⟨v, H', J.os, J.bare, J.base, J.hok, rv, q⟩
    cases fl with
    | ret u =>
      obtain ⟨v, σ', H', J, rv, q⟩ := hs
      exact ends J rv q
    | next =>
      obtain ⟨σ', H', J, q⟩ := hs
      exact ends (v := .non) (u := .none) J rfl q
    | brk =>
      obtain ⟨_, _, _, q⟩ := hs
      exact q.elim
    | cont =>
      obtain ⟨_, _, _, q⟩ := hs
      exact q.elim
/-- a def as the top has left it -/
theorem funD_mk {x qual : Str} {st : Stmt} {f : Addr} {oc : Value} {od an : Option Addr} {osl : Array (Option Value)} {dV kV doc pm cdv cv : Value} {dvs : List V} (l : K.lookup f = some ⟨oc, od, .func (PySem.W.fnOf x qual (defArgs st) (defBody st) (defScope st) dV kV doc pm an cdv cv), osl⟩)
    (c : PySem.W.codeIn K cdv qual = true) (k : PySem.W.keepIn K (.ref f) = true) (d : DflV K dV dvs) : FunD K x qual (defArgs st) (defBody st) (defScope st) dvs [] f (PySem.W.fnOf x qual (defArgs st) (defBody st) (defScope st) dV kV doc pm an cdv cv) :=
  ⟨⟨oc, od, dV, kV, doc, pm, an, cdv, cv, osl, rfl, l, c, d, .inl rfl⟩, k⟩
theorem dfl_none {dV : Value} (h : dV = .none) : DflV K dV [] := .inl ⟨rfl, h⟩
theorem dfl_some {dvs : List V} {T : Addr} {oc : Value} {od : Option Addr} {its : Array Value} {n : Nat} {sl : Array (Option Value)} (h : dvs ≠ []) (l : K.lookup T = some ⟨oc, od, .seq its n, sl⟩) (r : Vals dvs its.toList) : DflV K (.ref T) dvs :=
  .inr ⟨h, T, _, its.toList, n, rfl, l, by simp, r⟩
/-- no value of a parameter's own stands in -/
theorem binds_0 {x qual : Str} {st : Stmt} {f : Addr} {fd : FuncData} {ps : List Str} (F : FunD K x qual (defArgs st) (defBody st) (defScope st) [] [] f fd)
    (h : ∀ (kV doc pm : Value) (an : Option Addr) (cdv cv : Value) (us : List Value), us.length = ps.length → bindArgs (PySem.W.fnOf x qual (defArgs st) (defBody st) (defScope st) .none kV doc pm an cdv cv) ⟨us, []⟩ = pure (ps.zip us)) : L2.Binds K fd ps [] := by
  obtain ⟨oc, od, dV, kV, doc, pm, an, cdv, cv, osl, rfl, lk, hcd, hD, _⟩ := F.ex
  rcases hD with ⟨_, rfl⟩ | ⟨z, _⟩
  · exact Binds.all fun us hl => h _ _ _ _ _ _ us hl
  · exact absurd rfl z
theorem bindK_0 {x qual : Str} {st : Stmt} {f : Addr} {fd : FuncData} {ps ks : List Str} {is : List Nat} (F : FunD K x qual (defArgs st) (defBody st) (defScope st) [] [] f fd)
    (n : Nat) (hn : n + ks.length = ps.length) (h : ∀ (kV doc pm : Value) (an : Option Addr) (cdv cv : Value) (us ws : List Value), us.length = n → ws.length = ks.length → bindArgs (PySem.W.fnOf x qual (defArgs st) (defBody st) (defScope st) .none kV doc pm an cdv cv) ⟨us, ks.zip ws⟩ = pure (ps.zip (sel is ((us ++ ws) ++ [])))) : BindK K fd ps ks [] is := by
  obtain ⟨oc, od, dV, kV, doc, pm, an, cdv, cv, osl, rfl, lk, hcd, hD, _⟩ := F.ex
  rcases hD with ⟨_, rfl⟩ | ⟨z, _⟩
  · exact ⟨fun s us ws _ h1 h2 => BindsTo.of_eq (h _ _ _ _ _ _ us ws (by have h2 : us.length + ws.length + 0 = ps.length := h2; omega) h1)⟩
  · exact absurd rfl z
/-- the last of the own values stand in: all but the first j of them -/
theorem binds_D {x qual : Str} {st : Stmt} {f : Addr} {fd : FuncData} {ps : List Str} {dvs : List V} (n j : Nat) (hd : dvs ≠ []) (hn : n + (dvs.length - j) = ps.length) (F : FunD K x qual (defArgs st) (defBody st) (defScope st) dvs [] f fd)
    (h : ∀ (T : Addr) (kV doc pm : Value) (an : Option Addr) (cdv cv : Value) (us its : List Value), us.length = n → its.length = dvs.length →
      ∃ k, bindArgs (PySem.W.fnOf x qual (defArgs st) (defBody st) (defScope st) (.ref T) kV doc pm an cdv cv) ⟨us, []⟩ = seqItems? (.ref T) >>= k ∧ k (some its.toArray) = pure (ps.zip (us ++ its.drop j))) : ∃ ds, Vals (dvs.drop j) ds ∧ L2.Binds K fd ps ds := by
  obtain ⟨oc, od, dV, kV, doc, pm, an, cdv, cv, osl, rfl, lk, hcd, hD, _⟩ := F.ex
  rcases hD with ⟨z, _⟩ | ⟨_, T, o, its, n, rfl, lT, oT, rT⟩
  · exact absurd z hd
  · refine ⟨its.drop j, rT.drop j, fun s us X hl => ?_⟩
    rw [List.length_append, List.length_drop] at hl
    have hll := rT.length
    obtain ⟨k, h1, h2⟩ := h T kV doc pm an cdv cv us its (by omega) rT.length.symm
    exact PySem.W.binds_K X rfl lT oT h1 h2
end
section
variable {ct : Str → Addr} {lent : List Bool} {X : Cx} {gs : MA}
/-- a name's store -/
theorem store_at {K : PySem.W.Frag} {S : Addr → Prop} {H : Hp} {σ : L2.St} {ρ ρ' : Vs.Env} {F f : List Addr} {i : Nat} {x : VV} {v : V} (hl : lent[i]? ≠ some true) (h : VOk K S H x v f) (E : EnvRp K S H σ ρ F) (ok : Ok S H (f ++ F)) (e : gname i x ρ = .nx ρ') :
    ∃ F', EnvRp K S H (σ.set i (some v)) ρ' F' ∧ Ok S H F' ∧ (∀ b ∈ F', b ∈ f ++ F) ∧ Kp lent σ (σ.set i (some v)) := by
  unfold gname at e
  cases q : x.kept with
  | none => rw [q] at e; cases e
  | some pv =>
    rw [q] at e
    obtain ⟨hs, rfl⟩ := kept_some q
    obtain rfl := Fl.nx.inj e
    obtain ⟨f0, G0, p, E0⟩ := E.drop i
    have p2 : (f ++ F).Perm (f0 ++ (f ++ G0)) := (List.Perm.append_left _ p).trans perm_mid
    by_cases hl2 : i < σ.length
    · exact ⟨f ++ G0, E0.fill hl2 (h.stab hs), (ok.perm p2).tail, fun b hb => p2.mem_iff.mpr (List.mem_append_right _ hb), Kp.set hl⟩
    · have e1 : σ.set i (some v) = σ := List.set_eq_of_length_le (by omega)
      have e2 : Vs.put ρ i (some (x.m, x.d)) = ρ := put_over _ _ _ (by rw [← E.len]; omega)
      rw [e1, e2]
      exact ⟨F, E, ok.tail, fun b hb => List.mem_append_right _ hb, Kp.refl⟩
theorem gname_nx {i : Nat} {x : VV} {ρ : Vs.Env} : (∃ ρ', gname i x ρ = .nx ρ') ∨ gname i x ρ = .no := by
  unfold gname
  cases x.kept with
  | none => exact .inr rfl
  | some _ => exact .inl ⟨_, rfl⟩
theorem ss_par {i j : Nat} {x y : Str} {a b : Expr} {px py pt pos : Pos} {kt k2 pt2} (hc : X.calm = true) (hN : X.N.Nodup) (hi : X.N[i]? = some x) (hj : X.N[j]? = some y) (hij : i ≠ j) (hli : lent[i]? ≠ some true) (hlj : lent[j]? ≠ some true)
    (hx : X.env.scope.names.lookup x = some .local) (hy : X.env.scope.names.lookup y = some .local) (ha : SA ct X [a, b] gs)
    (hw : swappedStores [.Tuple [.Name x px, .Name y py] kt pt] (.Tuple [a, b] k2 pt2) X.env = pure (some [x, y]))
    (hs : swapsWithSole [.Tuple [.Name x px, .Name y py] kt pt] (.Tuple [a, b] k2 pt2) pos.line X.env = pure false := by rfl) : SS ct lent X (.Assign [.Tuple [.Name x px, .Name y py] kt pt] (.Tuple [a, b] k2 pt2) pos) (par i j gs) := by
  refine ⟨fun W tk po => ?_⟩
  obtain ⟨ta, pa, ra⟩ := ha.run W tk
  refine ⟨_, ps_par hc hN hi hj hij hx hy pa hw hs, fun S F H σ ρ D E ok G => ra S F H σ ρ _ E ok ?_⟩
  refine good_go G fun xs o vs S1 F1 H1 f st h E1 ok1 G => ?_
  split at G
  · rename_i x y
    obtain ⟨v, w, f1, f2, rfl, rfl, h1, h2⟩ := h.two
    refine ⟨v, w, rfl, ?_⟩
    rcases gname_nx (i := i) (x := x) (ρ := now o ρ) with ⟨ρ2, q⟩ | q
    · rw [q, seq_nx] at G
      have okA : Ok S1 H1 (f2 ++ (f1 ++ F1)) := ok1.perm (by rw [← List.append_assoc]; exact List.Perm.append_right _ List.perm_append_comm)
      obtain ⟨F2, E2, ok2, s2, kp2⟩ := store_at hli h1 E1 okA.tail q
      have okB : Ok S1 H1 (f2 ++ F2) := okA.head.two ok2 fun b hb z => okA.apart b hb (s2 b z)
      rcases gname_nx (i := j) (x := y) (ρ := ρ2) with ⟨ρ3, q3⟩ | q3
      · rw [q3] at G
        obtain ⟨F3, E3, ok3, s3, kp3⟩ := store_at hlj h2 E2 okB q3
        refine G _ S1 F3 H1 (st.less fun b hb => ?_) E3 ok3 (kp2.trans kp3)
        rcases List.mem_append.mp (s3 b hb) with z | z
        · exact List.mem_append_left _ (List.mem_append_right _ z)
        · rcases List.mem_append.mp (s2 b z) with z | z
          · exact List.mem_append_left _ (List.mem_append_left _ z)
          · exact List.mem_append_right _ z
      · rw [q3] at G
        exact G.elim
    · rw [q] at G
      exact G.elim
  · exact G.elim
end
section
variable {ct : Str → Addr} {X : Cx}
theorem call_len_rd : CallR X (.builtin "len") (fun xs H Q => ∃ d kvs, xs = [.ref d] ∧ Rd H d (.dK kvs) ∧ Q (.int kvs.length) H) := by
  intro pins s σ H xs us Q I r h
  obtain ⟨d, kvs, rfl, e, q⟩ := h
  obtain ⟨u, rfl, ru⟩ := r.one
  cases ru
  exact d_len I e fun t s' I' => ⟨.int kvs.length, H, I', ⟨t, rfl⟩, q⟩
theorem call_len_tt : CallR X (.builtin "len") (fun xs H Q => ∃ d kvs, xs = [.ref d] ∧ H d = some (.dT kvs) ∧ Q (.int kvs.length) H) := by
  intro pins s σ H xs us Q I r h
  obtain ⟨d, kvs, rfl, e, q⟩ := h
  exact call_len_dT pins s σ H _ us Q I r ⟨d, kvs, rfl, e, q⟩
theorem call_len4 : CallR X (.builtin "len") (fun xs H Q => (∃ p ys, xs = [.ref p] ∧ (SqL X.K H p ys ∨ SqT X.K H p ys) ∧ Q (.int ys.length) H) ∨ (∃ z, xs = [.str z] ∧ z.length ≤ sizeLine ∧ Q (.int z.length) H) ∨ (∃ d kvs, xs = [.ref d] ∧ Rd H d (.dK kvs) ∧ Q (.int kvs.length) H) ∨ (∃ d kvs, xs = [.ref d] ∧ H d = some (.dT kvs) ∧ Q (.int kvs.length) H)) :=
  CallR.or call_len_seq (CallR.or call_len_str (CallR.or call_len_rd call_len_tt))
/-- a name of the module that nothing changes -/
def Konst (K : PySem.W.Frag) (mg : Str → Option Value) (x : Str) (d : D) : Prop := ∃ (u : Value) (w : V), mg x = some u ∧ RelV w u ∧ ∀ S H, Rp K S H 0 w d []
theorem s_globC {d : D} {x : Str} {pos : Pos} (h : Konst X.K X.mg x d) (hg : Gl X x) (hdb : (x == ("__debug__" : Str)) = false := by decide) : SE ct X (.Name x pos) (cst ⟨false, 0, d⟩) := by
  obtain ⟨u, w, h1, h2, h3⟩ := h
  exact s_globD (w := w) rfl h3 hg h1 h2 hdb
end
section
variable {K : PySem.W.Frag} {S S' : Addr → Prop} {H H' : Hp}
/-- one item of a list is changed within -/
theorem item_ok {a u0 : Addr} {f f2 g1 g g2 h gx : List Addr} {zs : List V} {l : List D} {m m' j : Nat} {u : V} {d' : D} (hm : m' ≤ m) (hl : j < l.length) (hu : zs[j]? = some u) (ha : H a = some (.lst zs)) (ok : Ok S H (gx ++ (a :: (g1 ++ g ++ g2))))
    (r : RpAll K S H m (zs.set j .non) (l.set j .non) (g1 ++ [] ++ g2)) (st : Step S (gx ++ g) H S' (h ++ f2) H') (hr : Rp K S' H' m' u d' f2) (ok' : Ok S' H' (h ++ f2)) :
    ∃ S2 F2, Step S (gx ++ (a :: (g1 ++ g ++ g2))) H S2 (h ++ F2) H' ∧ Rp K S2 H' (m' + 1) (.ref a) (.lst (l.set j d')) F2 ∧ Ok S2 H' (h ++ F2) ∧ ∀ b, S' b → S2 b := by
  have p0 : (gx ++ (a :: (g1 ++ g ++ g2))).Perm ((a :: (g1 ++ g2)) ++ (gx ++ g)) := by
    exact List.perm_iff_count.mpr fun b => (by simp only [List.count_append, List.count_cons]; omega)
  have ok1 := ok.perm p0
  have kin : Ok S H (gx ++ g) := ok1.tail
  have apart := ok1.apart
  have haa : H' a = some (.lst zs) := st.keep _ _ ha (apart a (List.mem_cons_self ..))
  have r1 : RpAll K S' H' m (zs.set j .non) (l.set j .non) (g1 ++ [] ++ g2) := r.keep (fun b o hb e => st.keep b o e fun z => kin.ns b z hb) (fun b o e nm => st.keep b o e fun z => nm (e ▸ kin.mu b z)) st.sub fun b o hb e => st.keep b o e (apart b (List.mem_cons_of_mem _ (by simpa using hb)))
  obtain ⟨f0, f1, p1, r2⟩ := r1.thin m'
  rw [Nat.min_eq_right hm] at r2
  have hj : (l.set j D.non)[j]? = some .non := List.getElem?_set_self hl
  obtain ⟨w, h1, hg, h2, _, rfl, r3, r4, _⟩ := r2.at hj
  obtain ⟨rfl, _⟩ := r3.imm rfl
  have r5 := r4 u d' f2 (hr.more fun _ => .inl)
  rw [List.set_set, List.set_set] at r5
  have ez : zs.set j u = zs := by
    obtain ⟨q1, q2⟩ := List.getElem?_eq_some_iff.mp hu
    rw [← q2]
    exact List.set_getElem_self q1
  rw [ez] at r5
  have okj : Ok S' H' ((a :: (g1 ++ g2)) ++ (h ++ f2)) := Ok.join st ok1 ok'
  have pj : ((a :: (g1 ++ g2)) ++ (h ++ f2)).Perm ((h ++ (a :: (h1 ++ f2 ++ h2))) ++ f1) := by
    have p1' : (g1 ++ g2).Perm ((h1 ++ h2) ++ f1) := by simpa using p1
    have := List.perm_iff_count.mp p1'
    exact List.perm_iff_count.mpr fun b => (by
      have := this b
      simp only [List.count_append, List.count_cons] at this ⊢
      omega)
  have k2 := split_ok okj pj
  refine ⟨fun b => S' b ∨ b ∈ f1, a :: (h1 ++ f2 ++ h2), ?_, .lst1 haa r5, k2, fun _ => .inl⟩
  have st2 : Step S ((a :: (g1 ++ g2)) ++ (gx ++ g)) H S' ((a :: (g1 ++ g2)) ++ (h ++ f2)) H' := st.wide (fun b hb => List.mem_append_right _ hb) fun b hb => (List.mem_append.mp hb).elim (fun z => .inr (List.mem_append_left _ z)) .inl
  refine ⟨fun b o e hb => st2.keep b o e fun z => hb (p0.mem_iff.mpr z), fun b hb => .inl (st2.sub b hb), fun b hb => ?_, fun b hb => ?_⟩
  · exact (st2.newF b (pj.mem_iff.mpr (List.mem_append_left _ hb))).imp (fun z => p0.mem_iff.mpr z) id
  · rcases hb with hb | hb
    · exact (st2.newS b hb).imp id fun z => z.imp (fun z => p0.mem_iff.mpr z) id
    · exact .inr ((st2.newF b (pj.mem_iff.mpr (List.mem_append_right _ hb))).imp (fun z => p0.mem_iff.mpr z) id)
theorem itemOf_some {b : R VV} {m : Nat} {l l2 : List D} {j : Nat} (h : itemOf b m l = some (j, l2)) : ∃ bb mm jj, b = .ok ⟨bb, mm, .int jj⟩ none ∧ nix l.length jj = some j ∧ l[j]? = some (.lst l2) := by
  unfold itemOf at h
  split at h
  · rename_i bb mm jj
    cases q : nix l.length jj with
    | none => rw [q] at h; cases h
    | some j' =>
      rw [q] at h
      cases q2 : l[j']? with
      | none => simp only [q2] at h; cases h
      | some d =>
        simp only [q2] at h
        cases d with
        | lst l3 =>
          obtain ⟨rfl, rfl⟩ := Prod.mk.inj (Option.some.inj h)
          exact ⟨bb, mm, jj, rfl, q, q2⟩
        | _ => cases h
  · cases h
end
theorem s_recvI {i : Nat} {x : Str} {b : Expr} {es : List Expr} {gb : M} {ga : MA} {e : Expr} {p pb : Pos} {ct : Str → Addr} {X : Cx} {r : V → List V → Hp → VK → Prop} {k : PV → List VV → Option (VV × PV)} (ho : Recv1 X.K r k) (hb : SE ct X b gb) (ha : SA ct X es ga)
    (mk : ∀ {to t}, PE X (.Subscript (.Name x p) b pb) to → PA X es t → PE X e (tBM X.K "list" r to t))
    (hN : X.N[i]? = some x := by rfl) (hv : Vis X.env.scope x := by first | exact Or.inl rfl | exact Or.inr (Or.inl rfl) | exact Or.inr (Or.inr rfl)) (hd : (x == ("__debug__" : Str)) = false := by decide)
    (hcd : (x == ("__classdict__" : Str)) = false := by decide) (hs : PlainIx b := by exact fun _ _ => rfl) : SE ct X e (recvI i gb ga k) := by
  refine ⟨fun W tk => ?_⟩
  obtain ⟨tb, pb, rb⟩ := hb.run W tk
  obtain ⟨ta, pa, ra⟩ := ha.run W tk
  refine ⟨_, mk (pe_ix ix_seq (pv i hN hv hd hcd) pb hs) pa, fun S F H σ ρ Q E ok G => ?_⟩
  unfold recvI at G
  split at G
  · rename_i m l ql
    split at G
    · rename_i j l2 qi
      obtain ⟨bb, mm, jj, qb, qn, qj⟩ := itemOf_some qi
      obtain ⟨v0, f0, G0, h1, h2, pf, E2⟩ := E.take ql
      split at G
      · rename_i xs qa
        split at G
        · rename_i z pv' qk
          split at G
          · rename_i hm
            cases h2 with
            | lst1 hla hri =>
              rename_i a zs f'
              refine ⟨.ref a, h1, rb S F H σ ρ _ E ok ?_⟩
              rw [qb]
              intro y S1 F1 H1 gi t1 hy E1 k1
              obtain rfl := hy.int'
              obtain rfl := hy.nil_int
              obtain ⟨sm1, w1, w1', rfl, _⟩ := id t1
              have hri1 := (hri.same sm1).more w1
              obtain ⟨u, g1, g, g2, pu, rfl, hu, hset, _⟩ := hri1.at qj
              have hix : L2.atI zs jj = some u := by
                unfold L2.atI
                have e1 : ixN zs.length jj = some j := by rw [hri.length]; exact qn
                rw [e1]
                exact pu
              refine .inl ⟨a, zs, jj, u, rfl, rfl, .inl (.inl (sm1 _ _ hla)), hix, ?_, ?_⟩
              · obtain ⟨aa, ys, _, rfl, q1, _⟩ := hu.lst
                exact .inl ⟨rfl, ys, q1⟩
              · refine ra S1 F1 H1 σ ρ _ E1 k1 ?_
                rw [qa]
                intro vs S2 F2 H2 gx t2 hx E3 k2
                obtain ⟨sm2, w2, w2', rfl, _⟩ := id t2
                have hu2 := (hu.same sm2).more w2
                have hn2 := ((hset .non .non [] (.non _)).same sm2).more w2
                have E4 : EnvRp X.K S2 H2 σ (Vs.put ρ i none) G0 := (((E2.same sm1).more w1).same sm2).more w2
                have k3 : Ok S2 H2 ((gx ++ (a :: (g1 ++ g ++ g2))) ++ G0) := by
                  rw [List.append_assoc]
                  exact k2.perm (List.Perm.append_left _ pf)
                have kg : Ok S2 H2 (gx ++ g) := k3.head.sub (List.Sublist.append (List.Sublist.refl _) (((List.sublist_append_right g1 g).trans (List.sublist_append_left _ _)).trans (List.sublist_cons_self _ _)))
                refine ho S2 H2 (m, .lst l2) u g xs vs gx z pv' Q hu2 hx kg qk fun w H' S' h f2 st hw hr ok' => ?_
                have hl : j < l.length := (List.getElem?_eq_some_iff.mp qj).1
                obtain ⟨S3, F3, c1, c2, c3, c4⟩ := item_ok (u0 := a) (f := []) hm hl pu (sm2 _ _ (sm1 _ _ hla)) k3.head hn2 st hr ok'
                have E5 : EnvRp X.K S3 H' σ (Vs.put ρ i none) G0 := E4.step c1 k3.head fun b hb z => k3.apart b z hb
                have k4 : Ok S3 H' (G0 ++ (h ++ F3)) := Ok.join c1 (k3.perm List.perm_append_comm) c3
                have p5 : (G0 ++ (h ++ F3)).Perm (h ++ (F3 ++ G0)) := by
                  refine List.perm_append_comm.trans ?_
                  rw [List.append_assoc]
                refine G w S3 (F3 ++ G0) H' h ?_ (hw.more c4) (E5.back h1 c2) (k4.perm p5)
                refine (t1.step.trans t2.step).trans (c1.wide (fun b hb => ?_) fun b hb => ?_)
                · rcases List.mem_append.mp hb with z | z
                  · exact List.mem_append_left _ z
                  · exact List.mem_append_right _ (pf.mem_iff.mpr (List.mem_append_left _ z))
                · rcases List.mem_append.mp (p5.mem_iff.mpr hb) with z | z
                  · exact .inr (List.mem_append_right _ (pf.mem_iff.mpr (List.mem_append_right _ z)))
                  · exact .inl z
          · exact G.elim
        · exact G.elim
      · exact G.elim
    · exact G.elim
  · exact G.elim
end Vs
set_option maxHeartbeats 4000000
/-! Vs: repr of data. -/
namespace Vs
open PySem PySem.Spec PyProof.Rows L2
mutual
theorem noDict : ∀ d : D, d.flat = true → PyData.hasDict d.py = false
  | .non, _ => rfl
  | .bl _, _ => rfl
  | .int _, _ => rfl
  | .str _, _ => rfl
  | .lst l, h => by simp only [D.py, PyData.hasDict]; exact noDictAll l (by simpa [D.flat] using h)
  | .tup l, h => by simp only [D.py, PyData.hasDict]; exact noDictAll l (by simpa [D.flat] using h)
  | .dic _ _, h => by simp [D.flat] at h
  | .ins _ _, h => by simp [D.flat] at h
theorem noDictAll : ∀ l : List D, flatAll l = true → PyData.hasDictAll (pyAll l) = false
  | [], _ => rfl
  | d :: l, h => by
    unfold flatAll at h
    rw [Bool.and_eq_true] at h
    simp only [pyAll, PyData.hasDictAll, noDict d h.1, noDictAll l h.2, Bool.or_false]
end
section
variable {X : Cx}
theorem call_reprD (hgd : X.A.guards = some []) (hu : X.A.units + 65 < cLine) : CallR X (.builtin "repr") (fun xs H Q => ∃ x d, xs = [x] ∧ Dp X.K H x d ∧ d.showable = true ∧ d.hasDict = false ∧ d.depth ≤ 60 ∧ d.shown.length ≤ sizeLine ∧ Q (.str d.shown) H) := by
  intro pins s σ H xs us Q I r h
  obtain ⟨x, d, rfl, hd, hs, hn, hdp, hz, q⟩ := h
  cases r with
  | cons rv rt =>
    rename_i u t
    cases rt
    obtain ⟨as, rd⟩ := Dp.reads I d x u hd rv
    cases hd with
    | non =>
      cases rv
      exact PySem.P.repr_of_none ⟨.str _, H, I.tok _, ⟨_, rfl⟩, q⟩
    | bl b =>
      cases rv
      refine PySem.P.repr_of_bool ⟨.str _, H, I.tok _, ⟨_, rfl⟩, ?_⟩
      cases b <;> exact q
    | int i =>
      obtain ⟨t, rfl⟩ := rv
      exact PySem.P.repr_of_int (by rw [PyData.showable.eq_4] at hs; exact of_decide_eq_true hs) ⟨.str _, H, I.tok _, ⟨_, rfl⟩, q⟩
    | str z =>
      obtain ⟨t, rfl⟩ := rv
      exact PySem.P.repr_of_str ⟨.str _, H, I.tok _, ⟨_, rfl⟩, q⟩ hz
    | lst _ _ =>
      cases rv
      exact repr_of_reads' rd hs (fun z => by rw [hn] at z; cases z) hgd (by omega) (fun _ _ e => e) (fun h' u tk hk => ⟨.str _, H, I.kept hk, ⟨_, rfl⟩, q⟩) hz
    | tup _ _ =>
      cases rv
      exact repr_of_reads' rd hs (fun z => by rw [hn] at z; cases z) hgd (by omega) (fun _ _ e => e) (fun h' u tk hk => ⟨.str _, H, I.kept hk, ⟨_, rfl⟩, q⟩) hz
end
/-! ### dicts of plain things -/
def keyD : Key → PyData
  | .inl i => .int i | .inr x => .str x
theorem reads_key {P : Program} {w : World} {h : Heap} : ∀ (k : Key) (key : Value), (mixKind P w).is k key = true → Reads h key (keyD k) [] := fun k key hk => by
  rcases keyIs_shape hk with ⟨i, t, rfl, rfl⟩ | ⟨x, t, rfl, rfl⟩
  · exact .int _ _
  · exact .str _ _
/-- plain -/
inductive ImmV : V → PyData → Prop
  | non : ImmV .non .none | bl (b : Bool) : ImmV (.bl b) (.bool b) | int (i : Int) : ImmV (.int i) (.int i) | str (x : Str) : ImmV (.str x) (.str x)
theorem ImmV.reads {h : Heap} {v : V} {d : PyData} {u : Value} (i : ImmV v d) (r : RelV v u) : Reads h u d [] := by
  cases i with
  | non => cases r; exact .none
  | bl b => cases r; exact .bool _
  | int i => obtain ⟨t, rfl⟩ := r; exact .int _ _
  | str x => obtain ⟨t, rfl⟩ := r; exact .str _ _
theorem pairs_read {h : Heap} : ∀ {kvs : List (Key × V)} {vs : List (Key × Value)} {ds : List PyData}, KV kvs vs → Paired (fun p d => ImmV p.2 d) kvs ds → PyProof.V.PairsRead h keyD vs ((kvs.map fun p => keyD p.1).zip ds) [] := by
  intro kvs vs ds hk hp
  unfold KV at hk
  induction hp generalizing vs with
  | nil => cases hk; exact .nil
  | cons hi _ ih =>
    cases hk with
    | cons r rs =>
      rename_i b _
      obtain ⟨k', v'⟩ := b
      obtain ⟨e, r2⟩ := r
      simp only at e
      subst e
      exact PyProof.V.PairsRead.cons (as := []) (bs := []) (hi.reads r2) (ih rs)
section
variable {X : Cx}
def rReprK : List V → Hp → VK → Prop := fun xs H Q => ∃ (a : Addr) (kvs : List (Key × V)) (ds : List PyData) (d : PyData), xs = [.ref a] ∧ Rd H a (.dK kvs) ∧ Paired (fun p d => ImmV p.2 d) kvs ds ∧ d = .dict ((kvs.map fun p => keyD p.1).zip ds) ∧ d.showable = true ∧ d.depth ≤ 60 ∧ d.shown.length ≤ sizeLine ∧ Q (.str d.shown) H
theorem call_reprK (hgd : X.A.guards = some []) (hu : X.A.units + 65 < cLine) : CallR X (.builtin "repr") rReprK := by
  intro pins s σ H xs us Q I r h
  obtain ⟨a, kvs, ds, d, rfl, hq, hp, rfl, hs, hdp, hz, q⟩ := h
  cases r with
  | cons rv rt =>
    cases rt
    cases rv
    obtain ⟨_, hsm, vs, hk, dd⟩ := dk_rd I.hok hq
    have rd := PyProof.V.reads_dictOf (reads_key (P := X.prog) (w := X.w)) dd (pairs_read hk hp)
    refine repr_of_reads' rd hs (fun _ z => ?_) hgd (by omega) (fun _ _ e => e) (fun h' u tk hk => ⟨.str _, H, I.kept hk, ⟨_, rfl⟩, q⟩) hz
    rw [List.mem_singleton] at z
    rw [← z] at hsm
    simp at hsm
theorem call_repr2 (hgd : X.A.guards = some []) (hu : X.A.units + 65 < cLine) : CallR X (.builtin "repr") (fun xs H Q => (∃ x d, xs = [x] ∧ Dp X.K H x d ∧ d.showable = true ∧ d.hasDict = false ∧ d.depth ≤ 60 ∧ d.shown.length ≤ sizeLine ∧ Q (.str d.shown) H) ∨ rReprK xs H Q) := CallR.or (call_reprD hgd hu) (call_reprK hgd hu)
end
theorem Rp.immV {K : PySem.W.Frag} {S : Addr → Prop} {H : Hp} {m : Nat} {v : V} {d : D} {f : List Addr} (h : Rp K S H m v d f) (hi : d.imm = true) : ImmV v d.py := by
  cases d with
  | non => cases h; exact .non
  | bl b => cases h; exact .bl b
  | int i => cases h; exact .int i
  | str x => cases h; exact .str x
  | _ => cases hi
theorem RpAll.immAll {K : PySem.W.Frag} {S : Addr → Prop} {H : Hp} {m : Nat} : ∀ {kvs : List (Key × V)} {ds : List D} {f : List Addr}, RpAll K S H m (kvs.map (·.2)) ds f → (((kvs.map fun p => kD p.1).zip ds).all fun p => p.2.imm) = true → Paired (fun p d => ImmV p.2 d) kvs (ds.map D.py)
  | [], ds, f, h, _ => by cases h; exact .nil
  | p :: kvs, ds, f, h, hi => by
    cases h with
    | cons h1 h2 =>
      rw [List.map_cons, List.zip_cons_cons, List.all_cons, Bool.and_eq_true] at hi
      exact .cons (h1.immV hi.1) (RpAll.immAll h2 hi.2)
theorem pyKv_zip : ∀ (kvs : List (Key × V)) (ds : List D), pyKv ((kvs.map fun p => kD p.1).zip ds) = (kvs.map fun p => keyD p.1).zip (ds.map D.py)
  | [], ds => by simp [pyKv]
  | p :: kvs, [] => by simp [pyKv]
  | p :: kvs, d :: ds => by
    rw [List.map_cons, List.zip_cons_cons, pyKv, pyKv_zip kvs ds, List.map_cons, List.map_cons, List.zip_cons_cons]
    congr 1
    congr 1
    cases p.1 <;> rfl
section
variable {K : PySem.W.Frag} {S S' : Addr → Prop} {H : Hp} {f g : List Addr} {Q : VK}
theorem kRepr_op : OpN K (fun xs H Q => (∃ x d, xs = [x] ∧ Dp K H x d ∧ d.showable = true ∧ d.hasDict = false ∧ d.depth ≤ 60 ∧ d.shown.length ≤ sizeLine ∧ Q (.str d.shown) H) ∨ rReprK xs H Q) kRepr := by
  refine opn_one (fun xs z e => ?_) fun S H x v f z Q h ok e hQ => ?_
  · unfold kRepr at e
    split at e
    · exact ⟨_, rfl⟩
    · cases e
  · unfold kRepr at e
    simp only at e
    split at e
    · rename_i c
      obtain rfl := Option.some.inj e
      unfold D.shw at c
      simp only [Bool.and_eq_true, decide_eq_true_eq] at c
      obtain ⟨⟨⟨c0, c1⟩, c2⟩, c3⟩ := c
      obtain ⟨g, hr⟩ := h.rp
      exact .inl ⟨v, x.d.py, rfl, hr.dp c0, c1, noDict _ c0, c3, by rw [← Vs.lim_eq]; exact c2, ret_imm ok rfl (.str _ _) hQ⟩
    · split at e
      · rename_i c
        obtain rfl := Option.some.inj e
        obtain ⟨g, hr⟩ := h.rp
        obtain ⟨xb, xm, xd⟩ := x
        unfold D.shwK at c
        split at c
        · rename_i l el
          obtain rfl : xd = .dic false l := el
          simp only [Bool.and_eq_true, decide_eq_true_eq] at c
          obtain ⟨⟨⟨c0, c1⟩, c2⟩, c3⟩ := c
          replace hr : Rp K S H xm v (.dic false l) g := hr
          have key : ∃ (a : Addr) (kvs : List (Key × V)) (ds : List D) (g' : List Addr) (n : Nat), v = .ref a ∧ l = (kvs.map fun p => kD p.1).zip ds ∧ Rd H a (.dK kvs) ∧ RpAll K S H n (kvs.map (·.2)) ds g' := by
            generalize hd : D.dic false l = d at hr
            cases hr with
            | dk0 q s r =>
              obtain ⟨_, rfl⟩ := D.dic.inj hd
              exact ⟨_, _, _, _, _, rfl, rfl, q, r⟩
            | dk1 q r =>
              obtain ⟨_, rfl⟩ := D.dic.inj hd
              exact ⟨_, _, _, _, _, rfl, rfl, .inl q, r⟩
            | dt0 q s r => cases (D.dic.inj hd).1
            | dt1 q r => cases (D.dic.inj hd).1
            | _ => cases hd
          obtain ⟨a, kvs, ds, g', n, rfl, rfl, hq, ra⟩ := key
          have hi : (((kvs.map fun p => kD p.1).zip ds).all fun p => p.2.imm) = true := by
            rw [List.all_eq_true] at c0 ⊢
            intro p hp
            have := c0 p hp
            rw [Bool.and_eq_true] at this
            exact this.2
          refine .inr ⟨a, kvs, ds.map D.py, _, rfl, hq, ra.immAll hi, ?_, c1, c3, by rw [← Vs.lim_eq]; exact c2, ret_imm ok rfl (.str _ _) hQ⟩
          show PyData.dict (pyKv _) = _
          rw [pyKv_zip]
        · cases c
      · cases e
end
end Vs
set_option maxHeartbeats 4000000
/-! .. the rules. -/
namespace Vs
open PySem PySem.Spec PyProof.Rows L2
section
variable {X : Cx}
def rSortR (K : PySem.W.Frag) : List V → Hp → VK → Prop := fun vs H Q => ∃ (a : Addr) (ps : List (V × List Int)), vs = [V.ref a] ∧ SqL K H a (ps.map (·.1)) ∧ (∀ p ∈ ps, Dp K H p.1 (.list (p.2.map .int))) ∧ ps.length ≤ 1000 ∧
  ∀ q : Addr, H q = none → Q (.ref q) (upd H q (.lst ((ps.mergeSort fun p q => decide (p.2 ≤ q.2)).map (·.1))))
theorem alike_ints : ∀ xs ys : List Int, PySem.W.alikeAll (xs.map PyData.int) (ys.map PyData.int) = true
  | [], [] => by simp [PySem.W.alikeAll]
  | [], _ :: _ => by simp [PySem.W.alikeAll]
  | _ :: _, [] => by simp [PySem.W.alikeAll]
  | x :: xs, y :: ys => by
    rw [List.map_cons, List.map_cons]
    simp [PySem.W.alikeAll, PySem.W.alike, alike_ints xs ys]
theorem each_of {R : Value → V × List Int → Prop} : ∀ {ps : List (V × List Int)} {its : List Value}, Vals (ps.map (·.1)) its → (∀ p ∈ ps, ∀ u, RelV p.1 u → R u p) → PySem.W.EachIs R its ps
  | [], _, .nil, _ => .nil
  | p :: ps, _, .cons r t, h => .cons (h p (List.mem_cons_self ..) _ r) (each_of t fun q hq => h q (List.mem_cons_of_mem _ hq))
theorem vals_each : ∀ {ps : List (V × List Int)} {its : List Value}, PySem.W.EachIs (fun u (p : V × List Int) => RelV p.1 u) its ps → Vals (ps.map (·.1)) its
  | _, _, .nil => .nil
  | _, _, .cons r t => .cons r (vals_each t)
theorem call_sortR (hu : X.A.units + 65 < cLine) : CallR X (.builtin "sorted") (rSortR X.K) := by
  intro pins s σ H vs us Q I r h
  obtain ⟨a, ps, rfl, hs, hd, hl, q⟩ := h
  obtain ⟨its, rv, hlst, _⟩ := I.list hs
  rw [Vals.ref1 r]
  have e := each_of (R := fun u p => RelV p.1 u) rv fun p _ u r => r
  have er := each_of (R := fun u p => ∃ as, Reads s.heap u (PyData.list (p.2.map .int)) as) rv fun p hp u r => (hd p hp).reads I _ _ _ r
  have hz : ps.length ≤ sizeLine := by rw [sizeLine_eq]; omega
  refine PySem.W.sorted_data (enc := fun p : V × List Int => PyData.list (p.2.map .int)) hlst.isList e er (PySem.W.AllAlike.of fun _ _ => ?_) (PySem.W.Sortable.others fun b => ⟨by simp, by simp⟩) hz (fun b _ => ?_) fun out ho eo => ?_
  · simp only [PySem.W.alike]; exact alike_ints _ _
  · have : (PyData.list (b.2.map .int)).depth ≤ 1 := by
      have : ∀ ns : List Int, PyData.depthAll (ns.map .int) ≤ 0 := by
        intro ns
        induction ns with
        | nil => simp [PyData.depthAll]
        | cons n ns ih => simp only [List.map_cons, PyData.depthAll, PyData.depth]; omega
      have := this b.2
      simp only [PyData.depth]
      omega
    omega
  · rw [PySem.W.dataLe_rows (fun p : V × List Int => p.2)] at eo
    obtain ⟨ep, he'⟩ := PyProof.Rows.sortedAll_at s.heap its (List.toArray out)
    have hlen : ((ps.mergeSort fun p q => decide (p.2 ≤ q.2)).map (·.1)).length ≤ sizeLine := by rw [List.length_map, List.length_mergeSort]; exact hz
    exact ⟨.ref _, upd H (s.heap.objs.size + 1) (.lst ((ps.mergeSort fun p q => decide (p.2 ≤ q.2)).map (·.1))), I.laid (t' := s.toks) (fun _ _ => PyProof.Rows.sortedAll_old) (Nat.le_succ _) ⟨hlen, out, ep, vals_each eo, he'⟩, rfl, q _ (I.hok.fresh (Nat.le_succ _))⟩
end
section
variable {K : PySem.W.Frag}
theorem py_dints : ∀ ns : List Int, pyAll (dints ns) = ns.map PyData.int
  | [] => rfl
  | n :: ns => by
    show PyData.int n :: pyAll (dints ns) = _
    rw [py_dints ns]
    rfl
theorem flat_dints : ∀ ns : List Int, flatAll (dints ns) = true
  | [] => rfl
  | n :: ns => by
    show (D.flat (.int n) && flatAll (dints ns)) = true
    rw [flat_dints ns]
    rfl
theorem intsOf_is : ∀ {l : List D} {ns : List Int}, intsOf l = some ns → l = dints ns
  | [], ns, h => by cases h; rfl
  | d :: l, ns, h => by
    cases d with
    | int i =>
      have h : (intsOf l).map (i :: ·) = some ns := h
      cases q : intsOf l with
      | none => rw [q] at h; cases h
      | some ks =>
        rw [q] at h
        cases h
        rw [intsOf_is q]
        rfl
    | _ => cases h
theorem rowsOf_is : ∀ {l : List D} {rs : List (List Int)}, rowsOf l = some rs → l = rs.map fun ns => .lst (dints ns)
  | [], rs, h => by cases h; rfl
  | d :: l, rs, h => by
    cases d with
    | lst k =>
      have h : ((intsOf k).bind fun ns => (rowsOf l).map (ns :: ·)) = some rs := h
      cases q : intsOf k with
      | none => rw [q] at h; cases h
      | some ns =>
        rw [q, Option.bind_some] at h
        cases q2 : rowsOf l with
        | none => rw [q2] at h; cases h
        | some ks =>
          rw [q2] at h
          cases h
          rw [intsOf_is q, rowsOf_is q2]
          rfl
    | _ => cases h
theorem rows_rp {S : Addr → Prop} {H : Hp} : ∀ {xs : List V} {rs : List (List Int)}, RpAll K S H 0 xs (rs.map fun ns => .lst (dints ns)) [] → ∃ ps : List (V × List Int), ps.map (·.1) = xs ∧ ps.map (·.2) = rs ∧ ∀ p ∈ ps, Rp K S H 0 p.1 (.lst (dints p.2)) []
  | xs, [], h => by cases h; exact ⟨[], rfl, rfl, by simp⟩
  | xs, r :: rs, h => by
    generalize hf : ([] : List Addr) = f0 at h
    cases h with
    | cons h1 h2 =>
      rename_i v f vs g
      have e1 : f = [] ∧ g = [] := by simpa using hf.symm
      obtain ⟨rfl, rfl⟩ := e1
      obtain ⟨ps, rfl, rfl, a3⟩ := rows_rp h2
      refine ⟨(v, r) :: ps, rfl, rfl, fun p hp => ?_⟩
      rcases List.mem_cons.mp hp with rfl | hp
      · exact h1
      · exact a3 p hp
theorem rp_rows {S : Addr → Prop} {H : Hp} : ∀ {ps : List (V × List Int)}, (∀ p ∈ ps, Rp K S H 0 p.1 (.lst (dints p.2)) []) → RpAll K S H 0 (ps.map (·.1)) ((ps.map (·.2)).map fun ns => .lst (dints ns)) []
  | [], _ => .nil _
  | p :: ps, h => .cons (f := []) (g := []) (h p (List.mem_cons_self ..)) (rp_rows fun q hq => h q (List.mem_cons_of_mem _ hq))
theorem kSortRL_op : OpN K (rSortR K) kSortRL := by
  refine opn_one (fun xs z e => ?_) fun S H x v f z Q h ok e hQ => ?_
  · match xs, e with
    | [x], _ => exact ⟨x, rfl⟩
    | [], e => cases e
    | _ :: _ :: _, e => cases e
  · replace e : kSortR x = some z := e
    unfold kSortR at e
    split at e
    · rename_i l el
      split at e
      · rename_i c
        cases q : rowsOf l with
        | none => rw [q] at e; cases e
        | some rs =>
          rw [q, Option.bind_some] at e
          split at e
          · rename_i hl
            obtain rfl := Option.some.inj e
            obtain ⟨b1, m1, d1⟩ := x
            obtain rfl : d1 = .lst l := el
            obtain ⟨a, xs, S1, rfl, q1, u1, u2, r1, k1⟩ := opn (F := []) h (by rw [List.append_nil]; exact ok) c
            obtain rfl := rowsOf_is q
            obtain ⟨ps, rfl, rfl, a3⟩ := rows_rp r1
            have hm : (ps.mergeSort fun p q => decide (p.2 ≤ q.2)).map (·.2) = (ps.map (·.2)).mergeSort fun p q => decide (p ≤ q) := List.map_mergeSort fun _ _ _ _ => rfl
            have hs := rp_rows (K := K) (S := S1) (H := H) (ps := ps.mergeSort fun p q => decide (p.2 ≤ q.2)) fun p hp => a3 p ((List.mergeSort_perm _ _).mem_iff.mp hp)
            rw [hm] at hs
            refine ⟨a, ps, rfl, q1, fun p hp => ?_, by rw [List.length_map] at hl; exact hl, fun p hp => ret_lst ok u1 u2 k1 (by simp) hs hQ p hp⟩
            have := Rp.dp (d := .lst (dints p.2)) (by unfold D.flat; exact flat_dints _) (a3 p hp)
            rw [show D.py (.lst (dints p.2)) = .list (p.2.map .int) by unfold D.py; rw [py_dints]] at this
            exact this
          · cases e
      · cases e
    · cases e
theorem kMinL_op : OpN K (rMin K) kMinL := by
  refine opn_one (fun xs z e => ?_) fun S H x v f z Q h ok e hQ => ?_
  · match xs, e with
    | [x], _ => exact ⟨x, rfl⟩
    | [], e => cases e
    | _ :: _ :: _, e => cases e
  · unfold kMinL at e
    simp only at e
    split at e
    · rename_i l el
      cases q : intsOf l with
      | none => rw [q] at e; cases e
      | some ns =>
        rw [q, Option.bind_some] at e
        cases q2 : ns.min? with
        | none => rw [q2] at e; cases e
        | some b =>
          rw [q2] at e
          obtain rfl := Option.some.inj e
          obtain ⟨a, ys, m', g', rfl, q1, q3⟩ := h.seqL el
          obtain ⟨b1, b2⟩ := List.min?_eq_some_iff.mp q2
          have hz := (RpAll.of_intsOf q3 q).1
          refine ⟨a, ns, rfl, by rw [← hz]; exact q1, List.length_pos_of_mem b1, fun m h1 h2 => ?_⟩
          have : m = b := Int.le_antisymm (h2 b b1) (b2 m h1)
          subst this
          exact ret_imm ok rfl (.int _ _) hQ
    · cases e
theorem kLstD_op (k : Nat) : OpN K (fun xs H Q => xs.length ≤ sizeLine ∧ ∀ p, H p = none → Q (.ref p) (upd H p (.lst xs))) (kLstD k) := fun S H xs vs f z Q h ok e hQ => by
  cases xs with
  | nil =>
    obtain rfl := Option.some.inj e
    cases h
    exact ⟨Nat.zero_le _, fun q hq => ret_lst (m := k) ok (fun _ z => z) (fun _ => .inl) ok.nil (by simp) (.nil _) hQ q hq⟩
  | cons x xs => exact kLst_op S H _ vs f z Q h ok e hQ
end
section
variable {ct : Str → Addr} {X : Cx} {es : List Expr} {gs : MA} {pos : Pos}
theorem s_lstD (k : Nat) (ha : SA ct X es gs) : SE ct X (.List es pos) (argsk gs (kLstD k)) := run_args ha (fun pa => pe_lst pa) (kLstD_op k)
end
end Vs
set_option maxHeartbeats 4000000
/-! Vs: *xs in a display; three names at once. -/
namespace Vs
open PySem PySem.Spec PyProof.Rows L2
section
variable {K : PySem.W.Frag} {S S' : Addr → Prop} {H : Hp}
theorem star_open {F f : List Addr} {x : VV} {v : V} {ds : List D} (h : VOk K S H x v f) (ok : Ok S H (f ++ F)) (q : starD x = some ds) :
    ∃ a xs S', v = .ref a ∧ (SqT K H a xs ∨ SqL K H a xs) ∧ (∀ b, S b → S' b) ∧ (∀ b, S' b → S b ∨ b ∈ f) ∧ RpAll K S' H 0 xs ds [] ∧ Ok S' H F := by
  obtain ⟨b, m, d⟩ := x
  unfold starD at q
  cases d with
  | lst l =>
    simp only at q
    split at q
    · rename_i c
      obtain rfl := Option.some.inj q
      obtain ⟨a, xs, S', r1, r2, r3⟩ := opn h ok c
      exact ⟨a, xs, S', r1, .inr r2, r3⟩
    · cases q
  | tup l =>
    simp only at q
    split at q
    · rename_i c
      obtain rfl := Option.some.inj q
      obtain ⟨a, xs, S', r1, r2, r3⟩ := opnT h ok c
      exact ⟨a, xs, S', r1, .inl r2, r3⟩
    · cases q
  | _ => cases q
theorem VsOk.stars : ∀ {xs : List V} {ds : List D} {us : List VV} {vs : List V} {g : List Addr}, RpAll K S H 0 xs ds [] → VsOk K S H us vs g → VsOk K S H (ds.map (fun d => (⟨false, 0, d⟩ : VV)) ++ us) (xs ++ vs) g
  | xs, [], us, vs, g, h, k => by
    cases h
    exact k
  | xs, d :: ds, us, vs, g, h, k => by
    have hl := h.own0
    generalize hf : ([] : List Addr) = f0 at h
    cases h with
    | cons h1 h2 =>
      obtain rfl := h1.own0
      obtain rfl := h2.own0
      exact VsOk.cons (f := []) (by rw [VOk.own]; exact h1) (VsOk.stars h2 k)
end
section
variable {ct : Str → Addr} {lent : List Bool} {X : Cx} {a : Expr} {es : List Expr} {ga : M} {gs : MA} {p : Pos}
theorem sa_consC (ha : SE ct X a ga) (hb : SA ct X es gs) (hs : starEach (a :: es) X.env = (false, eval a X.env) :: starEach es X.env := by rfl) : SA ct X (a :: es) (argC ga gs) := by
  refine ⟨fun W tk => ?_⟩
  obtain ⟨ta, pa, ra⟩ := ha.run W tk
  obtain ⟨tb, pb, rb⟩ := hb.run W tk
  refine ⟨_, pa_cons pa pb hs, fun S F H σ ρ Q E ok G => ra S F H σ ρ _ E ok ?_⟩
  unfold argC at G
  refine good_bind G fun x o1 v S1 F1 H1 f _ t1 h1 E1 k1 G => ?_
  refine rb S1 F1 H1 σ _ _ E1 k1.tail ?_
  cases qb : gs (now o1 ρ) with
  | no => rw [qb] at G; exact G
  | ex x ρ1 =>
    rw [qb] at G
    intro C d S2 F2 H2 st E2 k2 hx
    exact G C d S2 F2 H2 ((t1.step.less fun b hb => List.mem_append_right _ hb).trans st) E2 k2 hx
  | ok y o2 =>
    rw [qb, R.nxt_ok] at G
    intro u S2 F2 H2 g t2 h2 E2 k2
    split at G
    · rename_i hs
      have k3 : Ok S2 H2 ((f ++ g) ++ F2) := Fit.both k1 t2 k2
      have h1' : VOk X.K S2 H2 x v f := by
        cases o2 with
        | none =>
          obtain ⟨e, w1, _, rfl, _⟩ := t2
          exact (h1.same e).more w1
        | some _ => exact h1.step (t2.step.less fun b hb => hb) k1.tail k1.apart (by simpa using hs)
      rw [aft_aft] at G
      refine G (v :: u) S2 F2 H2 (f ++ g) ?_ (.cons h1' h2) ?_ k3
      · exact t1.thn k1 t2 (fun b hb => by rw [List.mem_append] at hb; exact hb.imp id .inl) (Same.refl _)
      · rw [thn_none, now_thn]
        exact E2
    · exact G.elim
theorem sa_star (ha : SE ct X a ga) (hb : SA ct X es gs) (hs : starEach (.Starred a p :: es) X.env = (true, eval a X.env) :: starEach es X.env := by rfl) : SA ct X (.Starred a p :: es) (argS ga gs) := by
  refine ⟨fun W tk => ?_⟩
  obtain ⟨ta, pa, ra⟩ := ha.run W tk
  obtain ⟨tb, pb, rb⟩ := hb.run W tk
  refine ⟨_, StX.pa_star pa pb hs, fun S F H σ ρ Q E ok G => ra S F H σ ρ _ E ok ?_⟩
  unfold argS at G
  refine good_bind G fun x o1 v S1 F1 H1 f _ t1 h1 E1 k1 G => ?_
  cases q : starD x with
  | none => rw [q] at G; exact G.elim
  | some ds =>
    rw [q] at G
    obtain ⟨b, xs, S2, rfl, hsq, u1, u2, r, k2⟩ := star_open h1 k1 q
    have t1' : Fit o1 S F H S2 F1 [] H1 := t1.froze k1 u1 u2
    refine ⟨b, xs, rfl, hsq, rb S2 F1 H1 σ _ _ (E1.more u1) k2 ?_⟩
    simp only at G
    cases qb : gs (now o1 ρ) with
    | no => rw [qb] at G; exact G
    | ex x ρ1 =>
      rw [qb] at G
      intro C d S3 F3 H3 st E2 k3 hx
      exact G C d S3 F3 H3 (t1'.step.trans st) E2 k3 hx
    | ok y o2 =>
      rw [qb, R.nxt_ok, if_pos (by simp), aft_aft] at G
      intro u S3 F3 H3 g t2 h2 E2 k3
      refine G (xs ++ u) S3 F3 H3 g ?_ (VsOk.stars (r.later (t2.step.later k2)) h2) ?_ k3
      · exact t1'.thn (f := []) k2 t2 (fun b hb => .inr (.inl hb)) (Same.refl _)
      · rw [thn_none, now_thn]
        exact E2
theorem ss_par3 {gs : MA} {i j l : Nat} {x y z : Str} {a b c : Expr} {px py pz pt pos : Pos} {kt k2 pt2} (hc : X.calm = true) (hN : X.N.Nodup) (hi : X.N[i]? = some x) (hj : X.N[j]? = some y) (hl : X.N[l]? = some z) (hij : i ≠ j) (hil : i ≠ l) (hjl : j ≠ l) (hli : lent[i]? ≠ some true) (hlj : lent[j]? ≠ some true) (hll : lent[l]? ≠ some true)
    (hx : X.env.scope.names.lookup x = some .local) (hy : X.env.scope.names.lookup y = some .local) (hz : X.env.scope.names.lookup z = some .local) (ha : SA ct X [a, b, c] gs)
    (hw : swappedStores [.Tuple [.Name x px, .Name y py, .Name z pz] kt pt] (.Tuple [a, b, c] k2 pt2) X.env = pure (some [x, y, z]))
    (hs : swapsWithSole [.Tuple [.Name x px, .Name y py, .Name z pz] kt pt] (.Tuple [a, b, c] k2 pt2) pos.line X.env = pure false := by rfl) : SS ct lent X (.Assign [.Tuple [.Name x px, .Name y py, .Name z pz] kt pt] (.Tuple [a, b, c] k2 pt2) pos) (par3 i j l gs) := by
  refine ⟨fun W tk po => ?_⟩
  obtain ⟨ta, pa, ra⟩ := ha.run W tk
  refine ⟨_, ps_par3 hc hN hi hj hl hij hil hjl hx hy hz pa hw hs, fun S F H σ ρ D E ok G => ra S F H σ ρ _ E ok ?_⟩
  refine good_go G fun xs o vs S1 F1 H1 f st h E1 ok1 G => ?_
  unfold par3k at G
  split at G
  · rename_i x y z
    cases h with
    | cons h1 h =>
      obtain ⟨v, w, f1, f2, rfl, rfl, h2, h3⟩ := h.two
      rename_i v0 f0
      refine ⟨v0, v, w, rfl, ?_⟩
      rcases gname_nx (i := i) (x := x) (ρ := now o ρ) with ⟨ρ2, q⟩ | q
      · rw [q, seq_nx] at G
        have okA : Ok S1 H1 ((f1 ++ f2) ++ (f0 ++ F1)) := ok1.perm (List.perm_iff_count.mpr fun b => (by simp only [List.count_append]; omega))
        obtain ⟨F2, E2, ok2, s2, kp2⟩ := store_at hli h1 E1 okA.tail q
        have okB : Ok S1 H1 ((f1 ++ f2) ++ F2) := okA.head.two ok2 fun b hb z => okA.apart b hb (s2 b z)
        have okB' : Ok S1 H1 (f2 ++ (f1 ++ F2)) := okB.perm (List.perm_iff_count.mpr fun b => (by simp only [List.count_append]; omega))
        rcases gname_nx (i := j) (x := y) (ρ := ρ2) with ⟨ρ3, q3⟩ | q3
        · rw [q3, seq_nx] at G
          obtain ⟨F3, E3, ok3, s3, kp3⟩ := store_at hlj h2 E2 okB'.tail q3
          have okC : Ok S1 H1 (f2 ++ F3) := okB'.head.two ok3 fun b hb z => okB'.apart b hb (s3 b z)
          rcases gname_nx (i := l) (x := z) (ρ := ρ3) with ⟨ρ4, q4⟩ | q4
          · rw [q4] at G
            obtain ⟨F4, E4, ok4, s4, kp4⟩ := store_at hll h3 E3 okC q4
            refine G _ S1 F4 H1 (st.less fun b hb => ?_) E4 ok4 ((kp2.trans kp3).trans kp4)
            simp only [List.mem_append] at s2 s3 s4 ⊢
            rcases s4 b hb with z | z
            · exact .inl (.inr (.inr z))
            · rcases s3 b z with z | z
              · exact .inl (.inr (.inl z))
              · rcases s2 b z with z | z
                · exact .inl (.inl z)
                · exact .inr z
          · rw [q4] at G
            exact G.elim
        · rw [q3] at G
          exact G.elim
      · rw [q] at G
        exact G.elim
  · exact G.elim
end
section
variable {ct : Str → Addr} {X : Cx}
theorem sa_nilN : SA ct X [] argN := sa_nil
end
section
variable {ct : Str → Addr} {X : Cx} {a b : Expr} {ga gb : M} {pos : Pos}
theorem kShl_op : Op2 X.K (rI CPow fun i j => .int (i * 2 ^ j.toNat)) kShl := op2_int fun x y z e => by
  unfold kShl at e
  split at e
  · rename_i i j h1 h2
    split at e
    · rename_i c
      obtain rfl := Option.some.inj e
      exact ⟨i, j, h1, h2, ⟨c.1, by omega, c.2.2⟩, rfl, fun _ _ => .int _ _⟩
    · cases e
  · cases e
theorem kShr_op : Op2 X.K (rI (fun _ j => 0 ≤ j) fun i j => .int (i / 2 ^ j.toNat)) kShr := op2_int fun x y z e => by
  unfold kShr at e
  split at e
  · rename_i i j h1 h2
    split at e
    · rename_i c
      obtain rfl := Option.some.inj e
      exact ⟨i, j, h1, h2, c, rfl, fun _ _ => .int _ _⟩
    · cases e
  · cases e
theorem s_shl (ha : SE ct X a ga) (hb : SE ct X b gb) : SE ct X (.BinOp a .LShift b pos) (two ga gb kShl) := s_op op_shl kShl_op ha hb
theorem s_shr (ha : SE ct X a ga) (hb : SE ct X b gb) : SE ct X (.BinOp a .RShift b pos) (two ga gb kShr) := s_op op_shr kShr_op ha hb
end
section
variable {K : PySem.W.Frag}
theorem kStr_op : OpN K (fun xs H Q => ∃ i, xs = [.int i] ∧ i.natAbs.log2 < 1920 ∧ Q (.str (toString i)) H) kStr := by
  refine opn_one (fun xs z e => ?_) fun S H x v f z Q h ok e hQ => ?_
  · unfold kStr at e
    split at e
    · exact ⟨_, rfl⟩
    · cases e
  · unfold kStr at e
    simp only at e
    split at e
    · rename_i i el
      split at e
      · rename_i c
        obtain rfl := Option.some.inj e
        exact ⟨i, by rw [h.int el], c, ret_imm ok rfl (.str _ _) hQ⟩
      · cases e
    · cases e
end
end Vs
set_option maxHeartbeats 4000000
/-! Vs: loops over a list of plain items that stays in its slot. -/
namespace Vs
open PySem PySem.Spec PyProof.Rows L2
/-- lent, and this slot too -/
def lentW (lent : List Bool) (i : Nat) : List Bool := (List.range (max lent.length (i + 1))).map fun j => j == i || lent.getD j false
theorem lentW_of {lent : List Bool} {i j : Nat} (h : lent[j]? = some true ∨ j = i) : (lentW lent i)[j]? = some true := by
  unfold lentW
  have hj : j < max lent.length (i + 1) := by
    rcases h with h | h
    · have := (List.getElem?_eq_some_iff.mp h).1; omega
    · omega
  rw [List.getElem?_map, List.getElem?_range hj]
  show some (j == i || lent.getD j false) = some true
  rcases h with h | h
  · rw [List.getD_eq_getElem?_getD, h]; simp
  · simp [h]
theorem Kp.ofW {lent : List Bool} {i : Nat} {σ σ' : List (Option V)} (h : Kp (lentW lent i) σ σ') : Kp lent σ σ' ∧ σ'[i]? = σ[i]? :=
  ⟨⟨h.1, fun j hj => h.2 j (lentW_of (.inl hj))⟩, h.2 i (lentW_of (.inr rfl))⟩
section
variable {K : PySem.W.Frag} {ct : Str → Addr} {lent : List Bool} {W : WX} {D : Ends} {S : Addr → Prop} {F : List Addr} {H : Hp} {σ : L2.St} {fl : Fl}
theorem GoodS.toW {i : Nat} (g : GoodS K ct lent W D S F H σ fl) : GoodS K ct (lentW lent i) W D S F H σ fl := by
  cases fl with
  | nx ρ' => exact fun σ' S' F' H' t E o k => g σ' S' F' H' t E o k.ofW.1
  | brk ρ' => exact fun σ' S' F' H' t E o k => g σ' S' F' H' t E o k.ofW.1
  | ct ρ' => exact fun σ' S' F' H' t E o k => g σ' S' F' H' t E o k.ofW.1
  | ret pv ρ' => exact fun v f σ' S' F' H' t r E o k => g v f σ' S' F' H' t r E o k.ofW.1
  | ex e ρ' => exact fun C d σ' S' F' H' t E o k x => g C d σ' S' F' H' t E o k.ofW.1 x
  | no => exact g
end
/-- how the items of a list are handed out -/
structure LiveIt (K : PySem.W.Frag) (J : Addr → It) (w : Nat → Vs.D → Vs.D) : Prop where
  go : ∀ {a k H xs u}, SqL K H a xs → xs[k]? = some u → (J a).go k H
  yld : ∀ {a k H xs u x H3 d} {S : Addr → Prop}, SqL K H a xs → xs[k]? = some u → (J a).yld k H x H3 → Rp K S H 0 u d [] → Same H H3 ∧ Rp K S H3 0 x (w k d) []
  stop : ∀ {a k H xs}, SqL K H a xs → xs.length ≤ k → (J a).stop k H
theorem live_one {K : PySem.W.Frag} : LiveIt K (Itl K) wOne where
  go := fun h g => ⟨_, _, h, g⟩
  yld := fun h g y r => by
    obtain ⟨rfl, hx⟩ := y
    have := (hx _ h).symm.trans g
    cases this
    exact ⟨Same.refl _, r⟩
  stop := fun h g => ⟨_, h, g⟩
theorem live_enum {K : PySem.W.Frag} : LiveIt K (Ite K) wEnum where
  go := fun h g => ⟨_, _, h, g⟩
  yld := fun h g y r => by
    obtain ⟨T, z, rfl, nT, rfl, hx⟩ := y
    have := (hx _ h).symm.trans g
    cases this
    refine ⟨same_upd nT, .tup0 upd_same ?_⟩
    exact .cons (f := []) (g := []) (.int _ _) (.cons (f := []) (g := []) (r.same (same_upd nT)) (.nil _))
  stop := fun h g => ⟨_, h, g⟩
section
variable {ct : Str → Addr} {lent : List Bool} {X : Cx} {body : List Stmt} {gb other : MS} {pos : Pos}
theorem SS.ofW {i : Nat} {st : Stmt} {g : MS} (h : SS ct (lentW lent i) X st g) : SS ct lent X st g := by
  refine ⟨fun W tk po => ?_⟩
  obtain ⟨t, pt, rt⟩ := h.run W tk po
  exact ⟨t, pt, fun S F H σ ρ D E ok G => rt S F H σ ρ D E ok G.toW⟩
theorem ss_either {st : Stmt} {g h k : MS} (hg : SS ct lent X st g) (hh : SS ct lent X st h) (hk : ∀ ρ, k ρ = g ρ ∨ k ρ = h ρ) : SS ct lent X st k := by
  refine ⟨fun W tk po => ?_⟩
  obtain ⟨t1, p1, r1⟩ := hg.run W tk po
  obtain ⟨t2, p2, r2⟩ := hh.run W tk po
  refine ⟨fun D σ H => t1 D σ H ∨ t2 D σ H, ⟨fun pins s σ H D I h => h.elim (p1.run pins s σ H D I) (p2.run pins s σ H D I)⟩, fun S F H σ ρ D E ok G => ?_⟩
  rcases hk ρ with e | e
  · exact .inl (r1 S F H σ ρ D E ok (e ▸ G))
  · exact .inr (r2 S F H σ ρ D E ok (e ▸ G))
/-- the loop itself -/
def forVs (i : Nat) (w : Nat → Vs.D → Vs.D) (g : MG) (body : MS) : MS := fun ρ => match look ρ i with
  | some (_, .lst ds) => forV i w g body ds.length 0 ρ
  | _ => .no
theorem ss_forVs (i : Nat) {tg iter : Expr} {gg : MG} {J : Addr → It} {w : Nat → Vs.D → Vs.D} (hJ : LiveIt X.K J w) (hc : X.calm = true)
    (hi : PI X tg iter fun σ H R => ∃ v, σ[i]? = some (some v) ∧ ∃ a xs, v = .ref a ∧ SqL X.K H a xs ∧ R (J a) H)
    (hg : SG ct (lentW lent i) X tg gg) (hb : SSs ct (lentW lent i) X body gb) (hs : ∀ x, foldedSetIterable iter X.env x = pure x := by intro _; rfl) :
    SS ct (lentW lent i) X (.For tg iter body [] pos) (forVs i w gg gb) := by
  refine ⟨fun W tk po => ?_⟩
  obtain ⟨tg', pg, rg⟩ := hg.run W tk
  obtain ⟨tb, pb, rb⟩ := hb.run W tk po
  refine ⟨_, ps_for po hc hi pg pb hs, fun S F H σ ρ D E ok G => ?_⟩
  unfold forVs at G
  cases q : look ρ i with
  | none => rw [q] at G; exact G.elim
  | some pv =>
    obtain ⟨m0, d0⟩ := pv
    rw [q] at G
    cases d0 with
    | lst ds0 =>
      obtain ⟨v0, f0, G0, hσ, r0, _, _⟩ := E.take q
      obtain ⟨a, xs0, g0, rfl, hq0, _, _, _⟩ := r0.lst
      refine ⟨_, hσ, a, xs0, rfl, hq0, fun k m σ' H' => ∃ ρ' S' F', Step S F H S' F' H' ∧ EnvRp X.K S' H' σ' ρ' F' ∧ Ok S' H' F' ∧ Kp (lentW lent i) σ σ' ∧ GoodS X.K ct (lentW lent i) W D S' F' H' σ' (forV i w gg gb m k ρ'),
        ⟨ds0.length, ρ, S, F, Step.refl, E, ok, Kp.refl, G⟩, fun k m σ' H' hW => ?_⟩
      obtain ⟨ρ', S', F', st', E', ok', kp', G'⟩ := hW
      have hσ' : σ'[i]? = some (some (.ref a)) := kp'.ofW.2.trans hσ
      have stop : ∀ {x : Prop} {ds : List Vs.D} {md : Nat}, look ρ' i = some (md, .lst ds) → ds.length ≤ k → (J a).stop k H' := by
        intro _ ds md q1 hk
        obtain ⟨v1, f1, G1, hσ1, r1, _, _⟩ := E'.take q1
        obtain rfl : v1 = .ref a := by rw [hσ'] at hσ1; exact (Option.some.inj (Option.some.inj hσ1)).symm
        obtain ⟨a1, xs1, g1, e1, hq1, ra1, _, _⟩ := r1.lst
        cases e1
        exact hJ.stop hq1 (by rw [ra1.length]; exact hk)
      cases m with
      | zero =>
        unfold forV at G'
        cases q1 : look ρ' i with
        | none => rw [q1] at G'; exact G'.elim
        | some pv =>
          obtain ⟨m1, d1⟩ := pv
          rw [q1] at G'
          cases d1 with
          | lst ds =>
            simp only at G'
            split at G'
            · rename_i hk
              exact .inl ⟨stop (x := True) q1 hk, G' σ' S' F' H' Step.refl E' ok' Kp.refl⟩
            · exact G'.elim
          | _ => exact G'.elim
      | succ m =>
        unfold forV at G'
        cases q1 : look ρ' i with
        | none => rw [q1] at G'; exact G'.elim
        | some pv =>
          obtain ⟨m1, d1⟩ := pv
          rw [q1] at G'
          cases d1 with
          | lst ds =>
            simp only at G'
            cases q2 : ds[k]? with
            | none =>
              rw [q2] at G'
              exact .inl ⟨stop (x := True) q1 (List.getElem?_eq_none_iff.mp q2), G' σ' S' F' H' Step.refl E' ok' Kp.refl⟩
            | some d =>
              rw [q2] at G'
              simp only at G'
              by_cases him : d.imm = true
              · rw [if_pos him] at G'
                obtain ⟨v1, f1, G1, hσ1, r1, _, _⟩ := E'.take q1
                obtain rfl : v1 = .ref a := by rw [hσ'] at hσ1; exact (Option.some.inj (Option.some.inj hσ1)).symm
                obtain ⟨a1, xs1, g1, e1, hq1, ra1, _, _⟩ := r1.lst
                cases e1
                obtain ⟨u, fu, hu, ru⟩ : ∃ u fu, xs1[k]? = some u ∧ Rp X.K S' H' (m1 - 1) u d fu := by
                  obtain ⟨u, f1, g1, h1, hu, _, ru, _⟩ := ra1.at q2
                  exact ⟨u, _, hu, ru⟩
                have ru0 : Rp X.K S' H' 0 u d [] := (ru.imm him).2 _ _ _
                refine .inr ⟨hJ.go hq1 hu, fun σ2 H2 => ∃ ρ2 S2 F2, Step S F H S2 F2 H2 ∧ EnvRp X.K S2 H2 σ2 ρ2 F2 ∧ Ok S2 H2 F2 ∧ Kp (lentW lent i) σ σ2 ∧ GoodS X.K ct (lentW lent i) W D S2 F2 H2 σ2 (forV i w gg gb m (k + 1) ρ2), fun σ2 H2 hN => ?_, fun x H3 hy => ?_⟩
                · obtain ⟨ρ2, S2, F2, hN⟩ := hN
                  exact ⟨m, by omega, ρ2, S2, F2, hN⟩
                · obtain ⟨sm, rx⟩ := hJ.yld hq1 hu hy ru0
                  have st3 : Step S' F' H' S' F' H3 := Step.of_same sm fun _ => .inl
                  have G3 := GoodS.from st3 Kp.refl G'
                  let N : L2.St → Hp → Prop := fun σ2 H2 => ∃ ρ2 S2 F2, Step S F H S2 F2 H2 ∧ EnvRp X.K S2 H2 σ2 ρ2 F2 ∧ Ok S2 H2 F2 ∧ Kp (lentW lent i) σ σ2 ∧ GoodS X.K ct (lentW lent i) W D S2 F2 H2 σ2 (forV i w gg gb m (k + 1) ρ2)
                  have turn : GoodS X.K ct (lentW lent i) W { D with nx := N, ct := N, bk := D.nx } S' F' H3 σ' ((gg ⟨false, 0, w k d⟩ ρ').seq gb) := by
                    cases q : (gg ⟨false, 0, w k d⟩ ρ').seq gb with
                    | nx ρ1 =>
                      rw [q] at G3
                      exact fun σ2 S2 F2 H2 t E2 o2 k2 => ⟨ρ1, S2, F2, (st'.trans st3).trans t, E2, o2, kp'.trans k2, GoodS.from t k2 G3⟩
                    | ct ρ1 =>
                      rw [q] at G3
                      exact fun σ2 S2 F2 H2 t E2 o2 k2 => ⟨ρ1, S2, F2, (st'.trans st3).trans t, E2, o2, kp'.trans k2, GoodS.from t k2 G3⟩
                    | brk ρ1 => rw [q] at G3; exact G3
                    | ret pv ρ1 => rw [q] at G3; exact G3
                    | ex e ρ1 => rw [q] at G3; exact G3
                    | no => rw [q] at G3; exact G3
                  refine rg S' F' H3 σ' ρ' ⟨false, 0, w k d⟩ x [] { D with nx := fun σ2 H2 => tb { D with nx := N, ct := N, bk := D.nx } σ2 H2, ct := N, bk := D.nx } _ (by rw [VOk.own]; exact rx) (E'.same sm) (ok'.same sm) (fun _ _ z => z) ?_
                  cases q : gg ⟨false, 0, w k d⟩ ρ' with
                  | nx ρ1 =>
                    rw [q] at turn
                    exact fun σ2 S2 F2 H2 t E2 o2 k2 => rb S2 F2 H2 σ2 ρ1 _ E2 o2 (GoodS.from t k2 turn)
                  | _ => rw [q] at turn; exact turn
              · rw [if_neg him] at G'
                exact G'.elim
          | _ => exact G'.elim
    | _ => exact G.elim
theorem ss_forV (i : Nat) {tg iter : Expr} {gg : MG} {gi : MI} {J : Addr → It} {w : Nat → Vs.D → Vs.D} (hJ : LiveIt X.K J w) (hc : X.calm = true)
    (hi : PI X tg iter fun σ H R => ∃ v, σ[i]? = some (some v) ∧ ∃ a xs, v = .ref a ∧ SqL X.K H a xs ∧ R (J a) H) (hf : SI ct X tg iter gi)
    (hg : SG ct (lentW lent i) X tg gg) (hb : SSs ct (lentW lent i) X body gb) (hs : ∀ x, foldedSetIterable iter X.env x = pure x := by intro _; rfl) :
    SS ct lent X (.For tg iter body [] pos) (forsV i w gg gb (fors gi gg gb)) := by
  refine SS.ofW (i := i) (ss_either (ss_forVs i hJ hc hi hg hb hs) (ss_for hc hf hg hb hs) fun ρ => ?_)
  unfold forsV forVs
  split
  · rename_i h
    split
    · first | (rw [h]; exact .inl rfl) | exact .inl rfl
    · exact .inr rfl
  · exact .inr rfl
theorem pi_liveL (i : Nat) {x : Str} {px : Pos} {tg : Expr} (hN : X.N[i]? = some x := by rfl) (hv : Vis X.env.scope x := by first | exact Or.inl rfl | exact Or.inr (Or.inl rfl) | exact Or.inr (Or.inr rfl)) (hd : (x == ("__debug__" : Str)) = false := by decide)
    (hcd : (x == ("__classdict__" : Str)) = false := by decide) : PI X tg (.Name x px) fun σ H R => ∃ v, σ[i]? = some (some v) ∧ ∃ a xs, v = .ref a ∧ SqL X.K H a xs ∧ R (Itl X.K a) H :=
  ⟨fun pins s σ H R I h => (pi_list (pe_var (i := i) hN hv hd hcd)).run pins s σ H R I (by
    obtain ⟨v, h1, a, xs, rfl, h2, h3⟩ := h
    exact ⟨_, h1, a, rfl, ⟨xs, h2⟩, h3⟩)⟩
theorem pi_liveE (i : Nat) {x : Str} {p px pos tpos : Pos} {elts : List Expr} {kk : Nat} (hg : Gl X "enumerate") (hm : X.mg "enumerate" = none) (hN : X.N[i]? = some x := by rfl) (hv : Vis X.env.scope x := by first | exact Or.inl rfl | exact Or.inr (Or.inl rfl) | exact Or.inr (Or.inr rfl)) (hd : (x == ("__debug__" : Str)) = false := by decide)
    (hcd : (x == ("__classdict__" : Str)) = false := by decide) (hs : starEach [.Name x px] X.env = [(false, eval (.Name x px) X.env)] := by rfl) : PI X (.Tuple elts kk tpos) (.Call (.Name "enumerate" p) [.Name x px] [] pos) fun σ H R => ∃ v, σ[i]? = some (some v) ∧ ∃ a xs, v = .ref a ∧ SqL X.K H a xs ∧ R (Ite X.K a) H :=
  ⟨fun pins s σ H R I h => (pi_enum hg hm (pa_cons (pe_var (i := i) hN hv hd hcd) pa_nil) hs).run pins s σ H R I (by
    obtain ⟨v, h1, a, xs, rfl, h2, h3⟩ := h
    exact ⟨_, h1, a, xs, rfl, h2, h3⟩)⟩
end
section
variable {ct : Str → Addr} {X : Cx} {b : Expr} {gb : M} {pos px : Pos}
theorem s_ixv (i : Nat) {x : Str} (hb : SE ct X b gb) (hs : PlainIx b := by exact fun _ _ => rfl) (hN : X.N[i]? = some x := by rfl) (hv : Vis X.env.scope x := by first | exact Or.inl rfl | exact Or.inr (Or.inl rfl) | exact Or.inr (Or.inr rfl)) (hd : (x == ("__debug__" : Str)) = false := by decide)
    (hcd : (x == ("__classdict__" : Str)) = false := by decide) : SE ct X (.Subscript (.Name x px) b pos) (ixv2 i gb) := by
  refine ⟨fun W tk => ?_⟩
  obtain ⟨tb, pb, rb⟩ := hb.run W tk
  refine ⟨_, pe_ix ix_seq (pe_var (i := i) hN hv hd hcd) pb hs, fun S F H σ ρ Q E ok G => ?_⟩
  unfold ixv2 at G
  cases q : look ρ i with
  | none => rw [q] at G; exact G.elim
  | some pv =>
    obtain ⟨m0, d0⟩ := pv
    rw [q] at G
    obtain ⟨v0, f0, G0, hσ, _⟩ := E.take q
    refine ⟨v0, hσ, rb S F H σ ρ _ E ok ?_⟩
    refine good_bind G fun y o w S1 F1 H1 f _ t1 h1 E1 k1 G => ?_
    cases q1 : look (now o ρ) i with
    | none => rw [q1] at G; exact G.elim
    | some pv1 =>
      obtain ⟨m1, d1⟩ := pv1
      rw [q1] at G
      obtain ⟨v1, f1, G1, hσ1, r1, _⟩ := E1.take q1
      obtain rfl : v1 = v0 := by rw [hσ] at hσ1; exact (Option.some.inj (Option.some.inj hσ1)).symm
      have hx : VOk X.K S1 H1 ⟨true, m1, d1⟩ v1 [] := by rw [VOk.bor]; exact ⟨rfl, f1, r1⟩
      exact fin_rule (g := f) (t := fun Q => rIx X.K v1 w H1 Q) t1 E1 k1 (fun z hz Q hq => kIx_op S1 H1 _ v1 [] y w f z Q hx h1 k1.head hz hq) G
end
end Vs
set_option maxHeartbeats 4000000
/-! Vs: dicts with numbers and texts as keys. -/
namespace Vs
open PySem PySem.Spec PyProof.Rows L2
theorem same_kD {a b : Key} : D.same (kD a) (kD b) = decide (a = b) := by
  cases a <;> cases b <;> simp [kD, D.same]
theorem key_of {d : D} (h : isKey d = true) : ∃ k : Key, d = kD k := by
  cases d with
  | int i => exact ⟨.inl i, rfl⟩
  | str s => exact ⟨.inr s, rfl⟩
  | _ => cases h
/-- what a dict's keys and values are, as a list -/
abbrev dzip (kvs : List (Key × V)) (ds : List D) : List (D × D) := (kvs.map fun p => kD p.1).zip ds
theorem dlook_zip {k : Key} : ∀ {kvs : List (Key × V)} {ds : List D}, kvs.length = ds.length →
    (dLook (dzip kvs ds) (kD k) = none ∧ valV kvs k = none) ∨ ∃ (i : Nat) (w : V) (d : D), dLook (dzip kvs ds) (kD k) = some d ∧ valV kvs k = some w ∧ (kvs.map (·.2))[i]? = some w ∧ ds[i]? = some d
  | [], [], _ => .inl ⟨rfl, rfl⟩
  | [], _ :: _, h => by simp at h
  | _ :: _, [], h => by simp at h
  | (k', w) :: kvs, d :: ds, h => by
    have h' : kvs.length = ds.length := by simpa using h
    by_cases e : k' = k
    · refine .inr ⟨0, w, d, ?_, valV_pos e, rfl, rfl⟩
      unfold dLook dzip
      simp [List.find?_cons, same_kD, e]
    · have e1 : dLook (dzip ((k', w) :: kvs) (d :: ds)) (kD k) = dLook (dzip kvs ds) (kD k) := by
        unfold dLook dzip
        simp [List.find?_cons, same_kD, e]
      rcases dlook_zip (k := k) h' with ⟨a, b⟩ | ⟨i, w', d', a, b, c, c'⟩
      · exact .inl ⟨e1.trans a, (valV_neg e).trans b⟩
      · exact .inr ⟨i + 1, w', d', e1.trans a, (valV_neg e).trans b, by simpa using c, by simpa using c'⟩
theorem dput_zip {k : Key} {w : V} {d : D} : ∀ {kvs : List (Key × V)} {ds : List D}, kvs.length = ds.length →
    dPut (dzip kvs ds) (kD k) d = (if (kvs.any fun kv => decide (kv.1 = k)) = true then dzip (putK kvs k w) ((kvs.zip ds).map fun q => if q.1.1 = k then d else q.2) else dzip (putK kvs k w) (ds ++ [d])) := by
  intro kvs ds h
  have e0 : (dzip kvs ds).any (fun p => p.1.same (kD k)) = kvs.any fun kv => decide (kv.1 = k) := by
    induction kvs generalizing ds with
    | nil => cases ds <;> rfl
    | cons p kvs ih =>
      cases ds with
      | nil => simp at h
      | cons d' ds =>
        have := ih (ds := ds) (by simpa using h)
        unfold dzip at this ⊢
        rw [List.map_cons, List.zip_cons_cons, List.any_cons, this, List.any_cons, same_kD]
  unfold dPut putK
  rw [e0]
  by_cases c : (kvs.any fun kv => decide (kv.1 = k)) = true
  · rw [if_pos c, if_pos c, if_pos c]
    clear c e0
    induction kvs generalizing ds with
    | nil => cases ds <;> rfl
    | cons p kvs ih =>
      cases ds with
      | nil => simp at h
      | cons d' ds =>
        have := ih (ds := ds) (by simpa using h)
        unfold dzip at this ⊢
        rw [List.map_cons, List.zip_cons_cons, List.map_cons, this, List.map_cons, List.map_cons, List.zip_cons_cons, List.map_cons, List.zip_cons_cons, same_kD]
        by_cases e : p.1 = k
        · simp [e]
        · simp [e]
  · rw [if_neg c, if_neg c, if_neg c]
    unfold dzip
    rw [List.map_append, List.zip_append (by simpa using h)]
    rfl
section
variable {K : PySem.W.Frag} {S S' : Addr → Prop} {H : Hp}
theorem Rp.dicK {m : Nat} {v : V} {l : List (D × D)} {g : List Addr} (h : Rp K S H m v (.dic false l) g) :
    ∃ (a : Addr) (kvs : List (Key × V)) (ds : List D) (g' : List Addr), v = .ref a ∧ l = dzip kvs ds ∧ Rd H a (.dK kvs) ∧ RpAll K S H (m - 1) (kvs.map (·.2)) ds g' ∧ (m = 0 → g = [] ∧ g' = []) ∧ (m ≠ 0 → H a = some (.dK kvs) ∧ g = a :: g') := by
  generalize hd : D.dic false l = d at h
  cases h with
  | dk0 q s r =>
    obtain ⟨_, rfl⟩ := D.dic.inj hd
    exact ⟨_, _, _, _, rfl, rfl, q, r, fun _ => ⟨rfl, rfl⟩, fun z => absurd rfl z⟩
  | dk1 q r =>
    obtain ⟨_, rfl⟩ := D.dic.inj hd
    exact ⟨_, _, _, _, rfl, rfl, .inl q, r, fun z => (nomatch z), fun _ => ⟨q, rfl⟩⟩
  | dt0 q s r => cases (D.dic.inj hd).1
  | dt1 q r => cases (D.dic.inj hd).1
  | _ => cases hd
theorem VOk.key {y : VV} {u : V} {g : List Addr} {k : Key} (h : VOk K S H y u g) (e : y.d = kD k) : u = kV k ∧ g = [] := by
  cases k with
  | inl i => exact ⟨h.int e, (by
      obtain ⟨b, m, d⟩ := y
      obtain rfl : d = .int i := e
      exact h.nil_int)⟩
  | inr z => exact ⟨h.str e, (by
      obtain ⟨b, m, d⟩ := y
      obtain rfl : d = .str z := e
      unfold VOk at h
      split at h
      · exact h.1
      · exact (h.imm rfl).1)⟩
def rGetD : R2 := fun x y H Q => ∃ a v, x = V.ref a ∧ DGet H a y (some v) ∧ Q v H
theorem kIxD_op : Op2 K rGetD kIxD := fun S H x v f y u g z Q h1 h2 ok e hQ => by
  unfold kIxD at e
  split at e
  · rename_i l el
    split at e
    · rename_i c
      obtain ⟨k, hk⟩ := key_of c.2
      rw [hk] at e
      obtain ⟨rfl, rfl⟩ := h2.key hk
      obtain ⟨gx, hr⟩ := h1.rp
      rw [el] at hr
      obtain ⟨a, kvs, ds, g', rfl, rfl, hq, ra, z1, z2⟩ := hr.dicK
      have hl : kvs.length = ds.length := by have := ra.length; rwa [List.length_map] at this
      rcases dlook_zip (k := k) hl with ⟨e1, _⟩ | ⟨i, w, d, e1, e2, e3, e4⟩
      · rw [e1] at e; cases e
      · rw [e1] at e
        obtain rfl := Option.some.inj e
        refine ⟨a, w, rfl, .inl ⟨kvs, k, hq, rfl, e2.symm⟩, ?_⟩
        obtain ⟨w', g1, gw, g2, f1, f2, f3, _⟩ := ra.at e4
        rw [e3] at f1
        cases f1
        refine hQ w H S [] ⟨Same.refl _, fun _ z => z, fun _ => .inl, by simp⟩ ?_ ok.nil
        obtain ⟨xb, xm, xd⟩ := x
        by_cases hm : xm - 1 = 0
        · rw [show sub ⟨xb, xm, xd⟩ d = ⟨false, 0, d⟩ by unfold sub; simp [hm]]
          rw [VOk.own]
          replace f3 : Rp K S H (xm - 1) w d gw := f3
          rw [hm] at f3
          have := f3.own0
          subst this
          exact f3
        · have hb : xb = true := c.1.resolve_right (by show ¬ xm = 0; omega)
          subst hb
          rw [show sub ⟨true, xm, xd⟩ d = ⟨true, xm - 1, d⟩ by unfold sub; simp [hm]]
          rw [VOk.bor]
          exact ⟨rfl, gw, f3⟩
    · cases e
  · cases e
def rInDc : R2 := fun x y H Q => ∃ a o, y = V.ref a ∧ DGet H a x o ∧ Q (.bl o.isSome) H
def rNotInDc : R2 := fun x y H Q => ∃ a o, y = V.ref a ∧ DGet H a x o ∧ Q (.bl (!o.isSome)) H
theorem dic_has {y : VV} {u : V} {g : List Addr} {l : List (D × D)} {k : Key} (h : VOk K S H y u g) (e : y.d = .dic false l) : ∃ a o, u = V.ref a ∧ DGet H a (kV k) o ∧ o.isSome = (dLook l (kD k)).isSome := by
  obtain ⟨gx, hr⟩ := h.rp
  rw [e] at hr
  obtain ⟨a, kvs, ds, g', rfl, rfl, hq, ra, z1, z2⟩ := hr.dicK
  have hl : kvs.length = ds.length := by have := ra.length; rwa [List.length_map] at this
  refine ⟨a, valV kvs k, rfl, .inl ⟨kvs, k, hq, rfl, rfl⟩, ?_⟩
  rcases dlook_zip (k := k) hl with ⟨e1, e2⟩ | ⟨i, w, d, e1, e2, _⟩
  · rw [e1, e2]; rfl
  · rw [e1, e2]; rfl
theorem kInD_op : Op2 K rInDc kInD := fun S H x v f y u g z Q h1 h2 ok e hQ => by
  unfold kInD at e
  split at e
  · rename_i l el
    split at e
    · rename_i c
      obtain rfl := Option.some.inj e
      obtain ⟨k, hk⟩ := key_of c
      obtain ⟨rfl, rfl⟩ := h1.key hk
      obtain ⟨a, o, rfl, d, q⟩ := dic_has (k := k) h2 el
      rw [hk, ← q] at hQ
      exact ⟨a, o, rfl, d, ret_imm ok rfl (.bl _ _) hQ⟩
    · cases e
  · cases e
theorem kNotInD_op : Op2 K rNotInDc kNotInD := fun S H x v f y u g z Q h1 h2 ok e hQ => by
  unfold kNotInD at e
  split at e
  · rename_i l el
    split at e
    · rename_i c
      obtain rfl := Option.some.inj e
      obtain ⟨k, hk⟩ := key_of c
      obtain ⟨rfl, rfl⟩ := h1.key hk
      obtain ⟨a, o, rfl, d, q⟩ := dic_has (k := k) h2 el
      rw [hk, ← q] at hQ
      exact ⟨a, o, rfl, d, ret_imm ok rfl (.bl _ _) hQ⟩
    · cases e
  · cases e
/-- an item is put into a dict of a slot -/
theorem write_okD {a : Addr} {f1 ff h G : List Addr} {kvs : List (Key × V)} {ds : List D} {n : Nat} {zs : List (Key × V)} (ha : H a = some (.dK zs)) (ok : Ok S H G) (p : G.Perm ((h ++ (a :: ff)) ++ f1)) (r : RpAll K (fun b => S b ∨ b ∈ f1) H n (kvs.map (·.2)) ds ff) :
    Step S G H (fun b => S b ∨ b ∈ f1) (h ++ (a :: ff)) (upd H a (.dK kvs)) ∧ Rp K (fun b => S b ∨ b ∈ f1) (upd H a (.dK kvs)) (n + 1) (.ref a) (.dic false (dzip kvs ds)) (a :: ff) ∧ Ok (fun b => S b ∨ b ∈ f1) (upd H a (.dK kvs)) (h ++ (a :: ff)) := by
  have k := split_ok ok p
  have ka : Ok (fun b => S b ∨ b ∈ f1) H (a :: ff) := k.tail
  have nS : ¬ (S a ∨ a ∈ f1) := ka.ns a (List.mem_cons_self ..)
  have nf : a ∉ ff := (List.nodup_cons.mp ka.nd).1
  have hg : a ∈ G := p.mem_iff.mpr (List.mem_append_left _ (List.mem_append_right _ (List.mem_cons_self ..)))
  refine ⟨⟨fun b o e hb => by rw [upd_ne fun z => hb (by rw [z]; exact hg)]; exact e, fun _ => .inl, fun b hb => .inl (p.mem_iff.mpr (List.mem_append_left _ hb)), fun b hb => hb.imp id fun z => .inl (p.mem_iff.mpr (List.mem_append_right _ z))⟩, ?_, k.wr trivial (by rw [ha]; simp)⟩
  exact .dk1 upd_same (r.wr (by rw [ha]; trivial) nS nf)
end
section
variable {ct : Str → Addr} {X : Cx} {a b : Expr} {ga gb : M} {pos : Pos}
theorem s_dnew : SE ct X (.Dict [] [] pos) dnew := ⟨fun W tk => ⟨_, pe_dnewK, fun S F H σ ρ Q E ok G => fun p hp =>
  G (.ref p) S F _ [p] ⟨same_upd hp, fun _ z => z, fun _ => .inl, rfl, by simp [hp]⟩ (by rw [VOk.own]; exact .dk1 (ds := []) upd_same (.nil _)) (E.same (same_upd hp)) (new_okp ok hp trivial)⟩⟩
theorem s_dget {k : Nat} (hr : Room k X.A) (ha : SE ct X a ga) (hb : SE ct X b gb) (hs : NoSl b) : SE ct X (.Subscript a b pos) (two ga gb kIxD) := run_two ha hb (fun pa pb => pe_dget (by have := units_of hr; omega) pa pb hs) kIxD_op
theorem op_dIn (hu : X.A.units + 1 < cLine) : OpR X (compareOp .In) rInDc := fun pins s σ H x y v u Q I rx ry h => by
  obtain ⟨a, o, rfl, g, q⟩ := h
  obtain rfl : u = Value.ref a := ry
  exact d_in hu I g rx fun s3 I3 => ⟨.bl o.isSome, H, I3, rfl, q⟩
theorem op_dNotIn (hu : X.A.units + 1 < cLine) : OpR X (compareOp .NotIn) rNotInDc := fun pins s σ H x y v u Q I rx ry h => by
  obtain ⟨a, o, rfl, g, q⟩ := h
  obtain rfl : u = Value.ref a := ry
  exact d_notIn hu I g rx fun s3 I3 => ⟨.bl (!o.isSome), H, I3, rfl, q⟩
theorem s_din {k : Nat} (hr : Room k X.A) (ha : SE ct X a ga) (hb : SE ct X b gb) (hm : behindInMarks .In b = false := by with_unfolding_all rfl) : SE ct X (.Compare a [.In] [b] pos) (two ga gb kInD) := s_cmp (op_dIn (by have := units_of hr; omega)) kInD_op hm ha hb
theorem s_dnotin {k : Nat} (hr : Room k X.A) (ha : SE ct X a ga) (hb : SE ct X b gb) (hm : behindInMarks .NotIn b = false := by with_unfolding_all rfl) : SE ct X (.Compare a [.NotIn] [b] pos) (two ga gb kNotInD) := s_cmp (op_dNotIn (by have := units_of hr; omega)) kNotInD_op hm ha hb
theorem t_din {k : Nat} (hr : Room k X.A) (ha : SE ct X a ga) (hb : SE ct X b gb) (hm : behindInMarks .In b = false := by with_unfolding_all rfl) : ST ct X (.Compare a [.In] [b] pos) (tst (two ga gb kInD) blOf) := t_cmp (op_dIn (by have := units_of hr; omega)) kInD_op hm ha hb
theorem t_dnotin {k : Nat} (hr : Room k X.A) (ha : SE ct X a ga) (hb : SE ct X b gb) (hm : behindInMarks .NotIn b = false := by with_unfolding_all rfl) : ST ct X (.Compare a [.NotIn] [b] pos) (tst (two ga gb kNotInD) blOf) := t_cmp (op_dNotIn (by have := units_of hr; omega)) kNotInD_op hm ha hb
end
section
variable {K : PySem.W.Frag} {S S' : Addr → Prop} {H : Hp}
theorem any_zip {k : Key} : ∀ {kvs : List (Key × V)} {ds : List D}, kvs.length = ds.length → (dzip kvs ds).any (fun p => p.1.same (kD k)) = kvs.any fun kv => decide (kv.1 = k)
  | [], [], _ => rfl
  | [], _ :: _, h => by simp at h
  | _ :: _, [], h => by simp at h
  | p :: kvs, d' :: ds, h => by
    have := any_zip (k := k) (kvs := kvs) (ds := ds) (by simpa using h)
    unfold dzip at this ⊢
    rw [List.map_cons, List.zip_cons_cons, List.any_cons, this, List.any_cons, same_kD]
theorem put_imm {k : Key} {v : V} {d : D} {m : Nat} (hd : ∀ S H, Rp K S H m v d []) : ∀ {kvs : List (Key × V)} {ds : List D} {f : List Addr}, RpAll K S H m (kvs.map (·.2)) ds f →
    ∃ f1 f2, f.Perm (f1 ++ f2) ∧ RpAll K S H m ((kvs.map fun kv => if kv.1 = k then (kv.1, v) else kv).map (·.2)) ((kvs.zip ds).map fun q => if q.1.1 = k then d else q.2) f1
  | [], ds, f, h => by
    cases h
    exact ⟨[], [], .refl _, .nil _⟩
  | p :: kvs, ds, f, h => by
    cases h with
    | cons h1 h2 =>
      rename_i d' fa ds' g
      obtain ⟨f1, f2, pp, r⟩ := put_imm hd h2
      by_cases e : p.1 = k
      · refine ⟨f1, fa ++ f2, ?_, ?_⟩
        · exact (List.Perm.append_left _ pp).trans perm_mid
        · rw [List.map_cons, List.map_cons, List.zip_cons_cons, List.map_cons]
          simp only [e, if_true]
          exact RpAll.cons (f := []) (hd S H) r
      · refine ⟨fa ++ f1, f2, ?_, ?_⟩
        · rw [List.append_assoc]
          exact List.Perm.append_left _ pp
        · rw [List.map_cons, List.map_cons, List.zip_cons_cons, List.map_cons]
          simp only [e, if_false]
          exact RpAll.cons h1 r
theorem put_ok {a : Addr} {f f0 : List Addr} {kvs : List (Key × V)} {ds : List D} {m n : Nat} {v : V} {d : D} {k : Key} (ha : H a = some (.dK kvs)) (ok : Ok S H (f ++ (a :: f0))) (r : RpAll K S H m (kvs.map (·.2)) ds f0) (h : Rp K S H n v d f)
    (hk : d.imm = true ∨ ((dzip kvs ds).any fun p => p.1.same (kD k)) = false) :
    ∃ S' ff, Step S (f ++ (a :: f0)) H S' (a :: ff) (upd H a (.dK (putK kvs k v))) ∧ Rp K S' (upd H a (.dK (putK kvs k v))) ((if d.imm = true then m else min m n) + 1) (.ref a) (.dic false (dPut (dzip kvs ds) (kD k) d)) (a :: ff) ∧ Ok S' (upd H a (.dK (putK kvs k v))) (a :: ff) := by
  have hl : kvs.length = ds.length := by have := r.length; rwa [List.length_map] at this
  rw [dput_zip (w := v) hl]
  rw [any_zip hl] at hk
  by_cases c : (kvs.any fun kv => decide (kv.1 = k)) = true
  · have hi : d.imm = true := hk.resolve_right (by rw [c]; simp)
    rw [if_pos c, if_pos hi]
    obtain ⟨rfl, hd⟩ := h.imm hi
    obtain ⟨f1, f2, pp, r2⟩ := put_imm (k := k) (v := v) (d := d) (fun S H => hd S H m) r
    have e : putK kvs k v = kvs.map fun kv => if kv.1 = k then (kv.1, v) else kv := by unfold putK; rw [if_pos c]
    rw [← e] at r2
    obtain ⟨w1, w2, w3⟩ := write_okD (h := []) (f1 := f2) ha ok (by
      show (a :: f0).Perm (a :: f1 ++ f2)
      exact List.Perm.cons a pp) (r2.more fun b => Or.inl)
    exact ⟨_, _, w1, w2, w3⟩
  · rw [if_neg c]
    obtain ⟨ff, gg, fx, p, r1, r2⟩ := r.meet h
    have e : putK kvs k v = kvs ++ [(k, v)] := by unfold putK; rw [if_neg c]
    have r3 : RpAll K (fun b => S b ∨ b ∈ fx) H (if d.imm = true then m else min m n) ((putK kvs k v).map (·.2)) (ds ++ [d]) (ff ++ (gg ++ [])) := by
      rw [e, List.map_append]
      exact RpAll.append r1 (.cons r2 (.nil _))
    rw [List.append_nil] at r3
    obtain ⟨w1, w2, w3⟩ := write_okD (h := []) ha ok (by
      show (f ++ (a :: f0)).Perm (a :: (ff ++ gg) ++ fx)
      exact List.perm_append_comm.trans (List.Perm.cons a p)) r3
    exact ⟨_, _, w1, w2, w3⟩
end
section
variable {ct : Str → Addr} {lent : List Bool} {X : Cx} {b : Expr} {gb : M} {pos p : Pos}
theorem sg_dset {k0 : Nat} (hr : Room k0 X.A) {i : Nat} {x : Str} (hb : SE ct X b gb) (hN : X.N[i]? = some x := by rfl) (hv : Vis X.env.scope x := by first | exact Or.inl rfl | exact Or.inr (Or.inl rfl) | exact Or.inr (Or.inr rfl)) (hd : (x == ("__debug__" : Str)) = false := by decide)
    (hcd : (x == ("__classdict__" : Str)) = false := by decide)
    (ha : ∀ v, assign (.Subscript (.Name x p) b pos) X.env v = (do
      let ov ← holding [v] (eval (.Name x p) X.env)
      let iv ← holding [v, ov] (eval b X.env)
      standAt pos
      holding [v, ov, iv] (setItem ov iv v)
      release [v, ov, iv] []) := by intro _; rfl) : SG ct lent X (.Subscript (.Name x p) b pos) (gsetD i gb) := by
  refine ⟨fun W tk => ?_⟩
  obtain ⟨tb, pb, rb⟩ := hb.run W tk
  refine ⟨_, pg_sub (pv i hN hv hd hcd) pb (set_dict (by have := units_of hr; omega)) ha, fun S F H σ ρ xx v f D Q h E ok q G => ?_⟩
  unfold gsetD at G
  cases q0 : look ρ i with
  | none => rw [q0] at G; exact G.elim
  | some pv0 =>
    obtain ⟨m0, d0⟩ := pv0
    obtain ⟨v0, f0', G0, h1, hz0⟩ := E.take q0
    refine ⟨v0, h1, rb S F H σ ρ _ E ok.tail ?_⟩
    rw [q0] at G
    cases qb : gb ρ with
    | no => rw [qb] at G; exact G
    | ex ee ρ1 =>
      rw [qb] at G
      exact fun C d S' F' H' st E' o' hx => G C d σ S' F' H' (st.wide (fun b hb => List.mem_append_right _ hb) fun b hb => .inl hb) E' o' Kp.refl hx
    | ok y o =>
      rw [qb] at G
      intro w S1 F1 H1 g t1 hy E1 k1
      replace G : GoodS X.K ct lent W D S (f ++ F) H σ (match look (now o ρ) i with
        | some (m + 1, .dic false l) => if xx.stable = true ∧ isKey y.d = true ∧ l.length < lim ∧ (xx.d.imm = true ∨ (l.any fun p => p.1.same y.d) = false) then .nx (Vs.put (now o ρ) i (some ((if xx.d.imm = true then m else min m xx.m) + 1, .dic false (dPut l y.d xx.d)))) else .no
        | _ => .no) := G
      split at G
      · rename_i _ m l ql
        split at G
        · rename_i c
          obtain ⟨hs, c2, c3, c4⟩ := c
          obtain ⟨k, hk⟩ := key_of c2
          obtain ⟨rfl, rfl⟩ := hy.key hk
          rw [hk] at G c4
          have hx := (h.step (t1.step.less fun b hb => hb) ok.tail ok.apart hs).stab hs
          obtain ⟨v1, f1, G1, h1', h2, pf, E2⟩ := E1.take ql
          rw [h1] at h1'
          cases h1'
          have k1 : Ok S1 H1 F1 := k1
          have st1 : Step S F H S1 F1 H1 := t1.step
          obtain ⟨aa, kvs, ds, ff0, rfl, rfl, hq, r, z1, z2⟩ := h2.dicK
          obtain ⟨ha, rfl⟩ := z2 (by omega)
          replace r : RpAll X.K S1 H1 m (kvs.map (·.2)) ds ff0 := r
          have k2 : Ok S1 H1 (f ++ ((aa :: ff0) ++ G1)) := (Ok.join st1 ok k1).perm (List.Perm.append_left _ pf)
          have k3 : Ok S1 H1 ((f ++ (aa :: ff0)) ++ G1) := by rw [List.append_assoc]; exact k2
          have hl : kvs.length = ds.length := by have := r.length; rwa [List.length_map] at this
          obtain ⟨S2, ff, w1, w2, w3⟩ := put_ok (k := k) ha k3.head r hx c4
          refine ⟨aa, _, rfl, DPut.k ha ?_, q _ _ ?_⟩
          · have : (dzip kvs ds).length = kvs.length := by unfold dzip; rw [List.length_zip, List.length_map, ← hl, Nat.min_self]
            rw [this, Vs.lim_eq] at c3
            exact c3
          have E3 : EnvRp X.K S2 _ σ (Vs.put (now o ρ) i none) G1 := E2.step w1 k3.head fun b hb z => k3.apart b z hb
          have k4 : Ok S2 _ (G1 ++ (aa :: ff)) := Ok.join w1 (k3.perm List.perm_append_comm) w3
          have st2 : Step S (f ++ F) H S1 (f ++ F1) H1 := st1.wide (fun b hb => List.mem_append_right _ hb) fun b hb => (List.mem_append.mp hb).elim (fun z => .inr (List.mem_append_left _ z)) .inl
          refine G σ S2 ((aa :: ff) ++ G1) _ (st2.trans (w1.wide (fun b hb => ?_) fun b hb => ?_)) (E3.back h1 w2) (k4.perm List.perm_append_comm) Kp.refl
          · rcases List.mem_append.mp hb with z | z
            · exact List.mem_append_left _ z
            · exact List.mem_append_right _ (pf.mem_iff.mpr (List.mem_append_left _ z))
          · rcases List.mem_append.mp hb with z | z
            · exact .inl z
            · exact .inr (List.mem_append_right _ (pf.mem_iff.mpr (List.mem_append_right _ z)))
        · exact G.elim
      · exact G.elim
end
section
variable {ct : Str → Addr} {X : Cx} {a b : Expr} {ga gb : M} {pos : Pos}
theorem s_ddisp (ha : SE ct X a ga) (hb : SE ct X b gb) : SE ct X (.Dict [some a] [b] pos) (ddisp ga gb) := by
  refine ⟨fun W tk => ?_⟩
  obtain ⟨ta, pa, ra⟩ := ha.run W tk
  obtain ⟨tb, pb, rb⟩ := hb.run W tk
  refine ⟨_, pe_disp (pps_cons pa pb pps_nil) rfl rfl (by simp) (by simp), fun S F H σ ρ Q E ok G => fun p hp => ?_⟩
  have sm : Same H (upd H p (.dK [])) := same_upd hp
  unfold ddisp at G
  cases qa : ga ρ with
  | no => rw [qa] at G; exact G.elim
  | ex x ρ1 => rw [qa] at G; exact G.elim
  | ok x o =>
    cases o with
    | some _ => rw [qa] at G; exact G.elim
    | none =>
      cases qb : gb ρ with
      | no => rw [qa, qb] at G; exact G.elim
      | ex y ρ1 => rw [qa, qb] at G; exact G.elim
      | ok y o =>
        cases o with
        | some _ => rw [qa, qb] at G; exact G.elim
        | none =>
          rw [qa, qb] at G
          simp only at G
          split at G
          · rename_i c
            obtain ⟨k, hk⟩ := key_of c.1
            refine ra S F _ σ ρ _ (E.same sm) (ok.same sm) ?_
            rw [qa]
            intro u S1 F1 H1 f1 t1 h1 E1 k1
            obtain ⟨sm1, u1, u2, hF1, n1⟩ := t1
            rw [hF1] at E1 k1
            obtain ⟨rfl, rfl⟩ := h1.key hk
            refine rb S1 F H1 σ ρ _ E1 k1.tail ?_
            rw [qb]
            intro w S2 F2 H2 f2 t2 h2 E2 k2
            obtain ⟨sm2, u3, u4, hF2, n2⟩ := t2
            rw [hF2] at E2 k2
            have hp2 : H2 p = some (.dK []) := sm2 _ _ (sm1 _ _ upd_same)
            have h2 := h2.stab c.2
            refine ⟨hp2, [(k, w)], rfl, by simp, ?_⟩
            have e : mergeK [] [(k, w)] = [(k, w)] := rfl
            rw [e]
            have np2 : p ∉ f2 := fun z => by
              have := n2 p z
              rw [sm1 _ _ upd_same] at this
              cases this
            have nF : p ∉ F := fun z => ok.mem z hp
            have nS : ¬ S2 p := fun z => by
              rcases u4 p z with z | z
              · rcases u2 p z with z | z
                · exact ok.tr p z hp
                · rw [upd_same] at z; cases z
              · rw [sm1 _ _ upd_same] at z; cases z
            have k3 : Ok S2 H2 (p :: (f2 ++ F)) := by
              refine ⟨List.nodup_cons.mpr ⟨fun z => ?_, k2.nd⟩, fun b hb => ?_, fun b hb => ?_, k2.tr⟩
              · rcases List.mem_append.mp z with z | z
                · exact np2 z
                · exact nF z
              · rcases List.mem_cons.mp hb with rfl | z
                · rw [hp2]; trivial
                · exact k2.mu b z
              · rcases List.mem_cons.mp hb with rfl | z
                · exact nS
                · exact k2.ns b z
            have k4 : Ok S2 H2 (p :: f2) := by
              have : Ok S2 H2 ((p :: f2) ++ F) := k3
              exact this.head
            have hy : ∃ n, RpAll X.K S2 H2 n ([(k, w)].map (·.2)) [y.d] f2 ∧ n = (if y.d.imm = true then 0 else y.m) := by
              by_cases hi : y.d.imm = true
              · obtain ⟨rfl, q⟩ := h2.imm hi
                exact ⟨0, .cons (f := []) (q _ _ _) (.nil _), by rw [if_pos hi]⟩
              · exact ⟨y.m, by simpa using RpAll.cons h2 (.nil _), by rw [if_neg hi]⟩
            obtain ⟨n, hy, hn⟩ := hy
            rw [← hn] at G
            obtain ⟨w1, w2, w3⟩ := write_okD (G := (p :: f2) ++ F) (h := F) (f1 := []) hp2 k3 (by
              rw [List.append_nil]
              exact List.perm_append_comm) (hy.more fun b => Or.inl)
            have same2 : ∀ b o, H b = some o → (upd H2 p (.dK [(k, w)])) b = some o := fun b o q => by
              rw [upd_ne (by intro z; subst z; rw [hp] at q; cases q)]
              exact sm2 _ _ (sm1 _ _ (sm b o q))
            have noneH : ∀ b, (upd H p (.dK [])) b = none → H b = none := fun b q => by
              cases z : H b with
              | none => rfl
              | some o => rw [sm b o z] at q; cases q
            have noneH1 : ∀ b, H1 b = none → H b = none := fun b q => by
              cases z : H b with
              | none => rfl
              | some o => rw [sm1 _ _ (sm b o z)] at q; cases q
            refine G (.ref p) (fun b => S2 b ∨ b ∈ ([] : List Addr)) F _ (p :: f2) ⟨same2, fun b hb => .inl (u3 b (u1 b hb)), fun b hb => ?_, rfl, fun b hb => ?_⟩ (by rw [VOk.own, hk]; exact w2) ?_ ?_
            · rcases hb with hb | hb
              · rcases u4 b hb with z | z
                · rcases u2 b z with z | z
                  · exact .inl z
                  · exact .inr (noneH b z)
                · exact .inr (noneH1 b z)
              · cases hb
            · rcases List.mem_cons.mp hb with rfl | z
              · exact hp
              · exact noneH1 b (n2 b z)
            · show EnvRp X.K _ _ σ ρ F
              exact E2.step (w1.less (F'' := []) (by simp) |> fun _ => (⟨fun b o e hb => by rw [upd_ne (by intro z; subst z; exact hb (List.mem_cons_self ..))]; exact e, fun b => Or.inl, fun b hb => .inl hb, fun b hb => hb.elim .inl fun z => by cases z⟩ : Step S2 [p] H2 (fun b => S2 b ∨ b ∈ ([] : List Addr)) [p] _)) ⟨by simp, fun b hb => by rw [List.mem_singleton.mp hb, hp2]; trivial, fun b hb => by rw [List.mem_singleton.mp hb]; exact nS, k2.tr⟩ fun b hb z => nF (by rw [← List.mem_singleton.mp z]; exact hb)
            · exact w3.perm List.perm_append_comm
          · exact G.elim
end
end Vs
set_option maxHeartbeats 4000000
/-! Vs: dicts with tuples of numbers and texts as keys. -/
namespace Vs
open PySem PySem.Spec PyProof.Rows L2
theorem sameAll_kD : ∀ {a b : List Key}, sameAll (a.map kD) (b.map kD) = decide (a = b)
  | [], [] => by simp [sameAll]
  | [], _ :: _ => by simp [sameAll]
  | _ :: _, [] => by simp [sameAll]
  | x :: a, y :: b => by
    rw [List.map_cons, List.map_cons, sameAll, same_kD, sameAll_kD]
    by_cases e : x = y <;> by_cases e' : a = b <;> simp [e, e']
theorem same_tD {a b : List Key} : D.same (tD a) (tD b) = decide (a = b) := by
  unfold tD
  rw [D.same]
  exact sameAll_kD
/-- what a dict's keys and values are, as a list -/
abbrev tzip (kvs : List (List Key × V)) (ds : List D) : List (D × D) := (kvs.map fun p => tD p.1).zip ds
theorem tlook_zip {k : List Key} : ∀ {kvs : List (List Key × V)} {ds : List D}, kvs.length = ds.length →
    (dLook (tzip kvs ds) (tD k) = none ∧ valV kvs k = none) ∨ ∃ (i : Nat) (w : V) (d : D), dLook (tzip kvs ds) (tD k) = some d ∧ valV kvs k = some w ∧ (kvs.map (·.2))[i]? = some w ∧ ds[i]? = some d
  | [], [], _ => .inl ⟨rfl, rfl⟩
  | [], _ :: _, h => by simp at h
  | _ :: _, [], h => by simp at h
  | (k', w) :: kvs, d :: ds, h => by
    have h' : kvs.length = ds.length := by simpa using h
    by_cases e : k' = k
    · refine .inr ⟨0, w, d, ?_, valV_pos e, rfl, rfl⟩
      unfold dLook tzip
      simp [List.find?_cons, same_tD, e]
    · have e1 : dLook (tzip ((k', w) :: kvs) (d :: ds)) (tD k) = dLook (tzip kvs ds) (tD k) := by
        unfold dLook tzip
        simp [List.find?_cons, same_tD, e]
      rcases tlook_zip (k := k) h' with ⟨a, b⟩ | ⟨i, w', d', a, b, c, c'⟩
      · exact .inl ⟨e1.trans a, (valV_neg e).trans b⟩
      · exact .inr ⟨i + 1, w', d', e1.trans a, (valV_neg e).trans b, by simpa using c, by simpa using c'⟩
theorem tput_zip {k : List Key} {w : V} {d : D} : ∀ {kvs : List (List Key × V)} {ds : List D}, kvs.length = ds.length →
    dPut (tzip kvs ds) (tD k) d = (if (kvs.any fun kv => decide (kv.1 = k)) = true then tzip (putK kvs k w) ((kvs.zip ds).map fun q => if q.1.1 = k then d else q.2) else tzip (putK kvs k w) (ds ++ [d])) := by
  intro kvs ds h
  have e0 : (tzip kvs ds).any (fun p => p.1.same (tD k)) = kvs.any fun kv => decide (kv.1 = k) := by
    induction kvs generalizing ds with
    | nil => cases ds <;> rfl
    | cons p kvs ih =>
      cases ds with
      | nil => simp at h
      | cons d' ds =>
        have := ih (ds := ds) (by simpa using h)
        unfold tzip at this ⊢
        rw [List.map_cons, List.zip_cons_cons, List.any_cons, this, List.any_cons, same_tD]
  unfold dPut putK
  rw [e0]
  by_cases c : (kvs.any fun kv => decide (kv.1 = k)) = true
  · rw [if_pos c, if_pos c, if_pos c]
    clear c e0
    induction kvs generalizing ds with
    | nil => cases ds <;> rfl
    | cons p kvs ih =>
      cases ds with
      | nil => simp at h
      | cons d' ds =>
        have := ih (ds := ds) (by simpa using h)
        unfold tzip at this ⊢
        rw [List.map_cons, List.zip_cons_cons, List.map_cons, this, List.map_cons, List.map_cons, List.zip_cons_cons, List.map_cons, List.zip_cons_cons, same_tD]
        by_cases e : p.1 = k
        · simp [e]
        · simp [e]
  · rw [if_neg c, if_neg c, if_neg c]
    unfold tzip
    rw [List.map_append, List.zip_append (by simpa using h)]
    rfl
section
variable {K : PySem.W.Frag} {S S' : Addr → Prop} {H : Hp}
theorem Rp.dicT {m : Nat} {v : V} {l : List (D × D)} {g : List Addr} (h : Rp K S H m v (.dic true l) g) :
    ∃ (a : Addr) (kvs : List (List Key × V)) (ds : List D) (g' : List Addr), v = .ref a ∧ l = tzip kvs ds ∧ H a = some (.dT kvs) ∧ RpAll K S H (m - 1) (kvs.map (·.2)) ds g' ∧ (m = 0 → g = [] ∧ g' = []) ∧ (m ≠ 0 → g = a :: g') := by
  generalize hd : D.dic true l = d at h
  cases h with
  | dk0 q s r => cases (D.dic.inj hd).1
  | dk1 q r => cases (D.dic.inj hd).1
  | dt0 q s r =>
    obtain ⟨_, rfl⟩ := D.dic.inj hd
    exact ⟨_, _, _, _, rfl, rfl, q, r, fun _ => ⟨rfl, rfl⟩, fun z => absurd rfl z⟩
  | dt1 q r =>
    obtain ⟨_, rfl⟩ := D.dic.inj hd
    exact ⟨_, _, _, _, rfl, rfl, q, r, fun z => (nomatch z), fun _ => rfl⟩
  | _ => cases hd
theorem RpAll.keys {m : Nat} : ∀ {xs : List V} {ds : List D} {f : List Addr}, RpAll K S H m xs ds f → ds.all isKey = true → ∃ k : List Key, xs = k.map kV ∧ ds = k.map kD ∧ f = []
  | _, _, _, .nil _, _ => ⟨[], rfl, rfl, rfl⟩
  | _, _, _, .cons (d := d) h t, e => by
    rw [List.all_cons, Bool.and_eq_true] at e
    obtain ⟨k, rfl, rfl, rfl⟩ := RpAll.keys t e.2
    obtain ⟨k0, rfl⟩ := key_of e.1
    cases k0 with
    | inl i => cases h; exact ⟨.inl i :: k, rfl, rfl, rfl⟩
    | inr z => cases h; exact ⟨.inr z :: k, rfl, rfl, rfl⟩
theorem VOk.keyT {y : VV} {u : V} {g : List Addr} (h : VOk K S H y u g) (e : isKeyT y = true) : ∃ (b : Addr) (k : List Key), y.d = tD k ∧ u = .ref b ∧ H b = some (.tup (k.map kV)) ∧ g = [] := by
  obtain ⟨gx, hr⟩ := h.rp
  obtain ⟨yb, m, d⟩ := y
  unfold isKeyT at e
  have hg : d.imm = false → True := fun _ => trivial
  cases d with
  | tup ds =>
    have fin : ∀ {a : Addr} {xs : List V} {m' : Nat} {f : List Addr}, u = .ref a → H a = some (.tup xs) → RpAll K S H m' xs ds f → f = gx → ∃ (b : Addr) (k : List Key), D.tup ds = tD k ∧ u = .ref b ∧ H b = some (.tup (k.map kV)) ∧ gx = [] := fun hu ha r hf => by
      obtain ⟨k, rfl, rfl, rfl⟩ := r.keys e
      exact ⟨_, k, rfl, hu, ha, hf.symm⟩
    have hk : ∃ (b : Addr) (k : List Key), D.tup ds = tD k ∧ u = .ref b ∧ H b = some (.tup (k.map kV)) ∧ gx = [] := by
      cases hr with
      | tup0 ha r => exact fin rfl ha r rfl
      | tup1 ha r => exact fin rfl ha r rfl
    obtain ⟨b, k, h1, h2, h3, h4⟩ := hk
    refine ⟨b, k, h1, h2, h3, ?_⟩
    cases yb with
    | false =>
      rw [VOk.own] at h
      subst h2
      cases h with
      | tup0 ha r => rfl
      | tup1 ha r =>
        obtain ⟨_, _, _, hf⟩ := r.keys e
        exact hf
    | true =>
      rw [VOk.bor] at h
      exact h.1
  | _ => cases e
theorem kIxT_op : Op2 K rGetD kIxT := fun S H x v f y u g z Q h1 h2 ok e hQ => by
  unfold kIxT at e
  split at e
  · rename_i l el
    split at e
    · rename_i c
      obtain ⟨bk, k, hk, rfl, hbk, rfl⟩ := h2.keyT c.2
      rw [hk] at e
      obtain ⟨gx, hr⟩ := h1.rp
      rw [el] at hr
      obtain ⟨a, kvs, ds, g', rfl, rfl, hq, ra, z1, z2⟩ := hr.dicT
      have hl : kvs.length = ds.length := by have := ra.length; rwa [List.length_map] at this
      rcases tlook_zip (k := k) hl with ⟨e1, _⟩ | ⟨i, w, d, e1, e2, e3, e4⟩
      · rw [e1] at e; cases e
      · rw [e1] at e
        obtain rfl := Option.some.inj e
        refine ⟨a, w, rfl, .inr ⟨kvs, k, bk, .inl hq, rfl, hbk, e2.symm⟩, ?_⟩
        obtain ⟨w', g1, gw, g2, f1, f2, f3, _⟩ := ra.at e4
        rw [e3] at f1
        cases f1
        refine hQ w H S [] ⟨Same.refl _, fun _ z => z, fun _ => .inl, by simp⟩ ?_ ok.nil
        obtain ⟨xb, xm, xd⟩ := x
        by_cases hm : xm - 1 = 0
        · rw [show sub ⟨xb, xm, xd⟩ d = ⟨false, 0, d⟩ by unfold sub; simp [hm]]
          rw [VOk.own]
          replace f3 : Rp K S H (xm - 1) w d gw := f3
          rw [hm] at f3
          have := f3.own0
          subst this
          exact f3
        · have hb : xb = true := c.1.resolve_right (by show ¬ xm = 0; omega)
          subst hb
          rw [show sub ⟨true, xm, xd⟩ d = ⟨true, xm - 1, d⟩ by unfold sub; simp [hm]]
          rw [VOk.bor]
          exact ⟨rfl, gw, f3⟩
    · cases e
  · cases e
theorem dic_hasT {y : VV} {u : V} {g : List Addr} {l : List (D × D)} {k : List Key} {b : Addr} (h : VOk K S H y u g) (e : y.d = .dic true l) (hb : H b = some (.tup (k.map kV))) : ∃ a o, u = V.ref a ∧ DGet H a (.ref b) o ∧ o.isSome = (dLook l (tD k)).isSome := by
  obtain ⟨gx, hr⟩ := h.rp
  rw [e] at hr
  obtain ⟨a, kvs, ds, g', rfl, rfl, hq, ra, z1, z2⟩ := hr.dicT
  have hl : kvs.length = ds.length := by have := ra.length; rwa [List.length_map] at this
  refine ⟨a, valV kvs k, rfl, .inr ⟨kvs, k, b, .inl hq, rfl, hb, rfl⟩, ?_⟩
  rcases tlook_zip (k := k) hl with ⟨e1, e2⟩ | ⟨i, w, d, e1, e2, _⟩
  · rw [e1, e2]; rfl
  · rw [e1, e2]; rfl
theorem kInT_op : Op2 K rInDc kInT := fun S H x v f y u g z Q h1 h2 ok e hQ => by
  unfold kInT at e
  split at e
  · rename_i l el
    split at e
    · rename_i c
      obtain rfl := Option.some.inj e
      obtain ⟨bk, k, hk, rfl, hbk, rfl⟩ := h1.keyT c
      obtain ⟨a, o, rfl, d, q⟩ := dic_hasT (k := k) h2 el hbk
      rw [hk, ← q] at hQ
      exact ⟨a, o, rfl, d, ret_imm ok rfl (.bl _ _) hQ⟩
    · cases e
  · cases e
theorem kNotInT_op : Op2 K rNotInDc kNotInT := fun S H x v f y u g z Q h1 h2 ok e hQ => by
  unfold kNotInT at e
  split at e
  · rename_i l el
    split at e
    · rename_i c
      obtain rfl := Option.some.inj e
      obtain ⟨bk, k, hk, rfl, hbk, rfl⟩ := h1.keyT c
      obtain ⟨a, o, rfl, d, q⟩ := dic_hasT (k := k) h2 el hbk
      rw [hk, ← q] at hQ
      exact ⟨a, o, rfl, d, ret_imm ok rfl (.bl _ _) hQ⟩
    · cases e
  · cases e
/-- an item is put into a dict of a slot -/
theorem write_okT {a : Addr} {f1 ff h G : List Addr} {kvs : List (List Key × V)} {ds : List D} {n : Nat} {zs : List (List Key × V)} (ha : H a = some (.dT zs)) (ok : Ok S H G) (p : G.Perm ((h ++ (a :: ff)) ++ f1)) (r : RpAll K (fun b => S b ∨ b ∈ f1) H n (kvs.map (·.2)) ds ff) :
    Step S G H (fun b => S b ∨ b ∈ f1) (h ++ (a :: ff)) (upd H a (.dT kvs)) ∧ Rp K (fun b => S b ∨ b ∈ f1) (upd H a (.dT kvs)) (n + 1) (.ref a) (.dic true (tzip kvs ds)) (a :: ff) ∧ Ok (fun b => S b ∨ b ∈ f1) (upd H a (.dT kvs)) (h ++ (a :: ff)) := by
  have k := split_ok ok p
  have ka : Ok (fun b => S b ∨ b ∈ f1) H (a :: ff) := k.tail
  have nS : ¬ (S a ∨ a ∈ f1) := ka.ns a (List.mem_cons_self ..)
  have nf : a ∉ ff := (List.nodup_cons.mp ka.nd).1
  have hg : a ∈ G := p.mem_iff.mpr (List.mem_append_left _ (List.mem_append_right _ (List.mem_cons_self ..)))
  refine ⟨⟨fun b o e hb => by rw [upd_ne fun z => hb (by rw [z]; exact hg)]; exact e, fun _ => .inl, fun b hb => .inl (p.mem_iff.mpr (List.mem_append_left _ hb)), fun b hb => hb.imp id fun z => .inl (p.mem_iff.mpr (List.mem_append_right _ z))⟩, ?_, k.wr trivial (by rw [ha]; simp)⟩
  exact .dt1 upd_same (r.wr (by rw [ha]; trivial) nS nf)
end
section
variable {ct : Str → Addr} {X : Cx} {a b : Expr} {ga gb : M} {pos : Pos}
theorem s_dnewT : SE ct X (.Dict [] [] pos) dnewT := ⟨fun W tk => ⟨_, pe_dnewT, fun S F H σ ρ Q E ok G => fun p hp =>
  G (.ref p) S F _ [p] ⟨same_upd hp, fun _ z => z, fun _ => .inl, rfl, by simp [hp]⟩ (by rw [VOk.own]; exact .dt1 (ds := []) upd_same (.nil _)) (E.same (same_upd hp)) (new_okp ok hp trivial)⟩⟩
theorem s_tget {k : Nat} (hr : Room k X.A) (ha : SE ct X a ga) (hb : SE ct X b gb) (hs : NoSl b) : SE ct X (.Subscript a b pos) (two ga gb kIxT) := run_two ha hb (fun pa pb => pe_dget (by have := units_of hr; omega) pa pb hs) kIxT_op
theorem s_tin {k : Nat} (hr : Room k X.A) (ha : SE ct X a ga) (hb : SE ct X b gb) (hm : behindInMarks .In b = false := by with_unfolding_all rfl) : SE ct X (.Compare a [.In] [b] pos) (two ga gb kInT) := s_cmp (op_dIn (by have := units_of hr; omega)) kInT_op hm ha hb
theorem s_tnotin {k : Nat} (hr : Room k X.A) (ha : SE ct X a ga) (hb : SE ct X b gb) (hm : behindInMarks .NotIn b = false := by with_unfolding_all rfl) : SE ct X (.Compare a [.NotIn] [b] pos) (two ga gb kNotInT) := s_cmp (op_dNotIn (by have := units_of hr; omega)) kNotInT_op hm ha hb
theorem t_tin {k : Nat} (hr : Room k X.A) (ha : SE ct X a ga) (hb : SE ct X b gb) (hm : behindInMarks .In b = false := by with_unfolding_all rfl) : ST ct X (.Compare a [.In] [b] pos) (tst (two ga gb kInT) blOf) := t_cmp (op_dIn (by have := units_of hr; omega)) kInT_op hm ha hb
theorem t_tnotin {k : Nat} (hr : Room k X.A) (ha : SE ct X a ga) (hb : SE ct X b gb) (hm : behindInMarks .NotIn b = false := by with_unfolding_all rfl) : ST ct X (.Compare a [.NotIn] [b] pos) (tst (two ga gb kNotInT) blOf) := t_cmp (op_dNotIn (by have := units_of hr; omega)) kNotInT_op hm ha hb
end
section
variable {K : PySem.W.Frag} {S S' : Addr → Prop} {H : Hp}
theorem tany_zip {k : List Key} : ∀ {kvs : List (List Key × V)} {ds : List D}, kvs.length = ds.length → (tzip kvs ds).any (fun p => p.1.same (tD k)) = kvs.any fun kv => decide (kv.1 = k)
  | [], [], _ => rfl
  | [], _ :: _, h => by simp at h
  | _ :: _, [], h => by simp at h
  | p :: kvs, d' :: ds, h => by
    have := tany_zip (k := k) (kvs := kvs) (ds := ds) (by simpa using h)
    unfold tzip at this ⊢
    rw [List.map_cons, List.zip_cons_cons, List.any_cons, this, List.any_cons, same_tD]
theorem tput_imm {k : List Key} {v : V} {d : D} {m : Nat} (hd : ∀ S H, Rp K S H m v d []) : ∀ {kvs : List (List Key × V)} {ds : List D} {f : List Addr}, RpAll K S H m (kvs.map (·.2)) ds f →
    ∃ f1 f2, f.Perm (f1 ++ f2) ∧ RpAll K S H m ((kvs.map fun kv => if kv.1 = k then (kv.1, v) else kv).map (·.2)) ((kvs.zip ds).map fun q => if q.1.1 = k then d else q.2) f1
  | [], ds, f, h => by
    cases h
    exact ⟨[], [], .refl _, .nil _⟩
  | p :: kvs, ds, f, h => by
    cases h with
    | cons h1 h2 =>
      rename_i d' fa ds' g
      obtain ⟨f1, f2, pp, r⟩ := tput_imm hd h2
      by_cases e : p.1 = k
      · refine ⟨f1, fa ++ f2, ?_, ?_⟩
        · exact (List.Perm.append_left _ pp).trans perm_mid
        · rw [List.map_cons, List.map_cons, List.zip_cons_cons, List.map_cons]
          simp only [e, if_true]
          exact RpAll.cons (f := []) (hd S H) r
      · refine ⟨fa ++ f1, f2, ?_, ?_⟩
        · rw [List.append_assoc]
          exact List.Perm.append_left _ pp
        · rw [List.map_cons, List.map_cons, List.zip_cons_cons, List.map_cons]
          simp only [e, if_false]
          exact RpAll.cons h1 r
theorem tput_ok {a : Addr} {f f0 : List Addr} {kvs : List (List Key × V)} {ds : List D} {m n : Nat} {v : V} {d : D} {k : List Key} (ha : H a = some (.dT kvs)) (ok : Ok S H (f ++ (a :: f0))) (r : RpAll K S H m (kvs.map (·.2)) ds f0) (h : Rp K S H n v d f)
    (hk : d.imm = true ∨ ((tzip kvs ds).any fun p => p.1.same (tD k)) = false) :
    ∃ S' ff, Step S (f ++ (a :: f0)) H S' (a :: ff) (upd H a (.dT (putK kvs k v))) ∧ Rp K S' (upd H a (.dT (putK kvs k v))) ((if d.imm = true then m else min m n) + 1) (.ref a) (.dic true (dPut (tzip kvs ds) (tD k) d)) (a :: ff) ∧ Ok S' (upd H a (.dT (putK kvs k v))) (a :: ff) := by
  have hl : kvs.length = ds.length := by have := r.length; rwa [List.length_map] at this
  rw [tput_zip (w := v) hl]
  rw [tany_zip hl] at hk
  by_cases c : (kvs.any fun kv => decide (kv.1 = k)) = true
  · have hi : d.imm = true := hk.resolve_right (by rw [c]; simp)
    rw [if_pos c, if_pos hi]
    obtain ⟨rfl, hd⟩ := h.imm hi
    obtain ⟨f1, f2, pp, r2⟩ := tput_imm (k := k) (v := v) (d := d) (fun S H => hd S H m) r
    have e : putK kvs k v = kvs.map fun kv => if kv.1 = k then (kv.1, v) else kv := by unfold putK; rw [if_pos c]
    rw [← e] at r2
    obtain ⟨w1, w2, w3⟩ := write_okT (h := []) (f1 := f2) ha ok (by
      show (a :: f0).Perm (a :: f1 ++ f2)
      exact List.Perm.cons a pp) (r2.more fun b => Or.inl)
    exact ⟨_, _, w1, w2, w3⟩
  · rw [if_neg c]
    obtain ⟨ff, gg, fx, p, r1, r2⟩ := r.meet h
    have e : putK kvs k v = kvs ++ [(k, v)] := by unfold putK; rw [if_neg c]
    have r3 : RpAll K (fun b => S b ∨ b ∈ fx) H (if d.imm = true then m else min m n) ((putK kvs k v).map (·.2)) (ds ++ [d]) (ff ++ (gg ++ [])) := by
      rw [e, List.map_append]
      exact RpAll.append r1 (.cons r2 (.nil _))
    rw [List.append_nil] at r3
    obtain ⟨w1, w2, w3⟩ := write_okT (h := []) ha ok (by
      show (f ++ (a :: f0)).Perm (a :: (ff ++ gg) ++ fx)
      exact List.perm_append_comm.trans (List.Perm.cons a p)) r3
    exact ⟨_, _, w1, w2, w3⟩
end
section
variable {ct : Str → Addr} {lent : List Bool} {X : Cx} {b : Expr} {gb : M} {pos p : Pos}
theorem sg_tset {k0 : Nat} (hr : Room k0 X.A) {i : Nat} {x : Str} (hb : SE ct X b gb) (hN : X.N[i]? = some x := by rfl) (hv : Vis X.env.scope x := by first | exact Or.inl rfl | exact Or.inr (Or.inl rfl) | exact Or.inr (Or.inr rfl)) (hd : (x == ("__debug__" : Str)) = false := by decide)
    (hcd : (x == ("__classdict__" : Str)) = false := by decide)
    (ha : ∀ v, assign (.Subscript (.Name x p) b pos) X.env v = (do
      let ov ← holding [v] (eval (.Name x p) X.env)
      let iv ← holding [v, ov] (eval b X.env)
      standAt pos
      holding [v, ov, iv] (setItem ov iv v)
      release [v, ov, iv] []) := by intro _; rfl) : SG ct lent X (.Subscript (.Name x p) b pos) (gsetT i gb) := by
  refine ⟨fun W tk => ?_⟩
  obtain ⟨tb, pb, rb⟩ := hb.run W tk
  refine ⟨_, pg_sub (pv i hN hv hd hcd) pb (set_dict (by have := units_of hr; omega)) ha, fun S F H σ ρ xx v f D Q h E ok q G => ?_⟩
  unfold gsetT at G
  cases q0 : look ρ i with
  | none => rw [q0] at G; exact G.elim
  | some pv0 =>
    obtain ⟨m0, d0⟩ := pv0
    obtain ⟨v0, f0', G0, h1, hz0⟩ := E.take q0
    refine ⟨v0, h1, rb S F H σ ρ _ E ok.tail ?_⟩
    rw [q0] at G
    cases qb : gb ρ with
    | no => rw [qb] at G; exact G
    | ex ee ρ1 =>
      rw [qb] at G
      exact fun C d S' F' H' st E' o' hx => G C d σ S' F' H' (st.wide (fun b hb => List.mem_append_right _ hb) fun b hb => .inl hb) E' o' Kp.refl hx
    | ok y o =>
      rw [qb] at G
      intro w S1 F1 H1 g t1 hy E1 k1
      replace G : GoodS X.K ct lent W D S (f ++ F) H σ (match look (now o ρ) i with
        | some (m + 1, .dic true l) => if xx.stable = true ∧ isKeyT y = true ∧ l.length < lim ∧ (xx.d.imm = true ∨ (l.any fun p => p.1.same y.d) = false) then .nx (Vs.put (now o ρ) i (some ((if xx.d.imm = true then m else min m xx.m) + 1, .dic true (dPut l y.d xx.d)))) else .no
        | _ => .no) := G
      split at G
      · rename_i _ m l ql
        split at G
        · rename_i c
          obtain ⟨hs, c2, c3, c4⟩ := c
          obtain ⟨bk, k, hk, rfl, hbk, rfl⟩ := hy.keyT c2
          rw [hk] at G c4
          have hx := (h.step (t1.step.less fun b hb => hb) ok.tail ok.apart hs).stab hs
          obtain ⟨v1, f1, G1, h1', h2, pf, E2⟩ := E1.take ql
          rw [h1] at h1'
          cases h1'
          have k1 : Ok S1 H1 F1 := k1
          have st1 : Step S F H S1 F1 H1 := t1.step
          obtain ⟨aa, kvs, ds, ff0, rfl, rfl, hq, r, z1, z2⟩ := h2.dicT
          obtain rfl := z2 (by omega)
          have ha := hq
          replace r : RpAll X.K S1 H1 m (kvs.map (·.2)) ds ff0 := r
          have k2 : Ok S1 H1 (f ++ ((aa :: ff0) ++ G1)) := (Ok.join st1 ok k1).perm (List.Perm.append_left _ pf)
          have k3 : Ok S1 H1 ((f ++ (aa :: ff0)) ++ G1) := by rw [List.append_assoc]; exact k2
          have hl : kvs.length = ds.length := by have := r.length; rwa [List.length_map] at this
          obtain ⟨S2, ff, w1, w2, w3⟩ := tput_ok (k := k) ha k3.head r hx c4
          refine ⟨aa, _, rfl, DPut.t ha hbk ?_, q _ _ ?_⟩
          · have : (tzip kvs ds).length = kvs.length := by unfold tzip; rw [List.length_zip, List.length_map, ← hl, Nat.min_self]
            rw [this, Vs.lim_eq] at c3
            exact c3
          have E3 : EnvRp X.K S2 _ σ (Vs.put (now o ρ) i none) G1 := E2.step w1 k3.head fun b hb z => k3.apart b z hb
          have k4 : Ok S2 _ (G1 ++ (aa :: ff)) := Ok.join w1 (k3.perm List.perm_append_comm) w3
          have st2 : Step S (f ++ F) H S1 (f ++ F1) H1 := st1.wide (fun b hb => List.mem_append_right _ hb) fun b hb => (List.mem_append.mp hb).elim (fun z => .inr (List.mem_append_left _ z)) .inl
          refine G σ S2 ((aa :: ff) ++ G1) _ (st2.trans (w1.wide (fun b hb => ?_) fun b hb => ?_)) (E3.back h1 w2) (k4.perm List.perm_append_comm) Kp.refl
          · rcases List.mem_append.mp hb with z | z
            · exact List.mem_append_left _ z
            · exact List.mem_append_right _ (pf.mem_iff.mpr (List.mem_append_left _ z))
          · rcases List.mem_append.mp hb with z | z
            · exact .inl z
            · exact .inr (List.mem_append_right _ (pf.mem_iff.mpr (List.mem_append_right _ z)))
        · exact G.elim
      · exact G.elim
end
section
variable {K : PySem.W.Frag}
theorem kDivmod_op : OpN K (fun xs H Q => ∃ i j, xs = [V.int i, V.int j] ∧ CDiv i j ∧ ∀ p, H p = none → Q (.ref p) (upd H p (.tup [.int (i / j), .int (i % j)]))) kDivmod := fun S H xs vs f z Q h ok e hQ => by
  unfold kDivmod at e
  split at e
  · rename_i x y
    split at e
    · rename_i i j e1 e2
      split at e
      · rename_i c
        obtain rfl := Option.some.inj e
        obtain ⟨v, w, f1, f2, rfl, rfl, h1, h2⟩ := h.two
        refine ⟨i, j, by rw [h1.int e1, h2.int e2], c, fun p hp => ?_⟩
        exact ret_tup (S' := S) (g := []) ok (fun _ z => z) (fun _ => .inl) ok.nil (by simp) (RpAll.cons (f := []) (g := []) (.int 0 _) (RpAll.cons (f := []) (g := []) (.int 0 _) (.nil 0))) hQ p hp
      · cases e
    · cases e
  · cases e
end
section
variable {ct : Str → Addr} {X : Cx} {a : Expr} {ga : M} {pos : Pos}
theorem s_slcE {lo hi : Option Expr} {gl gh : Option M} {p2 : Pos} (ha : SE ct X a ga) (hl : SO ct X lo (part gl)) (hh : SO ct X hi (part gh)) : SE ct X (.Subscript a (.Slice lo hi none p2) pos) (slcE ga gl gh) := by
  refine ⟨fun W tk => ?_⟩
  obtain ⟨ta, pa, ra⟩ := ha.run W tk
  obtain ⟨tl, pl, rl⟩ := hl.run W tk
  obtain ⟨th, ph, rh⟩ := hh.run W tk
  refine ⟨_, pe_slice sl_list pa pl ph, fun S F H σ ρ Q E ok G => ra S F H σ ρ _ E ok ?_⟩
  unfold slcE at G
  refine good_bind G fun x o1 v S1 F1 H1 f _ t1 h1 E1 k1 G => ?_
  refine rl S1 F1 H1 σ _ _ E1 k1.tail ?_
  have none_of : ∀ {β : Type} {r : R (Option Int)} {kk : Option Int → R β}, (∃ a o, r = .ok a (some o)) → (r.nxt false kk) = .no := by
    rintro β r kk ⟨a, o, rfl⟩
    rfl
  cases ql : part gl (now o1 ρ) with
  | no => rw [ql] at G; exact G
  | ex x ρ1 =>
    rw [ql] at G
    intro C d S2 F2 H2 st E2 k2 hx
    exact G C d S2 F2 H2 ((t1.step.less fun b hb => List.mem_append_right _ hb).trans st) E2 k2 hx
  | ok l ol =>
    rw [ql] at G
    cases ol with
    | some _ => exact G.elim
    | none =>
      intro l' S2 F2 H2 f2 t2 hl2 E2 k2
      obtain ⟨rfl, rfl⟩ := hl2
      obtain ⟨e2, w2, w2', rfl, _⟩ := id t2
      have h2 := (h1.same e2).more w2
      have k2' : Ok S2 H2 (f ++ F2) := Ok.join (t2.step.less fun b hb => hb) k1 k2
      refine rh S2 F2 H2 σ _ _ E2 k2 ?_
      replace G : Good X.K ct (VOk X.K) W S F H σ ρ ((((part gh (now o1 ρ)).nxt x.stable fun u => .ofO (kSl x l u)).aft none).aft o1) Q := G
      rw [R.aft_none] at G
      show Good X.K ct _ W S2 F2 H2 σ (now o1 ρ) (part gh (now o1 ρ)) _
      cases qh : part gh (now o1 ρ) with
      | no => rw [qh] at G; exact G
      | ex x ρ1 =>
        rw [qh] at G
        intro C d S3 F3 H3 st E3 k3 hx
        exact G C d S3 F3 H3 ((t1.step.less fun b hb => List.mem_append_right _ hb).trans (t2.step.trans st)) E3 k3 hx
      | ok u oh =>
        rw [qh, R.nxt_ok] at G
        intro u' S3 F3 H3 f3 t3 hl3 E3 k3
        obtain ⟨rfl, rfl⟩ := hl3
        split at G
        · rename_i hs
          have h3 : VOk X.K S3 H3 x v f := by
            cases oh with
            | none =>
              obtain ⟨e3, w3, w3', rfl, _⟩ := id t3
              exact (h2.same e3).more w3
            | some _ => exact h2.step (t3.step.less fun b hb => hb) k2'.tail k2'.apart (by simpa using hs)
          have k3' : Ok S3 H3 (f ++ F3) := by
            have := Fit.both k2' t3 k3
            rwa [List.append_nil] at this
          have ea : ((R.ofO (kSl x l u)).aft oh).aft o1 = (R.ofO (kSl x l u)).aft (Vs.thn o1 oh) := aft_aft _ _ _
          rw [ea] at G
          have t13 : Fit (Vs.thn o1 oh) S F H S3 F3 f H3 := by
            have a1 := t1.thn k1 (o' := none) t2 (h := f) (fun b hb => .inl hb) (Same.refl _)
            have a2 := a1.thn k2' t3 (h := f) (fun b hb => .inl hb) (Same.refl _)
            exact a2
          have en : now (Vs.thn o1 oh) ρ = now oh (now o1 ρ) := by cases oh <;> rfl
          rw [← en] at E3
          refine fin_rule (g := f) (F2 := F3) (S2 := S3) (t := fun Q => rSlL X.K v l u H3 Q) t13 E3 k3' (fun z hz Q hq => ?_) G
          unfold kSl at hz
          split at hz
          · rename_i ds el
            split at hz
            · rename_i c
              obtain rfl := Option.some.inj hz
              obtain ⟨b1, m1, d1⟩ := x
              obtain rfl : d1 = .lst ds := el
              obtain ⟨a, xs, S4, rfl, q1, u1, u2, r1, k4⟩ := opn (F := []) h3 (by rw [List.append_nil]; exact k3'.head) c
              refine ⟨a, xs, rfl, q1, fun p hp => ?_⟩
              have rc : RpAll X.K S4 H3 0 (cutV xs l u) (cutD ds l u) [] := by
                unfold cutV cutD
                rw [six_eq, six_eq, r1.length]
                exact ((r1.cut0 _).2.cut0 _).1
              exact ret_lst k3'.head u1 u2 k4 (by simp) rc hq p hp
            · cases hz
          · cases hz
        · exact G.elim
end
end Vs
set_option maxHeartbeats 4000000
namespace Vs
open PySem PySem.Spec PyProof.Rows L2
section
variable {X : Cx}
/-- keys as they stand, each a tuple of whole numbers -/
def rSortDT : List V → Hp → VK → Prop := fun vs H Q => ∃ (a : Addr) (kvs : List (List Key × V)) (ns : List (List Int)), vs = [V.ref a] ∧ Rd H a (.dT kvs) ∧ kvs.map (·.1) = ns.map (fun n => n.map Sum.inl) ∧ (∀ n ∈ ns, n ≠ []) ∧
  ∀ (ps : List (V × List Int)) (q : Addr), ps.map (·.2) = ns → (∀ p ∈ ps, ∃ b, p.1 = V.ref b ∧ H b = some (.tup (p.2.map V.int))) → H q = none → Q (.ref q) (upd H q (.lst ((ps.mergeSort fun p q => decide (p.2 ≤ q.2)).map (·.1))))
theorem dataLe_trows {β : Type} (x : β → List Int) : PySem.W.dataLe false (fun b => .tuple ((x b).map .int)) = fun p q => decide (x p ≤ x q) := by
  rw [← PySem.W.dataLe_rows x]
  funext p q
  rw [PySem.W.dataLe_eq, PySem.W.dataLe_eq]
  show (!PySem.W.dataLt (.tuple ((x q).map .int)) (.tuple ((x p).map .int))) = (!PySem.W.dataLt (.list ((x q).map .int)) (.list ((x p).map .int)))
  rw [PySem.W.dataLt_tuple, PySem.W.dataLt_list]
theorem reads_tup {h : Heap} {u : Value} {ns : List Int} {as : List Addr} (r : Reads h u (.tuple (ns.map .int)) as) : as = [] := by
  have all : ∀ {ns : List Int} {vs : List Value} {as : List Addr}, ReadsAll h vs (ns.map PyData.int) as → as = [] := by
    intro ns
    induction ns with
    | nil => intro vs as r; cases r; rfl
    | cons n ns ih =>
      intro vs as r
      cases r with
      | cons a b =>
        cases a
        rw [ih b]
        rfl
  cases r with
  | tuple _ _ _ q => exact all q
theorem dp_ints {K : PySem.W.Frag} {H : Hp} : ∀ ns : List Int, DpAll K H (ns.map V.int) (ns.map PyData.int)
  | [] => .nil
  | n :: ns => .cons (.int n) (dp_ints ns)
theorem kt_ps {H : Hp} : ∀ {kvs : List (List Key × V)} {xs : List (List Key × Addr × Value)} {ns : List (List Int)}, KT H kvs xs → kvs.map (·.1) = ns.map (fun n => n.map Sum.inl) →
    ∀ p ∈ (xs.map fun x => V.ref x.2.1).zip ns, ∃ b, p.1 = V.ref b ∧ H b = some (.tup (p.2.map V.int)) := by
  intro kvs xs ns h
  induction h generalizing ns with
  | nil => intro _ p hp; simp at hp
  | @cons p q ps qs hq t ih =>
    intro e x hx
    cases ns with
    | nil => simp at e
    | cons n ns =>
      rw [List.map_cons, List.map_cons] at e
      obtain ⟨e1, e2⟩ := List.cons.inj e
      rw [List.map_cons, List.zip_cons_cons] at hx
      rcases List.mem_cons.mp hx with rfl | hx
      · refine ⟨q.2.1, rfl, ?_⟩
        have := hq.2.1
        rw [e1, List.map_map] at this
        exact this
      · exact ih e2 x hx
theorem vals_refs : ∀ xs : List (List Key × Addr × Value), Vals (xs.map fun x => V.ref x.2.1) (xs.map fun x => Value.ref x.2.1)
  | [] => .nil
  | x :: xs => .cons rfl (vals_refs xs)
theorem call_sortDT (hcalm : X.calm = true) (hu : X.A.units + 65 < cLine) : CallR X (.builtin "sorted") rSortDT := by
  intro pins s σ H vs us Q I r h
  obtain ⟨a, kvs, ns, rfl, hd, hks, hne, q⟩ := h
  rw [Vals.ref1 r]
  obtain ⟨z, lo, xs, rel, dd⟩ := dt_rd I.hok hd
  obtain ⟨o, es, ep, ho, hc, hdat, he, his, hnd⟩ := dd
  have raw : s.heap.DictRaw a es ep := ⟨o, ho, hc, hdat⟩
  have hxl : kvs.length = xs.length := Paired.length rel
  have hes : es.size = xs.length := by rw [← Array.length_toList, he, List.length_map]
  have hnl : ns.length = xs.length := by rw [← hxl, ← List.length_map (f := fun n : List Int => n.map Sum.inl) (as := ns) (β := List Key), ← hks, List.length_map]
  refine Calls.call_function_entry PyProof.Rows.kind_sorted PyProof.Rows.plain_sorted PyProof.Rows.entry_sorted (PyProof.Rows.args_sorted1 _) ?_
  unfold Builtin.«sorted»
  refine wpAny_bind (m := checkCount "sorted" 1 1 _) (wpAny_pure ?_)
  refine wpAny_bind (PySem.W.kdu_collect (A := X.A.in1) (KdlSrc.rawDict lo) (I.ok.hd hcalm) raw (by rw [hes, ← hxl]; exact z) fun h' tk acc hk hacc => ?_)
  have hal : acc.toList.length = xs.length := by rw [Array.length_toList, hacc.1, hes]
  have hv : acc.toList = xs.map fun x => Value.ref x.2.1 := by
    apply List.ext_getElem?
    intro j
    by_cases hj : j < xs.length
    · have ej : j < es.size := by rw [hes]; exact hj
      have aj : j < acc.size := by rw [hacc.1]; exact ej
      obtain ⟨hi, hk2⟩ := hacc.2 j acc[j] (Array.getElem?_eq_getElem aj)
      have e1 : es[j] = entryOfKey (tupleKind (mixKind X.prog X.w)) xs[j] := by
        have := congrArg (fun l => l[j]?) he
        simp only [Array.getElem?_toList, List.getElem?_map, Array.getElem?_eq_getElem ej, List.getElem?_eq_getElem hj, Option.map_some] at this
        exact Option.some.inj this
      rw [Array.getElem?_toList, Array.getElem?_eq_getElem aj, List.getElem?_map, List.getElem?_eq_getElem hj, hk2, e1]
      rfl
    · rw [List.getElem?_eq_none (by omega), List.getElem?_eq_none (by rw [List.length_map]; omega)]
  obtain ⟨ps, hps⟩ : ∃ ps, ps = (xs.map fun x => V.ref x.2.1).zip ns := ⟨_, rfl⟩
  have hp1 : ps.map (·.1) = xs.map fun x => V.ref x.2.1 := by rw [hps]; exact List.map_fst_zip (by rw [List.length_map, hnl]; exact Nat.le_refl _)
  have hp2 : ps.map (·.2) = ns := by rw [hps]; exact List.map_snd_zip (by rw [List.length_map, hnl]; exact Nat.le_refl _)
  have hpa : ∀ p ∈ ps, ∃ b, p.1 = V.ref b ∧ H b = some (.tup (p.2.map V.int)) := by rw [hps]; exact kt_ps rel hks
  have hpl : ps.length = xs.length := by rw [← List.length_map (f := fun p : V × List Int => p.1), hp1, List.length_map]
  have I1 : L2.Inv X pins σ H { s with heap := h', toks := tk } := I.kept hk
  refine wpAny_bind (wpAny_newList ?_ (by rw [hal, ← hxl]; exact z))
  have hoL : (h'.push (seqObj "list" acc.toList.toArray 0)).get? h'.objs.size = some (seqObj "list" acc.toList.toArray 0) := Heap.get?_push_size _ rfl
  show wpAny _ _ _ _ _ { s with heap := h'.push (seqObj "list" acc.toList.toArray 0), toks := tk }
  have rvv : Vals (ps.map (·.1)) acc.toList := by rw [hp1, hv]; exact vals_refs xs
  have e := each_of (R := fun u p => RelV p.1 u) rvv fun p _ u r => r
  have er := each_of (R := fun u p => ∃ as, Reads (h'.push (seqObj "list" acc.toList.toArray 0)) u (PyData.tuple (p.2.map .int)) as ∧ h'.objs.size ∉ as) rvv fun p hp u r => by
    obtain ⟨b, eb, hb⟩ := hpa p hp
    have dp : Dp X.K H p.1 (.tuple (p.2.map .int)) := by rw [eb]; exact .tup (.inl (.inl hb)) (dp_ints _)
    obtain ⟨as, rd⟩ := dp.reads I1 _ _ _ r
    have rd := PyProof.Rows.Reads.keeps (h' := h'.push (seqObj "list" acc.toList.toArray 0)) (fun b o e => Heap.get?_push_of_some _ e) rd
    obtain rfl := reads_tup rd
    exact ⟨[], rd, by simp⟩
  refine wpAny_bind (wpAny_holding (PySem.W.list_sort_data (A := X.A.in1) (enc := fun p : V × List Int => PyData.tuple (p.2.map .int)) hoL e er (PySem.W.AllAlike.of fun _ _ => ?_) (.inl fun d hd => by
    obtain ⟨p, hp, rfl⟩ := List.mem_map.mp hd
    have := hne p.2 (by rw [← hp2]; exact List.mem_map_of_mem hp)
    cases q : p.2 with
    | nil => exact absurd q this
    | cons x r => exact ⟨_, _, by rw [List.map_cons]⟩) (by rw [hpl, ← hxl]; exact z) (fun b _ => ?_) fun out ho eo => ?_))
  · simp only [PySem.W.alike]; exact alike_ints _ _
  · have : (PyData.tuple (b.2.map .int)).depth ≤ 1 := by
      have : ∀ ns : List Int, PyData.depthAll (ns.map .int) ≤ 0 := by
        intro ns
        induction ns with
        | nil => simp [PyData.depthAll]
        | cons n ns ih => simp only [List.map_cons, PyData.depthAll, PyData.depth]; omega
      have := this b.2
      simp only [PyData.depth]
      omega
    show X.A.units + 1 + 1 + _ < cLine
    omega
  · rw [dataLe_trows (fun p : V × List Int => p.2)] at eo
    obtain ⟨e', he'⟩ := PyProof.Rows.sortedHeap_at (vs := acc.toList) (out := List.toArray out) hoL
    have hlen : ((ps.mergeSort fun p q => decide (p.2 ≤ q.2)).map (·.1)).length ≤ sizeLine := by rw [List.length_map, List.length_mergeSort, hpl, ← hxl]; exact z
    refine wpAny_pure ⟨_, rfl, .ref h'.objs.size, upd H h'.objs.size (.lst ((ps.mergeSort fun p q => decide (p.2 ≤ q.2)).map (·.1))), I1.laid (t' := tk) (fun b u e => ?_) (Nat.le_refl _)
      (show ObjOk X.prog X.w _ _ _ (.lst _) from ⟨hlen, out, e', vals_each eo, he'⟩), rfl, q ps _ hp2 hpa (I1.hok.fresh (Nat.le_refl _))⟩
    have hb : b < h'.objs.size := Heap.lt_size e
    rw [PyProof.Rows.sortedHeap_old (Nat.ne_of_lt hb) (by rw [Heap.size_push]; exact Nat.lt_succ_of_lt hb)]
    exact Heap.get?_push_of_some _ e
end
section
variable {K : PySem.W.Frag}
theorem keysI_is : ∀ {kvs : List (List Key × V)} {ds : List D} {ns : List (List Int)}, kvs.length = ds.length → keysI (tzip kvs ds) = some ns → kvs.map (·.1) = ns.map (fun n => n.map Sum.inl)
  | [], ds, ns, _, h => by
    have h : some [] = some ns := h
    cases h
    rfl
  | p :: kvs, [], ns, hl, _ => by simp at hl
  | p :: kvs, d :: ds, ns, hl, h => by
    have h : ((intsOf (p.1.map kD)).bind fun ks => (keysI (tzip kvs ds)).map (ks :: ·)) = some ns := h
    cases q : intsOf (p.1.map kD) with
    | none => rw [q] at h; cases h
    | some ks =>
      rw [q, Option.bind_some] at h
      cases q2 : keysI (tzip kvs ds) with
      | none => rw [q2] at h; cases h
      | some ns2 =>
        rw [q2] at h
        cases h
        have e1 : p.1 = ks.map Sum.inl := by
          have : ∀ {k : List Key} {ks : List Int}, intsOf (k.map kD) = some ks → k = ks.map Sum.inl := by
            intro k
            induction k with
            | nil => intro ks h; cases h; rfl
            | cons x k ih =>
              intro ks h
              cases x with
              | inl i =>
                have h : (intsOf (k.map kD)).map (i :: ·) = some ks := h
                cases q : intsOf (k.map kD) with
                | none => rw [q] at h; cases h
                | some ks2 =>
                  rw [q] at h
                  cases h
                  rw [ih q]
                  rfl
              | inr z => cases h
          exact this q
        rw [List.map_cons, List.map_cons, e1, keysI_is (by simpa using hl) q2]
theorem rp_ints {S : Addr → Prop} {H : Hp} : ∀ ns : List Int, RpAll K S H 0 (ns.map V.int) (dints ns) []
  | [] => .nil _
  | n :: ns => .cons (f := []) (g := []) (.int 0 n) (rp_ints ns)
theorem rp_tups {S : Addr → Prop} {H : Hp} : ∀ {ps : List (V × List Int)}, (∀ p ∈ ps, ∃ b, p.1 = V.ref b ∧ H b = some (.tup (p.2.map V.int))) → RpAll K S H 0 (ps.map (·.1)) ((ps.map (·.2)).map fun n => .tup (dints n)) []
  | [], _ => .nil _
  | p :: ps, h => by
    obtain ⟨b, e, hb⟩ := h p (List.mem_cons_self ..)
    refine .cons (f := []) (g := []) ?_ (rp_tups fun q hq => h q (List.mem_cons_of_mem _ hq))
    show Rp K S H 0 p.1 (.tup (dints p.2)) []
    rw [e]
    exact .tup0 hb (rp_ints _)
theorem kSdtL_op : OpN K rSortDT kSdtL := by
  refine opn_one (fun xs z e => ?_) fun S H x v f z Q h ok e hQ => ?_
  · match xs, e with
    | [x], _ => exact ⟨x, rfl⟩
    | [], e => cases e
    | _ :: _ :: _, e => cases e
  · replace e : kSdt x = some z := e
    unfold kSdt at e
    split at e
    · rename_i l el
      cases q : keysI l with
      | none => rw [q] at e; cases e
      | some ns =>
        rw [q, Option.bind_some] at e
        split at e
        · rename_i c
          obtain rfl := Option.some.inj e
          obtain ⟨g, hr⟩ := h.rp
          obtain ⟨xb, xm, xd⟩ := x
          obtain rfl : xd = .dic true l := el
          obtain ⟨a, kvs, ds, g', rfl, rfl, hq, r, _, _⟩ := Rp.dicT hr
          have hl : kvs.length = ds.length := by have := r.length; rwa [List.length_map] at this
          refine ⟨a, kvs, ns, rfl, .inl hq, keysI_is hl q, fun n hn e => ?_, fun ps p hp2 hpa hp => ?_⟩
          · have := List.all_eq_true.mp c.2 n hn
            rw [e] at this
            cases this
          · have hm : (ps.mergeSort fun p q => decide (p.2 ≤ q.2)).map (·.2) = (ps.map (·.2)).mergeSort fun p q => decide (p ≤ q) := List.map_mergeSort fun _ _ _ _ => rfl
            have hs := rp_tups (K := K) (S := S) (H := H) (ps := ps.mergeSort fun p q => decide (p.2 ≤ q.2)) fun p hp => hpa p ((List.mergeSort_perm _ _).mem_iff.mp hp)
            rw [hm, hp2] at hs
            exact ret_lst ok (fun _ z => z) (fun _ => .inl) ok.nil (by simp) hs hQ p hp
        · cases e
    · cases e
end
end Vs
set_option maxHeartbeats 4000000
/-! {tuple(..): v for .. in ..}: keys fresh tuples, values without a place, turns that change nothing -/
namespace Vs
open PySem (Str PyData)
def dcL (own : List Nat) (g : MG) (cs : MT) (ek ev : M) : List D → Env → List (D × D) → Option (List (D × D))
  | [], _, acc => some acc
  | d :: ds, ρ, acc => match g ⟨false, 0, d⟩ ρ with
    | .nx ρ1 => (match cs ρ1 with
      | .ok false none => dcL own g cs ek ev ds ρ acc
      | .ok true none => (match ek ρ1 with
        | .ok y none => (match ev ρ1 with
          | .ok w none => if isKeyT y = true ∧ w.d.imm = true ∧ acc.length < lim then dcL own g cs ek ev ds ρ (dPut acc y.d w.d) else none
          | _ => none)
        | _ => none)
      | _ => none)
    | _ => none
def dcT (i : MI) (g : MG) (cs : MT) (ek ev : M) (own : List Nat) : M := fun ρ => (i ρ).bind ρ fun ds ρ1 => .ofO ((dcL own g cs ek ev ds (wipeE own ρ1) []).map fun ps => ⟨false, 1, .dic true ps⟩)
@[simp] theorem e_dcT {i : MI} {g : MG} {cs : MT} {ek ev : M} {own : List Nat} {ρ : Env} : dcT i g cs ek ev own ρ = (i ρ).bind ρ fun ds ρ1 => .ofO ((dcL own g cs ek ev ds (wipeE own ρ1) []).map fun ps => ⟨false, 1, .dic true ps⟩) := (rfl)
theorem dcL_nil {own : List Nat} {g : MG} {cs : MT} {ek ev : M} {ρ : Env} {acc : List (D × D)} : dcL own g cs ek ev [] ρ acc = some acc := rfl
/-- every turn gives one pair -/
theorem dcL_map {α : Type} {own : List Nat} {g : MG} {ek ev : M} {f : α → D} {k w : α → D} : ∀ (xs : List α) (ρ : Env) (acc : List (D × D)), acc.length + xs.length ≤ lim →
    (∀ x ∈ xs, ∃ ρ1 b m c n, g ⟨false, 0, f x⟩ ρ = .nx ρ1 ∧ ek ρ1 = .ok ⟨b, m, k x⟩ none ∧ isKeyT ⟨b, m, k x⟩ = true ∧ ev ρ1 = .ok ⟨c, n, w x⟩ none ∧ (w x).imm = true) →
    dcL own g yes ek ev (xs.map f) ρ acc = some (xs.foldl (fun a x => dPut a (k x) (w x)) acc)
  | [], ρ, acc, _, _ => rfl
  | x :: xs, ρ, acc, hl, h => by
    obtain ⟨ρ1, b, m, c, n, h1, h2, h3, h4, h5⟩ := h x (List.mem_cons_self ..)
    have hp : (dPut acc (k x) (w x)).length ≤ acc.length + 1 := by
      unfold dPut
      split
      · rw [List.length_map]; omega
      · rw [List.length_append]; exact Nat.le_refl _
    rw [List.length_cons] at hl
    rw [List.map_cons, dcL, h1]
    show (match yes ρ1 with | _ => _) = _
    simp only [yes, R.pu, h2, h4, h3, h5]
    rw [if_pos ⟨trivial, trivial, by omega⟩]
    exact dcL_map xs ρ _ (by omega) fun y hy => h y (List.mem_cons_of_mem _ hy)
end Vs
set_option maxHeartbeats 4000000
/-! dict comprehensions whose keys are fresh tuples, after the pattern of HandS.DictComp (which has keys that are ints or texts) -/
namespace VsT
open PySem PySem.Spec PyProof.Rows L2
section
variable {X : Cx} {pins : List (Addr × Obj)} {σ : L2.St} {H H' : Hp} {s : Shared} {E : Value → Shared → Prop} {D : Addr} {y v : V} {u r : Value}
/-- a pair of a comprehension, its key a tuple -/
theorem put_tup {Q : Unit → Shared → Prop} {kvs : List (List Key × V)} {k : List Key} {b : Addr} (hu : X.A.units + 1 < cLine) (I : Inv X pins σ H s) (e : H D = some (.dT kvs)) (eb : H b = some (.tup (k.map kV))) (l : kvs.length < sizeLine) (rv : RelV v r)
    (h : ∀ s', Inv X pins σ (upd H D (.dT (putK kvs k v))) s' → Q () s') : wpAny (model X.prog X.w) X.A (dictSet D (.ref b) r) Q E s := by
  obtain ⟨z, hd, xs, rel, dd⟩ := dt_of I.hok e
  have hz : xs.length ≤ sizeLine := by rw [← Paired.length rel]; exact z
  have hl : (putK kvs k v).length ≤ sizeLine := by have := length_putK kvs k v; omega
  refine wpAny_dictSet_heap (hsz := hz) (show X.A.units < cLine by omega) (L2.key_of I.hok eb) dd fun h' dd' hs => h _ ?_
  obtain ⟨q, es, ep, hq, h2, h3, h4, _, h5⟩ := dd'
  refine d_write I (by rw [e]; exact True.intro) hs ⟨q, hq⟩ ⟨hl, hd, _, (rel.put k eb rv).keeps fun c ys ec => ?_, q, es, ep, hq, h2, h3, h4, h5⟩
  rw [upd_ne (ne_of ec e (fun z => nomatch z))]
  exact ec
end
section
variable {X : Cx}
/-- {k: v for target in iter if ..}, the keys tuples; D is the new dict -/
def tTdc (wi : TI) (g : TG) (tt : TT) (tk tv : TE) (vs : List Nat) : TE := fun σ H Q => wi σ H fun J H1 => ∀ D, H1 D = none → ∃ W : Nat → Nat → Hp → Prop, (∃ m, W 0 m (upd H1 D (.dT []))) ∧ ∀ i m H, W i m H →
  (J.stop i H ∧ Q (.ref D) H) ∨ (J.go i H ∧ ∃ Nx : Hp → Prop, (∀ H', Nx H' → ∃ m', m' < m ∧ W (i + 1) m' H') ∧ ∀ x H', J.yld i H x H' → g x (L2.wipe σ vs) H' fun σ2 H2 => L2.wipe σ2 vs = L2.wipe σ vs ∧ tt σ2 H2 fun b H3 =>
    if b = true then tk σ2 H3 fun y H4 => tv σ2 H4 fun z H5 => ∃ kvs k a, y = .ref a ∧ H5 a = some (.tup (k.map kV)) ∧ H5 D = some (.dT kvs) ∧ kvs.length < sizeLine ∧ Nx (upd H5 D (.dT (putK kvs k z))) else Nx H3)
abbrev Blk (X : Cx) (scope : Scope) (s : Shared) (H : Hp) (C : Addr) (cl : List (Str × Addr)) (fp : List Addr) : Cx := X.blk s H scope (compEnvC scope cl C X.env) fp
/-- the comprehension, whatever is done with the dict; `use`: a name takes it in the same breath -/
theorem tdc_core {pins : List (Addr × Obj)} {s : Shared} {σ : L2.St} {H : Hp} {Q : VK} {kx vx tg iter : Expr} {ifs : List Expr} {scope : Scope} {own : List (Str × Nat)} {pos pos' : Pos} {wi : TI} {g : TG} {tt : TT} {tk tv : TE} {use : Option (Value → Sem Unit)} {Qf : Value → Shared → Prop}
    (hu : X.A.units + 1 < cLine) (hc : X.calm = true) (hN : X.N.Nodup) (I : L2.Inv X pins σ H s) (hi : PI X tg iter wi) (ok : BlkOk X.N X.env.scope scope own)
    (hg : ∀ s H C cl fp, PG (Blk X scope s H C cl fp) tg g) (ht : ∀ s H C cl fp, PTs (Blk X scope s H C cl fp) ifs tt) (hk : ∀ s H C cl fp, PE (Blk X scope s H C cl fp) kx tk) (he : ∀ s H C cl fp, PE (Blk X scope s H C cl fp) vx tv)
    (hs : ∀ x, foldedSetIterable iter X.env x = pure x) (h : tTdc wi g tt tk tv (own.map (·.2)) σ H Q)
    (done : ∀ D C s' m H', L2.Inv X pins σ H' s' → Q (.ref D) H' → s'.heap.Ns C m → FpOk X pins H' C → compPost (model X.prog X.w) X.A X.xe use Qf (.ref D) C (.ok .next) s') :
    wpAny (model X.prog X.w) X.A (comprehension (.DictComp kx vx [⟨tg, iter, ifs, 0⟩] scope pos) scope X.env pos' newDict false (eval iter X.env) use) Qf X.xe s := by
  have free : ∀ y ∈ scope.names, y.2 = .free → ∃ c, X.env.cells.lookup y.1 = some c := fun y hy e => (ok.free y hy e).elim (fun k => I.ok.has _ (.inl k)) fun k => I.ok.has _ (.inr k)
  refine wpAny_comprehension_free (use := use) rfl hs (closure_ok free) ok.kind (fun y hy e => by rw [ok.uniq y hy, e]) (thn (hi.run pins s σ H _ I h) fun xv s1 hx => thn hx fun itv s2 h2 => ?_)
  obtain ⟨it, fp, tn, J, H2, rfl, I2, T, st2, f2, q⟩ := h2
  refine wpAny_newObj_type (newEnv_comp ?_)
  -- the dict itself
  obtain ⟨D, hD⟩ : ∃ D, s2.heap.objs.size = D := ⟨_, rfl⟩
  have nD : H2 D = none := I2.hok.fresh (Nat.le_of_eq hD)
  obtain ⟨W, ⟨m0, w0⟩, turn⟩ := q D nD
  rw [hD]
  obtain ⟨s3, h3⟩ : ∃ s3 : Shared, s3 = { s2 with heap := s2.heap.push { cls := .type "dict", data := .dict #[] } } := ⟨_, rfl⟩
  have e3 : s3.heap = s2.heap.push { cls := .type "dict", data := .dict #[] } := by rw [h3]
  have I3 : Inv X pins σ (upd H2 D (.dT [])) s3 := by
    rw [h3, ← hD]
    exact I2.laid (t' := s2.toks) (fun b o e => Heap.get?_push_of_some _ e) (Nat.le_refl _) (dt_empty s2.heap I2.big)
  have f3 : ∀ b ∈ fp, FpOk X pins (upd H2 D (.dT [])) b ∧ b < s3.heap.objs.size := fun b hb => by
    obtain ⟨o, eo, _⟩ := T.obj _ _ st2 b hb
    have lt := Heap.lt_size eo
    refine ⟨⟨by rw [upd_ne (by rw [← hD]; exact Nat.ne_of_lt lt)]; exact (f2 b hb).1, (f2 b hb).2⟩, ?_⟩
    rw [e3, Heap.size_push]
    exact Nat.lt_succ_of_lt lt
  have st3 : tn 0 s3.heap := T.keep _ _ _ st2 fun b _ o e => by rw [e3]; exact Heap.get?_push_of_some _ e
  have I4 := block_start I3 ok hN f3
  -- the block's scope
  have pg := hg s3 (upd H2 D (.dT [])) s3.heap.objs.size (cellsFrom (s3.heap.objs.size + 1) scope.names (cloFrom X.env.cells scope.names [])) fp
  have pt := ht s3 (upd H2 D (.dT [])) s3.heap.objs.size (cellsFrom (s3.heap.objs.size + 1) scope.names (cloFrom X.env.cells scope.names [])) fp
  have pk := hk s3 (upd H2 D (.dT [])) s3.heap.objs.size (cellsFrom (s3.heap.objs.size + 1) scope.names (cloFrom X.env.cells scope.names [])) fp
  have pe := he s3 (upd H2 D (.dT [])) s3.heap.objs.size (cellsFrom (s3.heap.objs.size + 1) scope.names (cloFrom X.env.cells scope.names [])) fp
  unfold Blk at pg pt pk pe
  rw [← h3]
  show codeAny _ _ (.compStart _ 0 (.ref it) (.ref D) (compEnvC scope (cellsFrom (s3.heap.objs.size + 1) scope.names (cloFrom X.env.cells scope.names [])) s3.heap.objs.size X.env)) (compPost _ _ _ use _ (.ref D) s3.heap.objs.size) { s3 with heap := pushCells (s3.heap.push { cls := .type "dict", data := .dict #[] }) scope.names }
  generalize hce : compEnvC scope (cellsFrom (s3.heap.objs.size + 1) scope.names (cloFrom X.env.cells scope.names [])) s3.heap.objs.size X.env = ce at I4 pg pt pk pe ⊢
  have cL : ce.locals = s3.heap.objs.size := by rw [← hce]; rfl
  generalize hH3 : upd H2 D (.dT []) = H3 at I3 I4 pg pt pk pe w0 f3
  generalize hs4 : ({ s3 with heap := pushCells (s3.heap.push { cls := .type "dict", data := .dict #[] }) scope.names } : Shared) = s4 at I4 ⊢
  have st4 : tn 0 s4.heap := T.keep _ _ _ st3 fun b _ o e => by rw [← hs4]; exact pushCells_keeps _ _ _ _ (Heap.get?_push_of_some _ e)
  have fpok : ∀ {σ' : L2.St} {H' : Hp} {s' : Shared}, Inv (X.blk s3 H3 scope ce fp) [] σ' H' s' → (∀ b ∈ fp, H' b = none) → ∀ b ∈ fp, FpOk (X.blk s3 H3 scope ce fp) [] H' b := fun I' hn b hb =>
    ⟨hn b hb, (I'.ok.exf b hb).1, I'.ok.exfs b hb, .inl hb, fun x c e => (I'.ok.exf b hb).2 x c e, fun p hp => by cases hp⟩
  have loop : codeAny (model X.prog X.w) X.A (.compLoop (.DictComp kx vx [⟨tg, iter, ifs, 0⟩] scope pos) 0 (.ref it) (.ref D) ce) (compPost (model X.prog X.w) X.A X.xe use Qf (.ref D) s3.heap.objs.size) s4 := by
    refine compLoop_anyD (fun n s' => ∃ i H', Inv (X.blk s3 H3 scope ce fp) [] (wipe σ (own.map (·.2))) H' s' ∧ tn i s'.heap ∧ (∀ b ∈ fp, H' b = none) ∧ W i n H') ?_ m0 ⟨0, H3, I4, st4, fun b hb => (f3 b hb).1.1, w0⟩
    rintro n s5 ⟨i, H5, I5, st5, n5, w5⟩
    rcases turn i n H5 w5 with ⟨stop, fin⟩ | ⟨go, Nx, next, step⟩
    · -- nothing more
      refine thnF (T.done (X.blk s3 H3 scope ce fp) rfl rfl rfl hc i [] s5 _ H5 (fun _ _ => False) I5 (fpok I5 n5) st5 stop) fun r s6 ⟨hr, I6⟩ => ?_
      subst hr
      have back : Inv X pins σ H5 s6 := I3.call' (ch := fp) I6.os I6.base I6.hok I6.bare fun b hb => ⟨(f3 b hb).1.2.2.2.1, (f3 b hb).1.2.1, (f3 b hb).1.2.2.2.2.1, (f3 b hb).1.2.2.2.2.2⟩
      have nC : H5 s3.heap.objs.size = none := by rw [← cL]; exact I6.free
      obtain ⟨m, hn, _⟩ := I6.loc
      have hn : s6.heap.Ns ce.locals m := hn
      rw [cL] at hn
      exact done D s3.heap.objs.size s6 m H5 back fin hn (I3.fpOk (Nat.le_refl _) nC)
    · -- one more pair
      refine thnF (T.item (X.blk s3 H3 scope ce fp) rfl rfl rfl hc i [] s5 _ H5 (fun _ _ => False) I5 (fpok I5 n5) st5 go) fun r s6 ⟨u, hr, h6⟩ => ?_
      subst hr
      refine thnF h6 fun _ s7 ⟨x, H7, I7, r7, y7, st7, n7⟩ => ?_
      refine thnF (pg.run _ s7 _ H7 x u _ (I7.pinned (fpok I7 n7) (T.obj _ _ st7)) r7 (step x H7 y7)) fun _ s8 ⟨σ8, H8, I8, hw8, q8⟩ => ?_
      have again : ∀ {s' : Shared} {H' : Hp}, Inv (X.blk s3 H3 scope ce fp) ([] ++ pinsAt fp s7.heap) σ8 H' s' → Nx H' → ∃ m, m < n ∧ ∃ i H', Inv (X.blk s3 H3 scope ce fp) [] (wipe σ (own.map (·.2))) H' s' ∧ tn i s'.heap ∧ (∀ b ∈ fp, H' b = none) ∧ W i m H' := fun {s' H'} I' nx => by
        obtain ⟨m', lt, w'⟩ := next H' nx
        have stay : ∀ b ∈ fp, ∀ o, s7.heap.get? b = some o → s'.heap.get? b = some o ∧ H' b = none := fun b hb o e =>
          ⟨(I'.pin (b, o) (List.mem_append_right _ (List.mem_append_right _ (mem_pinsAt hb e)))).1, (I'.pin (b, o) (List.mem_append_right _ (List.mem_append_right _ (mem_pinsAt hb e)))).2.1⟩
        refine ⟨m', lt, i + 1, H', (I'.unpinned (pins := [])).weak (by rw [← hw8, wipe_length]) (fun j v e => ?_), T.keep _ _ _ st7 fun b hb o e => (stay b hb o e).1, fun b hb => ?_, w'⟩
        · rw [← hw8] at e
          exact (wipe_some e).1
        · obtain ⟨o, e, _⟩ := T.obj _ _ st7 b hb
          exact (stay b hb o e).2
      refine thnF (pt.run _ s8 σ8 H8 _ I8 q8) fun b s9 ⟨H9, I9, q9⟩ => ?_
      cases b with
      | false =>
        simp only [Bool.false_eq_true, if_false] at q9 ⊢
        exact again I9 q9
      | true =>
        simp only [if_true] at q9 ⊢
        refine thnF (pk.run _ s9 σ8 H9 _ I9 q9) fun z s10 ⟨yk, H10, I10, r10, q10⟩ => ?_
        refine thnF (pe.run _ s10 σ8 H10 _ I10 q10) fun z2 s11 ⟨yv, H11, I11, r11, kvs, k, a, ek, ea, eD, lt, nx⟩ => ?_
        subst ek
        cases (show z = Value.ref a from r10)
        exact put_tup (X := X.blk s3 H3 scope ce fp) hu I11 eD ea lt r11 fun s12 I12 => again I12 nx
  exact codeAny_compStart_dict loop (T.self X.A 0 _ _ _ st4 loop)
/-- as a value -/
theorem pe_tdc {kx vx tg iter : Expr} {ifs : List Expr} {scope : Scope} {own : List (Str × Nat)} {pos : Pos} {wi : TI} {g : TG} {tt : TT} {tk tv : TE} (hu : X.A.units + 1 < cLine) (hc : X.calm = true) (hN : X.N.Nodup) (hi : PI X tg iter wi) (ok : BlkOk X.N X.env.scope scope own)
    (hg : ∀ s H C cl fp, PG (Blk X scope s H C cl fp) tg g) (ht : ∀ s H C cl fp, PTs (Blk X scope s H C cl fp) ifs tt) (hk : ∀ s H C cl fp, PE (Blk X scope s H C cl fp) kx tk) (he : ∀ s H C cl fp, PE (Blk X scope s H C cl fp) vx tv)
    (hs : ∀ x, foldedSetIterable iter X.env x = pure x := by intro _; rfl) : PE X (.DictComp kx vx [⟨tg, iter, ifs, 0⟩] scope pos) (tTdc wi g tt tk tv (own.map (·.2))) := by
  refine ⟨fun pins s σ H Q I h => ?_⟩
  rw [arm_eval_DictComp]
  refine tdc_core hu hc hN I hi ok hg ht hk he hs h fun D C s' m H' I' q hn f => ⟨m, hn, fun h'' sb => ?_⟩
  obtain ⟨g0, g1, g2, g3, g4, g5⟩ := f
  exact ⟨.ref D, H', I'.turned (t' := s'.toks) (fun b o hb e => (sb.2 b hb).trans e) g0 g1 g3 g4 g5, rfl, q⟩
/-- y = {..}, y a local name on the same line -/
theorem ps_setTdc {i : Nat} {y : Str} {py : Pos} {kx vx tg iter : Expr} {ifs : List Expr} {scope : Scope} {own : List (Str × Nat)} {pos spos : Pos} {wi : TI} {g : TG} {tt : TT} {tk tv : TE} (hu : X.A.units + 1 < cLine) (hc : X.calm = true) (hN : X.N.Nodup) (hy : X.N[i]? = some y) (hyl : X.env.scope.names.lookup y = some .local)
    (hsw : swapsWith (.DictComp kx vx [⟨tg, iter, ifs, 0⟩] scope pos) (some (.Name y py)) spos.line X.env = pure true) (hi : PI X tg iter wi) (ok : BlkOk X.N X.env.scope scope own)
    (hg : ∀ s H C cl fp, PG (Blk X scope s H C cl fp) tg g) (ht : ∀ s H C cl fp, PTs (Blk X scope s H C cl fp) ifs tt) (hk : ∀ s H C cl fp, PE (Blk X scope s H C cl fp) kx tk) (he : ∀ s H C cl fp, PE (Blk X scope s H C cl fp) vx tv)
    (hs : ∀ x, foldedSetIterable iter X.env x = pure x := by intro _; rfl) : PS X (.Assign [.Name y py] (.DictComp kx vx [⟨tg, iter, ifs, 0⟩] scope pos) spos) (tAsg (tTdc wi g tt tk tv (own.map (·.2))) (gName i)) := by
  refine ⟨fun pins s σ H D I h => ?_⟩
  rw [exec_Assign_Name_used _ _ _ _ hsw]
  refine wpAny_bind (wpAny_standAt (wpAny_bind ?_))
  show wpAny _ X.A (do let _ ← comprehension (.DictComp kx vx [⟨tg, iter, ifs, 0⟩] scope pos) scope X.env (firstIterPos [⟨tg, iter, ifs, 0⟩] pos) newDict false (eval iter X.env) (some (assign (.Name y py) X.env))) _ _ s
  have h : tTdc wi g tt tk tv (own.map (·.2)) σ H (fun x H1 => gName i x σ H1 D.nx) := h
  refine wpAny_bind (thn (tdc_core (Qf := fun _ s' => SP X pins D .next s') hu hc hN I hi ok hg ht hk he hs h fun L C s' m H' I' q hn f => ?_) fun _ s' hq => wpAny_pure (wpAny_pure hq))
  show wpAny _ _ (assign (.Name y py) X.env (.ref L)) _ _ _
  refine wpAny_assign_Name (store_ok2 (v := V.ref L) I' hN hy (.inl hyl) rfl (fun s2 I2 ⟨a, sb, ha⟩ => ?_) (.inr hyl))
  obtain ⟨g0, g1, g2, g3, g4, g5⟩ := f
  have apart : C ≠ a := ha.elim (fun z => by rw [z]; exact g1) fun z e => g4 y a z e.symm
  exact ⟨m, hn.sameBut sb apart, fun h3 sb3 => ⟨_, H', I2.turned (t' := s2.toks) (fun b o hb e => (sb3.2 b hb).trans e) g0 g1 g3 g4 g5, q⟩⟩
theorem sw_trueD {kx vx : Expr} {gs : List Comprehension} {scope : Scope} {pos py : Pos} {y : Str} {l : Nat} {env : PySem.Env} (hk : env.scope.kind = .function) (hy : env.scope.names.lookup y = some .local) (hl : (py.line == pos.line) = true)
    (ha : (scope.names.any fun (n, k) => n == y && (k == .local || k == .cell)) = false) : swapsWith (.DictComp kx vx gs scope pos) (some (.Name y py)) l env = pure true := by
  have e1 : env.kindOf y = some .local := hy
  have e2 : env.blockKind = .function := by unfold PySem.Env.blockKind; rw [hk]; rfl
  unfold swapsWith
  simp only [e1, e2, ha, Expr.pos, hl]
  rfl
end
end VsT
namespace Vs
open PySem PySem.Spec PyProof.Rows L2
theorem Rp.zero {K : PySem.W.Frag} {S : Addr → Prop} {H : Hp} {v : V} {d : D} {f : List Addr} (h : Rp K S H 0 v d f) : f = [] := by cases h <;> rfl
theorem RpAll.zero {K : PySem.W.Frag} {S : Addr → Prop} {H : Hp} : ∀ {vs : List V} {ds : List D} {f : List Addr}, RpAll K S H 0 vs ds f → f = []
  | _, _, _, .nil _ => rfl
  | _, _, _, .cons h t => by rw [h.zero, t.zero]; rfl
theorem dcL_cons {own : List Nat} {g : MG} {cs : MT} {ek ev : M} {d : D} {ds : List D} {ρ : Vs.Env} {acc ps : List (D × D)} (h : dcL own g cs ek ev (d :: ds) ρ acc = some ps) :
    ∃ ρ1 b, g ⟨false, 0, d⟩ ρ = .nx ρ1 ∧ cs ρ1 = .ok b none ∧ (b = false → dcL own g cs ek ev ds ρ acc = some ps) ∧
      (b = true → ∃ y w, ek ρ1 = .ok y none ∧ ev ρ1 = .ok w none ∧ isKeyT y = true ∧ w.d.imm = true ∧ acc.length < lim ∧ dcL own g cs ek ev ds ρ (dPut acc y.d w.d) = some ps) := by
  unfold dcL at h
  cases q1 : g ⟨false, 0, d⟩ ρ with
  | nx ρ1 =>
    simp only [q1] at h
    cases q2 : cs ρ1 with
    | ok b o =>
      cases o with
      | some _ =>
        simp only [q2] at h
        cases b <;> cases h
      | none =>
        simp only [q2] at h
        refine ⟨ρ1, b, rfl, q2, fun e => by subst e; exact h, fun e => ?_⟩
        subst e
        cases q3 : ek ρ1 with
        | ok y o =>
          cases o with
          | some _ => simp only [q3] at h; cases h
          | none =>
            simp only [q3] at h
            cases q4 : ev ρ1 with
            | ok w o =>
              cases o with
              | some _ => simp only [q4] at h; cases h
              | none =>
                simp only [q4] at h
                split at h
                · rename_i c
                  exact ⟨y, w, rfl, rfl, c.1, c.2.1, c.2.2, h⟩
                · cases h
            | ex _ _ => simp only [q4] at h; cases h
            | no => simp only [q4] at h; cases h
        | ex _ _ => simp only [q3] at h; cases h
        | no => simp only [q3] at h; cases h
    | ex _ _ => simp only [q2] at h; cases h
    | no => simp only [q2] at h; cases h
  | _ => simp only [q1] at h; cases h
section
variable {ct : Str → Addr} {X : Cx} {kx vx tg iter : Expr} {ifs : List Expr} {scope : Scope} {own : List (Str × Nat)} {pos : Pos} {gi : MI} {gg : MG} {gt : MT} {gk gv : M}
/-- between two turns -/
structure TurnD (K : PySem.W.Frag) (own : List Nat) (σ : L2.St) (ρw : Vs.Env) (S1 : Addr → Prop) (F1 : List Addr) (H1 : Hp) (Dd : Addr) (acc : List (D × D)) (kvs : List (List Key × V)) (vals : List D) (S' : Addr → Prop) (H' : Hp) : Prop where
  sm : Same H1 H'
  u1 : ∀ b, S1 b → S' b
  u2 : ∀ b, S' b → S1 b ∨ H1 b = none
  env : EnvRp K S' H' (L2.wipe σ own) ρw F1
  ok : Ok S' H' ([Dd] ++ F1)
  at_ : H' Dd = some (.dT kvs)
  rp : RpAll K S' H' 0 (kvs.map (·.2)) vals []
  acc : acc = tzip kvs vals
/-- turns that lay only new things -/
theorem TurnD.lay {K : PySem.W.Frag} {own : List Nat} {σ : L2.St} {ρw : Vs.Env} {S1 S' S3 : Addr → Prop} {F1 : List Addr} {H1 H' H3 : Hp} {Dd : Addr} {acc : List (D × D)} {kvs : List (List Key × V)} {vals : List D}
    (T : TurnD K own σ ρw S1 F1 H1 Dd acc kvs vals S' H') (e : Same H' H3) (u1 : ∀ b, S' b → S3 b) (u2 : ∀ b, S3 b → S' b ∨ H' b = none) (tr : ∀ b, S3 b → H3 b ≠ none) : TurnD K own σ ρw S1 F1 H1 Dd acc kvs vals S3 H3 where
  sm := T.sm.trans e
  u1 := fun b z => u1 b (T.u1 b z)
  u2 := fun b z => (u2 b z).elim (T.u2 b) fun q => .inr (T.sm.free q)
  env := (T.env.same e).more u1
  ok := ⟨T.ok.nd, fun b hb => (T.ok.same e).mu b hb, fun b hb z => (u2 b z).elim (T.ok.ns b hb) fun q => T.ok.mem hb q, tr⟩
  at_ := e _ _ T.at_
  rp := (T.rp.same e).more u1
  acc := T.acc
/-- one more pair -/
theorem TurnD.put {K : PySem.W.Frag} {own : List Nat} {σ : L2.St} {ρw : Vs.Env} {S1 S' : Addr → Prop} {F1 : List Addr} {H1 H' : Hp} {Dd : Addr} {acc : List (D × D)} {kvs : List (List Key × V)} {vals : List D} {k : List Key} {v : V} {d : D}
    (T : TurnD K own σ ρw S1 F1 H1 Dd acc kvs vals S' H') (nD : H1 Dd = none) (hd : d.imm = true) (h : Rp K S' H' 0 v d []) : ∃ vals' S2, TurnD K own σ ρw S1 F1 H1 Dd (dPut acc (tD k) d) (putK kvs k v) vals' S2 (upd H' Dd (.dT (putK kvs k v))) := by
  have kD : Ok S' H' ([] ++ (Dd :: [])) := T.ok.head
  obtain ⟨S2, ff, w1, w2, w3⟩ := tput_ok (k := k) T.at_ kD T.rp h (.inl hd)
  rw [if_pos hd, ← T.acc] at w2
  obtain ⟨aa, kvs2, ds, g', ea, el, hq, r, z1, z2⟩ := w2.dicT
  obtain rfl : Dd = aa := by injection ea
  rw [upd_same] at hq
  obtain rfl : putK kvs k v = kvs2 := by injection hq with hq; injection hq
  have r : RpAll K S2 (upd H' Dd (.dT (putK kvs k v))) 0 ((putK kvs k v).map (·.2)) ds g' := r
  obtain rfl := r.zero
  have eff : ff = [] := by
    have := z2 (by omega)
    injection this
  subst eff
  have apart : ∀ b ∈ F1, b ∉ [] ++ [Dd] := fun b hb z => T.ok.apart b (by simpa using z) hb
  refine ⟨ds, S2, ⟨fun b o e => ?_, fun b z => w1.sub b (T.u1 b z), fun b z => ?_, T.env.step w1 kD apart, ?_, upd_same, r, el⟩⟩
  · rw [upd_ne fun z => by rw [z, nD] at e; cases e]
    exact T.sm b o e
  · rcases w1.newS b z with q | q | q
    · exact T.u2 b q
    · obtain rfl : b = Dd := by simpa using q
      exact .inr nD
    · exact .inr (T.sm.free q)
  · have := Ok.join w1 (T.ok.perm List.perm_append_comm) w3
    exact this.perm List.perm_append_comm
theorem tdc_run (hN : X.N.Nodup) (hi : SI ct X tg iter gi)
    (hg : ∀ n i, SN ct (others n (own.map (·.2))) (blkX X scope i) tg gg) (ht : ∀ i, STs ct (blkX X scope i) ifs gt) (hk : ∀ i, SE ct (blkX X scope i) kx gk) (hv : ∀ i, SE ct (blkX X scope i) vx gv) :
    ∀ W, Takes X W → ∃ wi g tt tk tv, PI X tg iter wi ∧ (∀ i, PG (blkX X scope i) tg g) ∧ (∀ i, PTs (blkX X scope i) ifs tt) ∧ (∀ i, PE (blkX X scope i) kx tk) ∧ (∀ i, PE (blkX X scope i) vx tv) ∧
      ∀ S F H σ ρ Q, EnvRp X.K S H σ ρ F → Ok S H F → Good X.K ct (VOk X.K) W S F H σ ρ (dcT gi gg gt gk gv (own.map (·.2)) ρ) Q → VsT.tTdc wi g tt tk tv (own.map (·.2)) σ H Q := by
  intro W tkW
  obtain ⟨wi, pi, ri⟩ := hi.run W tkW
  refine ⟨wi, fun v σ H Q => ∀ i, (hg σ.length i).run.choose v σ H Q, fun σ H Q => ∀ i, ((ht i).run _ takes0).choose σ H Q, fun σ H Q => ∀ i, ((hk i).run _ takes0).choose σ H Q, fun σ H Q => ∀ i, ((hv i).run _ takes0).choose σ H Q, pi,
    fun i => ⟨fun pins s σ H v u Q I r q => (hg σ.length i).run.choose_spec.1.run pins s σ H v u Q I r (q i)⟩,
    fun i => ⟨fun pins s σ H Q I q => ((ht i).run _ takes0).choose_spec.1.run pins s σ H Q I (q i)⟩,
    fun i => ⟨fun pins s σ H Q I q => ((hk i).run _ takes0).choose_spec.1.run pins s σ H Q I (q i)⟩,
    fun i => ⟨fun pins s σ H Q I q => ((hv i).run _ takes0).choose_spec.1.run pins s σ H Q I (q i)⟩, fun S F H σ ρ Q E ok G => ?_⟩
  have rt : ∀ (i : BI) S F H σ ρ Q, EnvRp X.K S H σ ρ F → Ok S H F → Good X.K ct BOk (fun _ _ _ _ => False) S F H σ ρ (gt ρ) Q → ((ht i).run _ takes0).choose σ H Q := fun i => ((ht i).run _ takes0).choose_spec.2
  have rk : ∀ (i : BI) S F H σ ρ Q, EnvRp X.K S H σ ρ F → Ok S H F → Good X.K ct (VOk X.K) (fun _ _ _ _ => False) S F H σ ρ (gk ρ) Q → ((hk i).run _ takes0).choose σ H Q := fun i => ((hk i).run _ takes0).choose_spec.2
  have rv : ∀ (i : BI) S F H σ ρ Q, EnvRp X.K S H σ ρ F → Ok S H F → Good X.K ct (VOk X.K) (fun _ _ _ _ => False) S F H σ ρ (gv ρ) Q → ((hv i).run _ takes0).choose σ H Q := fun i => ((hv i).run _ takes0).choose_spec.2
  generalize hw : own.map (·.2) = ow at *
  refine ri S F H σ ρ _ E ok ?_
  unfold dcT at G
  refine good_bind G fun ds o0 J S1 F1 H1 f0 _ t1 hJ E1 k1 G => ?_
  obtain ⟨rfl, hJ⟩ := hJ
  replace k1 : Ok S1 H1 F1 := k1
  intro Dd nD
  obtain ⟨fd, Fw, pw, Ew⟩ := E1.wipe ow
  generalize hρw : wipeE ow (now o0 ρ) = ρw at *
  have kw : Ok S1 H1 Fw := (k1.perm pw).tail
  have dead0 : ∀ j ∈ ow, look ρw j = none := fun j hj => by rw [← hρw]; exact look_wipe (.inr hj)
  have hE0 : EnvRp X.K S1 H1 (L2.wipe σ ow) ρw Fw := Ew.other (L2.wipe_length σ ow) fun i hi => wipe_get fun z => hi (dead0 i z)
  cases hps : dcL ow gg gt gk gv ds ρw [] with
  | none => rw [hps] at G; exact G.elim
  | some ps =>
    rw [hps] at G
    have T0 : TurnD X.K ow σ ρw S1 Fw H1 Dd [] [] [] S1 (upd H1 Dd (.dT [])) := by
      have sm : Same H1 (upd H1 Dd (.dT [])) := same_upd nD
      exact ⟨sm, fun _ z => z, fun _ => .inl, hE0.same sm, new_okp kw nD trivial, upd_same, .nil _, rfl⟩
    refine ⟨fun i m H' => ∃ acc kvs vals S', i + m = ds.length ∧ TurnD X.K ow σ ρw S1 Fw H1 Dd acc kvs vals S' H' ∧ dcL ow gg gt gk gv (ds.drop i) ρw acc = some ps,
      ⟨ds.length, [], [], [], S1, by omega, T0, hps⟩, fun i m H' hW => ?_⟩
    obtain ⟨acc, kvs, vals, S', em, T, hl⟩ := hW
    have lat : Later S1 H1 S' H' := ⟨T.u1, fun b o _ e => T.sm b o e, fun b o e _ => T.sm b o e⟩
    obtain ⟨j1, j2⟩ := hJ S' H' lat i
    by_cases hlt : i < ds.length
    · -- one more turn
      obtain ⟨d, hd⟩ : ∃ d, ds[i]? = some d := ⟨ds[i], List.getElem?_eq_getElem hlt⟩
      obtain ⟨g1, g2⟩ := j1 d hd
      have ed : ds.drop i = d :: ds.drop (i + 1) := by
        have := List.drop_eq_getElem_cons hlt
        rw [List.getElem?_eq_getElem hlt] at hd
        rw [this, Option.some.inj hd]
      rw [ed] at hl
      obtain ⟨ρ1, b, q1, q2, hF, hT⟩ := dcL_cons hl
      let Nx : Hp → Prop := fun H2 => ∃ acc kvs vals S', TurnD X.K ow σ ρw S1 Fw H1 Dd acc kvs vals S' H2 ∧ dcL ow gg gt gk gv (ds.drop (i + 1)) ρw acc = some ps
      refine .inr ⟨g1, Nx, fun H2 hN => ?_, fun x H3 hy => ?_⟩
      · obtain ⟨acc, kvs, vals, S', a, b⟩ := hN
        exact ⟨m - 1, by omega, acc, kvs, vals, S', by omega, a, b⟩
      · obtain ⟨sm, rx⟩ := g2 x H3 hy
        have kF' : Ok S' H3 Fw := T.ok.tail.same sm
        intro ib
        refine (hg _ ib).run.choose_spec.2 S' Fw H3 (L2.wipe σ ow) ρw ⟨false, 0, d⟩ x [] ρ1 _ (by rw [VOk.own]; exact rx) (T.env.same sm) kF' q1 fun σ2 F2 s2 E2 k2 kp => ?_
        have hl2 : σ2.length = (L2.wipe σ ow).length := kp.1
        have hk2 := kp_wipe kp (L2.wipe_length σ ow)
        refine ⟨wipe_same hl2 hk2, fun ib2 => ?_⟩
        refine rt ib2 S' F2 H3 σ2 ρ1 _ E2 k2 ?_
        rw [q2]
        intro y S3 F3 H4 f t3 hb E3 k3
        obtain ⟨rfl, rfl⟩ := hb
        obtain ⟨e3, u31, u32, rfl, _⟩ := t3
        rw [now_none] at E3
        have T3 := T.lay (sm.trans e3) u31 (fun b z => (u32 b z).imp id sm.free) k3.tr
        cases b with
        | false =>
          rw [if_neg Bool.false_ne_true]
          exact ⟨acc, kvs, vals, S3, T3, hF rfl⟩
        | true =>
          rw [if_pos rfl]
          obtain ⟨y, w, q3, q4, c1, c2, c3, hT⟩ := hT rfl
          replace k3 : Ok S3 H4 F3 := k3
          intro ib3
          refine rk ib3 S3 F3 H4 σ2 ρ1 _ E3 k3 ?_
          rw [q3]
          intro yv S5 F5 H5 fx t5 hx E5 k5
          obtain ⟨bk, k, hk0, rfl, hbk, rfl⟩ := hx.keyT c1
          obtain ⟨e5, u51, u52, rfl, _⟩ := t5
          rw [now_none] at E5
          have T5 := T3.lay e5 u51 u52 k5.tr
          replace k5 : Ok S5 H5 F5 := k5
          intro ib4
          refine rv ib4 S5 F5 H5 σ2 ρ1 _ E5 k5 ?_
          rw [q4]
          intro zv S6 F6 H6 fz t6 hz E6 k6
          have hws : w.stable = true := by unfold VV.stable; rw [c2, Bool.or_true]
          obtain ⟨rfl, hz2⟩ := (hz.stab hws).imm c2
          obtain ⟨e6, u61, u62, rfl, _⟩ := t6
          have T6 := T5.lay e6 u61 u62 k6.tr
          obtain ⟨vals2, S7, T7⟩ := T6.put (k := k) (v := zv) nD c2 (hz2 S6 H6 0)
          refine ⟨kvs, k, bk, rfl, e6 _ _ hbk, T6.at_, ?_, _, _, _, S7, T7, ?_⟩
          · have hlv : kvs.length = vals.length := by have := T6.rp.length; rwa [List.length_map] at this
            have hla : acc.length = kvs.length := by rw [T.acc]; unfold tzip; rw [List.length_zip, List.length_map, ← hlv, Nat.min_self]
            rw [hla, Vs.lim_eq] at c3
            exact c3
          · rw [← hk0]
            exact hT
    · -- the end
      refine .inl ⟨j2 (by omega), ?_⟩
      rw [List.drop_eq_nil_of_le (by omega)] at hl
      obtain rfl : acc = ps := Option.some.inj hl
      have j : Ok S' H' ([Dd] ++ F1) := by
        have st : Step S1 Fw H1 S' ([Dd] ++ Fw) H' := ⟨fun b o e _ => T.sm b o e, T.u1, fun b hb => (List.mem_append.mp hb).elim (fun z => by
          obtain rfl := List.mem_singleton.mp z
          exact .inr nD) .inl, fun b z => (T.u2 b z).imp id .inr⟩
        have := Ok.join st (k1.perm pw) T.ok
        exact (this.perm perm_mid).perm (List.Perm.append_left _ pw.symm)
      refine G (.ref Dd) S' F1 H' [Dd] ?_ ?_ ?_ j
      · have t2 : Fit (none : Option Vs.Env) S1 F1 H1 S' F1 [Dd] H' := ⟨T.sm, T.u1, T.u2, rfl, fun b hb => by rw [List.mem_singleton.mp hb]; exact nD⟩
        exact t1.thn (f := []) k1 t2 (fun b hb => .inr (.inl hb)) (Same.refl _)
      · rw [VOk.own, T.acc]
        exact .dt1 T.at_ T.rp
      · rw [now_thn]
        exact (E1.same T.sm).more T.u1
/-- {k: v for .. in ..}, the keys fresh tuples -/
theorem s_tdc {k0 : Nat} (hr : Room k0 X.A) (hc : X.calm = true) (hN : X.N.Nodup) (hi : SI ct X tg iter gi) (ok : BlkOk X.N X.env.scope scope own)
    (hg : ∀ n i, SN ct (others n (own.map (·.2))) (blkX X scope i) tg gg) (ht : ∀ i, STs ct (blkX X scope i) ifs gt) (hk : ∀ i, SE ct (blkX X scope i) kx gk) (hv : ∀ i, SE ct (blkX X scope i) vx gv) (hs : ∀ x, foldedSetIterable iter X.env x = pure x := by intro _; rfl) :
    SE ct X (.DictComp kx vx [⟨tg, iter, ifs, 0⟩] scope pos) (dcT gi gg gt gk gv (own.map (·.2))) := by
  refine ⟨fun W tk => ?_⟩
  obtain ⟨wi, g, tt, tk2, tv, h1, h2, h3, h4, h5, h6⟩ := tdc_run hN hi hg ht hk hv W tk
  exact ⟨_, VsT.pe_tdc (by have := units_of hr; omega) hc hN h1 ok (fun s H C cl fp => h2 (s, H, C, cl, fp)) (fun s H C cl fp => h3 (s, H, C, cl, fp)) (fun s H C cl fp => h4 (s, H, C, cl, fp)) (fun s H C cl fp => h5 (s, H, C, cl, fp)) hs, h6⟩
/-- y = {k: v for .. in ..} -/
theorem ss_setTdc {lent : List Bool} {k0 i : Nat} {y : Str} {py spos : Pos} (hr : Room k0 X.A) (hc : X.calm = true) (hN : X.N.Nodup) (hy : X.N[i]? = some y) (hyl : X.env.scope.names.lookup y = some .local) (hl : lent[i]? ≠ some true)
    (hsw : swapsWith (.DictComp kx vx [⟨tg, iter, ifs, 0⟩] scope pos) (some (.Name y py)) spos.line X.env = pure true) (hi : SI ct X tg iter gi) (ok : BlkOk X.N X.env.scope scope own)
    (hg : ∀ n i, SN ct (others n (own.map (·.2))) (blkX X scope i) tg gg) (ht : ∀ i, STs ct (blkX X scope i) ifs gt) (hk : ∀ i, SE ct (blkX X scope i) kx gk) (hv : ∀ i, SE ct (blkX X scope i) vx gv) (hs : ∀ x, foldedSetIterable iter X.env x = pure x := by intro _; rfl) :
    SS ct lent X (.Assign [.Name y py] (.DictComp kx vx [⟨tg, iter, ifs, 0⟩] scope pos) spos) (asg (dcT gi gg gt gk gv (own.map (·.2))) (gname i)) := by
  refine ⟨fun W tk po => ?_⟩
  obtain ⟨wi, g, tt, tk2, tv, h1, h2, h3, h4, h5, h6⟩ := tdc_run hN hi hg ht hk hv W tk
  refine ⟨_, VsT.ps_setTdc (by have := units_of hr; omega) hc hN hy hyl hsw h1 ok (fun s H C cl fp => h2 (s, H, C, cl, fp)) (fun s H C cl fp => h3 (s, H, C, cl, fp)) (fun s H C cl fp => h4 (s, H, C, cl, fp)) (fun s H C cl fp => h5 (s, H, C, cl, fp)) hs, fun S F H σ ρ D E okk G => ?_⟩
  refine h6 S F H σ ρ _ E okk ?_
  refine good_go G fun x o v S1 F1 H1 f st h E1 ok1 G => ?_
  unfold gname at G
  cases e : x.kept with
  | none => rw [e] at G; exact G.elim
  | some pv =>
    rw [e] at G
    obtain ⟨hs', rfl⟩ := kept_some e
    obtain ⟨f0, G0, p, E0⟩ := E1.drop i
    have p2 : (f ++ F1).Perm (f0 ++ (f ++ G0)) := (List.Perm.append_left _ p).trans perm_mid
    have ok2 : Ok S1 H1 (f ++ G0) := (ok1.perm p2).tail
    show D.nx (σ.set i (some v)) H1
    by_cases hl2 : i < σ.length
    · exact G _ S1 (f ++ G0) H1 (st.less fun b hb => p2.mem_iff.mpr (List.mem_append_right _ hb)) (E0.fill hl2 (h.stab hs')) ok2 (Kp.set hl)
    · have e1 : σ.set i (some v) = σ := List.set_eq_of_length_le (by omega)
      rw [e1]
      have e2 : Vs.put (now o ρ) i (some (x.m, x.d)) = now o ρ := put_over _ _ _ (by rw [← E1.len]; omega)
      replace G : GoodS X.K ct lent W D S F H σ (.nx (Vs.put (now o ρ) i (some (x.m, x.d)))) := G
      rw [e2] at G
      exact G σ S1 F1 H1 (st.less fun b hb => List.mem_append_right _ hb) E1 ok1.tail Kp.refl
end
end Vs
set_option maxHeartbeats 4000000
namespace Vs
open PySem PySem.Spec PyProof.Rows L2
section
variable {K : PySem.W.Frag} {S : Addr → Prop} {H : Hp} {F : List Addr} {σ : L2.St} {ρ : Vs.Env}
theorem even_env (is ks : List Nat) (E : EnvRp K S H σ ρ F) (ok : Ok S H F) : ∃ S' F', Step S F H S' F' H ∧ EnvRp K S' H σ (even is ks ρ) F' ∧ Ok S' H F' := by
  obtain ⟨f, G, p, E1⟩ := E.wipe is
  have ok1 : Ok S H G := (ok.perm p).tail
  have st1 : Step S F H S G H := Step.refl.less fun b hb => p.mem_iff.mpr (List.mem_append_right _ hb)
  obtain ⟨S', F', st, E', ok'⟩ := thin_env 0 ks E1 ok1
  exact ⟨S', F', st1.trans st, E', ok'⟩
theorem even_envR {f : List Addr} (is ks : List Nat) (E : EnvRp K S H σ ρ F) (ok : Ok S H F) : ∃ S' F', Step S F H S' F' H ∧ EnvRp K S' H σ (even is ks ρ) F' ∧ Ok S' H F' := even_env is ks E ok
end
section
variable {K : PySem.W.Frag} {ct : Str → Addr} {lent : List Bool} {W : WX} {D : Ends} {S : Addr → Prop} {F : List Addr} {H : Hp} {σ : L2.St}
theorem GoodS.of_even {is ks : List Nat} {fl : Fl} (g : GoodS K ct lent W D S F H σ (fl.map (even is ks))) : GoodS K ct lent W D S F H σ fl := by
  cases fl with
  | nx ρ' =>
    intro σ' S' F' H' t E o k
    obtain ⟨S2, F2, st, E2, o2⟩ := even_env is ks E o
    exact g σ' S2 F2 H' (t.trans st) E2 o2 k
  | brk ρ' =>
    intro σ' S' F' H' t E o k
    obtain ⟨S2, F2, st, E2, o2⟩ := even_env is ks E o
    exact g σ' S2 F2 H' (t.trans st) E2 o2 k
  | ct ρ' =>
    intro σ' S' F' H' t E o k
    obtain ⟨S2, F2, st, E2, o2⟩ := even_env is ks E o
    exact g σ' S2 F2 H' (t.trans st) E2 o2 k
  | ret pv ρ' => exact g
  | ex e ρ' => exact g
  | no => exact g
end
section
variable {ct : Str → Addr} {lent : List Bool} {X : Cx} {st : Stmt} {body : List Stmt} {g : MS} {is ks : List Nat}
theorem ss_pre (h : SS ct lent X st g) : SS ct lent X st (pre is ks g) := by
  refine ⟨fun W tk po => ?_⟩
  obtain ⟨t, p, r⟩ := h.run W tk po
  refine ⟨t, p, fun S F H σ ρ D E ok G => ?_⟩
  obtain ⟨S', F', s1, E', ok'⟩ := even_env is ks E ok
  exact r S' F' H σ _ D E' ok' (GoodS.from s1 Kp.refl G)
theorem sss_pre (h : SSs ct lent X body g) : SSs ct lent X body (pre is ks g) := by
  refine ⟨fun W tk po => ?_⟩
  obtain ⟨t, p, r⟩ := h.run W tk po
  refine ⟨t, p, fun S F H σ ρ D E ok G => ?_⟩
  obtain ⟨S', F', s1, E', ok'⟩ := even_env is ks E ok
  exact r S' F' H σ _ D E' ok' (GoodS.from s1 Kp.refl G)
theorem sss_tdy (h : SSs ct lent X body g) : SSs ct lent X body (tdy is ks g) := by
  refine ⟨fun W tk po => ?_⟩
  obtain ⟨t, p, r⟩ := h.run W tk po
  exact ⟨t, p, fun S F H σ ρ D E ok G => r S F H σ ρ D E ok (GoodS.of_even G)⟩
theorem ss_tdy (h : SS ct lent X st g) : SS ct lent X st (tdy is ks g) := by
  refine ⟨fun W tk po => ?_⟩
  obtain ⟨t, p, r⟩ := h.run W tk po
  exact ⟨t, p, fun S F H σ ρ D E ok G => r S F H σ ρ D E ok (GoodS.of_even G)⟩
end
/-- a def that calls itself: nothing is promised at the bottom -/
theorem Fn.none {P : Program} {w : World} {K : PySem.W.Frag} {mg : Str → Option Value} {base : Heap} {ct : Str → Addr} {k : Nat} {f : Addr} {fd : FuncData} {ps : List Str} : Fn P w K mg base ct k f fd ps (fun _ => .no) :=
  ⟨fun A outer s H args us vs Q E _ _ _ _ _ h => by
    obtain ⟨_, _, _, _, _, _, q⟩ := h
    exact q.elim⟩
end Vs
set_option maxHeartbeats 4000000
namespace Vs
open PySem PySem.Spec PyProof.Rows L2
/-! xs.count(y): data of any depth -/
def rCntD (K : PySem.W.Frag) : V → List V → Hp → VK → Prop := fun x xs H Q => ∃ (a : Addr) (y : V) (d : PyData) (ds : List PyData), x = V.ref a ∧ xs = [y] ∧ Dp K H (V.ref a) (.list ds) ∧ Dp K H y d ∧
  SeqAt.shaped (.list ds) = true ∧ SeqAt.shaped d = true ∧ Q (.int (ds.countP fun z => PyData.eqv z d : Nat)) H
theorem countP_map' {α β : Type} (f : α → β) (p : β → Bool) : ∀ l : List α, (l.map f).countP p = l.countP fun x => p (f x)
  | [] => rfl
  | a :: l => by rw [List.map_cons, List.countP_cons, List.countP_cons, countP_map' f p l]
theorem mt_countD {X : Cx} (hu : X.A.units + 65 < cLine) : MtR X "list.count" (rCntD X.K) := by
  intro pins s σ H x xs v us Q I rx rxs h
  obtain ⟨a, y, d, ds, rfl, rfl, hl, hy, sl, sd, q⟩ := h
  cases rx
  cases rxs with
  | cons ry rt =>
    rename_i uy ut
    cases rt
    obtain ⟨bs, r1⟩ := Dp.reads I d y uy hy ry
    have hxs : PyData.canLayAll0 ds = true := SeqAt.canLay_of_shaped sl
    have hroom : X.A.units + 1 + min (PyData.depthAll ds) d.depth < cLine := room_in_shaped sd hu
    cases hl with
    | lst hs ha =>
      obtain ⟨its, rv, ⟨⟨cls, dd, data, sls⟩, n, ho, hc, hdn, hdt⟩, hlen⟩ := I.list hs
      simp only at hc hdt
      subst hc hdt
      obtain ⟨as, h4⟩ := Dp.readsAll I ds _ its ha rv
      have hmap : its.map (SeqAt.readOf s.heap) = ds := SeqAt.readsAll_map ds its as hxs h4
      refine call_meets PySem.F.slot_list_count ⟨_, ho, rfl⟩ PySem.F.entry_list_count (PySem.F.args_list_count_2 _ _)
        (SeqAt.list_countAt a its.toArray n dd sls uy (fun u => PyData.eqv (SeqAt.readOf s.heap u) d)) ⟨ho, SeqAt.items_eqAt (vs := its.toArray) (show ReadsAll s.heap its.toArray.toList ds as from h4) r1 hxs (SeqAt.canLay_of_shaped sd) hroom, ?_⟩
      have ec : its.toArray.toList.countP (fun u => PyData.eqv (SeqAt.readOf s.heap u) d) = ds.countP fun z => PyData.eqv z d := by
        rw [← hmap, countP_map']
      refine ⟨.int (ds.countP fun z => PyData.eqv z d : Nat), H, I.tok _, ⟨s.toks, ?_⟩, q⟩
      show Value.int ((its.toArray.toList.countP (fun u => PyData.eqv (SeqAt.readOf s.heap u) d) : Nat) : Int) s.toks = Value.int ((ds.countP fun z => PyData.eqv z d : Nat) : Int) s.toks
      rw [ec]
theorem pyAll_countP (p : PyData → Bool) : ∀ l : List Vs.D, (pyAll l).countP p = l.countP fun z => p z.py
  | [] => rfl
  | d :: l => by rw [pyAll, List.countP_cons, List.countP_cons, pyAll_countP p l]
section
variable {X : Cx}
theorem kCountD_mt : Meth1 X.K (rCntD X.K) kCountD := fun S H x v f xs vs g z Q h hx ok e hQ => by
  unfold kCountD at e
  split at e
  · rename_i l y el
    split at e
    · rename_i c
      obtain rfl := Option.some.inj e
      obtain ⟨u, rfl, hy⟩ := hx.one
      have q := h.dp c.1
      have s := (shp_flat c.1).2
      obtain ⟨a, ys, m', g', rfl, q1, q2⟩ := h.seqL el
      rw [el, D.py] at q s
      refine ⟨a, u, y.d.py, pyAll l, rfl, rfl, q, hy.dp c.2, s, (shp_flat c.2).2, ?_⟩
      rw [pyAll_countP]
      exact ret_imm ok rfl (.int _ _) hQ
    · cases e
  · cases e
end
end Vs
set_option maxHeartbeats 4000000
namespace Vs
open PySem PySem.Spec PyProof.Rows L2
/-! isinstance(x, (t, u)) -/
section
variable {ct : Str → Addr} {X : Cx} {a : Expr} {ga : M} {p pos : Pos}
def rIsi2 (K : PySem.W.Frag) (t u : Ty) : V → Hp → VK → Prop := fun x H Q => 2 ≤ sizeLine ∧ ∀ q, H q = none → rIsiT K [x, .ref q] (upd H q (.tup [.ty (Ty.nm t), .ty (Ty.nm u)])) Q
theorem kIsi2_op (t u : Ty) : Op1 X.K (rIsi2 X.K t u) (kIsi2 t u) := fun S H x v f z Q h ok e hQ => by
  unfold kIsi2 at e
  cases q1 : x.d.isTy t with
  | none => rw [q1] at e; cases e
  | some r1 =>
    cases q2 : x.d.isTy u with
    | none => rw [q1, q2] at e; cases e
    | some r2 =>
      rw [q1, q2] at e
      obtain rfl := Option.some.inj e
      refine ⟨by decide, fun q hq => ?_⟩
      have h2 := h.same (same_upd (o := HO.tup [.ty (Ty.nm t), .ty (Ty.nm u)]) hq)
      obtain ⟨g, h'⟩ := h2.rp
      obtain ⟨n, h3, h4⟩ := h'.tyx (fun c l z => by rw [z] at q1; cases q1)
      refine ⟨v, q, _, _, [.type (Ty.nm t), .type (Ty.nm u)], r1 || r2, rfl, upd_same, .cons (.ty _) (.cons (.ty _) .nil), h3, ?_, ?_⟩
      · refine kitAny_cons (kit_ty (h4 t r1 q1)) (fun hb => ?_) fun hb => by rw [hb]; rfl
        refine kitAny_cons (kit_ty (h4 u r2 q2)) (fun hb2 => ?_) fun hb2 => by rw [hb, hb2]; rfl
        rw [hb, hb2]
        rfl
      · exact hQ _ _ S [] (new_grow ok hq (fun _ z => z) (fun _ => .inl) (by simp)) (by rw [VOk.own]; exact .bl _ _) (new_ok ok.nil hq)
theorem s_isi2 (t u : Ty) {y z : Str} {p1 p2 tpos : Pos} {kk : Nat} (hg : Gl X "isinstance") (hm : X.mg "isinstance" = none) (hg1 : Gl X y) (hm1 : X.mg y = none) (hv1 : bootBuiltins y = some (.type (Ty.nm t))) (hn1 : y ≠ "__name__") (hd1 : (y == ("__debug__" : Str)) = false)
    (hg2 : Gl X z) (hm2 : X.mg z = none) (hv2 : bootBuiltins z = some (.type (Ty.nm u))) (hn2 : z ≠ "__name__") (hd2 : (z == ("__debug__" : Str)) = false) (ha : SE ct X a ga)
    (he : starEach (a :: [.Tuple [.Name y p1, .Name z p2] kk tpos]) X.env = (false, eval a X.env) :: starEach [.Tuple [.Name y p1, .Name z p2] kk tpos] X.env := by rfl)
    (he' : starEach [.Tuple [.Name y p1, .Name z p2] kk tpos] X.env = (false, eval (.Tuple [.Name y p1, .Name z p2] kk tpos) X.env) :: starEach [] X.env := by rfl)
    (he1 : starEach (.Name y p1 :: [.Name z p2]) X.env = (false, eval (.Name y p1) X.env) :: starEach [.Name z p2] X.env := by rfl)
    (he2 : starEach [.Name z p2] X.env = (false, eval (.Name z p2) X.env) :: starEach [] X.env := by rfl)
    (hpl : (backTo pos (starEach [.Tuple [.Name y p1, .Name z p2] kk tpos] X.env)).any (·.1) = false := by rfl) : SE ct X (.Call (.Name "isinstance" p) [a, .Tuple [.Name y p1, .Name z p2] kk tpos] [] pos) (one ga (kIsi2 t u)) :=
  run_one (r := rIsi2 X.K t u) ha (fun pa => pe_callB call_isiT hg hm PyProof.Rows.boot_isinstance (pa_cons pa (pa_cons (pe_tup (pa_cons (pe_bltn hg1 hm1 hv1 (by rfl) hn1 hd1) (pa_cons (pe_bltn hg2 hm2 hv2 (by rfl) hn2 hd2) pa_nil he2) he1)) pa_nil he') he) (by decide) (by decide) he hpl) (kIsi2_op t u)
end
end Vs
set_option maxHeartbeats 4000000
namespace Vs
open PySem PySem.Spec PyProof.Rows L2
/-! xs[c] += k -/
section
variable {ct : Str → Addr} {lent : List Bool} {X : Cx} {pos tpos px : Pos}
theorem get_list : PGet X (rIxL X.K) := by
  intro pins s σ H x y v u Q I rx ry h
  obtain ⟨p, xs, i, z, rfl, rfl, hq, he, q⟩ := h
  cases rx
  obtain ⟨t, rfl⟩ := ry
  obtain ⟨its, r, pl, hz⟩ := I.list hq
  obtain ⟨j, h1, h2, h3, h4, h5⟩ := atI_get he
  obtain ⟨w, ew, rw'⟩ := r.get h2
  have hl := r.length
  have hn := line63
  have fin : EP X pins σ Q w s := ⟨z, H, I, rw', q⟩
  by_cases h0 : 0 ≤ i
  · have hj : i.toNat = j := by
      rw [seqIndex_of h0 h5] at h1
      exact Option.some.inj h1
    exact wpAny_getItem_list pl.isList h0 (by omega) (by rw [hj]; simpa using ew) fin
  · have hj : (i + (its.toArray.size : Int)).toNat = j := by
      rw [seqIndex_neg (by omega) h4] at h1
      rw [List.size_toArray, ← hl]
      exact Option.some.inj h1
    exact wpAny_getItem_list_neg pl.isList (by omega) (by rw [List.size_toArray] <;> omega) (by omega) (by rw [hj]; simpa using ew) fin
theorem ss_augC {i : Nat} {c k : Int} {j1 j2 : Nat} {x : Str} {p1 p2 : Pos} (hN : X.N[i]? = some x := by rfl) (hv : Vis X.env.scope x := by first | exact Or.inl rfl | exact Or.inr (Or.inl rfl) | exact Or.inr (Or.inr rfl)) (hd : (x == ("__debug__" : Str)) = false := by decide)
    (hcd : (x == ("__classdict__" : Str)) = false := by decide)
    (ha : ∀ ov iv new, augStore (.Constant (.int c) j1 p1) ov iv new = (do holding [new, ov, iv] (setItem ov iv new); release [new, ov, iv] []; pure .next) := by intros; rfl) :
    SS ct lent X (.AugAssign (.Subscript (.Name x px) (.Constant (.int c) j1 p1) tpos) .Add (.Constant (.int k) j2 p2) pos) (augC i c k) := by
  refine ⟨fun W tk po => ⟨_, ps_augS (pv i hN hv hd hcd) pe_int get_list pe_int ip_add set_list ha, fun S F H σ ρ D E ok G => ?_⟩⟩
  unfold augC at G
  cases q0 : look ρ i with
  | none => rw [q0] at G; exact G.elim
  | some pv0 =>
    obtain ⟨m0, d0⟩ := pv0
    rw [q0] at G
    cases m0 with
    | zero => exact G.elim
    | succ m =>
      cases d0 with
      | lst l =>
        simp only at G
        cases qn : nix l.length c with
        | none => rw [qn] at G; exact G.elim
        | some j =>
          rw [qn] at G
          simp only at G
          cases ql : l[j]? with
          | none => rw [ql] at G; exact G.elim
          | some d =>
            rw [ql] at G
            cases d with
            | int a =>
              simp only at G
              obtain ⟨v1, f1, G1, h1, h2, pf, E2⟩ := E.take q0
              cases h2 with
              | lst1 ha' r =>
                rename_i aa zs ff0
                have k2 : Ok S H ((aa :: ff0) ++ G1) := ok.perm pf
                have hj : ixN zs.length c = some j := by rw [r.length]; exact qn
                obtain ⟨u, g1, g, g2, hu, e1, ru, _, _⟩ := r.at ql
                obtain rfl := ru.vint
                have hx : Rp X.K S H 0 (.int (a + k)) (.int (a + k)) [] := .int _ _
                have k3 : Ok S H ([] ++ (aa :: ff0)) := k2.head
                obtain ⟨S2, ff, w1, w2, w3⟩ := set_ok ha' k3 r hx (nix_lt qn)
                have hat : atI zs c = some (.int a) := by
                  unfold atI
                  rw [hj]
                  exact hu
                refine ⟨.ref aa, h1, aa, zs, c, .int a, rfl, rfl, .inl (.inl ha'), hat, a, k, rfl, rfl, aa, zs, c, j, rfl, rfl, ha', hj, ?_⟩
                have E3 : EnvRp X.K S2 _ σ (Vs.put ρ i none) G1 := E2.step w1 k3 fun b hb z => k2.apart b z hb
                have k4 : Ok S2 _ (G1 ++ (aa :: ff)) := Ok.join w1 (k2.perm List.perm_append_comm) w3
                refine G σ S2 ((aa :: ff) ++ G1) _ (w1.wide (fun b hb => pf.mem_iff.mpr (List.mem_append_left _ hb)) fun b hb => ?_) (E3.back h1 w2) (k4.perm List.perm_append_comm) Kp.refl
                rcases List.mem_append.mp hb with z | z
                · exact .inl z
                · exact .inr (pf.mem_iff.mpr (List.mem_append_right _ z))
            | _ => exact G.elim
      | _ => exact G.elim
end
section
variable {K : PySem.W.Frag} {S : Addr → Prop} {H : Hp}
theorem RpAll.imm0 : ∀ {m : Nat} {xs : List V} {ds : List D} {f : List Addr}, RpAll K S H m xs ds f → ds.all D.imm = true → ∀ S' H' m', RpAll K S' H' m' xs ds []
  | _, _, _, _, .nil _, _, S', H', m' => .nil _
  | _, _, _, _, .cons h r, hi, S', H', m' => by
    rw [List.all_cons, Bool.and_eq_true] at hi
    exact .cons (f := []) (g := []) ((h.imm hi.1).2 S' H' m') (RpAll.imm0 r hi.2 S' H' m')
theorem kMulB_op : Op2 K rRep kMulB := fun S H x v f y u g z Q h1 h2 ok e hQ => by
  unfold kMulB at e
  split at e
  · rename_i l k e1 e2
    split at e
    · rename_i c
      obtain rfl := Option.some.inj e
      obtain ⟨b1, m1, d1⟩ := x
      obtain rfl : d1 = .lst l := e1
      obtain ⟨c0, c1, c2, c3, c4⟩ := c
      have hk := h2.int e2
      obtain ⟨g0, h3⟩ := h1.rp
      obtain ⟨a, xs, g', rfl, q1, r1, q2, q3⟩ := h3.lst
      obtain ⟨q4, _⟩ := q3 (by have h0 : 0 < m1 := c0; show m1 ≠ 0; omega)
      refine ⟨a, k, xs, rfl, hk, q4, c2, c3, by rw [r1.length, ← lim_eq]; exact c4, fun p hp => ?_⟩
      exact ret_lst (m := 0) ok (fun _ z => z) (fun _ => .inl) ok.nil (by simp) (RpAll.rep (RpAll.imm0 r1 c1 S H 0) _) hQ p hp
    · cases e
  · cases e
end
section
variable {ct : Str → Addr} {X : Cx} {a b : Expr} {ga gb : M} {pos : Pos}
theorem s_mulB (ha : SE ct X a ga) (hb : SE ct X b gb) : SE ct X (.BinOp a .Mult b pos) (two ga gb kMulB) := s_op op_rep kMulB_op ha hb
end
end Vs
set_option maxHeartbeats 4000000
namespace Lw
open PySem Vs
noncomputable def b_l_dip : MS := (sq (ifs (tst (two (two (v 0) (cst (vi 0)) kIx) (cst (vi 0)) kGt) blOf) (sq (asg (two (argsk (args [(two (v 0) (cst (vi 0)) kIx)]) kInt) (v 1) kMod) (gname 2))
    (sq (asg (two (two (v 0) (cst (vi 0)) kIx) (v 1) kDiv) (gset 0 (cst (vi 0))))
    (retv 2))) skip)
    (sq (asg (two (fz 2 [0] (two (v 0) (cst (vi 2)) kIx)) (cst (vi 1)) kAdd) (gset 0 (cst (vi 2))))
    (sq (asg (two (argsk (args [(two (two (fz 2 [0] (two (v 0) (cst (vi 1)) kIx)) (two (cst (vi 1000000021)) (two (v 0) (cst (vi 2)) kIx) kMul) kAdd) (cst (vi 3)) kPow)]) kInt) (two (two (cst (vi 10)) (cst (vi 41)) kPow) (cst (vi 53)) kAdd) kMod) (gname 3))
    (sq (asg (two (argsk (args [(two (two (two (v 3) (cst (vi 19)) kMul) (two (cst (vi 69061)) (two (v 0) (cst (vi 2)) kIx) kMul) kAdd) (cst (vi 3)) kPow)]) kInt) (two (two (cst (vi 10)) (cst (vi 43)) kPow) (cst (vi 81)) kAdd) kMod) (gname 3))
    (ret (two (argsk (args [(two (v 3) (two (cst (vi 10)) (cst (vi 6)) kPow) kDiv)]) kInt) (v 1) kMod))))))
noncomputable def m_l_dip : List PV → RF := fnM 4 [true, true] b_l_dip
noncomputable def b_l_lift : MS := (sq (asg (one (v 0) fun x => kRange [x]) (gname 3))
    (sq (fors (itN kR2 (args [(two (fz 1 [1] (v 1)) (cst (vi 1)) kAdd), (two (fz 1 [2] (v 2)) (cst (vi 1)) kAdd)])) (gname 4) (asg (two (v 4) (cst (vi 1)) kSub) (gset 3 (v 4))))
    (sq (asg (fz 0 [2] (v 2)) (gset 3 (v 1)))
    (retv 3))))
noncomputable def m_l_lift : List PV → RF := fnM 5 [true, true, true] b_l_lift
noncomputable def b_l_perm : MS := (sq (asg (one (v 1) fun x => kRange [x]) (gname 2))
    (ret (comp (itN kR1 (args [(v 1)])) (gname 3) yes (recv 2 (args [(call m_l_dip [] [.lend 0, .val (argsk (args [(v 2)]) kLen)])]) rPopAt) [3])))
noncomputable def m_l_perm : List PV → RF := fnM 4 [true, true] b_l_perm
noncomputable def b_l_moves : MS := (sq (asg (argsk (args []) kLst) (gname 2))
    (sq (fors (itN kR1 (args [(v 1)])) (gname 3) (sq (asg (argsk (args [(one (v 1) fun x => kRange [x]), (call m_l_lift [] [.lend 1, .lend 3, .val (two (fz 0 [3] (v 3)) (call m_l_dip [] [.lend 0, .val (two (v 1) (v 3) kSub)]) kAdd)]), (call m_l_perm [] [.lend 0, .lend 1])]) kLst) (gname 4))
    (ex (recv 2 (args [(fz 1 [4] (ixv2 4 (call m_l_dip [] [.lend 0, .val (cst (vi 3))])))]) rAppend))))
    (retv 2)))
noncomputable def m_l_moves : List PV → RF := fnM 5 [true, true] b_l_moves
noncomputable def b_l_hit : MS := (sq (asg (argsk (args [(fz 1 [1] (v 1))]) kList) (gname 3))
    (sq (fors (itN kR1 (args [(argsk (args [(v 1)]) kLen)])) (gname 4) (asg (fz 1 [1] (two (v 1) (v 4) kIx)) (gset 3 (two (two (v 0) (v 2) kIx) (v 4) kIx))))
    (retv 3)))
noncomputable def m_l_hit : List PV → RF := fnM 5 [true, true, true] b_l_hit
noncomputable def b_l_step : MS := (pre [] [0, 1, 2] (sq (ifs (tst (two (v 2) (v 1) kIn) blOf) (ret (argsk (args [(cst (vb true)), (call m_l_hit [] [.lend 0, .lend 1, .val (meth isL (v 1) (args [(v 2)]) kIndex)])]) kTup)) skip)
    (ret (argsk (args [(cst (vb false)), (two (slc (fz 1 [1] (v 1)) (some (cst (vi 1))) none) (argsk (args [(fz 0 [2] (v 2))]) kLst) kAdd)]) kTup))))
noncomputable def m_l_step : List PV → RF := fnM 3 [true, true, true] b_l_step
noncomputable def b_p_check_outcomes : MS := (pre [] [0, 1] (sq (ifs (tor (tnot (tst (one (v 1) (kIsi .list)) blOf)) (tst (two (argsk (args [(v 1)]) kLen) (argsk (args [(v 0)]) kLen) kNe) blOf)) (fun _ => .no) skip)
    (ifs (tnot (tst (argsk (args [(soft [1] (comp (it1 kL (v 1)) (gname 2) yes (one (v 2) (kIsi .bool)) [2]))]) kAll) blOf)) (fun _ => .no) skip)))
noncomputable def m_p_check_outcomes : List PV → RF := fnM 3 [true, true] b_p_check_outcomes
noncomputable def b_p_is_integer : MS := (sq (ifs (tor (tnot (tst (one (v 0) (kIsi .int)) blOf)) (tst (one (v 0) (kIsi .bool)) blOf)) (ret (cst (vb false))) skip)
    (ret (vand (vor (two (v 1) (cst vn) kIs) (two (v 0) (v 1) kGe)) (vor (two (v 2) (cst vn) kIs) (two (v 0) (v 2) kLe)))))
noncomputable def m_p_is_integer : List PV → RF := fnM 3 [true, true, true] b_p_is_integer
noncomputable def b_p_is_permutation_of : MS := (sq (ifs (tor (tnot (tst (one (v 0) (kIsi .list)) blOf)) (tor (tst (two (argsk (args [(v 0)]) kLen) (v 1) kNe) blOf) (tnot (tst (argsk (args [(soft [0] (comp (it1 kL (v 0)) (gname 2) yes (call m_p_is_integer [(0, .non), (0, .non)] [.lend 2]) [2]))]) kAll) blOf)))) (ret (cst (vb false))) skip)
    (ret (two (argsk (args [(v 0)]) kSorted) (one (v 1) fun x => kRange [x]) kEq)))
noncomputable def m_p_is_permutation_of : List PV → RF := fnM 3 [true, true] b_p_is_permutation_of
noncomputable def b_p_check_rule : MS := (sq (ifs (tor (tnot (tst (one (v 0) (kIsi .list)) blOf)) (tnot (tst (chain (cst ⟨false, 0, (.int 2)⟩) (argsk (args [(v 0)]) kLen) (cst ⟨false, 0, (.int 12)⟩) (fun i j => decide (i ≤ j)) (fun i j => decide (i ≤ j))) blOf))) (fun _ => .no) skip)
    (forsV 0 wEnum (gtup [(gname 1), (gname 2)]) (ifs (tnot (tst (call m_p_is_permutation_of [] [.lend 2, .val (argsk (args [(v 0)]) kLen)]) blOf)) (fun _ => .no) skip) (fors (itN kE (args [(fz 0 [0] (v 0))])) (gtup [(gname 1), (gname 2)]) (ifs (tnot (tst (call m_p_is_permutation_of [] [.lend 2, .val (argsk (args [(v 0)]) kLen)]) blOf)) (fun _ => .no) skip))))
noncomputable def m_p_check_rule : List PV → RF := fnM 3 [true] b_p_check_rule
noncomputable def b_p_is_block : MS := (ret (call m_p_is_integer [] [.lend 0, .val (cst (vi 0)), .val (cst ⟨false, 0, (.int 1000000000)⟩)]))
noncomputable def m_p_is_block : List PV → RF := fnM 1 [true] b_p_is_block
noncomputable def b_p_check_stream : MS := (sq (ifs (tnot (tst (one (v 0) (kIsi .list)) blOf)) (fun _ => .no) skip)
    (forsV 0 wEnum (gtup [(gname 1), (gname 2)]) (ifs (tnot (tst (call m_p_is_block [] [.lend 2]) blOf)) (fun _ => .no) skip) (fors (itN kE (args [(fz 0 [0] (v 0))])) (gtup [(gname 1), (gname 2)]) (ifs (tnot (tst (call m_p_is_block [] [.lend 2]) blOf)) (fun _ => .no) skip))))
noncomputable def m_p_check_stream : List PV → RF := fnM 3 [true] b_p_check_stream
noncomputable def b_p_check_record : MS := (pre [] [0, 1, 2] (sq (ex (call m_p_check_rule [] [.lend 0]))
    (sq (ex (call m_p_check_stream [] [.lend 1]))
    (ex (call m_p_check_outcomes [] [.lend 1, .lend 2])))))
noncomputable def m_p_check_record : List PV → RF := fnM 3 [true, true, true] b_p_check_record
noncomputable def b_p_moved : MS := (sq (asg (argsk (args [(fz 1 [1] (v 1))]) kList) (gname 2))
    (sq (forsV 1 wEnum (gtup [(gname 3), (gname 4)]) (asg (fz 0 [4] (v 4)) (gset 2 (two (v 0) (v 3) kIx))) (fors (itN kE (args [(fz 0 [1] (v 1))])) (gtup [(gname 3), (gname 4)]) (asg (fz 0 [4] (v 4)) (gset 2 (two (v 0) (v 3) kIx)))))
    (retv 2)))
noncomputable def m_p_moved : List PV → RF := fnM 5 [true, true] b_p_moved
noncomputable def b_p_fits_behind : MS := (pre [] [0, 1, 2, 3, 4] (sq (asg (argsk (args []) kLst) (gname 5))
    (sq (pre [6, 7, 8, 9, 10, 11] [] (forsV 1 wOne (gtup [(gname 6), (gname 7)]) (tdy [6, 7, 8, 9, 10, 11] [] (ifs (tst (two (v 2) (v 6) kIn) blOf) (ifs (tst (v 4) blOf) (ex (recv 5 (args [(argsk (args [(call m_p_moved [] [.val (fz 1 [0] (two (v 0) (meth isL (v 6) (args [(v 2)]) kIndex) kIx)), .lend 6]), (fz 0 [7] (v 7))]) kTup)]) rAppend)) skip) (ifs (tnot (tst (v 4) blOf)) (ex (recv 5 (args [(argsk (args [(argsk (argS (slc (fz 1 [6] (v 6)) (some (cst (vi 1))) none) (argC (fz 0 [2] (v 2)) argN)) kLst), (fz 0 [7] (v 7))]) kTup)]) rAppend)) (ifs (tst (v 3) blOf) (pre [8, 9, 10, 11] [6, 7] (forsV 6 wEnum (gtup [(gname 8), (gname 9)]) (tdy [8, 9, 10, 11] [] (ifs (tst (two (v 9) (cst (vi 0)) kLt) blOf) (sq (asg (argsk (argS (slc (fz 1 [6] (v 6)) none (some (v 8))) (argC (fz 0 [2] (v 2)) (argS (slc (fz 1 [6] (v 6)) (some (two (fz 1 [8] (v 8)) (cst (vi 1)) kAdd)) none) argN))) kLst) (gname 10))
    (sq (asg (argsk (argS (slc (fz 1 [7] (v 7)) none (some (two (one (cst (vi 1)) kNeg) (v 9) kSub))) (argC (fz 0 [2] (v 2)) (argS (slc (fz 1 [7] (v 7)) (some (one (v 9) kNeg)) none) argN))) kLst) (gname 11))
    (ex (recv 5 (args [(argsk (args [(call m_p_moved [] [.val (fz 1 [0] (two (v 0) (v 8) kIx)), .lend 10]), (fz 0 [11] (v 11))]) kTup)]) rAppend)))) skip)) (fors (itN kE (args [(fz 0 [6] (v 6))])) (gtup [(gname 8), (gname 9)]) (tdy [8, 9, 10, 11] [] (ifs (tst (two (v 9) (cst (vi 0)) kLt) blOf) (sq (asg (argsk (argS (slc (fz 1 [6] (v 6)) none (some (v 8))) (argC (fz 0 [2] (v 2)) (argS (slc (fz 1 [6] (v 6)) (some (two (fz 1 [8] (v 8)) (cst (vi 1)) kAdd)) none) argN))) kLst) (gname 10))
    (sq (asg (argsk (argS (slc (fz 1 [7] (v 7)) none (some (two (one (cst (vi 1)) kNeg) (v 9) kSub))) (argC (fz 0 [2] (v 2)) (argS (slc (fz 1 [7] (v 7)) (some (one (v 9) kNeg)) none) argN))) kLst) (gname 11))
    (ex (recv 5 (args [(argsk (args [(call m_p_moved [] [.val (fz 1 [0] (two (v 0) (v 8) kIx)), .lend 10]), (fz 0 [11] (v 11))]) kTup)]) rAppend)))) skip))))) skip)))) (fors (it1 kL (fz 0 [1] (v 1))) (gtup [(gname 6), (gname 7)]) (tdy [6, 7, 8, 9, 10, 11] [] (ifs (tst (two (v 2) (v 6) kIn) blOf) (ifs (tst (v 4) blOf) (ex (recv 5 (args [(argsk (args [(call m_p_moved [] [.val (fz 1 [0] (two (v 0) (meth isL (v 6) (args [(v 2)]) kIndex) kIx)), .lend 6]), (fz 0 [7] (v 7))]) kTup)]) rAppend)) skip) (ifs (tnot (tst (v 4) blOf)) (ex (recv 5 (args [(argsk (args [(argsk (argS (slc (fz 1 [6] (v 6)) (some (cst (vi 1))) none) (argC (fz 0 [2] (v 2)) argN)) kLst), (fz 0 [7] (v 7))]) kTup)]) rAppend)) (ifs (tst (v 3) blOf) (pre [8, 9, 10, 11] [6, 7] (forsV 6 wEnum (gtup [(gname 8), (gname 9)]) (tdy [8, 9, 10, 11] [] (ifs (tst (two (v 9) (cst (vi 0)) kLt) blOf) (sq (asg (argsk (argS (slc (fz 1 [6] (v 6)) none (some (v 8))) (argC (fz 0 [2] (v 2)) (argS (slc (fz 1 [6] (v 6)) (some (two (fz 1 [8] (v 8)) (cst (vi 1)) kAdd)) none) argN))) kLst) (gname 10))
    (sq (asg (argsk (argS (slc (fz 1 [7] (v 7)) none (some (two (one (cst (vi 1)) kNeg) (v 9) kSub))) (argC (fz 0 [2] (v 2)) (argS (slc (fz 1 [7] (v 7)) (some (one (v 9) kNeg)) none) argN))) kLst) (gname 11))
    (ex (recv 5 (args [(argsk (args [(call m_p_moved [] [.val (fz 1 [0] (two (v 0) (v 8) kIx)), .lend 10]), (fz 0 [11] (v 11))]) kTup)]) rAppend)))) skip)) (fors (itN kE (args [(fz 0 [6] (v 6))])) (gtup [(gname 8), (gname 9)]) (tdy [8, 9, 10, 11] [] (ifs (tst (two (v 9) (cst (vi 0)) kLt) blOf) (sq (asg (argsk (argS (slc (fz 1 [6] (v 6)) none (some (v 8))) (argC (fz 0 [2] (v 2)) (argS (slc (fz 1 [6] (v 6)) (some (two (fz 1 [8] (v 8)) (cst (vi 1)) kAdd)) none) argN))) kLst) (gname 10))
    (sq (asg (argsk (argS (slc (fz 1 [7] (v 7)) none (some (two (one (cst (vi 1)) kNeg) (v 9) kSub))) (argC (fz 0 [2] (v 2)) (argS (slc (fz 1 [7] (v 7)) (some (one (v 9) kNeg)) none) argN))) kLst) (gname 11))
    (ex (recv 5 (args [(argsk (args [(call m_p_moved [] [.val (fz 1 [0] (two (v 0) (v 8) kIx)), .lend 10]), (fz 0 [11] (v 11))]) kTup)]) rAppend)))) skip))))) skip)))))))
    (retv 5))))
noncomputable def q_p_fits_behind_0 : MS := (tdy [8, 9, 10, 11] [] (ifs (tst (two (v 9) (cst (vi 0)) kLt) blOf) (sq (asg (argsk (argS (slc (fz 1 [6] (v 6)) none (some (v 8))) (argC (fz 0 [2] (v 2)) (argS (slc (fz 1 [6] (v 6)) (some (two (fz 1 [8] (v 8)) (cst (vi 1)) kAdd)) none) argN))) kLst) (gname 10))
    (sq (asg (argsk (argS (slc (fz 1 [7] (v 7)) none (some (two (one (cst (vi 1)) kNeg) (v 9) kSub))) (argC (fz 0 [2] (v 2)) (argS (slc (fz 1 [7] (v 7)) (some (one (v 9) kNeg)) none) argN))) kLst) (gname 11))
    (ex (recv 5 (args [(argsk (args [(call m_p_moved [] [.val (fz 1 [0] (two (v 0) (v 8) kIx)), .lend 10]), (fz 0 [11] (v 11))]) kTup)]) rAppend)))) skip))
noncomputable def w_p_fits_behind_0 : MS := (pre [8, 9, 10, 11] [6, 7] (forsV 6 wEnum (gtup [(gname 8), (gname 9)]) q_p_fits_behind_0 (fors (itN kE (args [(fz 0 [6] (v 6))])) (gtup [(gname 8), (gname 9)]) q_p_fits_behind_0)))
noncomputable def q_p_fits_behind_1 : MS := (tdy [6, 7, 8, 9, 10, 11] [] (ifs (tst (two (v 2) (v 6) kIn) blOf) (ifs (tst (v 4) blOf) (ex (recv 5 (args [(argsk (args [(call m_p_moved [] [.val (fz 1 [0] (two (v 0) (meth isL (v 6) (args [(v 2)]) kIndex) kIx)), .lend 6]), (fz 0 [7] (v 7))]) kTup)]) rAppend)) skip) (ifs (tnot (tst (v 4) blOf)) (ex (recv 5 (args [(argsk (args [(argsk (argS (slc (fz 1 [6] (v 6)) (some (cst (vi 1))) none) (argC (fz 0 [2] (v 2)) argN)) kLst), (fz 0 [7] (v 7))]) kTup)]) rAppend)) (ifs (tst (v 3) blOf) w_p_fits_behind_0 skip))))
noncomputable def w_p_fits_behind_1 : MS := (pre [6, 7, 8, 9, 10, 11] [] (forsV 1 wOne (gtup [(gname 6), (gname 7)]) q_p_fits_behind_1 (fors (it1 kL (fz 0 [1] (v 1))) (gtup [(gname 6), (gname 7)]) q_p_fits_behind_1)))
theorem b_p_fits_behind_eq : b_p_fits_behind = (pre [] [0, 1, 2, 3, 4] (sq (asg (argsk (args []) kLst) (gname 5))
    (sq w_p_fits_behind_1
    (retv 5)))) := rfl
noncomputable def m_p_fits_behind : List PV → RF := fnM 12 [true, true, true, true, true] b_p_fits_behind
noncomputable def b_p_pairs_behind : MS := (pre [] [0, 1, 2] (sq (asg (argsk (args [(v 0)]) kLen) (gname 3))
    (sq (asg (argsk (args [(argsk (args [(comp (itN kR1 (args [(v 3)])) (gname 7) yes (two (one (cst (vi 1)) kNeg) (v 7) kSub) [7]), (two (argsk (args [(one (cst (vi 1)) kNeg)]) kLst) (v 3) kMul)]) kTup)]) kLst) (gname 4))
    (sq (pre [5, 6] [] (forsV 1 wEnum (gtup [(gname 5), (gname 6)]) (tdy [5, 6] [] (sq (asg (call m_p_fits_behind [] [.lend 0, .lend 4, .lend 6, .val (two (v 6) (slc (fz 1 [1] (v 1)) none (some (v 5))) kNotIn), .val (fz 1 [2] (two (v 2) (v 5) kIx))]) (gname 4))
    (ifs (tst (two (argsk (args [(v 4)]) kLen) (cst ⟨false, 0, (.int 5000)⟩) kGt) blOf) (fun _ => .no) skip))) (fors (itN kE (args [(fz 0 [1] (v 1))])) (gtup [(gname 5), (gname 6)]) (tdy [5, 6] [] (sq (asg (call m_p_fits_behind [] [.lend 0, .lend 4, .lend 6, .val (two (v 6) (slc (fz 1 [1] (v 1)) none (some (v 5))) kNotIn), .val (fz 1 [2] (two (v 2) (v 5) kIx))]) (gname 4))
    (ifs (tst (two (argsk (args [(v 4)]) kLen) (cst ⟨false, 0, (.int 5000)⟩) kGt) blOf) (fun _ => .no) skip))))))
    (retv 4)))))
noncomputable def q_p_pairs_behind_0 : MS := (tdy [5, 6] [] (sq (asg (call m_p_fits_behind [] [.lend 0, .lend 4, .lend 6, .val (two (v 6) (slc (fz 1 [1] (v 1)) none (some (v 5))) kNotIn), .val (fz 1 [2] (two (v 2) (v 5) kIx))]) (gname 4))
    (ifs (tst (two (argsk (args [(v 4)]) kLen) (cst ⟨false, 0, (.int 5000)⟩) kGt) blOf) (fun _ => .no) skip)))
noncomputable def w_p_pairs_behind_0 : MS := (pre [5, 6] [] (forsV 1 wEnum (gtup [(gname 5), (gname 6)]) q_p_pairs_behind_0 (fors (itN kE (args [(fz 0 [1] (v 1))])) (gtup [(gname 5), (gname 6)]) q_p_pairs_behind_0)))
noncomputable def t_p_pairs_behind_0 : MS := (asg (argsk (args [(v 0)]) kLen) (gname 3))
noncomputable def t_p_pairs_behind_1 : MS := (asg (argsk (args [(argsk (args [(comp (itN kR1 (args [(v 3)])) (gname 7) yes (two (one (cst (vi 1)) kNeg) (v 7) kSub) [7]), (two (argsk (args [(one (cst (vi 1)) kNeg)]) kLst) (v 3) kMul)]) kTup)]) kLst) (gname 4))
noncomputable def t_p_pairs_behind_2 : MS := w_p_pairs_behind_0
noncomputable def t_p_pairs_behind_3 : MS := (retv 4)
theorem b_p_pairs_behind_eq : b_p_pairs_behind = (pre [] [0, 1, 2] (sq t_p_pairs_behind_0
    (sq t_p_pairs_behind_1
    (sq t_p_pairs_behind_2
    t_p_pairs_behind_3)))) := rfl
noncomputable def m_p_pairs_behind : List PV → RF := fnM 8 [true, true, true] b_p_pairs_behind
noncomputable def b_p_with_none : MS := (pre [] [0] (sq (asg (dcT (it1 kL (fz 0 [0] (v 0))) (gname 2) yes (argsk (args [(soft [2] (comp (it1 kL (v 2)) (gname 3) yes (argsk (args [(one (cst (vi 1)) kNeg), (v 3)]) kMax) [3]))]) kTuple) (cst (vb true)) [2]) (gname 1))
    (ret (comp (it1 kL (argsk (args [(v 1)]) kSdtL)) (gname 2) yes (soft [2] (comp (it1 kT (v 2)) (gname 3) yes (ift (tst (two (v 3) (cst (vi 0)) kLt) blOf) (cst vn) (fz 0 [3] (v 3))) [3])) [2]))))
noncomputable def m_p_with_none : List PV → RF := fnM 4 [true] b_p_with_none
noncomputable def b_p_first_rows : MS := (pre [] [0, 1, 2] (sq (ex (call m_p_check_record [] [.lend 0, .lend 1, .lend 2]))
    (ret (call m_p_with_none [] [.val (comp (it1 kL (call m_p_pairs_behind [] [.lend 0, .lend 1, .lend 2])) (gtup [(gname 3), (gname 4)]) yes (fz 0 [4] (v 4)) [3, 4])]))))
noncomputable def m_p_first_rows : List PV → RF := fnM 5 [true, true, true] b_p_first_rows
noncomputable def b_p_is_possible : MS := (pre [] [0, 1, 2] (sq (ex (call m_p_check_record [] [.lend 0, .lend 1, .lend 2]))
    (ret (two (call m_p_pairs_behind [] [.lend 0, .lend 1, .lend 2]) (argsk (args []) kLst) kNe))))
noncomputable def m_p_is_possible : List PV → RF := fnM 3 [true, true, true] b_p_is_possible
noncomputable def b_p_next_one : MS := (pre [] [0, 1, 2, 3] (sq (ex (call m_p_check_record [] [.lend 0, .lend 1, .lend 2]))
    (sq (ifs (tnot (tst (call m_p_is_block [] [.lend 3]) blOf)) (fun _ => .no) skip)
    (sq (asg (call m_p_pairs_behind [] [.lend 0, .lend 1, .lend 2]) (gname 4))
    (sq (ifs (tst (two (v 4) (argsk (args []) kLst) kEq) blOf) (ret (cst vn)) skip)
    (sq (asg (comp (it1 kL (fz 0 [4] (v 4))) (gtup [(gname 6), (gname 7)]) (tst (two (v 3) (v 6) kIn) blOf) (fz 0 [6] (v 6)) [6, 7]) (gname 5))
    (sq (ifs (tand (tst (two (v 3) (v 1) kNotIn) blOf) (tst (argsk (args [(soft [4] (comp (it1 kL (v 4)) (gtup [(gname 6), (gname 7)]) yes (two (argsk (args [(v 6)]) kMinL) (cst (vi 0)) kLt) [6, 7]))]) kAny) blOf)) (ret (cst (vs "open"))) skip)
    (ret (ift (tst (two (argsk (args [(v 5)]) kLen) (argsk (args [(v 4)]) kLen) kEq) blOf) (cst (vs "hit")) (ift (tst (two (v 5) (argsk (args []) kLst) kNe) blOf) (cst (vs "open")) (cst (vs "miss"))))))))))))
noncomputable def t_p_next_one_0 : MS := (ex (call m_p_check_record [] [.lend 0, .lend 1, .lend 2]))
noncomputable def t_p_next_one_1 : MS := (ifs (tnot (tst (call m_p_is_block [] [.lend 3]) blOf)) (fun _ => .no) skip)
noncomputable def t_p_next_one_2 : MS := (asg (call m_p_pairs_behind [] [.lend 0, .lend 1, .lend 2]) (gname 4))
noncomputable def t_p_next_one_3 : MS := (ifs (tst (two (v 4) (argsk (args []) kLst) kEq) blOf) (ret (cst vn)) skip)
noncomputable def t_p_next_one_4 : MS := (asg (comp (it1 kL (fz 0 [4] (v 4))) (gtup [(gname 6), (gname 7)]) (tst (two (v 3) (v 6) kIn) blOf) (fz 0 [6] (v 6)) [6, 7]) (gname 5))
noncomputable def t_p_next_one_5 : MS := (ifs (tand (tst (two (v 3) (v 1) kNotIn) blOf) (tst (argsk (args [(soft [4] (comp (it1 kL (v 4)) (gtup [(gname 6), (gname 7)]) yes (two (argsk (args [(v 6)]) kMinL) (cst (vi 0)) kLt) [6, 7]))]) kAny) blOf)) (ret (cst (vs "open"))) skip)
noncomputable def t_p_next_one_6 : MS := (ret (ift (tst (two (argsk (args [(v 5)]) kLen) (argsk (args [(v 4)]) kLen) kEq) blOf) (cst (vs "hit")) (ift (tst (two (v 5) (argsk (args []) kLst) kNe) blOf) (cst (vs "open")) (cst (vs "miss")))))
theorem b_p_next_one_eq : b_p_next_one = (pre [] [0, 1, 2, 3] (sq t_p_next_one_0
    (sq t_p_next_one_1
    (sq t_p_next_one_2
    (sq t_p_next_one_3
    (sq t_p_next_one_4
    (sq t_p_next_one_5
    t_p_next_one_6))))))) := rfl
noncomputable def m_p_next_one : List PV → RF := fnM 8 [true, true, true, true] b_p_next_one
noncomputable def b_p_rows_left : MS := (pre [] [0, 1, 2] (sq (ex (call m_p_check_record [] [.lend 0, .lend 1, .lend 2]))
    (ret (call m_p_with_none [] [.val (comp (it1 kL (call m_p_pairs_behind [] [.lend 0, .lend 1, .lend 2])) (gtup [(gname 3), (gname 4)]) yes (fz 0 [3] (v 3)) [3, 4])]))))
noncomputable def m_p_rows_left : List PV → RF := fnM 5 [true, true, true] b_p_rows_left
noncomputable def b_l_long_right : MS := (sq (asg (two (cst (vi 2)) (call m_l_dip [] [.lend 0, .val (cst (vi 11))]) kAdd) (gname 1))
    (sq (par 2 3 (args [(call m_l_moves [] [.lend 0, .lend 1]), (one (two (two (fz 1 [1] (v 1)) (cst (vi 1)) kAdd) (call m_l_dip [] [.lend 0, .val (cst (vi 3))]) kAdd) fun x => kRange [x])]))
    (sq (par3 4 5 6 (args [(comp (itN kR1 (args [(v 1)])) (gname 11) yes (two (cst (vi 200)) (fz 1 [11] (v 11)) kAdd) [11]), (two (argsk (args [(cst (vb false))]) kLst) (v 1) kMul), (comp (itN kR1 (args [(v 1)])) (gname 11) yes (two (cst (vi 200)) (fz 1 [11] (v 11)) kAdd) [11])]))
    (sq (pre [7, 8, 9] [1, 2, 3, 6] (fors (itN kR1 (args [(two (cst (vi 40)) (call m_l_dip [] [.lend 0, .val (cst (vi 320))]) kAdd)])) (gname 7) (tdy [7, 8, 9] [6] (sq (asg (fz 1 [3] (ixv2 3 (call m_l_dip [] [.lend 0, .val (argsk (args [(v 3)]) kLen)]))) (gname 8))
    (sq (asg (call m_l_step [] [.lend 2, .lend 6, .lend 8]) (gtup [(gname 9), (gname 6)]))
    (sq (ex (recv 4 (args [(fz 0 [8] (v 8))]) rAppend))
    (ex (recv 5 (args [(fz 0 [9] (v 9))]) rAppend))))))))
    (sq (asg (argsk (args [(call m_p_first_rows [] [.lend 2, .lend 4, .lend 5]), (call m_p_rows_left [] [.lend 2, .lend 4, .lend 5]), (call m_p_next_one [] [.lend 2, .lend 4, .lend 5, .val (fz 1 [6] (two (v 6) (cst (vi 0)) kIx))])]) kLst) (gname 10))
    (sq (ifs (tst (two (v 10) (argsk (args [(argsk (args [(two (argsk (args [(cst vn)]) kLst) (v 1) kMul)]) kLst), (argsk (args [(fz 0 [6] (v 6))]) kLst), (cst (vs "hit"))]) kLst) kNe) blOf) (ret (cst (vb false))) skip)
    (sq (asg (two (fz 0 [1] (v 1)) (two (argsk (args [(two (two (two (argsk (args [(v 5)]) kLen) (v 1) kSub) (cst (vi 1)) kSub) (call m_l_dip [] [.lend 0, .val (cst (vi 20))]) kSub), (call m_l_dip [] [.lend 0, .val (two (argsk (args [(v 5)]) kLen) (v 1) kSub)])]) kLst) (call m_l_dip [] [.lend 0, .val (cst (vi 2))]) kIx) kAdd) (gname 11))
    (sq (asg (two (two (slc (fz 1 [5] (v 5)) none (some (v 11))) (argsk (args [(one (two (v 5) (v 11) kIx) kNot)]) kLst) kAdd) (slc (fz 1 [5] (v 5)) (some (two (fz 1 [11] (v 11)) (cst (vi 1)) kAdd)) none) kAdd) (gname 12))
    (sq (asg (argsk (args [(call m_p_first_rows [] [.lend 2, .lend 4, .lend 12]), (call m_p_is_possible [] [.lend 2, .lend 4, .lend 12]), (call m_p_next_one [] [.lend 2, .lend 4, .lend 12, .val (cst (vi 0))])]) kLst) (gname 10))
    (ret (vand (two (v 10) (argsk (args [(argsk (args []) kLst), (cst (vb false)), (cst vn)]) kLst) kEq) (two (call m_p_is_possible [] [.lend 2, .lend 4, .lend 5]) (cst (vb true)) kIs))))))))))))
noncomputable def r_l_long_right_0 : MS := (asg (fz 1 [3] (ixv2 3 (call m_l_dip [] [.lend 0, .val (argsk (args [(v 3)]) kLen)]))) (gname 8))
noncomputable def r_l_long_right_1 : MS := (asg (call m_l_step [] [.lend 2, .lend 6, .lend 8]) (gtup [(gname 9), (gname 6)]))
noncomputable def r_l_long_right_2 : MS := (ex (recv 4 (args [(fz 0 [8] (v 8))]) rAppend))
noncomputable def r_l_long_right_3 : MS := (ex (recv 5 (args [(fz 0 [9] (v 9))]) rAppend))
noncomputable def q_l_long_right_0 : MS := (tdy [7, 8, 9] [6] (sq r_l_long_right_0
    (sq r_l_long_right_1
    (sq r_l_long_right_2
    r_l_long_right_3))))
noncomputable def w_l_long_right_0 : MS := (pre [7, 8, 9] [1, 2, 3, 6] (fors (itN kR1 (args [(two (cst (vi 40)) (call m_l_dip [] [.lend 0, .val (cst (vi 320))]) kAdd)])) (gname 7) q_l_long_right_0))
noncomputable def t_l_long_right_0 : MS := (asg (two (cst (vi 2)) (call m_l_dip [] [.lend 0, .val (cst (vi 11))]) kAdd) (gname 1))
noncomputable def t_l_long_right_1 : MS := (par 2 3 (args [(call m_l_moves [] [.lend 0, .lend 1]), (one (two (two (fz 1 [1] (v 1)) (cst (vi 1)) kAdd) (call m_l_dip [] [.lend 0, .val (cst (vi 3))]) kAdd) fun x => kRange [x])]))
noncomputable def t_l_long_right_2 : MS := (par3 4 5 6 (args [(comp (itN kR1 (args [(v 1)])) (gname 11) yes (two (cst (vi 200)) (fz 1 [11] (v 11)) kAdd) [11]), (two (argsk (args [(cst (vb false))]) kLst) (v 1) kMul), (comp (itN kR1 (args [(v 1)])) (gname 11) yes (two (cst (vi 200)) (fz 1 [11] (v 11)) kAdd) [11])]))
noncomputable def t_l_long_right_3 : MS := w_l_long_right_0
noncomputable def t_l_long_right_4 : MS := (asg (argsk (args [(call m_p_first_rows [] [.lend 2, .lend 4, .lend 5]), (call m_p_rows_left [] [.lend 2, .lend 4, .lend 5]), (call m_p_next_one [] [.lend 2, .lend 4, .lend 5, .val (fz 1 [6] (two (v 6) (cst (vi 0)) kIx))])]) kLst) (gname 10))
noncomputable def t_l_long_right_5 : MS := (ifs (tst (two (v 10) (argsk (args [(argsk (args [(two (argsk (args [(cst vn)]) kLst) (v 1) kMul)]) kLst), (argsk (args [(fz 0 [6] (v 6))]) kLst), (cst (vs "hit"))]) kLst) kNe) blOf) (ret (cst (vb false))) skip)
noncomputable def t_l_long_right_6 : MS := (asg (two (fz 0 [1] (v 1)) (two (argsk (args [(two (two (two (argsk (args [(v 5)]) kLen) (v 1) kSub) (cst (vi 1)) kSub) (call m_l_dip [] [.lend 0, .val (cst (vi 20))]) kSub), (call m_l_dip [] [.lend 0, .val (two (argsk (args [(v 5)]) kLen) (v 1) kSub)])]) kLst) (call m_l_dip [] [.lend 0, .val (cst (vi 2))]) kIx) kAdd) (gname 11))
noncomputable def t_l_long_right_7 : MS := (asg (two (two (slc (fz 1 [5] (v 5)) none (some (v 11))) (argsk (args [(one (two (v 5) (v 11) kIx) kNot)]) kLst) kAdd) (slc (fz 1 [5] (v 5)) (some (two (fz 1 [11] (v 11)) (cst (vi 1)) kAdd)) none) kAdd) (gname 12))
noncomputable def t_l_long_right_8 : MS := (asg (argsk (args [(call m_p_first_rows [] [.lend 2, .lend 4, .lend 12]), (call m_p_is_possible [] [.lend 2, .lend 4, .lend 12]), (call m_p_next_one [] [.lend 2, .lend 4, .lend 12, .val (cst (vi 0))])]) kLst) (gname 10))
noncomputable def t_l_long_right_9 : MS := (ret (vand (two (v 10) (argsk (args [(argsk (args []) kLst), (cst (vb false)), (cst vn)]) kLst) kEq) (two (call m_p_is_possible [] [.lend 2, .lend 4, .lend 5]) (cst (vb true)) kIs)))
theorem b_l_long_right_eq : b_l_long_right = (sq t_l_long_right_0
    (sq t_l_long_right_1
    (sq t_l_long_right_2
    (sq t_l_long_right_3
    (sq t_l_long_right_4
    (sq t_l_long_right_5
    (sq t_l_long_right_6
    (sq t_l_long_right_7
    (sq t_l_long_right_8
    t_l_long_right_9))))))))) := rfl
noncomputable def m_l_long_right : List PV → RF := fnM 13 [true] b_l_long_right
noncomputable def b_l_fills : MS := (pre [] [0, 1] (ret (two (comp (itN kR1 (args [(argsk (args [(v 0)]) kLen)])) (gname 2) (tand (tst (two (two (v 1) (v 2) kIx) (cst vn) kIsNot) blOf) (tst (two (two (v 0) (v 2) kIx) (two (v 1) (v 2) kIx) kNe) blOf)) (cst (vi 1)) [2]) (argsk (args []) kLst) kEq)))
noncomputable def m_l_fills : List PV → RF := fnM 3 [true, true] b_l_fills
noncomputable def b_l_grown_right : MS := (pre [] [0, 1, 2, 3] (sq (asg (argsk (args [(call m_p_first_rows [] [.lend 0, .lend 1, .lend 2]), (call m_p_next_one [] [.lend 0, .lend 1, .lend 2, .lend 3])]) kTup) (gtup [(gname 4), (gname 5)]))
    (sq (asg (comp (it1 kT (argsk (args [(cst (vb true)), (cst (vb false))]) kTup)) (gname 7) yes (call m_p_is_possible [] [.lend 0, .val (two (fz 0 [1] (v 1)) (argsk (args [(fz 0 [3] (v 3))]) kLst) kAdd), .val (two (fz 0 [2] (v 2)) (argsk (args [(fz 0 [7] (v 7))]) kLst) kAdd)]) [7]) (gname 6))
    (sq (ifs (tst (two (v 5) (ift (tst (two (v 6) (argsk (args [(cst (vb true)), (cst (vb true))]) kLst) kEq) blOf) (cst (vs "open")) (ift (tst (two (v 6) (argsk (args [(cst (vb true)), (cst (vb false))]) kLst) kEq) blOf) (cst (vs "hit")) (cst (vs "miss")))) kNe) blOf) (ret (cst (vb false))) skip)
    (sq (pre [7, 8] [4, 6] (fors (it1 kT (argsk (args [(cst (vb true)), (cst (vb false))]) kTup)) (gname 7) (tdy [7, 8] [] (sq (asg (call m_p_first_rows [] [.lend 0, .val (two (fz 0 [1] (v 1)) (argsk (args [(fz 0 [3] (v 3))]) kLst) kAdd), .val (two (fz 0 [2] (v 2)) (argsk (args [(fz 0 [7] (v 7))]) kLst) kAdd)]) (gname 8))
    (sq (ifs (tst (two (two (v 8) (argsk (args []) kLst) kNe) (two (v 6) (ift (tst (v 7) blOf) (cst (vi 0)) (cst (vi 1))) kIx) kNe) blOf) (ret (cst (vb false))) skip)
    (ifs (tst (two (soft [8] (comp (it1 kL (v 8)) (gname 9) (tst (two (soft [4] (comp (it1 kL (v 4)) (gname 10) (tst (call m_l_fills [] [.lend 9, .lend 10]) blOf) (fz 0 [10] (v 10)) [10])) (argsk (args []) kLst) kEq) blOf) (fz 0 [9] (v 9)) [9])) (argsk (args []) kLst) kNe) blOf) (ret (cst (vb false))) skip))))))
    (ret (cst (vb true))))))))
noncomputable def q_l_grown_right_0 : MS := (tdy [7, 8] [] (sq (asg (call m_p_first_rows [] [.lend 0, .val (two (fz 0 [1] (v 1)) (argsk (args [(fz 0 [3] (v 3))]) kLst) kAdd), .val (two (fz 0 [2] (v 2)) (argsk (args [(fz 0 [7] (v 7))]) kLst) kAdd)]) (gname 8))
    (sq (ifs (tst (two (two (v 8) (argsk (args []) kLst) kNe) (two (v 6) (ift (tst (v 7) blOf) (cst (vi 0)) (cst (vi 1))) kIx) kNe) blOf) (ret (cst (vb false))) skip)
    (ifs (tst (two (soft [8] (comp (it1 kL (v 8)) (gname 9) (tst (two (soft [4] (comp (it1 kL (v 4)) (gname 10) (tst (call m_l_fills [] [.lend 9, .lend 10]) blOf) (fz 0 [10] (v 10)) [10])) (argsk (args []) kLst) kEq) blOf) (fz 0 [9] (v 9)) [9])) (argsk (args []) kLst) kNe) blOf) (ret (cst (vb false))) skip))))
noncomputable def w_l_grown_right_0 : MS := (pre [7, 8] [4, 6] (fors (it1 kT (argsk (args [(cst (vb true)), (cst (vb false))]) kTup)) (gname 7) q_l_grown_right_0))
noncomputable def t_l_grown_right_0 : MS := (asg (argsk (args [(call m_p_first_rows [] [.lend 0, .lend 1, .lend 2]), (call m_p_next_one [] [.lend 0, .lend 1, .lend 2, .lend 3])]) kTup) (gtup [(gname 4), (gname 5)]))
noncomputable def t_l_grown_right_1 : MS := (asg (comp (it1 kT (argsk (args [(cst (vb true)), (cst (vb false))]) kTup)) (gname 7) yes (call m_p_is_possible [] [.lend 0, .val (two (fz 0 [1] (v 1)) (argsk (args [(fz 0 [3] (v 3))]) kLst) kAdd), .val (two (fz 0 [2] (v 2)) (argsk (args [(fz 0 [7] (v 7))]) kLst) kAdd)]) [7]) (gname 6))
noncomputable def t_l_grown_right_2 : MS := (ifs (tst (two (v 5) (ift (tst (two (v 6) (argsk (args [(cst (vb true)), (cst (vb true))]) kLst) kEq) blOf) (cst (vs "open")) (ift (tst (two (v 6) (argsk (args [(cst (vb true)), (cst (vb false))]) kLst) kEq) blOf) (cst (vs "hit")) (cst (vs "miss")))) kNe) blOf) (ret (cst (vb false))) skip)
noncomputable def t_l_grown_right_3 : MS := w_l_grown_right_0
noncomputable def t_l_grown_right_4 : MS := (ret (cst (vb true)))
theorem b_l_grown_right_eq : b_l_grown_right = (pre [] [0, 1, 2, 3] (sq t_l_grown_right_0
    (sq t_l_grown_right_1
    (sq t_l_grown_right_2
    (sq t_l_grown_right_3
    t_l_grown_right_4))))) := rfl
noncomputable def m_l_grown_right : List PV → RF := fnM 11 [true, true, true, true] b_l_grown_right
noncomputable def b_l_right : MS := (pre [] [1] (sq (par 2 3 (args [(call m_l_moves [] [.lend 0, .lend 1]), (comp (it1 kL (call m_l_perm [] [.lend 0, .lend 1])) (gname 12) yes (two (cst (vi 20)) (fz 1 [12] (v 12)) kAdd) [12])]))
    (sq (par3 4 5 6 (args [(argsk (args [(v 2)]) kRepr), (argsk (args []) kLst), (argsk (args []) kLst)]))
    (sq (pre [7, 8, 9] [2, 3, 4, 5, 6] (fors (itN kR1 (args [(two (cst (vi 2)) (call m_l_dip [] [.lend 0, .val (cst (vi 7))]) kAdd)])) (gname 7) (tdy [7, 8, 9] [3, 5, 6] (sq (asg (two (cst (vi 18)) (call m_l_dip [] [.lend 0, .val (two (argsk (args [(cst (vi 4)), (v 1)]) kMin) (cst (vi 2)) kAdd)]) kAdd) (gname 8))
    (sq (ifs (tor (tnot (tst (call m_p_is_possible [] [.lend 2, .lend 5, .lend 6]) blOf)) (tnot (tst (call m_l_grown_right [] [.lend 2, .lend 5, .lend 6, .lend 8]) blOf))) (ret (cst (vb false))) skip)
    (sq (asg (call m_l_step [] [.lend 2, .lend 3, .lend 8]) (gtup [(gname 9), (gname 3)]))
    (par 5 6 (args [(two (fz 0 [5] (v 5)) (argsk (args [(fz 0 [8] (v 8))]) kLst) kAdd), (two (fz 0 [6] (v 6)) (argsk (args [(fz 0 [9] (v 9))]) kLst) kAdd)]))))))))
    (sq (asg (comp (itN kR1 (args [(v 1)])) (gname 12) yes (two (cst (vi 100)) (fz 1 [12] (v 12)) kAdd) [12]) (gname 10))
    (sq (par 5 6 (args [(two (fz 1 [5] (v 5)) (fz 1 [10] (v 10)) kAdd), (two (fz 1 [6] (v 6)) (two (argsk (args [(cst (vb false))]) kLst) (v 1) kMul) kAdd)]))
    (sq (ifs (tor (tst (two (call m_p_rows_left [] [.lend 2, .lend 5, .lend 6]) (argsk (args [(fz 0 [10] (v 10))]) kLst) kNe) blOf) (tst (two (call m_p_next_one [] [.lend 2, .lend 5, .lend 6, .val (fz 1 [10] (two (v 10) (one (cst (vi 1)) kNeg) kIx))]) (cst (vs "hit")) kNe) blOf)) (ret (cst (vb false))) skip)
    (sq (asg (comp (itN kR1 (args [(v 1)])) (gname 12) yes (two (two (two (argsk (args [(cst vn)]) kLst) (two (two (v 1) (cst (vi 1)) kSub) (v 12) kSub) kMul) (argsk (args [(cst (vi 5))]) kLst) kAdd) (two (argsk (args [(cst vn)]) kLst) (v 12) kMul) kAdd) [12]) (gname 11))
    (ret (vand (two (call m_p_first_rows [] [.lend 2, .val (argsk (args [(cst (vi 5))]) kLst), .val (argsk (args [(cst (vb true))]) kLst)]) (v 11) kEq) (two (argsk (args [(v 2)]) kRepr) (v 4) kEq)))))))))))
noncomputable def r_l_right_0 : MS := (asg (two (cst (vi 18)) (call m_l_dip [] [.lend 0, .val (two (argsk (args [(cst (vi 4)), (v 1)]) kMin) (cst (vi 2)) kAdd)]) kAdd) (gname 8))
noncomputable def r_l_right_1 : MS := (ifs (tor (tnot (tst (call m_p_is_possible [] [.lend 2, .lend 5, .lend 6]) blOf)) (tnot (tst (call m_l_grown_right [] [.lend 2, .lend 5, .lend 6, .lend 8]) blOf))) (ret (cst (vb false))) skip)
noncomputable def r_l_right_2 : MS := (asg (call m_l_step [] [.lend 2, .lend 3, .lend 8]) (gtup [(gname 9), (gname 3)]))
noncomputable def r_l_right_3 : MS := (par 5 6 (args [(two (fz 0 [5] (v 5)) (argsk (args [(fz 0 [8] (v 8))]) kLst) kAdd), (two (fz 0 [6] (v 6)) (argsk (args [(fz 0 [9] (v 9))]) kLst) kAdd)]))
noncomputable def q_l_right_0 : MS := (tdy [7, 8, 9] [3, 5, 6] (sq r_l_right_0
    (sq r_l_right_1
    (sq r_l_right_2
    r_l_right_3))))
noncomputable def w_l_right_0 : MS := (pre [7, 8, 9] [2, 3, 4, 5, 6] (fors (itN kR1 (args [(two (cst (vi 2)) (call m_l_dip [] [.lend 0, .val (cst (vi 7))]) kAdd)])) (gname 7) q_l_right_0))
noncomputable def t_l_right_0 : MS := (par 2 3 (args [(call m_l_moves [] [.lend 0, .lend 1]), (comp (it1 kL (call m_l_perm [] [.lend 0, .lend 1])) (gname 12) yes (two (cst (vi 20)) (fz 1 [12] (v 12)) kAdd) [12])]))
noncomputable def t_l_right_1 : MS := (par3 4 5 6 (args [(argsk (args [(v 2)]) kRepr), (argsk (args []) kLst), (argsk (args []) kLst)]))
noncomputable def t_l_right_2 : MS := w_l_right_0
noncomputable def t_l_right_3 : MS := (asg (comp (itN kR1 (args [(v 1)])) (gname 12) yes (two (cst (vi 100)) (fz 1 [12] (v 12)) kAdd) [12]) (gname 10))
noncomputable def t_l_right_4 : MS := (par 5 6 (args [(two (fz 1 [5] (v 5)) (fz 1 [10] (v 10)) kAdd), (two (fz 1 [6] (v 6)) (two (argsk (args [(cst (vb false))]) kLst) (v 1) kMul) kAdd)]))
noncomputable def t_l_right_5 : MS := (ifs (tor (tst (two (call m_p_rows_left [] [.lend 2, .lend 5, .lend 6]) (argsk (args [(fz 0 [10] (v 10))]) kLst) kNe) blOf) (tst (two (call m_p_next_one [] [.lend 2, .lend 5, .lend 6, .val (fz 1 [10] (two (v 10) (one (cst (vi 1)) kNeg) kIx))]) (cst (vs "hit")) kNe) blOf)) (ret (cst (vb false))) skip)
noncomputable def t_l_right_6 : MS := (asg (comp (itN kR1 (args [(v 1)])) (gname 12) yes (two (two (two (argsk (args [(cst vn)]) kLst) (two (two (v 1) (cst (vi 1)) kSub) (v 12) kSub) kMul) (argsk (args [(cst (vi 5))]) kLst) kAdd) (two (argsk (args [(cst vn)]) kLst) (v 12) kMul) kAdd) [12]) (gname 11))
noncomputable def t_l_right_7 : MS := (ret (vand (two (call m_p_first_rows [] [.lend 2, .val (argsk (args [(cst (vi 5))]) kLst), .val (argsk (args [(cst (vb true))]) kLst)]) (v 11) kEq) (two (argsk (args [(v 2)]) kRepr) (v 4) kEq)))
theorem b_l_right_eq : b_l_right = (pre [] [1] (sq t_l_right_0
    (sq t_l_right_1
    (sq t_l_right_2
    (sq t_l_right_3
    (sq t_l_right_4
    (sq t_l_right_5
    (sq t_l_right_6
    t_l_right_7)))))))) := rfl
noncomputable def m_l_right : List PV → RF := fnM 13 [true, true] b_l_right
noncomputable def b_l_well : MS := (sq (asg (ift (tst (two (v 1) (argsk (args [(v 0)]) kLen) kLt) blOf) (fz 1 [0] (two (v 0) (v 1) kIx)) (cst (vi 0))) (gname 2))
    (ret (argsk (args [(argsk (args [(cst (vi 0)), (two (argsk (args [(v 2)]) kAbs) (two (cst (vi 10)) (cst (vi 18)) kPow) kSub)]) kMax), (two (argsk (args [(two (two (two (v 2) (cst (vi 89)) kMul) (two (cst (vi 17)) (v 1) kMul) kAdd) (cst (vi 41)) kAdd)]) kInt) (two (two (cst (vi 10)) (cst (vi 39)) kPow) (cst (vi 37)) kAdd) kMod), (cst (vi 0))]) kLst)))
noncomputable def m_l_well : List PV → RF := fnM 3 [true, true] b_l_well
noncomputable def b_p_law : MS := (pre [] [0] (sq (pre [1, 2, 3] [] (fors (itN kR1 (args [(argsk (args [(cst (vi 1)), (argsk (args [(cst (vi 3)), (argsk (args [(v 0)]) kLen)]) kMin)]) kMax)])) (gname 1) (tdy [1, 2, 3] [] (sq (asg (call m_l_well [] [.lend 0, .lend 1]) (gname 2))
    (sq (pre [3] [] (fors (it1 kL (argsk (args [(two (cst (vi 2)) (call m_l_dip [] [.lend 2, .val (cst (vi 3))]) kAdd), (two (cst (vi 4)) (call m_l_dip [] [.lend 2, .val (cst (vi 2))]) kAdd)]) kLst)) (gname 3) (tdy [3] [] (ifs (tnot (tst (call m_l_right [] [.lend 2, .lend 3]) blOf)) (ret (cst (vb false))) skip))))
    (ifs (tnot (tst (call m_l_long_right [] [.lend 2]) blOf)) (ret (cst (vb false))) skip))))))
    (ret (cst (vb true)))))
noncomputable def q_p_law_0 : MS := (tdy [3] [] (ifs (tnot (tst (call m_l_right [] [.lend 2, .lend 3]) blOf)) (ret (cst (vb false))) skip))
noncomputable def w_p_law_0 : MS := (pre [3] [] (fors (it1 kL (argsk (args [(two (cst (vi 2)) (call m_l_dip [] [.lend 2, .val (cst (vi 3))]) kAdd), (two (cst (vi 4)) (call m_l_dip [] [.lend 2, .val (cst (vi 2))]) kAdd)]) kLst)) (gname 3) q_p_law_0))
noncomputable def q_p_law_1 : MS := (tdy [1, 2, 3] [] (sq (asg (call m_l_well [] [.lend 0, .lend 1]) (gname 2))
    (sq w_p_law_0
    (ifs (tnot (tst (call m_l_long_right [] [.lend 2]) blOf)) (ret (cst (vb false))) skip))))
noncomputable def w_p_law_1 : MS := (pre [1, 2, 3] [] (fors (itN kR1 (args [(argsk (args [(cst (vi 1)), (argsk (args [(cst (vi 3)), (argsk (args [(v 0)]) kLen)]) kMin)]) kMax)])) (gname 1) q_p_law_1))
theorem b_p_law_eq : b_p_law = (pre [] [0] (sq w_p_law_1
    (ret (cst (vb true))))) := rfl
noncomputable def m_p_law : List PV → RF := fnM 4 [true] b_p_law
end Lw
set_option maxHeartbeats 4000000
namespace Lw
open PySem PySem.Spec PyProof.Rows L2 Vs
def top (i : Nat) : Stmt := PySem.Challenge.pw_goesnext_k51_records_grow.main.body.getD i (.Pass ⟨0, 0, 0, 0⟩)
abbrev s_l_dip : Stmt := top 31
abbrev N_l_dip : List Str := ["_law_well_here", "_law_many", "_law_digit", "_law_mixed"]
theorem nd_l_dip : N_l_dip.Nodup := by decide +kernel
theorem sc_l_dip : FnScope N_l_dip ["_law_well_here", "_law_many"] (defScope s_l_dip) := ⟨rfl, rfl, rfl, nd_l_dip, rfl, by decide +kernel, by decide +kernel⟩
abbrev s_l_lift : Stmt := top 33
abbrev N_l_lift : List Str := ["_law_size", "_law_spot", "_law_goal_spot", "_law_found", "_law_j"]
theorem nd_l_lift : N_l_lift.Nodup := by decide +kernel
theorem sc_l_lift : FnScope N_l_lift ["_law_size", "_law_spot", "_law_goal_spot"] (defScope s_l_lift) := ⟨rfl, rfl, rfl, nd_l_lift, rfl, by decide +kernel, by decide +kernel⟩
abbrev s_l_perm : Stmt := top 32
abbrev N_l_perm : List Str := ["_law_well_here", "_law_size", "_law_left", "_law_turn"]
theorem nd_l_perm : N_l_perm.Nodup := by decide +kernel
theorem sc_l_perm : FnScope N_l_perm ["_law_well_here", "_law_size"] (defScope s_l_perm) := ⟨rfl, rfl, rfl, nd_l_perm, rfl, by decide +kernel, by decide +kernel⟩
abbrev s_l_moves : Stmt := top 34
abbrev N_l_moves : List Str := ["_law_well_here", "_law_size", "_law_found", "_law_spot", "_law_some"]
theorem nd_l_moves : N_l_moves.Nodup := by decide +kernel
theorem sc_l_moves : FnScope N_l_moves ["_law_well_here", "_law_size"] (defScope s_l_moves) := ⟨rfl, rfl, rfl, nd_l_moves, rfl, by decide +kernel, by decide +kernel⟩
abbrev s_l_hit : Stmt := top 35
abbrev N_l_hit : List Str := ["_law_moves_here", "_law_line", "_law_spot", "_law_found", "_law_j"]
theorem nd_l_hit : N_l_hit.Nodup := by decide +kernel
theorem sc_l_hit : FnScope N_l_hit ["_law_moves_here", "_law_line", "_law_spot"] (defScope s_l_hit) := ⟨rfl, rfl, rfl, nd_l_hit, rfl, by decide +kernel, by decide +kernel⟩
abbrev s_l_step : Stmt := top 36
abbrev N_l_step : List Str := ["_law_moves_here", "_law_line", "_law_thing"]
theorem nd_l_step : N_l_step.Nodup := by decide +kernel
theorem sc_l_step : FnScope N_l_step ["_law_moves_here", "_law_line", "_law_thing"] (defScope s_l_step) := ⟨rfl, rfl, rfl, nd_l_step, rfl, by decide +kernel, by decide +kernel⟩
abbrev s_p_check_outcomes : Stmt := top 20
abbrev N_p_check_outcomes : List Str := ["stream", "value", "item"]
theorem nd_p_check_outcomes : N_p_check_outcomes.Nodup := by decide +kernel
theorem sc_p_check_outcomes : FnScope N_p_check_outcomes ["stream", "value"] (defScope s_p_check_outcomes) := ⟨rfl, rfl, rfl, nd_p_check_outcomes, rfl, by decide +kernel, by decide +kernel⟩
abbrev s_p_is_integer : Stmt := top 8
abbrev N_p_is_integer : List Str := ["value", "least", "most"]
theorem nd_p_is_integer : N_p_is_integer.Nodup := by decide +kernel
theorem sc_p_is_integer : FnScope N_p_is_integer ["value", "least", "most"] (defScope s_p_is_integer) := ⟨rfl, rfl, rfl, nd_p_is_integer, rfl, by decide +kernel, by decide +kernel⟩
abbrev s_p_is_permutation_of : Stmt := top 9
abbrev N_p_is_permutation_of : List Str := ["value", "size", "item"]
theorem nd_p_is_permutation_of : N_p_is_permutation_of.Nodup := by decide +kernel
theorem sc_p_is_permutation_of : FnScope N_p_is_permutation_of ["value", "size"] (defScope s_p_is_permutation_of) := ⟨rfl, rfl, rfl, nd_p_is_permutation_of, rfl, by decide +kernel, by decide +kernel⟩
abbrev s_p_check_rule : Stmt := top 14
abbrev N_p_check_rule : List Str := ["value", "index", "item"]
theorem nd_p_check_rule : N_p_check_rule.Nodup := by decide +kernel
theorem sc_p_check_rule : FnScope N_p_check_rule ["value"] (defScope s_p_check_rule) := ⟨rfl, rfl, rfl, nd_p_check_rule, rfl, by decide +kernel, by decide +kernel⟩
abbrev s_p_is_block : Stmt := top 15
abbrev N_p_is_block : List Str := ["value"]
theorem nd_p_is_block : N_p_is_block.Nodup := by decide +kernel
theorem sc_p_is_block : FnScope N_p_is_block ["value"] (defScope s_p_is_block) := ⟨rfl, rfl, rfl, nd_p_is_block, rfl, by decide +kernel, by decide +kernel⟩
abbrev s_p_check_stream : Stmt := top 16
abbrev N_p_check_stream : List Str := ["value", "index", "item"]
theorem nd_p_check_stream : N_p_check_stream.Nodup := by decide +kernel
theorem sc_p_check_stream : FnScope N_p_check_stream ["value"] (defScope s_p_check_stream) := ⟨rfl, rfl, rfl, nd_p_check_stream, rfl, by decide +kernel, by decide +kernel⟩
abbrev s_p_check_record : Stmt := top 21
abbrev N_p_check_record : List Str := ["rule", "stream", "outcomes"]
theorem nd_p_check_record : N_p_check_record.Nodup := by decide +kernel
theorem sc_p_check_record : FnScope N_p_check_record ["rule", "stream", "outcomes"] (defScope s_p_check_record) := ⟨rfl, rfl, rfl, nd_p_check_record, rfl, by decide +kernel, by decide +kernel⟩
abbrev s_p_moved : Stmt := top 17
abbrev N_p_moved : List Str := ["permutation", "row", "found", "place", "item"]
theorem nd_p_moved : N_p_moved.Nodup := by decide +kernel
theorem sc_p_moved : FnScope N_p_moved ["permutation", "row"] (defScope s_p_moved) := ⟨rfl, rfl, rfl, nd_p_moved, rfl, by decide +kernel, by decide +kernel⟩
abbrev s_p_fits_behind : Stmt := top 22
abbrev N_p_fits_behind : List Str := ["rule", "pairs", "block", "is_new", "outcome", "found", "now", "first", "place", "here", "known", "begun"]
theorem nd_p_fits_behind : N_p_fits_behind.Nodup := by decide +kernel
theorem sc_p_fits_behind : FnScope N_p_fits_behind ["rule", "pairs", "block", "is_new", "outcome"] (defScope s_p_fits_behind) := ⟨rfl, rfl, rfl, nd_p_fits_behind, rfl, by decide +kernel, by decide +kernel⟩
abbrev s_p_pairs_behind : Stmt := top 23
abbrev N_p_pairs_behind : List Str := ["rule", "stream", "outcomes", "size", "pairs", "spot", "block", "place"]
theorem nd_p_pairs_behind : N_p_pairs_behind.Nodup := by decide +kernel
theorem sc_p_pairs_behind : FnScope N_p_pairs_behind ["rule", "stream", "outcomes"] (defScope s_p_pairs_behind) := ⟨rfl, rfl, rfl, nd_p_pairs_behind, rfl, by decide +kernel, by decide +kernel⟩
abbrev s_p_with_none : Stmt := top 24
abbrev N_p_with_none : List Str := ["rows", "marked", "row", "block"]
theorem nd_p_with_none : N_p_with_none.Nodup := by decide +kernel
theorem sc_p_with_none : FnScope N_p_with_none ["rows"] (defScope s_p_with_none) := ⟨rfl, rfl, rfl, nd_p_with_none, rfl, by decide +kernel, by decide +kernel⟩
abbrev s_p_first_rows : Stmt := top 25
abbrev N_p_first_rows : List Str := ["rule", "stream", "outcomes", "now", "first"]
theorem nd_p_first_rows : N_p_first_rows.Nodup := by decide +kernel
theorem sc_p_first_rows : FnScope N_p_first_rows ["rule", "stream", "outcomes"] (defScope s_p_first_rows) := ⟨rfl, rfl, rfl, nd_p_first_rows, rfl, by decide +kernel, by decide +kernel⟩
abbrev s_p_is_possible : Stmt := top 26
abbrev N_p_is_possible : List Str := ["rule", "stream", "outcomes"]
theorem nd_p_is_possible : N_p_is_possible.Nodup := by decide +kernel
theorem sc_p_is_possible : FnScope N_p_is_possible ["rule", "stream", "outcomes"] (defScope s_p_is_possible) := ⟨rfl, rfl, rfl, nd_p_is_possible, rfl, by decide +kernel, by decide +kernel⟩
abbrev s_p_next_one : Stmt := top 28
abbrev N_p_next_one : List Str := ["rule", "stream", "outcomes", "block", "pairs", "hits", "now", "first"]
theorem nd_p_next_one : N_p_next_one.Nodup := by decide +kernel
theorem sc_p_next_one : FnScope N_p_next_one ["rule", "stream", "outcomes", "block"] (defScope s_p_next_one) := ⟨rfl, rfl, rfl, nd_p_next_one, rfl, by decide +kernel, by decide +kernel⟩
abbrev s_p_rows_left : Stmt := top 27
abbrev N_p_rows_left : List Str := ["rule", "stream", "outcomes", "now", "first"]
theorem nd_p_rows_left : N_p_rows_left.Nodup := by decide +kernel
theorem sc_p_rows_left : FnScope N_p_rows_left ["rule", "stream", "outcomes"] (defScope s_p_rows_left) := ⟨rfl, rfl, rfl, nd_p_rows_left, rfl, by decide +kernel, by decide +kernel⟩
abbrev s_l_long_right : Stmt := top 40
abbrev N_l_long_right : List Str := ["_law_well_here", "_law_size", "_law_moves_here", "_law_blocks", "_law_things", "_law_outs", "_law_line", "_law_turn", "_law_thing", "_law_is_hit", "_law_told", "_law_spot", "_law_wrong"]
theorem nd_l_long_right : N_l_long_right.Nodup := by decide +kernel
theorem sc_l_long_right : FnScope N_l_long_right ["_law_well_here"] (defScope s_l_long_right) := ⟨rfl, rfl, rfl, nd_l_long_right, rfl, by decide +kernel, by decide +kernel⟩
abbrev s_l_fills : Stmt := top 37
abbrev N_l_fills : List Str := ["_law_line", "_law_early", "_law_spot"]
theorem nd_l_fills : N_l_fills.Nodup := by decide +kernel
theorem sc_l_fills : FnScope N_l_fills ["_law_line", "_law_early"] (defScope s_l_fills) := ⟨rfl, rfl, rfl, nd_l_fills, rfl, by decide +kernel, by decide +kernel⟩
abbrev s_l_grown_right : Stmt := top 38
abbrev N_l_grown_right : List Str := ["_law_moves_here", "_law_things", "_law_outs", "_law_thing", "_law_before", "_law_word", "_law_both", "_law_out", "_law_behind", "_law_line", "_law_early"]
theorem nd_l_grown_right : N_l_grown_right.Nodup := by decide +kernel
theorem sc_l_grown_right : FnScope N_l_grown_right ["_law_moves_here", "_law_things", "_law_outs", "_law_thing"] (defScope s_l_grown_right) := ⟨rfl, rfl, rfl, nd_l_grown_right, rfl, by decide +kernel, by decide +kernel⟩
abbrev s_l_right : Stmt := top 39
abbrev N_l_right : List Str := ["_law_well_here", "_law_size", "_law_moves_here", "_law_line", "_law_held", "_law_things", "_law_outs", "_law_turn", "_law_thing", "_law_is_hit", "_law_news", "_law_due", "_law_spot"]
theorem nd_l_right : N_l_right.Nodup := by decide +kernel
theorem sc_l_right : FnScope N_l_right ["_law_well_here", "_law_size"] (defScope s_l_right) := ⟨rfl, rfl, rfl, nd_l_right, rfl, by decide +kernel, by decide +kernel⟩
abbrev s_l_well : Stmt := top 30
abbrev N_l_well : List Str := ["_law_script", "_law_k", "_law_cell"]
theorem nd_l_well : N_l_well.Nodup := by decide +kernel
theorem sc_l_well : FnScope N_l_well ["_law_script", "_law_k"] (defScope s_l_well) := ⟨rfl, rfl, rfl, nd_l_well, rfl, by decide +kernel, by decide +kernel⟩
abbrev s_p_law : Stmt := top 41
abbrev N_p_law : List Str := ["_law_script", "_law_k", "_law_well_here", "_law_size"]
theorem nd_p_law : N_p_law.Nodup := by decide +kernel
theorem sc_p_law : FnScope N_p_law ["_law_script"] (defScope s_p_law) := ⟨rfl, rfl, rfl, nd_p_law, rfl, by decide +kernel, by decide +kernel⟩
structure Txt (K : PySem.W.Frag) (mg : Str → Option Value) : Prop where
  z_abs : mg "abs" = none
  z_all : mg "all" = none
  z_any : mg "any" = none
  z_bool : mg "bool" = none
  z_enumerate : mg "enumerate" = none
  z_int : mg "int" = none
  z_isinstance : mg "isinstance" = none
  z_len : mg "len" = none
  z_list : mg "list" = none
  z_max : mg "max" = none
  z_min : mg "min" = none
  z_range : mg "range" = none
  z_repr : mg "repr" = none
  z_sorted : mg "sorted" = none
  z_tuple : mg "tuple" = none
  w_LEAST_PLACES : Konst K mg "LEAST_PLACES" (.int 2)
  w_MOST_BLOCK : Konst K mg "MOST_BLOCK" (.int 1000000000)
  w_MOST_PLACES : Konst K mg "MOST_PLACES" (.int 12)
  w_MOST_ROWS : Konst K mg "MOST_ROWS" (.int 5000)
section
variable {P : Program} {w : World} {K : PySem.W.Frag} {mg : Str → Option Value} {base : Heap} {ct : Str → Addr}
theorem bl_dip_2 {f : Addr} {fd : FuncData} (F : FunD K "_law_dip" "_law_dip" (defArgs s_l_dip) (defBody s_l_dip) (defScope s_l_dip) [] [] f fd) : L2.Binds K fd ["_law_well_here", "_law_many"] [] := binds_0 F fun _ _ _ _ _ _ us hl => match us, hl with | [_, _], _ => rfl
theorem bl_fills_2 {f : Addr} {fd : FuncData} (F : FunD K "_law_fills" "_law_fills" (defArgs s_l_fills) (defBody s_l_fills) (defScope s_l_fills) [] [] f fd) : L2.Binds K fd ["_law_line", "_law_early"] [] := binds_0 F fun _ _ _ _ _ _ us hl => match us, hl with | [_, _], _ => rfl
theorem bl_grown_right_4 {f : Addr} {fd : FuncData} (F : FunD K "_law_grown_right" "_law_grown_right" (defArgs s_l_grown_right) (defBody s_l_grown_right) (defScope s_l_grown_right) [] [] f fd) : L2.Binds K fd ["_law_moves_here", "_law_things", "_law_outs", "_law_thing"] [] := binds_0 F fun _ _ _ _ _ _ us hl => match us, hl with | [_, _, _, _], _ => rfl
theorem bl_hit_3 {f : Addr} {fd : FuncData} (F : FunD K "_law_hit" "_law_hit" (defArgs s_l_hit) (defBody s_l_hit) (defScope s_l_hit) [] [] f fd) : L2.Binds K fd ["_law_moves_here", "_law_line", "_law_spot"] [] := binds_0 F fun _ _ _ _ _ _ us hl => match us, hl with | [_, _, _], _ => rfl
theorem bl_lift_3 {f : Addr} {fd : FuncData} (F : FunD K "_law_lift" "_law_lift" (defArgs s_l_lift) (defBody s_l_lift) (defScope s_l_lift) [] [] f fd) : L2.Binds K fd ["_law_size", "_law_spot", "_law_goal_spot"] [] := binds_0 F fun _ _ _ _ _ _ us hl => match us, hl with | [_, _, _], _ => rfl
theorem bl_long_right_1 {f : Addr} {fd : FuncData} (F : FunD K "_law_long_right" "_law_long_right" (defArgs s_l_long_right) (defBody s_l_long_right) (defScope s_l_long_right) [] [] f fd) : L2.Binds K fd ["_law_well_here"] [] := binds_0 F fun _ _ _ _ _ _ us hl => match us, hl with | [_], _ => rfl
theorem bl_moves_2 {f : Addr} {fd : FuncData} (F : FunD K "_law_moves" "_law_moves" (defArgs s_l_moves) (defBody s_l_moves) (defScope s_l_moves) [] [] f fd) : L2.Binds K fd ["_law_well_here", "_law_size"] [] := binds_0 F fun _ _ _ _ _ _ us hl => match us, hl with | [_, _], _ => rfl
theorem bl_perm_2 {f : Addr} {fd : FuncData} (F : FunD K "_law_perm" "_law_perm" (defArgs s_l_perm) (defBody s_l_perm) (defScope s_l_perm) [] [] f fd) : L2.Binds K fd ["_law_well_here", "_law_size"] [] := binds_0 F fun _ _ _ _ _ _ us hl => match us, hl with | [_, _], _ => rfl
theorem bl_right_2 {f : Addr} {fd : FuncData} (F : FunD K "_law_right" "_law_right" (defArgs s_l_right) (defBody s_l_right) (defScope s_l_right) [] [] f fd) : L2.Binds K fd ["_law_well_here", "_law_size"] [] := binds_0 F fun _ _ _ _ _ _ us hl => match us, hl with | [_, _], _ => rfl
theorem bl_step_3 {f : Addr} {fd : FuncData} (F : FunD K "_law_step" "_law_step" (defArgs s_l_step) (defBody s_l_step) (defScope s_l_step) [] [] f fd) : L2.Binds K fd ["_law_moves_here", "_law_line", "_law_thing"] [] := binds_0 F fun _ _ _ _ _ _ us hl => match us, hl with | [_, _, _], _ => rfl
theorem bl_well_2 {f : Addr} {fd : FuncData} (F : FunD K "_law_well" "_law_well" (defArgs s_l_well) (defBody s_l_well) (defScope s_l_well) [] [] f fd) : L2.Binds K fd ["_law_script", "_law_k"] [] := binds_0 F fun _ _ _ _ _ _ us hl => match us, hl with | [_, _], _ => rfl
theorem bp_check_outcomes_2 {f : Addr} {fd : FuncData} (F : FunD K "check_outcomes" "check_outcomes" (defArgs s_p_check_outcomes) (defBody s_p_check_outcomes) (defScope s_p_check_outcomes) [] [] f fd) : L2.Binds K fd ["stream", "value"] [] := binds_0 F fun _ _ _ _ _ _ us hl => match us, hl with | [_, _], _ => rfl
theorem bp_check_record_3 {f : Addr} {fd : FuncData} (F : FunD K "check_record" "check_record" (defArgs s_p_check_record) (defBody s_p_check_record) (defScope s_p_check_record) [] [] f fd) : L2.Binds K fd ["rule", "stream", "outcomes"] [] := binds_0 F fun _ _ _ _ _ _ us hl => match us, hl with | [_, _, _], _ => rfl
theorem bp_check_rule_1 {f : Addr} {fd : FuncData} (F : FunD K "check_rule" "check_rule" (defArgs s_p_check_rule) (defBody s_p_check_rule) (defScope s_p_check_rule) [] [] f fd) : L2.Binds K fd ["value"] [] := binds_0 F fun _ _ _ _ _ _ us hl => match us, hl with | [_], _ => rfl
theorem bp_check_stream_1 {f : Addr} {fd : FuncData} (F : FunD K "check_stream" "check_stream" (defArgs s_p_check_stream) (defBody s_p_check_stream) (defScope s_p_check_stream) [] [] f fd) : L2.Binds K fd ["value"] [] := binds_0 F fun _ _ _ _ _ _ us hl => match us, hl with | [_], _ => rfl
theorem bp_first_rows_3 {f : Addr} {fd : FuncData} (F : FunD K "first_rows" "first_rows" (defArgs s_p_first_rows) (defBody s_p_first_rows) (defScope s_p_first_rows) [] [] f fd) : L2.Binds K fd ["rule", "stream", "outcomes"] [] := binds_0 F fun _ _ _ _ _ _ us hl => match us, hl with | [_, _, _], _ => rfl
theorem bp_fits_behind_5 {f : Addr} {fd : FuncData} (F : FunD K "fits_behind" "fits_behind" (defArgs s_p_fits_behind) (defBody s_p_fits_behind) (defScope s_p_fits_behind) [] [] f fd) : L2.Binds K fd ["rule", "pairs", "block", "is_new", "outcome"] [] := binds_0 F fun _ _ _ _ _ _ us hl => match us, hl with | [_, _, _, _, _], _ => rfl
theorem bp_is_block_1 {f : Addr} {fd : FuncData} (F : FunD K "is_block" "is_block" (defArgs s_p_is_block) (defBody s_p_is_block) (defScope s_p_is_block) [] [] f fd) : L2.Binds K fd ["value"] [] := binds_0 F fun _ _ _ _ _ _ us hl => match us, hl with | [_], _ => rfl
theorem bp_is_integer_1 {f : Addr} {fd : FuncData} (F : FunD K "is_integer" "is_integer" (defArgs s_p_is_integer) (defBody s_p_is_integer) (defScope s_p_is_integer) [.non, .non] [] f fd) : ∃ ds, Vals (([.non, .non] : List V).drop 0) ds ∧ L2.Binds K fd ["value", "least", "most"] ds := binds_D 1 0 (by simp) rfl F fun _ _ _ _ _ _ _ us its h1 h2 => match us, its, h1, h2 with | [_], [_, _], _, _ => ⟨_, rfl, rfl⟩
theorem bp_is_integer_3 {f : Addr} {fd : FuncData} (F : FunD K "is_integer" "is_integer" (defArgs s_p_is_integer) (defBody s_p_is_integer) (defScope s_p_is_integer) [.non, .non] [] f fd) : ∃ ds, Vals (([.non, .non] : List V).drop 2) ds ∧ L2.Binds K fd ["value", "least", "most"] ds := binds_D 3 2 (by simp) rfl F fun _ _ _ _ _ _ _ us its h1 h2 => match us, its, h1, h2 with | [_, _, _], [_, _], _, _ => ⟨_, rfl, rfl⟩
theorem bp_is_permutation_of_2 {f : Addr} {fd : FuncData} (F : FunD K "is_permutation_of" "is_permutation_of" (defArgs s_p_is_permutation_of) (defBody s_p_is_permutation_of) (defScope s_p_is_permutation_of) [] [] f fd) : L2.Binds K fd ["value", "size"] [] := binds_0 F fun _ _ _ _ _ _ us hl => match us, hl with | [_, _], _ => rfl
theorem bp_is_possible_3 {f : Addr} {fd : FuncData} (F : FunD K "is_possible" "is_possible" (defArgs s_p_is_possible) (defBody s_p_is_possible) (defScope s_p_is_possible) [] [] f fd) : L2.Binds K fd ["rule", "stream", "outcomes"] [] := binds_0 F fun _ _ _ _ _ _ us hl => match us, hl with | [_, _, _], _ => rfl
theorem bp_moved_2 {f : Addr} {fd : FuncData} (F : FunD K "moved" "moved" (defArgs s_p_moved) (defBody s_p_moved) (defScope s_p_moved) [] [] f fd) : L2.Binds K fd ["permutation", "row"] [] := binds_0 F fun _ _ _ _ _ _ us hl => match us, hl with | [_, _], _ => rfl
theorem bp_next_one_4 {f : Addr} {fd : FuncData} (F : FunD K "next_one" "next_one" (defArgs s_p_next_one) (defBody s_p_next_one) (defScope s_p_next_one) [] [] f fd) : L2.Binds K fd ["rule", "stream", "outcomes", "block"] [] := binds_0 F fun _ _ _ _ _ _ us hl => match us, hl with | [_, _, _, _], _ => rfl
theorem bp_pairs_behind_3 {f : Addr} {fd : FuncData} (F : FunD K "pairs_behind" "pairs_behind" (defArgs s_p_pairs_behind) (defBody s_p_pairs_behind) (defScope s_p_pairs_behind) [] [] f fd) : L2.Binds K fd ["rule", "stream", "outcomes"] [] := binds_0 F fun _ _ _ _ _ _ us hl => match us, hl with | [_, _, _], _ => rfl
theorem bp_rows_left_3 {f : Addr} {fd : FuncData} (F : FunD K "rows_left" "rows_left" (defArgs s_p_rows_left) (defBody s_p_rows_left) (defScope s_p_rows_left) [] [] f fd) : L2.Binds K fd ["rule", "stream", "outcomes"] [] := binds_0 F fun _ _ _ _ _ _ us hl => match us, hl with | [_, _, _], _ => rfl
theorem bp_with_none_1 {f : Addr} {fd : FuncData} (F : FunD K "with_none" "with_none" (defArgs s_p_with_none) (defBody s_p_with_none) (defScope s_p_with_none) [] [] f fd) : L2.Binds K fd ["rows"] [] := binds_0 F fun _ _ _ _ _ _ us hl => match us, hl with | [_], _ => rfl
theorem fn_l_dip {a : Addr} {fd : FuncData} (T : Txt K mg) (F : FunD K "_law_dip" "_law_dip" (defArgs s_l_dip) (defBody s_l_dip) (defScope s_l_dip) [] [] a fd)  : Fn P w K mg base ct 1 a fd ["_law_well_here", "_law_many"] m_l_dip := by
  refine fn_ofD F sc_l_dip (by decide) rfl fun cdv A outer s H E hr hgd => ?_
  exact (ss_cons (ss_if (t_gt (s_ix (s_v 0) s_int) s_int) (ss_cons (ss_asg (s_mod (s_ty call_int1 kInt_op (by rfl) T.z_int (by decide +kernel) (by decide) (by decide) (sa_cons (s_ix (s_v 0) s_int) sa_nil)) (s_v 1)) (sg_name nd_l_dip (i := 2) rfl (Or.inl rfl) (by decide)))
    (ss_cons (ss_asg (s_div (s_ix (s_v 0) s_int) (s_v 1)) (sg_set s_int (i := 0)))
    (ss_one (ss_retv 2)))) ss_nil)
    (ss_cons (ss_asg (s_add (s_fz (s_ix (s_v 0) s_int)) s_int) (sg_set s_int (i := 0)))
    (ss_cons (ss_asg (s_mod (s_ty call_int1 kInt_op (by rfl) T.z_int (by decide +kernel) (by decide) (by decide) (sa_cons (s_pow (s_add (s_fz (s_ix (s_v 0) s_int)) (s_mul s_int (s_ix (s_v 0) s_int))) s_int) sa_nil)) (s_add (s_pow s_int s_int) s_int)) (sg_name nd_l_dip (i := 3) rfl (Or.inl rfl) (by decide)))
    (ss_cons (ss_asg (s_mod (s_ty call_int1 kInt_op (by rfl) T.z_int (by decide +kernel) (by decide) (by decide) (sa_cons (s_pow (s_add (s_mul (s_v 3) s_int) (s_mul s_int (s_ix (s_v 0) s_int))) s_int) sa_nil)) (s_add (s_pow s_int s_int) s_int)) (sg_name nd_l_dip (i := 3) rfl (Or.inl rfl) (by decide)))
    (ss_one (ss_ret (s_mod (s_ty call_int1 kInt_op (by rfl) T.z_int (by decide +kernel) (by decide) (by decide) (sa_cons (s_div (s_v 3) (s_pow s_int s_int)) sa_nil)) (s_v 1))))))))
theorem fn_l_lift {a : Addr} {fd : FuncData} (T : Txt K mg) (F : FunD K "_law_lift" "_law_lift" (defArgs s_l_lift) (defBody s_l_lift) (defScope s_l_lift) [] [] a fd)  : Fn P w K mg base ct 1 a fd ["_law_size", "_law_spot", "_law_goal_spot"] m_l_lift := by
  refine fn_ofD F sc_l_lift (by decide) rfl fun cdv A outer s H E hr hgd => ?_
  exact (ss_cons (ss_asg (s_listRg rfl (by rfl) T.z_list (by rfl) T.z_range (s_v 0)) (sg_name nd_l_lift (i := 3) rfl (Or.inl rfl) (by decide)))
    (ss_cons (ss_for rfl (i_range2 (by rfl) T.z_range (sa_cons (s_add (s_fz (s_v 1)) s_int) (sa_cons (s_add (s_fz (s_v 2)) s_int) sa_nil))) (sg_name nd_l_lift (i := 4) rfl (Or.inl rfl) (by decide)) (ss_one (ss_asg (s_sub (s_v 4) s_int) (sg_set (s_v 4) (i := 3)))))
    (ss_cons (ss_asg (s_fz (s_v 2)) (sg_set (s_v 1) (i := 3)))
    (ss_one (ss_retv 3)))))
theorem fn_l_perm {a : Addr} {fd : FuncData} (T : Txt K mg) (F : FunD K "_law_perm" "_law_perm" (defArgs s_l_perm) (defBody s_l_perm) (defScope s_l_perm) [] [] a fd) {a_l_dip : Addr} {fd_l_dip : FuncData} (G_l_dip : Fn P w K mg base ct 1 a_l_dip fd_l_dip ["_law_well_here", "_law_many"] m_l_dip) (g_l_dip : mg "_law_dip" = some (.ref a_l_dip)) (k_l_dip : PySem.W.keepIn K (.ref a_l_dip) = true) {dbl_dip_2 : List Value} (bl_dip_2 : L2.Binds K fd_l_dip ["_law_well_here", "_law_many"] dbl_dip_2) (vbl_dip_2 : Vals [] dbl_dip_2) : Fn P w K mg base ct 2 a fd ["_law_well_here", "_law_size"] m_l_perm := by
  refine fn_ofD F sc_l_perm (by decide) rfl fun cdv A outer s H E hr hgd => ?_
  exact (ss_cons (ss_asg (s_listRg rfl (by rfl) T.z_list (by rfl) T.z_range (s_v 1)) (sg_name nd_l_perm (i := 2) rfl (Or.inr rfl) (by decide)))
    (ss_one (ss_ret (s_comp (own := [("_law_turn", 3)]) rfl nd_l_perm (i_range1 (by rfl) T.z_range (sa_cons (s_v 1) sa_nil)) (blkOk_by (N := N_l_perm) (by kernel_rfl)) (fun n i => (sn_name nd_l_perm (i := 3) rfl (by first | exact Or.inl rfl | exact Or.inr rfl) (others_own (by decide)))) (fun i => sts_nil) (fun i => (by refine s_recv rPopAt_rc ?_ (i := 2) (fun po pa => pe_bm PySem.F.plainAttrs_list PySem.F.slot_list_pop PySem.F.type_list_pop mt_popAt po pa); exact (sa_cons (by exact (s_call G_l_dip hgd (hr.mono (by decide)) (by rfl) g_l_dip k_l_dip bl_dip_2 vbl_dip_2 .nil (sc_lend 0 (sc_val (s_bi call_len4 kLen_op (by rfl) T.z_len (by decide +kernel) (by decide) (by decide) (sa_cons (s_v 2) sa_nil)) sc_nil)) rfl)) sa_nil)))))))
theorem fn_l_moves {a : Addr} {fd : FuncData} (T : Txt K mg) (F : FunD K "_law_moves" "_law_moves" (defArgs s_l_moves) (defBody s_l_moves) (defScope s_l_moves) [] [] a fd) {a_l_dip : Addr} {fd_l_dip : FuncData} (G_l_dip : Fn P w K mg base ct 1 a_l_dip fd_l_dip ["_law_well_here", "_law_many"] m_l_dip) (g_l_dip : mg "_law_dip" = some (.ref a_l_dip)) (k_l_dip : PySem.W.keepIn K (.ref a_l_dip) = true) {a_l_lift : Addr} {fd_l_lift : FuncData} (G_l_lift : Fn P w K mg base ct 1 a_l_lift fd_l_lift ["_law_size", "_law_spot", "_law_goal_spot"] m_l_lift) (g_l_lift : mg "_law_lift" = some (.ref a_l_lift)) (k_l_lift : PySem.W.keepIn K (.ref a_l_lift) = true) {a_l_perm : Addr} {fd_l_perm : FuncData} (G_l_perm : Fn P w K mg base ct 2 a_l_perm fd_l_perm ["_law_well_here", "_law_size"] m_l_perm) (g_l_perm : mg "_law_perm" = some (.ref a_l_perm)) (k_l_perm : PySem.W.keepIn K (.ref a_l_perm) = true) {dbl_dip_2 : List Value} (bl_dip_2 : L2.Binds K fd_l_dip ["_law_well_here", "_law_many"] dbl_dip_2) (vbl_dip_2 : Vals [] dbl_dip_2) {dbl_lift_3 : List Value} (bl_lift_3 : L2.Binds K fd_l_lift ["_law_size", "_law_spot", "_law_goal_spot"] dbl_lift_3) (vbl_lift_3 : Vals [] dbl_lift_3) {dbl_perm_2 : List Value} (bl_perm_2 : L2.Binds K fd_l_perm ["_law_well_here", "_law_size"] dbl_perm_2) (vbl_perm_2 : Vals [] dbl_perm_2) : Fn P w K mg base ct 3 a fd ["_law_well_here", "_law_size"] m_l_moves := by
  refine fn_ofD F sc_l_moves (by decide) rfl fun cdv A outer s H E hr hgd => ?_
  exact (ss_cons (ss_asg (s_lst sa_nil) (sg_name nd_l_moves (i := 2) rfl (Or.inl rfl) (by decide)))
    (ss_cons (ss_for rfl (i_range1 (by rfl) T.z_range (sa_cons (s_v 1) sa_nil)) (sg_name nd_l_moves (i := 3) rfl (Or.inl rfl) (by decide)) (ss_cons (ss_asg (s_lst (sa_cons (s_listRg rfl (by rfl) T.z_list (by rfl) T.z_range (s_v 1)) (sa_cons (s_call G_l_lift hgd (hr.mono (by decide)) (by rfl) g_l_lift k_l_lift bl_lift_3 vbl_lift_3 .nil (sc_lend 1 (sc_lend 3 (sc_val (s_add (s_fz (s_v 3)) (s_call G_l_dip hgd (hr.mono (by decide)) (by rfl) g_l_dip k_l_dip bl_dip_2 vbl_dip_2 .nil (sc_lend 0 (sc_val (s_sub (s_v 1) (s_v 3)) sc_nil)) rfl)) sc_nil))) rfl) (sa_cons (s_call G_l_perm hgd (hr.mono (by decide)) (by rfl) g_l_perm k_l_perm bl_perm_2 vbl_perm_2 .nil (sc_lend 0 (sc_lend 1 sc_nil)) rfl) sa_nil)))) (sg_name nd_l_moves (i := 4) rfl (Or.inl rfl) (by decide)))
    (ss_one (ss_expr (s_recv rAppend_rc (sa_cons (s_fz (s_ixv 4 (s_call G_l_dip hgd (hr.mono (by decide)) (by rfl) g_l_dip k_l_dip bl_dip_2 vbl_dip_2 .nil (sc_lend 0 (sc_val s_int sc_nil)) rfl))) sa_nil) (i := 2) (fun po pa => pe_bm PySem.F.plainAttrs_list PySem.F.slot_list_append PySem.F.type_list_append mt_append po pa))))))
    (ss_one (ss_retv 2))))
theorem fn_l_hit {a : Addr} {fd : FuncData} (T : Txt K mg) (F : FunD K "_law_hit" "_law_hit" (defArgs s_l_hit) (defBody s_l_hit) (defScope s_l_hit) [] [] a fd)  : Fn P w K mg base ct 1 a fd ["_law_moves_here", "_law_line", "_law_spot"] m_l_hit := by
  refine fn_ofD F sc_l_hit (by decide) rfl fun cdv A outer s H E hr hgd => ?_
  exact (ss_cons (ss_asg (s_ty call_list_of kList_op (by rfl) T.z_list (by decide +kernel) (by decide) (by decide) (sa_cons (s_fz (s_v 1)) sa_nil)) (sg_name nd_l_hit (i := 3) rfl (Or.inl rfl) (by decide)))
    (ss_cons (ss_for rfl (i_range1 (by rfl) T.z_range (sa_cons (s_bi call_len4 kLen_op (by rfl) T.z_len (by decide +kernel) (by decide) (by decide) (sa_cons (s_v 1) sa_nil)) sa_nil)) (sg_name nd_l_hit (i := 4) rfl (Or.inl rfl) (by decide)) (ss_one (ss_asg (s_fz (s_ix (s_v 1) (s_v 4))) (sg_set (s_ix (s_ix (s_v 0) (s_v 2)) (s_v 4)) (i := 3)))))
    (ss_one (ss_retv 3))))
theorem fn_l_step {a : Addr} {fd : FuncData} (T : Txt K mg) (F : FunD K "_law_step" "_law_step" (defArgs s_l_step) (defBody s_l_step) (defScope s_l_step) [] [] a fd) {a_l_hit : Addr} {fd_l_hit : FuncData} (G_l_hit : Fn P w K mg base ct 1 a_l_hit fd_l_hit ["_law_moves_here", "_law_line", "_law_spot"] m_l_hit) (g_l_hit : mg "_law_hit" = some (.ref a_l_hit)) (k_l_hit : PySem.W.keepIn K (.ref a_l_hit) = true) {dbl_hit_3 : List Value} (bl_hit_3 : L2.Binds K fd_l_hit ["_law_moves_here", "_law_line", "_law_spot"] dbl_hit_3) (vbl_hit_3 : Vals [] dbl_hit_3) : Fn P w K mg base ct 2 a fd ["_law_moves_here", "_law_line", "_law_thing"] m_l_step := by
  refine fn_ofD F sc_l_step (by decide) rfl fun cdv A outer s H E hr hgd => ?_
  exact (sss_pre (ss_cons (ss_if (t_in hr (s_v 2) (s_v 1)) (ss_one (ss_ret (s_tup (sa_cons s_bl (sa_cons (s_call G_l_hit hgd (hr.mono (by decide)) (by rfl) g_l_hit k_l_hit bl_hit_3 vbl_hit_3 .nil (sc_lend 0 (sc_lend 1 (sc_val (s_methL kIndex_mt (s_v 1) (sa_cons (s_v 2) sa_nil) fun po pa => pe_bm PySem.F.plainAttrs_list PySem.F.slot_list_index PySem.F.type_list_index (mt_indexD (units_of hr)) po pa) sc_nil))) rfl) sa_nil))))) ss_nil)
    (ss_one (ss_ret (s_tup (sa_cons s_bl (sa_cons (s_add (s_slc (s_fz (s_v 1)) (so_some s_int) so_none) (s_lst (sa_cons (s_fz (s_v 2)) sa_nil))) sa_nil)))))))
theorem fn_p_check_outcomes {a : Addr} {fd : FuncData} (T : Txt K mg) (F : FunD K "check_outcomes" "check_outcomes" (defArgs s_p_check_outcomes) (defBody s_p_check_outcomes) (defScope s_p_check_outcomes) [] [] a fd)  : Fn P w K mg base ct 1 a fd ["stream", "value"] m_p_check_outcomes := by
  refine fn_ofD F sc_p_check_outcomes (by decide) rfl fun cdv A outer s H E hr hgd => ?_
  exact (sss_pre (ss_cons (ss_if (w_pt (w_or (t_not (t_val (s_isi .list (by rfl) T.z_isinstance (by rfl) T.z_list PyProof.Rows.boot_list (by decide) (by decide) (s_v 1)))) (w_or1 (t_ne hr (s_bi call_len4 kLen_op (by rfl) T.z_len (by decide +kernel) (by decide) (by decide) (sa_cons (s_v 1) sa_nil)) (s_bi call_len4 kLen_op (by rfl) T.z_len (by decide +kernel) (by decide) (by decide) (sa_cons (s_v 0) sa_nil)))))) (ss_one ss_no) ss_nil)
    (ss_one (ss_if (t_not (t_val (s_bi (cr_all rfl) kAll_op (by rfl) T.z_all (by decide +kernel) (by decide) (by decide) (sa_cons (s_soft (s_comp (own := [("item", 2)]) rfl nd_p_check_outcomes (i_list (s_v 1)) (blkOk_by (N := N_p_check_outcomes) (by kernel_rfl)) (fun n i => (sn_name nd_p_check_outcomes (i := 2) rfl (by first | exact Or.inl rfl | exact Or.inr rfl) (others_own (by decide)))) (fun i => sts_nil) (fun i => (s_isi .bool (by rfl) T.z_isinstance (by rfl) T.z_bool PyProof.Rows.boot_bool (by decide) (by decide) (s_v 2))))) sa_nil)))) (ss_one ss_no) ss_nil))))
theorem fn_p_is_integer {a : Addr} {fd : FuncData} (T : Txt K mg) (F : FunD K "is_integer" "is_integer" (defArgs s_p_is_integer) (defBody s_p_is_integer) (defScope s_p_is_integer) [.non, .non] [] a fd)  : Fn P w K mg base ct 1 a fd ["value", "least", "most"] m_p_is_integer := by
  refine fn_ofD F sc_p_is_integer (by decide) rfl fun cdv A outer s H E hr hgd => ?_
  exact (ss_cons (ss_if (w_pt (w_or (t_not (t_val (s_isi .int (by rfl) T.z_isinstance (by rfl) T.z_int PyProof.Rows.boot_int (by decide) (by decide) (s_v 0)))) (w_or1 (t_val (s_isi .bool (by rfl) T.z_isinstance (by rfl) T.z_bool PyProof.Rows.boot_bool (by decide) (by decide) (s_v 0)))))) (ss_one (ss_ret s_bl)) ss_nil)
    (ss_one (ss_ret (s_and (s_or (s_is (s_v 1) s_non) (s_one (s_ge (s_v 0) (s_v 1)))) (s_one (s_or (s_is (s_v 2) s_non) (s_one (s_le (s_v 0) (s_v 2)))))))))
theorem fn_p_is_permutation_of {a : Addr} {fd : FuncData} (T : Txt K mg) (F : FunD K "is_permutation_of" "is_permutation_of" (defArgs s_p_is_permutation_of) (defBody s_p_is_permutation_of) (defScope s_p_is_permutation_of) [] [] a fd) {a_p_is_integer : Addr} {fd_p_is_integer : FuncData} (G_p_is_integer : Fn P w K mg base ct 1 a_p_is_integer fd_p_is_integer ["value", "least", "most"] m_p_is_integer) (g_p_is_integer : mg "is_integer" = some (.ref a_p_is_integer)) (k_p_is_integer : PySem.W.keepIn K (.ref a_p_is_integer) = true) {dbp_is_integer_1 : List Value} (bp_is_integer_1 : L2.Binds K fd_p_is_integer ["value", "least", "most"] dbp_is_integer_1) (vbp_is_integer_1 : Vals [.non, .non] dbp_is_integer_1) : Fn P w K mg base ct 2 a fd ["value", "size"] m_p_is_permutation_of := by
  refine fn_ofD F sc_p_is_permutation_of (by decide) rfl fun cdv A outer s H E hr hgd => ?_
  exact (ss_cons (ss_if (w_pt (w_or (t_not (t_val (s_isi .list (by rfl) T.z_isinstance (by rfl) T.z_list PyProof.Rows.boot_list (by decide) (by decide) (s_v 0)))) (w_or (t_ne hr (s_bi call_len4 kLen_op (by rfl) T.z_len (by decide +kernel) (by decide) (by decide) (sa_cons (s_v 0) sa_nil)) (s_v 1)) (w_or1 (t_not (t_val (s_bi (cr_all rfl) kAll_op (by rfl) T.z_all (by decide +kernel) (by decide) (by decide) (sa_cons (s_soft (s_comp (own := [("item", 2)]) rfl nd_p_is_permutation_of (i_list (s_v 0)) (blkOk_by (N := N_p_is_permutation_of) (by kernel_rfl)) (fun n i => (sn_name nd_p_is_permutation_of (i := 2) rfl (by first | exact Or.inl rfl | exact Or.inr rfl) (others_own (by decide)))) (fun i => sts_nil) (fun i => (s_call G_p_is_integer hgd (hr.mono (by decide)) (by rfl) g_p_is_integer k_p_is_integer bp_is_integer_1 vbp_is_integer_1 (.cons ⟨rfl, fun _ _ => .non _⟩ (.cons ⟨rfl, fun _ _ => .non _⟩ .nil)) (sc_lend 2 sc_nil) rfl)))) sa_nil)))))))) (ss_one (ss_ret s_bl)) ss_nil)
    (ss_one (ss_ret (s_eq hr (s_bi cr_sorted kSorted_op (by rfl) T.z_sorted (by decide +kernel) (by decide) (by decide) (sa_cons (s_v 0) sa_nil)) (s_listRg rfl (by rfl) T.z_list (by rfl) T.z_range (s_v 1))))))
theorem fn_p_check_rule {a : Addr} {fd : FuncData} (T : Txt K mg) (F : FunD K "check_rule" "check_rule" (defArgs s_p_check_rule) (defBody s_p_check_rule) (defScope s_p_check_rule) [] [] a fd) {a_p_is_permutation_of : Addr} {fd_p_is_permutation_of : FuncData} (G_p_is_permutation_of : Fn P w K mg base ct 2 a_p_is_permutation_of fd_p_is_permutation_of ["value", "size"] m_p_is_permutation_of) (g_p_is_permutation_of : mg "is_permutation_of" = some (.ref a_p_is_permutation_of)) (k_p_is_permutation_of : PySem.W.keepIn K (.ref a_p_is_permutation_of) = true) {dbp_is_permutation_of_2 : List Value} (bp_is_permutation_of_2 : L2.Binds K fd_p_is_permutation_of ["value", "size"] dbp_is_permutation_of_2) (vbp_is_permutation_of_2 : Vals [] dbp_is_permutation_of_2) : Fn P w K mg base ct 3 a fd ["value"] m_p_check_rule := by
  refine fn_ofD F sc_p_check_rule (by decide) rfl fun cdv A outer s H E hr hgd => ?_
  exact (ss_cons (ss_if (w_pt (w_or (t_not (t_val (s_isi .list (by rfl) T.z_isinstance (by rfl) T.z_list PyProof.Rows.boot_list (by decide) (by decide) (s_v 0)))) (w_or1 (t_not (t_chain op_le op_le (s_globC T.w_LEAST_PLACES (by rfl)) (s_bi call_len4 kLen_op (by rfl) T.z_len (by decide +kernel) (by decide) (by decide) (sa_cons (s_v 0) sa_nil)) (s_globC T.w_MOST_PLACES (by rfl))))))) (ss_one ss_no) ss_nil)
    (ss_one (ss_forV 0 live_enum rfl (pi_liveE 0 (by rfl) T.z_enumerate) (i_enum (by rfl) T.z_enumerate (sa_cons (s_fz (s_v 0)) sa_nil)) (sg_tup (sgs_cons (sg_name nd_p_check_rule (i := 1) rfl (Or.inl rfl) (by decide)) (sgs_cons (sg_name nd_p_check_rule (i := 2) rfl (Or.inl rfl) (by decide)) sgs_nil fun a b => pgs_cons a b) fun a b => pgs_cons a b) (fun p => pg_tup rfl p) rfl) (ss_one (ss_if (t_not (t_val (s_call G_p_is_permutation_of hgd (hr.mono (by decide)) (by rfl) g_p_is_permutation_of k_p_is_permutation_of bp_is_permutation_of_2 vbp_is_permutation_of_2 .nil (sc_lend 2 (sc_val (s_bi call_len4 kLen_op (by rfl) T.z_len (by decide +kernel) (by decide) (by decide) (sa_cons (s_v 0) sa_nil)) sc_nil)) rfl))) (ss_one ss_no) ss_nil)))))
theorem fn_p_is_block {a : Addr} {fd : FuncData} (T : Txt K mg) (F : FunD K "is_block" "is_block" (defArgs s_p_is_block) (defBody s_p_is_block) (defScope s_p_is_block) [] [] a fd) {a_p_is_integer : Addr} {fd_p_is_integer : FuncData} (G_p_is_integer : Fn P w K mg base ct 1 a_p_is_integer fd_p_is_integer ["value", "least", "most"] m_p_is_integer) (g_p_is_integer : mg "is_integer" = some (.ref a_p_is_integer)) (k_p_is_integer : PySem.W.keepIn K (.ref a_p_is_integer) = true) {dbp_is_integer_3 : List Value} (bp_is_integer_3 : L2.Binds K fd_p_is_integer ["value", "least", "most"] dbp_is_integer_3) (vbp_is_integer_3 : Vals [] dbp_is_integer_3) : Fn P w K mg base ct 2 a fd ["value"] m_p_is_block := by
  refine fn_ofD F sc_p_is_block (by decide) rfl fun cdv A outer s H E hr hgd => ?_
  exact (ss_one (ss_ret (s_call G_p_is_integer hgd (hr.mono (by decide)) (by rfl) g_p_is_integer k_p_is_integer bp_is_integer_3 vbp_is_integer_3 .nil (sc_lend 0 (sc_val s_int (sc_val (s_globC T.w_MOST_BLOCK (by rfl)) sc_nil))) rfl)))
theorem fn_p_check_stream {a : Addr} {fd : FuncData} (T : Txt K mg) (F : FunD K "check_stream" "check_stream" (defArgs s_p_check_stream) (defBody s_p_check_stream) (defScope s_p_check_stream) [] [] a fd) {a_p_is_block : Addr} {fd_p_is_block : FuncData} (G_p_is_block : Fn P w K mg base ct 2 a_p_is_block fd_p_is_block ["value"] m_p_is_block) (g_p_is_block : mg "is_block" = some (.ref a_p_is_block)) (k_p_is_block : PySem.W.keepIn K (.ref a_p_is_block) = true) {dbp_is_block_1 : List Value} (bp_is_block_1 : L2.Binds K fd_p_is_block ["value"] dbp_is_block_1) (vbp_is_block_1 : Vals [] dbp_is_block_1) : Fn P w K mg base ct 3 a fd ["value"] m_p_check_stream := by
  refine fn_ofD F sc_p_check_stream (by decide) rfl fun cdv A outer s H E hr hgd => ?_
  exact (ss_cons (ss_if (t_not (t_val (s_isi .list (by rfl) T.z_isinstance (by rfl) T.z_list PyProof.Rows.boot_list (by decide) (by decide) (s_v 0)))) (ss_one ss_no) ss_nil)
    (ss_one (ss_forV 0 live_enum rfl (pi_liveE 0 (by rfl) T.z_enumerate) (i_enum (by rfl) T.z_enumerate (sa_cons (s_fz (s_v 0)) sa_nil)) (sg_tup (sgs_cons (sg_name nd_p_check_stream (i := 1) rfl (Or.inl rfl) (by decide)) (sgs_cons (sg_name nd_p_check_stream (i := 2) rfl (Or.inl rfl) (by decide)) sgs_nil fun a b => pgs_cons a b) fun a b => pgs_cons a b) (fun p => pg_tup rfl p) rfl) (ss_one (ss_if (t_not (t_val (s_call G_p_is_block hgd (hr.mono (by decide)) (by rfl) g_p_is_block k_p_is_block bp_is_block_1 vbp_is_block_1 .nil (sc_lend 2 sc_nil) rfl))) (ss_one ss_no) ss_nil)))))
theorem fn_p_check_record {a : Addr} {fd : FuncData} (T : Txt K mg) (F : FunD K "check_record" "check_record" (defArgs s_p_check_record) (defBody s_p_check_record) (defScope s_p_check_record) [] [] a fd) {a_p_check_outcomes : Addr} {fd_p_check_outcomes : FuncData} (G_p_check_outcomes : Fn P w K mg base ct 1 a_p_check_outcomes fd_p_check_outcomes ["stream", "value"] m_p_check_outcomes) (g_p_check_outcomes : mg "check_outcomes" = some (.ref a_p_check_outcomes)) (k_p_check_outcomes : PySem.W.keepIn K (.ref a_p_check_outcomes) = true) {a_p_check_rule : Addr} {fd_p_check_rule : FuncData} (G_p_check_rule : Fn P w K mg base ct 3 a_p_check_rule fd_p_check_rule ["value"] m_p_check_rule) (g_p_check_rule : mg "check_rule" = some (.ref a_p_check_rule)) (k_p_check_rule : PySem.W.keepIn K (.ref a_p_check_rule) = true) {a_p_check_stream : Addr} {fd_p_check_stream : FuncData} (G_p_check_stream : Fn P w K mg base ct 3 a_p_check_stream fd_p_check_stream ["value"] m_p_check_stream) (g_p_check_stream : mg "check_stream" = some (.ref a_p_check_stream)) (k_p_check_stream : PySem.W.keepIn K (.ref a_p_check_stream) = true) {dbp_check_outcomes_2 : List Value} (bp_check_outcomes_2 : L2.Binds K fd_p_check_outcomes ["stream", "value"] dbp_check_outcomes_2) (vbp_check_outcomes_2 : Vals [] dbp_check_outcomes_2) {dbp_check_rule_1 : List Value} (bp_check_rule_1 : L2.Binds K fd_p_check_rule ["value"] dbp_check_rule_1) (vbp_check_rule_1 : Vals [] dbp_check_rule_1) {dbp_check_stream_1 : List Value} (bp_check_stream_1 : L2.Binds K fd_p_check_stream ["value"] dbp_check_stream_1) (vbp_check_stream_1 : Vals [] dbp_check_stream_1) : Fn P w K mg base ct 4 a fd ["rule", "stream", "outcomes"] m_p_check_record := by
  refine fn_ofD F sc_p_check_record (by decide) rfl fun cdv A outer s H E hr hgd => ?_
  exact (sss_pre (ss_cons (ss_expr (s_call G_p_check_rule hgd (hr.mono (by decide)) (by rfl) g_p_check_rule k_p_check_rule bp_check_rule_1 vbp_check_rule_1 .nil (sc_lend 0 sc_nil) rfl))
    (ss_cons (ss_expr (s_call G_p_check_stream hgd (hr.mono (by decide)) (by rfl) g_p_check_stream k_p_check_stream bp_check_stream_1 vbp_check_stream_1 .nil (sc_lend 1 sc_nil) rfl))
    (ss_one (ss_expr (s_call G_p_check_outcomes hgd (hr.mono (by decide)) (by rfl) g_p_check_outcomes k_p_check_outcomes bp_check_outcomes_2 vbp_check_outcomes_2 .nil (sc_lend 1 (sc_lend 2 sc_nil)) rfl))))))
theorem fn_p_moved {a : Addr} {fd : FuncData} (T : Txt K mg) (F : FunD K "moved" "moved" (defArgs s_p_moved) (defBody s_p_moved) (defScope s_p_moved) [] [] a fd)  : Fn P w K mg base ct 1 a fd ["permutation", "row"] m_p_moved := by
  refine fn_ofD F sc_p_moved (by decide) rfl fun cdv A outer s H E hr hgd => ?_
  exact (ss_cons (ss_asg (s_ty call_list_of kList_op (by rfl) T.z_list (by decide +kernel) (by decide) (by decide) (sa_cons (s_fz (s_v 1)) sa_nil)) (sg_name nd_p_moved (i := 2) rfl (Or.inl rfl) (by decide)))
    (ss_cons (ss_forV 1 live_enum rfl (pi_liveE 1 (by rfl) T.z_enumerate) (i_enum (by rfl) T.z_enumerate (sa_cons (s_fz (s_v 1)) sa_nil)) (sg_tup (sgs_cons (sg_name nd_p_moved (i := 3) rfl (Or.inl rfl) (by decide)) (sgs_cons (sg_name nd_p_moved (i := 4) rfl (Or.inl rfl) (by decide)) sgs_nil fun a b => pgs_cons a b) fun a b => pgs_cons a b) (fun p => pg_tup rfl p) rfl) (ss_one (ss_asg (s_fz (s_v 4)) (sg_set (s_ix (s_v 0) (s_v 3)) (i := 2)))))
    (ss_one (ss_retv 2))))
theorem fn_p_fits_behind {a : Addr} {fd : FuncData} (T : Txt K mg) (F : FunD K "fits_behind" "fits_behind" (defArgs s_p_fits_behind) (defBody s_p_fits_behind) (defScope s_p_fits_behind) [] [] a fd) {a_p_moved : Addr} {fd_p_moved : FuncData} (G_p_moved : Fn P w K mg base ct 1 a_p_moved fd_p_moved ["permutation", "row"] m_p_moved) (g_p_moved : mg "moved" = some (.ref a_p_moved)) (k_p_moved : PySem.W.keepIn K (.ref a_p_moved) = true) {dbp_moved_2 : List Value} (bp_moved_2 : L2.Binds K fd_p_moved ["permutation", "row"] dbp_moved_2) (vbp_moved_2 : Vals [] dbp_moved_2) : Fn P w K mg base ct 2 a fd ["rule", "pairs", "block", "is_new", "outcome"] m_p_fits_behind := by
  refine fn_ofD F sc_p_fits_behind (by decide) rfl fun cdv A outer s H E hr hgd => ?_
  exact (sss_pre (ss_cons (ss_asg (s_lst sa_nil) (sg_name nd_p_fits_behind (i := 5) rfl (Or.inl rfl) (by decide)))
    (ss_cons (ss_pre (ss_forV 1 live_one rfl (pi_liveL 1) (i_list (s_fz (s_v 1))) (sg_tup (sgs_cons (sg_name nd_p_fits_behind (i := 6) rfl (Or.inl rfl) (by decide)) (sgs_cons (sg_name nd_p_fits_behind (i := 7) rfl (Or.inl rfl) (by decide)) sgs_nil fun a b => pgs_cons a b) fun a b => pgs_cons a b) (fun p => pg_tup rfl p) rfl) (sss_tdy (ss_one (ss_if (t_in hr (s_v 2) (s_v 6)) (ss_one (ss_if (t_val (s_v 4)) (ss_one (ss_expr (s_recv rAppend_rc (sa_cons (s_tup (sa_cons (s_call G_p_moved hgd (hr.mono (by decide)) (by rfl) g_p_moved k_p_moved bp_moved_2 vbp_moved_2 .nil (sc_val (s_fz (s_ix (s_v 0) (s_methL kIndex_mt (s_v 6) (sa_cons (s_v 2) sa_nil) fun po pa => pe_bm PySem.F.plainAttrs_list PySem.F.slot_list_index PySem.F.type_list_index (mt_indexD (units_of hr)) po pa))) (sc_lend 6 sc_nil)) rfl) (sa_cons (s_fz (s_v 7)) sa_nil))) sa_nil) (i := 5) (fun po pa => pe_bm PySem.F.plainAttrs_list PySem.F.slot_list_append PySem.F.type_list_append mt_append po pa)))) ss_nil)) (ss_one (ss_if (t_not (t_val (s_v 4))) (ss_one (ss_expr (s_recv rAppend_rc (sa_cons (s_tup (sa_cons (s_lst (sa_star (s_slc (s_fz (s_v 6)) (so_some s_int) so_none) (sa_consC (s_fz (s_v 2)) sa_nilN))) (sa_cons (s_fz (s_v 7)) sa_nil))) sa_nil) (i := 5) (fun po pa => pe_bm PySem.F.plainAttrs_list PySem.F.slot_list_append PySem.F.type_list_append mt_append po pa)))) (ss_one (ss_if (t_val (s_v 3)) (ss_one (ss_pre (ss_forV 6 live_enum rfl (pi_liveE 6 (by rfl) T.z_enumerate) (i_enum (by rfl) T.z_enumerate (sa_cons (s_fz (s_v 6)) sa_nil)) (sg_tup (sgs_cons (sg_name nd_p_fits_behind (i := 8) rfl (Or.inl rfl) (by decide)) (sgs_cons (sg_name nd_p_fits_behind (i := 9) rfl (Or.inl rfl) (by decide)) sgs_nil fun a b => pgs_cons a b) fun a b => pgs_cons a b) (fun p => pg_tup rfl p) rfl) (sss_tdy (ss_one (ss_if (t_lt (s_v 9) s_int) (ss_cons (ss_asg (s_lst (sa_star (s_slc (s_fz (s_v 6)) so_none (so_some (s_v 8))) (sa_consC (s_fz (s_v 2)) (sa_star (s_slc (s_fz (s_v 6)) (so_some (s_add (s_fz (s_v 8)) s_int)) so_none) sa_nilN)))) (sg_name nd_p_fits_behind (i := 10) rfl (Or.inl rfl) (by decide)))
    (ss_cons (ss_asg (s_lst (sa_star (s_slc (s_fz (s_v 7)) so_none (so_some (s_sub (s_neg s_int) (s_v 9)))) (sa_consC (s_fz (s_v 2)) (sa_star (s_slc (s_fz (s_v 7)) (so_some (s_neg (s_v 9))) so_none) sa_nilN)))) (sg_name nd_p_fits_behind (i := 11) rfl (Or.inl rfl) (by decide)))
    (ss_one (ss_expr (s_recv rAppend_rc (sa_cons (s_tup (sa_cons (s_call G_p_moved hgd (hr.mono (by decide)) (by rfl) g_p_moved k_p_moved bp_moved_2 vbp_moved_2 .nil (sc_val (s_fz (s_ix (s_v 0) (s_v 8))) (sc_lend 10 sc_nil)) rfl) (sa_cons (s_fz (s_v 11)) sa_nil))) sa_nil) (i := 5) (fun po pa => pe_bm PySem.F.plainAttrs_list PySem.F.slot_list_append PySem.F.type_list_append mt_append po pa)))))) ss_nil)))))) ss_nil)))))))))
    (ss_one (ss_retv 5)))))
theorem fn_p_pairs_behind {a : Addr} {fd : FuncData} (T : Txt K mg) (F : FunD K "pairs_behind" "pairs_behind" (defArgs s_p_pairs_behind) (defBody s_p_pairs_behind) (defScope s_p_pairs_behind) [] [] a fd) {a_p_fits_behind : Addr} {fd_p_fits_behind : FuncData} (G_p_fits_behind : Fn P w K mg base ct 2 a_p_fits_behind fd_p_fits_behind ["rule", "pairs", "block", "is_new", "outcome"] m_p_fits_behind) (g_p_fits_behind : mg "fits_behind" = some (.ref a_p_fits_behind)) (k_p_fits_behind : PySem.W.keepIn K (.ref a_p_fits_behind) = true) {dbp_fits_behind_5 : List Value} (bp_fits_behind_5 : L2.Binds K fd_p_fits_behind ["rule", "pairs", "block", "is_new", "outcome"] dbp_fits_behind_5) (vbp_fits_behind_5 : Vals [] dbp_fits_behind_5) : Fn P w K mg base ct 3 a fd ["rule", "stream", "outcomes"] m_p_pairs_behind := by
  refine fn_ofD F sc_p_pairs_behind (by decide) rfl fun cdv A outer s H E hr hgd => ?_
  exact (sss_pre (ss_cons (ss_asg (s_bi call_len4 kLen_op (by rfl) T.z_len (by decide +kernel) (by decide) (by decide) (sa_cons (s_v 0) sa_nil)) (sg_name nd_p_pairs_behind (i := 3) rfl (Or.inl rfl) (by decide)))
    (ss_cons (ss_asg (s_lst (sa_cons (s_tup (sa_cons (s_comp (own := [("place", 7)]) rfl nd_p_pairs_behind (i_range1 (by rfl) T.z_range (sa_cons (s_v 3) sa_nil)) (blkOk_by (N := N_p_pairs_behind) (by kernel_rfl)) (fun n i => (sn_name nd_p_pairs_behind (i := 7) rfl (by first | exact Or.inl rfl | exact Or.inr rfl) (others_own (by decide)))) (fun i => sts_nil) (fun i => (s_sub (s_neg s_int) (s_v 7)))) (sa_cons (s_mul (s_lst (sa_cons (s_neg s_int) sa_nil)) (s_v 3)) sa_nil))) sa_nil)) (sg_name nd_p_pairs_behind (i := 4) rfl (Or.inl rfl) (by decide)))
    (ss_cons (ss_pre (ss_forV 1 live_enum rfl (pi_liveE 1 (by rfl) T.z_enumerate) (i_enum (by rfl) T.z_enumerate (sa_cons (s_fz (s_v 1)) sa_nil)) (sg_tup (sgs_cons (sg_name nd_p_pairs_behind (i := 5) rfl (Or.inl rfl) (by decide)) (sgs_cons (sg_name nd_p_pairs_behind (i := 6) rfl (Or.inl rfl) (by decide)) sgs_nil fun a b => pgs_cons a b) fun a b => pgs_cons a b) (fun p => pg_tup rfl p) rfl) (sss_tdy (ss_cons (ss_asg (s_call G_p_fits_behind hgd (hr.mono (by decide)) (by rfl) g_p_fits_behind k_p_fits_behind bp_fits_behind_5 vbp_fits_behind_5 .nil (sc_lend 0 (sc_lend 4 (sc_lend 6 (sc_val (s_notin hr (s_v 6) (s_slc (s_fz (s_v 1)) so_none (so_some (s_v 5)))) (sc_val (s_fz (s_ix (s_v 2) (s_v 5))) sc_nil))))) rfl) (sg_name nd_p_pairs_behind (i := 4) rfl (Or.inl rfl) (by decide)))
    (ss_one (ss_if (t_gt (s_bi call_len4 kLen_op (by rfl) T.z_len (by decide +kernel) (by decide) (by decide) (sa_cons (s_v 4) sa_nil)) (s_globC T.w_MOST_ROWS (by rfl))) (ss_one ss_no) ss_nil))))))
    (ss_one (ss_retv 4))))))
theorem fn_p_with_none {a : Addr} {fd : FuncData} (T : Txt K mg) (F : FunD K "with_none" "with_none" (defArgs s_p_with_none) (defBody s_p_with_none) (defScope s_p_with_none) [] [] a fd)  : Fn P w K mg base ct 1 a fd ["rows"] m_p_with_none := by
  refine fn_ofD F sc_p_with_none (by decide) rfl fun cdv A outer s H E hr hgd => ?_
  exact (sss_pre (ss_cons (ss_setTdc (own := [("row", 2)]) (i := 1) hr rfl nd_p_with_none rfl rfl (by decide) (VsT.sw_trueD rfl rfl rfl (by decide +kernel)) (i_list (s_fz (s_v 0))) (blkOk_by (N := N_p_with_none) (by kernel_rfl)) (fun n i => (sn_name nd_p_with_none (i := 2) rfl (by first | exact Or.inl rfl | exact Or.inr rfl) (others_own (by decide)))) (fun i => sts_nil) (fun i => (s_ty call_tuple_of kTuple_op (by rfl) T.z_tuple (by decide +kernel) (by decide) (by decide) (sa_cons (s_soft (s_comp (own := [("block", 3)]) rfl nd_p_with_none (i_list (s_v 2)) (blkOk_by (N := N_p_with_none) (by kernel_rfl)) (fun n i => (sn_name nd_p_with_none (i := 3) rfl (by first | exact Or.inl rfl | exact Or.inr rfl) (others_own (by decide)))) (fun i => sts_nil) (fun i => (s_bi (call_max2 rfl) kMax_op (by rfl) T.z_max (by decide +kernel) (by decide) (by decide) (sa_cons (s_neg s_int) (sa_cons (s_v 3) sa_nil)))))) sa_nil))) (fun i => s_bl))
    (ss_one (ss_ret (s_comp (own := [("row", 2)]) rfl nd_p_with_none (i_list (s_bi (call_sortDT rfl (units_of hr)) kSdtL_op (by rfl) T.z_sorted (by decide +kernel) (by decide) (by decide) (sa_cons (s_v 1) sa_nil))) (blkOk_by (N := N_p_with_none) (by kernel_rfl)) (fun n i => (sn_name nd_p_with_none (i := 2) rfl (by first | exact Or.inl rfl | exact Or.inr rfl) (others_own (by decide)))) (fun i => sts_nil) (fun i => (s_soft (s_comp (own := [("block", 3)]) rfl nd_p_with_none (i_tup (s_v 2)) (blkOk_by (N := N_p_with_none) (by kernel_rfl)) (fun n i => (sn_name nd_p_with_none (i := 3) rfl (by first | exact Or.inl rfl | exact Or.inr rfl) (others_own (by decide)))) (fun i => sts_nil) (fun i => (s_ift (t_lt (s_v 3) s_int) s_non (s_fz (s_v 3))))))))))))
theorem fn_p_first_rows {a : Addr} {fd : FuncData} (T : Txt K mg) (F : FunD K "first_rows" "first_rows" (defArgs s_p_first_rows) (defBody s_p_first_rows) (defScope s_p_first_rows) [] [] a fd) {a_p_check_record : Addr} {fd_p_check_record : FuncData} (G_p_check_record : Fn P w K mg base ct 4 a_p_check_record fd_p_check_record ["rule", "stream", "outcomes"] m_p_check_record) (g_p_check_record : mg "check_record" = some (.ref a_p_check_record)) (k_p_check_record : PySem.W.keepIn K (.ref a_p_check_record) = true) {a_p_pairs_behind : Addr} {fd_p_pairs_behind : FuncData} (G_p_pairs_behind : Fn P w K mg base ct 3 a_p_pairs_behind fd_p_pairs_behind ["rule", "stream", "outcomes"] m_p_pairs_behind) (g_p_pairs_behind : mg "pairs_behind" = some (.ref a_p_pairs_behind)) (k_p_pairs_behind : PySem.W.keepIn K (.ref a_p_pairs_behind) = true) {a_p_with_none : Addr} {fd_p_with_none : FuncData} (G_p_with_none : Fn P w K mg base ct 1 a_p_with_none fd_p_with_none ["rows"] m_p_with_none) (g_p_with_none : mg "with_none" = some (.ref a_p_with_none)) (k_p_with_none : PySem.W.keepIn K (.ref a_p_with_none) = true) {dbp_check_record_3 : List Value} (bp_check_record_3 : L2.Binds K fd_p_check_record ["rule", "stream", "outcomes"] dbp_check_record_3) (vbp_check_record_3 : Vals [] dbp_check_record_3) {dbp_pairs_behind_3 : List Value} (bp_pairs_behind_3 : L2.Binds K fd_p_pairs_behind ["rule", "stream", "outcomes"] dbp_pairs_behind_3) (vbp_pairs_behind_3 : Vals [] dbp_pairs_behind_3) {dbp_with_none_1 : List Value} (bp_with_none_1 : L2.Binds K fd_p_with_none ["rows"] dbp_with_none_1) (vbp_with_none_1 : Vals [] dbp_with_none_1) : Fn P w K mg base ct 5 a fd ["rule", "stream", "outcomes"] m_p_first_rows := by
  refine fn_ofD F sc_p_first_rows (by decide) rfl fun cdv A outer s H E hr hgd => ?_
  exact (sss_pre (ss_cons (ss_expr (s_call G_p_check_record hgd (hr.mono (by decide)) (by rfl) g_p_check_record k_p_check_record bp_check_record_3 vbp_check_record_3 .nil (sc_lend 0 (sc_lend 1 (sc_lend 2 sc_nil))) rfl))
    (ss_one (ss_ret (s_call G_p_with_none hgd (hr.mono (by decide)) (by rfl) g_p_with_none k_p_with_none bp_with_none_1 vbp_with_none_1 .nil (sc_val (s_comp (own := [("now", 3), ("first", 4)]) rfl nd_p_first_rows (i_list (s_call G_p_pairs_behind hgd (hr.mono (by decide)) (by rfl) g_p_pairs_behind k_p_pairs_behind bp_pairs_behind_3 vbp_pairs_behind_3 .nil (sc_lend 0 (sc_lend 1 (sc_lend 2 sc_nil))) rfl)) (blkOk_by (N := N_p_first_rows) (by kernel_rfl)) (fun n i => (sn_tup (sns_cons (sn_name nd_p_first_rows (i := 3) rfl (by first | exact Or.inl rfl | exact Or.inr rfl) (others_own (by decide))) (sns_cons (sn_name nd_p_first_rows (i := 4) rfl (by first | exact Or.inl rfl | exact Or.inr rfl) (others_own (by decide))) sns_nil fun a b => pgs_cons a b) fun a b => pgs_cons a b) (fun p => pg_tup rfl p) rfl)) (fun i => sts_nil) (fun i => (s_fz (s_v 4)))) sc_nil) rfl)))))
theorem fn_p_is_possible {a : Addr} {fd : FuncData} (T : Txt K mg) (F : FunD K "is_possible" "is_possible" (defArgs s_p_is_possible) (defBody s_p_is_possible) (defScope s_p_is_possible) [] [] a fd) {a_p_check_record : Addr} {fd_p_check_record : FuncData} (G_p_check_record : Fn P w K mg base ct 4 a_p_check_record fd_p_check_record ["rule", "stream", "outcomes"] m_p_check_record) (g_p_check_record : mg "check_record" = some (.ref a_p_check_record)) (k_p_check_record : PySem.W.keepIn K (.ref a_p_check_record) = true) {a_p_pairs_behind : Addr} {fd_p_pairs_behind : FuncData} (G_p_pairs_behind : Fn P w K mg base ct 3 a_p_pairs_behind fd_p_pairs_behind ["rule", "stream", "outcomes"] m_p_pairs_behind) (g_p_pairs_behind : mg "pairs_behind" = some (.ref a_p_pairs_behind)) (k_p_pairs_behind : PySem.W.keepIn K (.ref a_p_pairs_behind) = true) {dbp_check_record_3 : List Value} (bp_check_record_3 : L2.Binds K fd_p_check_record ["rule", "stream", "outcomes"] dbp_check_record_3) (vbp_check_record_3 : Vals [] dbp_check_record_3) {dbp_pairs_behind_3 : List Value} (bp_pairs_behind_3 : L2.Binds K fd_p_pairs_behind ["rule", "stream", "outcomes"] dbp_pairs_behind_3) (vbp_pairs_behind_3 : Vals [] dbp_pairs_behind_3) : Fn P w K mg base ct 5 a fd ["rule", "stream", "outcomes"] m_p_is_possible := by
  refine fn_ofD F sc_p_is_possible (by decide) rfl fun cdv A outer s H E hr hgd => ?_
  exact (sss_pre (ss_cons (ss_expr (s_call G_p_check_record hgd (hr.mono (by decide)) (by rfl) g_p_check_record k_p_check_record bp_check_record_3 vbp_check_record_3 .nil (sc_lend 0 (sc_lend 1 (sc_lend 2 sc_nil))) rfl))
    (ss_one (ss_ret (s_ne hr (s_call G_p_pairs_behind hgd (hr.mono (by decide)) (by rfl) g_p_pairs_behind k_p_pairs_behind bp_pairs_behind_3 vbp_pairs_behind_3 .nil (sc_lend 0 (sc_lend 1 (sc_lend 2 sc_nil))) rfl) (s_lst sa_nil))))))
theorem fn_p_next_one {a : Addr} {fd : FuncData} (T : Txt K mg) (F : FunD K "next_one" "next_one" (defArgs s_p_next_one) (defBody s_p_next_one) (defScope s_p_next_one) [] [] a fd) {a_p_check_record : Addr} {fd_p_check_record : FuncData} (G_p_check_record : Fn P w K mg base ct 4 a_p_check_record fd_p_check_record ["rule", "stream", "outcomes"] m_p_check_record) (g_p_check_record : mg "check_record" = some (.ref a_p_check_record)) (k_p_check_record : PySem.W.keepIn K (.ref a_p_check_record) = true) {a_p_is_block : Addr} {fd_p_is_block : FuncData} (G_p_is_block : Fn P w K mg base ct 2 a_p_is_block fd_p_is_block ["value"] m_p_is_block) (g_p_is_block : mg "is_block" = some (.ref a_p_is_block)) (k_p_is_block : PySem.W.keepIn K (.ref a_p_is_block) = true) {a_p_pairs_behind : Addr} {fd_p_pairs_behind : FuncData} (G_p_pairs_behind : Fn P w K mg base ct 3 a_p_pairs_behind fd_p_pairs_behind ["rule", "stream", "outcomes"] m_p_pairs_behind) (g_p_pairs_behind : mg "pairs_behind" = some (.ref a_p_pairs_behind)) (k_p_pairs_behind : PySem.W.keepIn K (.ref a_p_pairs_behind) = true) {dbp_check_record_3 : List Value} (bp_check_record_3 : L2.Binds K fd_p_check_record ["rule", "stream", "outcomes"] dbp_check_record_3) (vbp_check_record_3 : Vals [] dbp_check_record_3) {dbp_is_block_1 : List Value} (bp_is_block_1 : L2.Binds K fd_p_is_block ["value"] dbp_is_block_1) (vbp_is_block_1 : Vals [] dbp_is_block_1) {dbp_pairs_behind_3 : List Value} (bp_pairs_behind_3 : L2.Binds K fd_p_pairs_behind ["rule", "stream", "outcomes"] dbp_pairs_behind_3) (vbp_pairs_behind_3 : Vals [] dbp_pairs_behind_3) : Fn P w K mg base ct 5 a fd ["rule", "stream", "outcomes", "block"] m_p_next_one := by
  refine fn_ofD F sc_p_next_one (by decide) rfl fun cdv A outer s H E hr hgd => ?_
  exact (sss_pre (ss_cons (ss_expr (s_call G_p_check_record hgd (hr.mono (by decide)) (by rfl) g_p_check_record k_p_check_record bp_check_record_3 vbp_check_record_3 .nil (sc_lend 0 (sc_lend 1 (sc_lend 2 sc_nil))) rfl))
    (ss_cons (ss_if (t_not (t_val (s_call G_p_is_block hgd (hr.mono (by decide)) (by rfl) g_p_is_block k_p_is_block bp_is_block_1 vbp_is_block_1 .nil (sc_lend 3 sc_nil) rfl))) (ss_one ss_no) ss_nil)
    (ss_cons (ss_asg (s_call G_p_pairs_behind hgd (hr.mono (by decide)) (by rfl) g_p_pairs_behind k_p_pairs_behind bp_pairs_behind_3 vbp_pairs_behind_3 .nil (sc_lend 0 (sc_lend 1 (sc_lend 2 sc_nil))) rfl) (sg_name nd_p_next_one (i := 4) rfl (Or.inl rfl) (by decide)))
    (ss_cons (ss_if (t_eq hr (s_v 4) (s_lst sa_nil)) (ss_one (ss_ret s_non)) ss_nil)
    (ss_cons (ss_setc (own := [("now", 6), ("first", 7)]) (i := 5) rfl nd_p_next_one rfl rfl (by decide) (sw_true rfl rfl rfl (by decide +kernel)) (i_list (s_fz (s_v 4))) (blkOk_by (N := N_p_next_one) (by kernel_rfl)) (fun n i => (sn_tup (sns_cons (sn_name nd_p_next_one (i := 6) rfl (by first | exact Or.inl rfl | exact Or.inr rfl) (others_own (by decide))) (sns_cons (sn_name nd_p_next_one (i := 7) rfl (by first | exact Or.inl rfl | exact Or.inr rfl) (others_own (by decide))) sns_nil fun a b => pgs_cons a b) fun a b => pgs_cons a b) (fun p => pg_tup rfl p) rfl)) (fun i => sts_one (t_in hr (s_v 3) (s_v 6))) (fun i => (s_fz (s_v 6))))
    (ss_cons (ss_if (w_pt (w_and (t_notin hr (s_v 3) (s_v 1)) (w_and1 (t_val (s_bi (cr_any rfl) kAny_op (by rfl) T.z_any (by decide +kernel) (by decide) (by decide) (sa_cons (s_soft (s_comp (own := [("now", 6), ("first", 7)]) rfl nd_p_next_one (i_list (s_v 4)) (blkOk_by (N := N_p_next_one) (by kernel_rfl)) (fun n i => (sn_tup (sns_cons (sn_name nd_p_next_one (i := 6) rfl (by first | exact Or.inl rfl | exact Or.inr rfl) (others_own (by decide))) (sns_cons (sn_name nd_p_next_one (i := 7) rfl (by first | exact Or.inl rfl | exact Or.inr rfl) (others_own (by decide))) sns_nil fun a b => pgs_cons a b) fun a b => pgs_cons a b) (fun p => pg_tup rfl p) rfl)) (fun i => sts_nil) (fun i => (s_lt (s_bi (cr_min rfl) kMinL_op (by rfl) T.z_min (by decide +kernel) (by decide) (by decide) (sa_cons (s_v 6) sa_nil)) s_int)))) sa_nil)))))) (ss_one (ss_ret s_str)) ss_nil)
    (ss_one (ss_ret (s_ift (t_eq hr (s_bi call_len4 kLen_op (by rfl) T.z_len (by decide +kernel) (by decide) (by decide) (sa_cons (s_v 5) sa_nil)) (s_bi call_len4 kLen_op (by rfl) T.z_len (by decide +kernel) (by decide) (by decide) (sa_cons (s_v 4) sa_nil))) s_str (s_ift (t_ne hr (s_v 5) (s_lst sa_nil)) s_str s_str)))))))))))
theorem fn_p_rows_left {a : Addr} {fd : FuncData} (T : Txt K mg) (F : FunD K "rows_left" "rows_left" (defArgs s_p_rows_left) (defBody s_p_rows_left) (defScope s_p_rows_left) [] [] a fd) {a_p_check_record : Addr} {fd_p_check_record : FuncData} (G_p_check_record : Fn P w K mg base ct 4 a_p_check_record fd_p_check_record ["rule", "stream", "outcomes"] m_p_check_record) (g_p_check_record : mg "check_record" = some (.ref a_p_check_record)) (k_p_check_record : PySem.W.keepIn K (.ref a_p_check_record) = true) {a_p_pairs_behind : Addr} {fd_p_pairs_behind : FuncData} (G_p_pairs_behind : Fn P w K mg base ct 3 a_p_pairs_behind fd_p_pairs_behind ["rule", "stream", "outcomes"] m_p_pairs_behind) (g_p_pairs_behind : mg "pairs_behind" = some (.ref a_p_pairs_behind)) (k_p_pairs_behind : PySem.W.keepIn K (.ref a_p_pairs_behind) = true) {a_p_with_none : Addr} {fd_p_with_none : FuncData} (G_p_with_none : Fn P w K mg base ct 1 a_p_with_none fd_p_with_none ["rows"] m_p_with_none) (g_p_with_none : mg "with_none" = some (.ref a_p_with_none)) (k_p_with_none : PySem.W.keepIn K (.ref a_p_with_none) = true) {dbp_check_record_3 : List Value} (bp_check_record_3 : L2.Binds K fd_p_check_record ["rule", "stream", "outcomes"] dbp_check_record_3) (vbp_check_record_3 : Vals [] dbp_check_record_3) {dbp_pairs_behind_3 : List Value} (bp_pairs_behind_3 : L2.Binds K fd_p_pairs_behind ["rule", "stream", "outcomes"] dbp_pairs_behind_3) (vbp_pairs_behind_3 : Vals [] dbp_pairs_behind_3) {dbp_with_none_1 : List Value} (bp_with_none_1 : L2.Binds K fd_p_with_none ["rows"] dbp_with_none_1) (vbp_with_none_1 : Vals [] dbp_with_none_1) : Fn P w K mg base ct 5 a fd ["rule", "stream", "outcomes"] m_p_rows_left := by
  refine fn_ofD F sc_p_rows_left (by decide) rfl fun cdv A outer s H E hr hgd => ?_
  exact (sss_pre (ss_cons (ss_expr (s_call G_p_check_record hgd (hr.mono (by decide)) (by rfl) g_p_check_record k_p_check_record bp_check_record_3 vbp_check_record_3 .nil (sc_lend 0 (sc_lend 1 (sc_lend 2 sc_nil))) rfl))
    (ss_one (ss_ret (s_call G_p_with_none hgd (hr.mono (by decide)) (by rfl) g_p_with_none k_p_with_none bp_with_none_1 vbp_with_none_1 .nil (sc_val (s_comp (own := [("now", 3), ("first", 4)]) rfl nd_p_rows_left (i_list (s_call G_p_pairs_behind hgd (hr.mono (by decide)) (by rfl) g_p_pairs_behind k_p_pairs_behind bp_pairs_behind_3 vbp_pairs_behind_3 .nil (sc_lend 0 (sc_lend 1 (sc_lend 2 sc_nil))) rfl)) (blkOk_by (N := N_p_rows_left) (by kernel_rfl)) (fun n i => (sn_tup (sns_cons (sn_name nd_p_rows_left (i := 3) rfl (by first | exact Or.inl rfl | exact Or.inr rfl) (others_own (by decide))) (sns_cons (sn_name nd_p_rows_left (i := 4) rfl (by first | exact Or.inl rfl | exact Or.inr rfl) (others_own (by decide))) sns_nil fun a b => pgs_cons a b) fun a b => pgs_cons a b) (fun p => pg_tup rfl p) rfl)) (fun i => sts_nil) (fun i => (s_fz (s_v 3)))) sc_nil) rfl)))))
theorem fn_l_long_right {a : Addr} {fd : FuncData} (T : Txt K mg) (F : FunD K "_law_long_right" "_law_long_right" (defArgs s_l_long_right) (defBody s_l_long_right) (defScope s_l_long_right) [] [] a fd) {a_l_dip : Addr} {fd_l_dip : FuncData} (G_l_dip : Fn P w K mg base ct 1 a_l_dip fd_l_dip ["_law_well_here", "_law_many"] m_l_dip) (g_l_dip : mg "_law_dip" = some (.ref a_l_dip)) (k_l_dip : PySem.W.keepIn K (.ref a_l_dip) = true) {a_l_moves : Addr} {fd_l_moves : FuncData} (G_l_moves : Fn P w K mg base ct 3 a_l_moves fd_l_moves ["_law_well_here", "_law_size"] m_l_moves) (g_l_moves : mg "_law_moves" = some (.ref a_l_moves)) (k_l_moves : PySem.W.keepIn K (.ref a_l_moves) = true) {a_l_step : Addr} {fd_l_step : FuncData} (G_l_step : Fn P w K mg base ct 2 a_l_step fd_l_step ["_law_moves_here", "_law_line", "_law_thing"] m_l_step) (g_l_step : mg "_law_step" = some (.ref a_l_step)) (k_l_step : PySem.W.keepIn K (.ref a_l_step) = true) {a_p_first_rows : Addr} {fd_p_first_rows : FuncData} (G_p_first_rows : Fn P w K mg base ct 5 a_p_first_rows fd_p_first_rows ["rule", "stream", "outcomes"] m_p_first_rows) (g_p_first_rows : mg "first_rows" = some (.ref a_p_first_rows)) (k_p_first_rows : PySem.W.keepIn K (.ref a_p_first_rows) = true) {a_p_is_possible : Addr} {fd_p_is_possible : FuncData} (G_p_is_possible : Fn P w K mg base ct 5 a_p_is_possible fd_p_is_possible ["rule", "stream", "outcomes"] m_p_is_possible) (g_p_is_possible : mg "is_possible" = some (.ref a_p_is_possible)) (k_p_is_possible : PySem.W.keepIn K (.ref a_p_is_possible) = true) {a_p_next_one : Addr} {fd_p_next_one : FuncData} (G_p_next_one : Fn P w K mg base ct 5 a_p_next_one fd_p_next_one ["rule", "stream", "outcomes", "block"] m_p_next_one) (g_p_next_one : mg "next_one" = some (.ref a_p_next_one)) (k_p_next_one : PySem.W.keepIn K (.ref a_p_next_one) = true) {a_p_rows_left : Addr} {fd_p_rows_left : FuncData} (G_p_rows_left : Fn P w K mg base ct 5 a_p_rows_left fd_p_rows_left ["rule", "stream", "outcomes"] m_p_rows_left) (g_p_rows_left : mg "rows_left" = some (.ref a_p_rows_left)) (k_p_rows_left : PySem.W.keepIn K (.ref a_p_rows_left) = true) {dbl_dip_2 : List Value} (bl_dip_2 : L2.Binds K fd_l_dip ["_law_well_here", "_law_many"] dbl_dip_2) (vbl_dip_2 : Vals [] dbl_dip_2) {dbl_moves_2 : List Value} (bl_moves_2 : L2.Binds K fd_l_moves ["_law_well_here", "_law_size"] dbl_moves_2) (vbl_moves_2 : Vals [] dbl_moves_2) {dbl_step_3 : List Value} (bl_step_3 : L2.Binds K fd_l_step ["_law_moves_here", "_law_line", "_law_thing"] dbl_step_3) (vbl_step_3 : Vals [] dbl_step_3) {dbp_first_rows_3 : List Value} (bp_first_rows_3 : L2.Binds K fd_p_first_rows ["rule", "stream", "outcomes"] dbp_first_rows_3) (vbp_first_rows_3 : Vals [] dbp_first_rows_3) {dbp_is_possible_3 : List Value} (bp_is_possible_3 : L2.Binds K fd_p_is_possible ["rule", "stream", "outcomes"] dbp_is_possible_3) (vbp_is_possible_3 : Vals [] dbp_is_possible_3) {dbp_next_one_4 : List Value} (bp_next_one_4 : L2.Binds K fd_p_next_one ["rule", "stream", "outcomes", "block"] dbp_next_one_4) (vbp_next_one_4 : Vals [] dbp_next_one_4) {dbp_rows_left_3 : List Value} (bp_rows_left_3 : L2.Binds K fd_p_rows_left ["rule", "stream", "outcomes"] dbp_rows_left_3) (vbp_rows_left_3 : Vals [] dbp_rows_left_3) : Fn P w K mg base ct 6 a fd ["_law_well_here"] m_l_long_right := by
  refine fn_ofD F sc_l_long_right (by decide) rfl fun cdv A outer s H E hr hgd => ?_
  exact (ss_cons (ss_asg (s_add s_int (s_call G_l_dip hgd (hr.mono (by decide)) (by rfl) g_l_dip k_l_dip bl_dip_2 vbl_dip_2 .nil (sc_lend 0 (sc_val s_int sc_nil)) rfl)) (sg_name nd_l_long_right (i := 1) rfl (Or.inl rfl) (by decide)))
    (ss_cons (ss_par rfl nd_l_long_right (i := 2) (j := 3) rfl rfl (by decide) (by decide) (by decide) rfl rfl (sa_cons (s_call G_l_moves hgd (hr.mono (by decide)) (by rfl) g_l_moves k_l_moves bl_moves_2 vbl_moves_2 .nil (sc_lend 0 (sc_lend 1 sc_nil)) rfl) (sa_cons (s_listRg rfl (by rfl) T.z_list (by rfl) T.z_range (s_add (s_add (s_fz (s_v 1)) s_int) (s_call G_l_dip hgd (hr.mono (by decide)) (by rfl) g_l_dip k_l_dip bl_dip_2 vbl_dip_2 .nil (sc_lend 0 (sc_val s_int sc_nil)) rfl))) sa_nil)) (by rfl))
    (ss_cons (ss_par3 rfl nd_l_long_right (i := 4) (j := 5) (l := 6) rfl rfl rfl (by decide) (by decide) (by decide) (by decide) (by decide) (by decide) rfl rfl rfl (sa_cons (s_comp (own := [("_law_spot", 11)]) rfl nd_l_long_right (i_range1 (by rfl) T.z_range (sa_cons (s_v 1) sa_nil)) (blkOk_by (N := N_l_long_right) (by kernel_rfl)) (fun n i => (sn_name nd_l_long_right (i := 11) rfl (by first | exact Or.inl rfl | exact Or.inr rfl) (others_own (by decide)))) (fun i => sts_nil) (fun i => (s_add s_int (s_fz (s_v 11))))) (sa_cons (s_mul (s_lst (sa_cons s_bl sa_nil)) (s_v 1)) (sa_cons (s_comp (own := [("_law_spot", 11)]) rfl nd_l_long_right (i_range1 (by rfl) T.z_range (sa_cons (s_v 1) sa_nil)) (blkOk_by (N := N_l_long_right) (by kernel_rfl)) (fun n i => (sn_name nd_l_long_right (i := 11) rfl (by first | exact Or.inl rfl | exact Or.inr rfl) (others_own (by decide)))) (fun i => sts_nil) (fun i => (s_add s_int (s_fz (s_v 11))))) sa_nil))) (by rfl))
    (ss_cons (ss_pre (ss_for rfl (i_range1 (by rfl) T.z_range (sa_cons (s_add s_int (s_call G_l_dip hgd (hr.mono (by decide)) (by rfl) g_l_dip k_l_dip bl_dip_2 vbl_dip_2 .nil (sc_lend 0 (sc_val s_int sc_nil)) rfl)) sa_nil)) (sg_name nd_l_long_right (i := 7) rfl (Or.inl rfl) (by decide)) (sss_tdy (ss_cons (ss_asg (s_fz (s_ixv 3 (s_call G_l_dip hgd (hr.mono (by decide)) (by rfl) g_l_dip k_l_dip bl_dip_2 vbl_dip_2 .nil (sc_lend 0 (sc_val (s_bi call_len4 kLen_op (by rfl) T.z_len (by decide +kernel) (by decide) (by decide) (sa_cons (s_v 3) sa_nil)) sc_nil)) rfl))) (sg_name nd_l_long_right (i := 8) rfl (Or.inl rfl) (by decide)))
    (ss_cons (ss_asg (s_call G_l_step hgd (hr.mono (by decide)) (by rfl) g_l_step k_l_step bl_step_3 vbl_step_3 .nil (sc_lend 2 (sc_lend 6 (sc_lend 8 sc_nil))) rfl) (sg_tup (sgs_cons (sg_name nd_l_long_right (i := 9) rfl (Or.inl rfl) (by decide)) (sgs_cons (sg_name nd_l_long_right (i := 6) rfl (Or.inl rfl) (by decide)) sgs_nil fun a b => pgs_cons a b) fun a b => pgs_cons a b) (fun p => pg_tup rfl p) rfl))
    (ss_cons (ss_expr (s_recv rAppend_rc (sa_cons (s_fz (s_v 8)) sa_nil) (i := 4) (fun po pa => pe_bm PySem.F.plainAttrs_list PySem.F.slot_list_append PySem.F.type_list_append mt_append po pa)))
    (ss_one (ss_expr (s_recv rAppend_rc (sa_cons (s_fz (s_v 9)) sa_nil) (i := 5) (fun po pa => pe_bm PySem.F.plainAttrs_list PySem.F.slot_list_append PySem.F.type_list_append mt_append po pa))))))))))
    (ss_cons (ss_asg (s_lst (sa_cons (s_call G_p_first_rows hgd (hr.mono (by decide)) (by rfl) g_p_first_rows k_p_first_rows bp_first_rows_3 vbp_first_rows_3 .nil (sc_lend 2 (sc_lend 4 (sc_lend 5 sc_nil))) rfl) (sa_cons (s_call G_p_rows_left hgd (hr.mono (by decide)) (by rfl) g_p_rows_left k_p_rows_left bp_rows_left_3 vbp_rows_left_3 .nil (sc_lend 2 (sc_lend 4 (sc_lend 5 sc_nil))) rfl) (sa_cons (s_call G_p_next_one hgd (hr.mono (by decide)) (by rfl) g_p_next_one k_p_next_one bp_next_one_4 vbp_next_one_4 .nil (sc_lend 2 (sc_lend 4 (sc_lend 5 (sc_val (s_fz (s_ix (s_v 6) s_int)) sc_nil)))) rfl) sa_nil)))) (sg_name nd_l_long_right (i := 10) rfl (Or.inl rfl) (by decide)))
    (ss_cons (ss_if (t_ne hr (s_v 10) (s_lst (sa_cons (s_lst (sa_cons (s_mul (s_lst (sa_cons s_non sa_nil)) (s_v 1)) sa_nil)) (sa_cons (s_lst (sa_cons (s_fz (s_v 6)) sa_nil)) (sa_cons s_str sa_nil))))) (ss_one (ss_ret s_bl)) ss_nil)
    (ss_cons (ss_asg (s_add (s_fz (s_v 1)) (s_ix (s_lst (sa_cons (s_sub (s_sub (s_sub (s_bi call_len4 kLen_op (by rfl) T.z_len (by decide +kernel) (by decide) (by decide) (sa_cons (s_v 5) sa_nil)) (s_v 1)) s_int) (s_call G_l_dip hgd (hr.mono (by decide)) (by rfl) g_l_dip k_l_dip bl_dip_2 vbl_dip_2 .nil (sc_lend 0 (sc_val s_int sc_nil)) rfl)) (sa_cons (s_call G_l_dip hgd (hr.mono (by decide)) (by rfl) g_l_dip k_l_dip bl_dip_2 vbl_dip_2 .nil (sc_lend 0 (sc_val (s_sub (s_bi call_len4 kLen_op (by rfl) T.z_len (by decide +kernel) (by decide) (by decide) (sa_cons (s_v 5) sa_nil)) (s_v 1)) sc_nil)) rfl) sa_nil))) (s_call G_l_dip hgd (hr.mono (by decide)) (by rfl) g_l_dip k_l_dip bl_dip_2 vbl_dip_2 .nil (sc_lend 0 (sc_val s_int sc_nil)) rfl))) (sg_name nd_l_long_right (i := 11) rfl (Or.inl rfl) (by decide)))
    (ss_cons (ss_asg (s_add (s_add (s_slc (s_fz (s_v 5)) so_none (so_some (s_v 11))) (s_lst (sa_cons (s_not (s_ix (s_v 5) (s_v 11))) sa_nil))) (s_slc (s_fz (s_v 5)) (so_some (s_add (s_fz (s_v 11)) s_int)) so_none)) (sg_name nd_l_long_right (i := 12) rfl (Or.inl rfl) (by decide)))
    (ss_cons (ss_asg (s_lst (sa_cons (s_call G_p_first_rows hgd (hr.mono (by decide)) (by rfl) g_p_first_rows k_p_first_rows bp_first_rows_3 vbp_first_rows_3 .nil (sc_lend 2 (sc_lend 4 (sc_lend 12 sc_nil))) rfl) (sa_cons (s_call G_p_is_possible hgd (hr.mono (by decide)) (by rfl) g_p_is_possible k_p_is_possible bp_is_possible_3 vbp_is_possible_3 .nil (sc_lend 2 (sc_lend 4 (sc_lend 12 sc_nil))) rfl) (sa_cons (s_call G_p_next_one hgd (hr.mono (by decide)) (by rfl) g_p_next_one k_p_next_one bp_next_one_4 vbp_next_one_4 .nil (sc_lend 2 (sc_lend 4 (sc_lend 12 (sc_val s_int sc_nil)))) rfl) sa_nil)))) (sg_name nd_l_long_right (i := 10) rfl (Or.inl rfl) (by decide)))
    (ss_one (ss_ret (s_and (s_eq hr (s_v 10) (s_lst (sa_cons (s_lst sa_nil) (sa_cons s_bl (sa_cons s_non sa_nil))))) (s_one (s_is (s_call G_p_is_possible hgd (hr.mono (by decide)) (by rfl) g_p_is_possible k_p_is_possible bp_is_possible_3 vbp_is_possible_3 .nil (sc_lend 2 (sc_lend 4 (sc_lend 5 sc_nil))) rfl) s_bl))))))))))))))
theorem fn_l_fills {a : Addr} {fd : FuncData} (T : Txt K mg) (F : FunD K "_law_fills" "_law_fills" (defArgs s_l_fills) (defBody s_l_fills) (defScope s_l_fills) [] [] a fd)  : Fn P w K mg base ct 1 a fd ["_law_line", "_law_early"] m_l_fills := by
  refine fn_ofD F sc_l_fills (by decide) rfl fun cdv A outer s H E hr hgd => ?_
  exact (sss_pre (ss_one (ss_ret (s_eq hr (s_comp (own := [("_law_spot", 2)]) rfl nd_l_fills (i_range1 (by rfl) T.z_range (sa_cons (s_bi call_len4 kLen_op (by rfl) T.z_len (by decide +kernel) (by decide) (by decide) (sa_cons (s_v 0) sa_nil)) sa_nil)) (blkOk_by (N := N_l_fills) (by kernel_rfl)) (fun n i => (sn_name nd_l_fills (i := 2) rfl (by first | exact Or.inl rfl | exact Or.inr rfl) (others_own (by decide)))) (fun i => sts_one (w_pt (w_and (t_isnot (s_ix (s_v 1) (s_v 2)) s_non) (w_and1 (t_ne hr (s_ix (s_v 0) (s_v 2)) (s_ix (s_v 1) (s_v 2))))))) (fun i => s_int)) (s_lst sa_nil)))))
theorem fn_l_grown_right {a : Addr} {fd : FuncData} (T : Txt K mg) (F : FunD K "_law_grown_right" "_law_grown_right" (defArgs s_l_grown_right) (defBody s_l_grown_right) (defScope s_l_grown_right) [] [] a fd) {a_l_fills : Addr} {fd_l_fills : FuncData} (G_l_fills : Fn P w K mg base ct 1 a_l_fills fd_l_fills ["_law_line", "_law_early"] m_l_fills) (g_l_fills : mg "_law_fills" = some (.ref a_l_fills)) (k_l_fills : PySem.W.keepIn K (.ref a_l_fills) = true) {a_p_first_rows : Addr} {fd_p_first_rows : FuncData} (G_p_first_rows : Fn P w K mg base ct 5 a_p_first_rows fd_p_first_rows ["rule", "stream", "outcomes"] m_p_first_rows) (g_p_first_rows : mg "first_rows" = some (.ref a_p_first_rows)) (k_p_first_rows : PySem.W.keepIn K (.ref a_p_first_rows) = true) {a_p_is_possible : Addr} {fd_p_is_possible : FuncData} (G_p_is_possible : Fn P w K mg base ct 5 a_p_is_possible fd_p_is_possible ["rule", "stream", "outcomes"] m_p_is_possible) (g_p_is_possible : mg "is_possible" = some (.ref a_p_is_possible)) (k_p_is_possible : PySem.W.keepIn K (.ref a_p_is_possible) = true) {a_p_next_one : Addr} {fd_p_next_one : FuncData} (G_p_next_one : Fn P w K mg base ct 5 a_p_next_one fd_p_next_one ["rule", "stream", "outcomes", "block"] m_p_next_one) (g_p_next_one : mg "next_one" = some (.ref a_p_next_one)) (k_p_next_one : PySem.W.keepIn K (.ref a_p_next_one) = true) {dbl_fills_2 : List Value} (bl_fills_2 : L2.Binds K fd_l_fills ["_law_line", "_law_early"] dbl_fills_2) (vbl_fills_2 : Vals [] dbl_fills_2) {dbp_first_rows_3 : List Value} (bp_first_rows_3 : L2.Binds K fd_p_first_rows ["rule", "stream", "outcomes"] dbp_first_rows_3) (vbp_first_rows_3 : Vals [] dbp_first_rows_3) {dbp_is_possible_3 : List Value} (bp_is_possible_3 : L2.Binds K fd_p_is_possible ["rule", "stream", "outcomes"] dbp_is_possible_3) (vbp_is_possible_3 : Vals [] dbp_is_possible_3) {dbp_next_one_4 : List Value} (bp_next_one_4 : L2.Binds K fd_p_next_one ["rule", "stream", "outcomes", "block"] dbp_next_one_4) (vbp_next_one_4 : Vals [] dbp_next_one_4) : Fn P w K mg base ct 6 a fd ["_law_moves_here", "_law_things", "_law_outs", "_law_thing"] m_l_grown_right := by
  refine fn_ofD F sc_l_grown_right (by decide) rfl fun cdv A outer s H E hr hgd => ?_
  exact (sss_pre (ss_cons (ss_asg (s_tup (sa_cons (s_call G_p_first_rows hgd (hr.mono (by decide)) (by rfl) g_p_first_rows k_p_first_rows bp_first_rows_3 vbp_first_rows_3 .nil (sc_lend 0 (sc_lend 1 (sc_lend 2 sc_nil))) rfl) (sa_cons (s_call G_p_next_one hgd (hr.mono (by decide)) (by rfl) g_p_next_one k_p_next_one bp_next_one_4 vbp_next_one_4 .nil (sc_lend 0 (sc_lend 1 (sc_lend 2 (sc_lend 3 sc_nil)))) rfl) sa_nil))) (sg_tup (sgs_cons (sg_name nd_l_grown_right (i := 4) rfl (Or.inr rfl) (by decide)) (sgs_cons (sg_name nd_l_grown_right (i := 5) rfl (Or.inl rfl) (by decide)) sgs_nil fun a b => pgs_cons a b) fun a b => pgs_cons a b) (fun p => pg_tup rfl p) rfl))
    (ss_cons (ss_setc (own := [("_law_out", 7)]) (i := 6) rfl nd_l_grown_right rfl rfl (by decide) (sw_true rfl rfl rfl (by decide +kernel)) (i_tup (s_tup (sa_cons s_bl (sa_cons s_bl sa_nil)))) (blkOk_by (N := N_l_grown_right) (by kernel_rfl)) (fun n i => (sn_name nd_l_grown_right (i := 7) rfl (by first | exact Or.inl rfl | exact Or.inr rfl) (others_own (by decide)))) (fun i => sts_nil) (fun i => (s_call G_p_is_possible hgd (hr.mono (by decide)) (by rfl) g_p_is_possible k_p_is_possible bp_is_possible_3 vbp_is_possible_3 .nil (sc_lend 0 (sc_val (s_add (s_fz (s_v 1)) (s_lst (sa_cons (s_fz (s_v 3)) sa_nil))) (sc_val (s_add (s_fz (s_v 2)) (s_lst (sa_cons (s_fz (s_v 7)) sa_nil))) sc_nil))) rfl)))
    (ss_cons (ss_if (t_ne hr (s_v 5) (s_ift (t_eq hr (s_v 6) (s_lst (sa_cons s_bl (sa_cons s_bl sa_nil)))) s_str (s_ift (t_eq hr (s_v 6) (s_lst (sa_cons s_bl (sa_cons s_bl sa_nil)))) s_str s_str))) (ss_one (ss_ret s_bl)) ss_nil)
    (ss_cons (ss_pre (ss_for rfl (i_tup (s_tup (sa_cons s_bl (sa_cons s_bl sa_nil)))) (sg_name nd_l_grown_right (i := 7) rfl (Or.inl rfl) (by decide)) (sss_tdy (ss_cons (ss_asg (s_call G_p_first_rows hgd (hr.mono (by decide)) (by rfl) g_p_first_rows k_p_first_rows bp_first_rows_3 vbp_first_rows_3 .nil (sc_lend 0 (sc_val (s_add (s_fz (s_v 1)) (s_lst (sa_cons (s_fz (s_v 3)) sa_nil))) (sc_val (s_add (s_fz (s_v 2)) (s_lst (sa_cons (s_fz (s_v 7)) sa_nil))) sc_nil))) rfl) (sg_name nd_l_grown_right (i := 8) rfl (Or.inl rfl) (by decide)))
    (ss_cons (ss_if (t_ne hr (s_ne hr (s_v 8) (s_lst sa_nil)) (s_ix (s_v 6) (s_ift (t_val (s_v 7)) s_int s_int))) (ss_one (ss_ret s_bl)) ss_nil)
    (ss_one (ss_if (t_ne hr (s_soft (s_comp (own := [("_law_line", 9)]) rfl nd_l_grown_right (i_list (s_v 8)) (blkOk_by (N := N_l_grown_right) (by kernel_rfl)) (fun n i => (sn_name nd_l_grown_right (i := 9) rfl (by first | exact Or.inl rfl | exact Or.inr rfl) (others_own (by decide)))) (fun i => sts_one (t_eq hr (s_soft (s_comp (own := [("_law_early", 10)]) rfl nd_l_grown_right (i_list (s_v 4)) (blkOk_by (N := N_l_grown_right) (by kernel_rfl)) (fun n i => (sn_name nd_l_grown_right (i := 10) rfl (by first | exact Or.inl rfl | exact Or.inr rfl) (others_own (by decide)))) (fun i => sts_one (t_val (s_call G_l_fills hgd (hr.mono (by decide)) (by rfl) g_l_fills k_l_fills bl_fills_2 vbl_fills_2 .nil (sc_lend 9 (sc_lend 10 sc_nil)) rfl))) (fun i => (s_fz (s_v 10))))) (s_lst sa_nil))) (fun i => (s_fz (s_v 9))))) (s_lst sa_nil)) (ss_one (ss_ret s_bl)) ss_nil)))))))
    (ss_one (ss_ret s_bl)))))))
theorem fn_l_right {a : Addr} {fd : FuncData} (T : Txt K mg) (F : FunD K "_law_right" "_law_right" (defArgs s_l_right) (defBody s_l_right) (defScope s_l_right) [] [] a fd) {a_l_dip : Addr} {fd_l_dip : FuncData} (G_l_dip : Fn P w K mg base ct 1 a_l_dip fd_l_dip ["_law_well_here", "_law_many"] m_l_dip) (g_l_dip : mg "_law_dip" = some (.ref a_l_dip)) (k_l_dip : PySem.W.keepIn K (.ref a_l_dip) = true) {a_l_grown_right : Addr} {fd_l_grown_right : FuncData} (G_l_grown_right : Fn P w K mg base ct 6 a_l_grown_right fd_l_grown_right ["_law_moves_here", "_law_things", "_law_outs", "_law_thing"] m_l_grown_right) (g_l_grown_right : mg "_law_grown_right" = some (.ref a_l_grown_right)) (k_l_grown_right : PySem.W.keepIn K (.ref a_l_grown_right) = true) {a_l_moves : Addr} {fd_l_moves : FuncData} (G_l_moves : Fn P w K mg base ct 3 a_l_moves fd_l_moves ["_law_well_here", "_law_size"] m_l_moves) (g_l_moves : mg "_law_moves" = some (.ref a_l_moves)) (k_l_moves : PySem.W.keepIn K (.ref a_l_moves) = true) {a_l_perm : Addr} {fd_l_perm : FuncData} (G_l_perm : Fn P w K mg base ct 2 a_l_perm fd_l_perm ["_law_well_here", "_law_size"] m_l_perm) (g_l_perm : mg "_law_perm" = some (.ref a_l_perm)) (k_l_perm : PySem.W.keepIn K (.ref a_l_perm) = true) {a_l_step : Addr} {fd_l_step : FuncData} (G_l_step : Fn P w K mg base ct 2 a_l_step fd_l_step ["_law_moves_here", "_law_line", "_law_thing"] m_l_step) (g_l_step : mg "_law_step" = some (.ref a_l_step)) (k_l_step : PySem.W.keepIn K (.ref a_l_step) = true) {a_p_first_rows : Addr} {fd_p_first_rows : FuncData} (G_p_first_rows : Fn P w K mg base ct 5 a_p_first_rows fd_p_first_rows ["rule", "stream", "outcomes"] m_p_first_rows) (g_p_first_rows : mg "first_rows" = some (.ref a_p_first_rows)) (k_p_first_rows : PySem.W.keepIn K (.ref a_p_first_rows) = true) {a_p_is_possible : Addr} {fd_p_is_possible : FuncData} (G_p_is_possible : Fn P w K mg base ct 5 a_p_is_possible fd_p_is_possible ["rule", "stream", "outcomes"] m_p_is_possible) (g_p_is_possible : mg "is_possible" = some (.ref a_p_is_possible)) (k_p_is_possible : PySem.W.keepIn K (.ref a_p_is_possible) = true) {a_p_next_one : Addr} {fd_p_next_one : FuncData} (G_p_next_one : Fn P w K mg base ct 5 a_p_next_one fd_p_next_one ["rule", "stream", "outcomes", "block"] m_p_next_one) (g_p_next_one : mg "next_one" = some (.ref a_p_next_one)) (k_p_next_one : PySem.W.keepIn K (.ref a_p_next_one) = true) {a_p_rows_left : Addr} {fd_p_rows_left : FuncData} (G_p_rows_left : Fn P w K mg base ct 5 a_p_rows_left fd_p_rows_left ["rule", "stream", "outcomes"] m_p_rows_left) (g_p_rows_left : mg "rows_left" = some (.ref a_p_rows_left)) (k_p_rows_left : PySem.W.keepIn K (.ref a_p_rows_left) = true) {dbl_dip_2 : List Value} (bl_dip_2 : L2.Binds K fd_l_dip ["_law_well_here", "_law_many"] dbl_dip_2) (vbl_dip_2 : Vals [] dbl_dip_2) {dbl_grown_right_4 : List Value} (bl_grown_right_4 : L2.Binds K fd_l_grown_right ["_law_moves_here", "_law_things", "_law_outs", "_law_thing"] dbl_grown_right_4) (vbl_grown_right_4 : Vals [] dbl_grown_right_4) {dbl_moves_2 : List Value} (bl_moves_2 : L2.Binds K fd_l_moves ["_law_well_here", "_law_size"] dbl_moves_2) (vbl_moves_2 : Vals [] dbl_moves_2) {dbl_perm_2 : List Value} (bl_perm_2 : L2.Binds K fd_l_perm ["_law_well_here", "_law_size"] dbl_perm_2) (vbl_perm_2 : Vals [] dbl_perm_2) {dbl_step_3 : List Value} (bl_step_3 : L2.Binds K fd_l_step ["_law_moves_here", "_law_line", "_law_thing"] dbl_step_3) (vbl_step_3 : Vals [] dbl_step_3) {dbp_first_rows_3 : List Value} (bp_first_rows_3 : L2.Binds K fd_p_first_rows ["rule", "stream", "outcomes"] dbp_first_rows_3) (vbp_first_rows_3 : Vals [] dbp_first_rows_3) {dbp_is_possible_3 : List Value} (bp_is_possible_3 : L2.Binds K fd_p_is_possible ["rule", "stream", "outcomes"] dbp_is_possible_3) (vbp_is_possible_3 : Vals [] dbp_is_possible_3) {dbp_next_one_4 : List Value} (bp_next_one_4 : L2.Binds K fd_p_next_one ["rule", "stream", "outcomes", "block"] dbp_next_one_4) (vbp_next_one_4 : Vals [] dbp_next_one_4) {dbp_rows_left_3 : List Value} (bp_rows_left_3 : L2.Binds K fd_p_rows_left ["rule", "stream", "outcomes"] dbp_rows_left_3) (vbp_rows_left_3 : Vals [] dbp_rows_left_3) : Fn P w K mg base ct 7 a fd ["_law_well_here", "_law_size"] m_l_right := by
  refine fn_ofD F sc_l_right (by decide) rfl fun cdv A outer s H E hr hgd => ?_
  exact (sss_pre (ss_cons (ss_par rfl nd_l_right (i := 2) (j := 3) rfl rfl (by decide) (by decide) (by decide) rfl rfl (sa_cons (s_call G_l_moves hgd (hr.mono (by decide)) (by rfl) g_l_moves k_l_moves bl_moves_2 vbl_moves_2 .nil (sc_lend 0 (sc_lend 1 sc_nil)) rfl) (sa_cons (s_comp (own := [("_law_spot", 12)]) rfl nd_l_right (i_list (s_call G_l_perm hgd (hr.mono (by decide)) (by rfl) g_l_perm k_l_perm bl_perm_2 vbl_perm_2 .nil (sc_lend 0 (sc_lend 1 sc_nil)) rfl)) (blkOk_by (N := N_l_right) (by kernel_rfl)) (fun n i => (sn_name nd_l_right (i := 12) rfl (by first | exact Or.inl rfl | exact Or.inr rfl) (others_own (by decide)))) (fun i => sts_nil) (fun i => (s_add s_int (s_fz (s_v 12))))) sa_nil)) (by rfl))
    (ss_cons (ss_par3 rfl nd_l_right (i := 4) (j := 5) (l := 6) rfl rfl rfl (by decide) (by decide) (by decide) (by decide) (by decide) (by decide) rfl rfl rfl (sa_cons (s_bi (call_repr2 hgd (units_of hr)) kRepr_op (by rfl) T.z_repr (by decide +kernel) (by decide) (by decide) (sa_cons (s_v 2) sa_nil)) (sa_cons (s_lst sa_nil) (sa_cons (s_lst sa_nil) sa_nil))) (by rfl))
    (ss_cons (ss_pre (ss_for rfl (i_range1 (by rfl) T.z_range (sa_cons (s_add s_int (s_call G_l_dip hgd (hr.mono (by decide)) (by rfl) g_l_dip k_l_dip bl_dip_2 vbl_dip_2 .nil (sc_lend 0 (sc_val s_int sc_nil)) rfl)) sa_nil)) (sg_name nd_l_right (i := 7) rfl (Or.inl rfl) (by decide)) (sss_tdy (ss_cons (ss_asg (s_add s_int (s_call G_l_dip hgd (hr.mono (by decide)) (by rfl) g_l_dip k_l_dip bl_dip_2 vbl_dip_2 .nil (sc_lend 0 (sc_val (s_add (s_bi (call_min2 rfl) kMin_op (by rfl) T.z_min (by decide +kernel) (by decide) (by decide) (sa_cons s_int (sa_cons (s_v 1) sa_nil))) s_int) sc_nil)) rfl)) (sg_name nd_l_right (i := 8) rfl (Or.inl rfl) (by decide)))
    (ss_cons (ss_if (w_pt (w_or (t_not (t_val (s_call G_p_is_possible hgd (hr.mono (by decide)) (by rfl) g_p_is_possible k_p_is_possible bp_is_possible_3 vbp_is_possible_3 .nil (sc_lend 2 (sc_lend 5 (sc_lend 6 sc_nil))) rfl))) (w_or1 (t_not (t_val (s_call G_l_grown_right hgd (hr.mono (by decide)) (by rfl) g_l_grown_right k_l_grown_right bl_grown_right_4 vbl_grown_right_4 .nil (sc_lend 2 (sc_lend 5 (sc_lend 6 (sc_lend 8 sc_nil)))) rfl)))))) (ss_one (ss_ret s_bl)) ss_nil)
    (ss_cons (ss_asg (s_call G_l_step hgd (hr.mono (by decide)) (by rfl) g_l_step k_l_step bl_step_3 vbl_step_3 .nil (sc_lend 2 (sc_lend 3 (sc_lend 8 sc_nil))) rfl) (sg_tup (sgs_cons (sg_name nd_l_right (i := 9) rfl (Or.inl rfl) (by decide)) (sgs_cons (sg_name nd_l_right (i := 3) rfl (Or.inl rfl) (by decide)) sgs_nil fun a b => pgs_cons a b) fun a b => pgs_cons a b) (fun p => pg_tup rfl p) rfl))
    (ss_one (ss_par rfl nd_l_right (i := 5) (j := 6) rfl rfl (by decide) (by decide) (by decide) rfl rfl (sa_cons (s_add (s_fz (s_v 5)) (s_lst (sa_cons (s_fz (s_v 8)) sa_nil))) (sa_cons (s_add (s_fz (s_v 6)) (s_lst (sa_cons (s_fz (s_v 9)) sa_nil))) sa_nil)) (by rfl)))))))))
    (ss_cons (ss_setc (own := [("_law_spot", 12)]) (i := 10) rfl nd_l_right rfl rfl (by decide) (sw_true rfl rfl rfl (by decide +kernel)) (i_range1 (by rfl) T.z_range (sa_cons (s_v 1) sa_nil)) (blkOk_by (N := N_l_right) (by kernel_rfl)) (fun n i => (sn_name nd_l_right (i := 12) rfl (by first | exact Or.inl rfl | exact Or.inr rfl) (others_own (by decide)))) (fun i => sts_nil) (fun i => (s_add s_int (s_fz (s_v 12)))))
    (ss_cons (ss_par rfl nd_l_right (i := 5) (j := 6) rfl rfl (by decide) (by decide) (by decide) rfl rfl (sa_cons (s_add (s_fz (s_v 5)) (s_fz (s_v 10))) (sa_cons (s_add (s_fz (s_v 6)) (s_mul (s_lst (sa_cons s_bl sa_nil)) (s_v 1))) sa_nil)) (by rfl))
    (ss_cons (ss_if (w_pt (w_or (t_ne hr (s_call G_p_rows_left hgd (hr.mono (by decide)) (by rfl) g_p_rows_left k_p_rows_left bp_rows_left_3 vbp_rows_left_3 .nil (sc_lend 2 (sc_lend 5 (sc_lend 6 sc_nil))) rfl) (s_lst (sa_cons (s_fz (s_v 10)) sa_nil))) (w_or1 (t_ne hr (s_call G_p_next_one hgd (hr.mono (by decide)) (by rfl) g_p_next_one k_p_next_one bp_next_one_4 vbp_next_one_4 .nil (sc_lend 2 (sc_lend 5 (sc_lend 6 (sc_val (s_fz (s_ix (s_v 10) (s_neg s_int))) sc_nil)))) rfl) s_str)))) (ss_one (ss_ret s_bl)) ss_nil)
    (ss_cons (ss_setc (own := [("_law_spot", 12)]) (i := 11) rfl nd_l_right rfl rfl (by decide) (sw_true rfl rfl rfl (by decide +kernel)) (i_range1 (by rfl) T.z_range (sa_cons (s_v 1) sa_nil)) (blkOk_by (N := N_l_right) (by kernel_rfl)) (fun n i => (sn_name nd_l_right (i := 12) rfl (by first | exact Or.inl rfl | exact Or.inr rfl) (others_own (by decide)))) (fun i => sts_nil) (fun i => (s_add (s_add (s_mul (s_lst (sa_cons s_non sa_nil)) (s_sub (s_sub (s_v 1) s_int) (s_v 12))) (s_lst (sa_cons s_int sa_nil))) (s_mul (s_lst (sa_cons s_non sa_nil)) (s_v 12)))))
    (ss_one (ss_ret (s_and (s_eq hr (s_call G_p_first_rows hgd (hr.mono (by decide)) (by rfl) g_p_first_rows k_p_first_rows bp_first_rows_3 vbp_first_rows_3 .nil (sc_lend 2 (sc_val (s_lst (sa_cons s_int sa_nil)) (sc_val (s_lst (sa_cons s_bl sa_nil)) sc_nil))) rfl) (s_v 11)) (s_one (s_eq hr (s_bi (call_repr2 hgd (units_of hr)) kRepr_op (by rfl) T.z_repr (by decide +kernel) (by decide) (by decide) (sa_cons (s_v 2) sa_nil)) (s_v 4))))))))))))))
theorem fn_l_well {a : Addr} {fd : FuncData} (T : Txt K mg) (F : FunD K "_law_well" "_law_well" (defArgs s_l_well) (defBody s_l_well) (defScope s_l_well) [] [] a fd)  : Fn P w K mg base ct 1 a fd ["_law_script", "_law_k"] m_l_well := by
  refine fn_ofD F sc_l_well (by decide) rfl fun cdv A outer s H E hr hgd => ?_
  exact (ss_cons (ss_asg (s_ift (t_lt (s_v 1) (s_bi call_len4 kLen_op (by rfl) T.z_len (by decide +kernel) (by decide) (by decide) (sa_cons (s_v 0) sa_nil))) (s_fz (s_ix (s_v 0) (s_v 1))) s_int) (sg_name nd_l_well (i := 2) rfl (Or.inl rfl) (by decide)))
    (ss_one (ss_ret (s_lst (sa_cons (s_bi (call_max2 rfl) kMax_op (by rfl) T.z_max (by decide +kernel) (by decide) (by decide) (sa_cons s_int (sa_cons (s_sub (s_bi call_abs kAbs_op (by rfl) T.z_abs (by decide +kernel) (by decide) (by decide) (sa_cons (s_v 2) sa_nil)) (s_pow s_int s_int)) sa_nil))) (sa_cons (s_mod (s_ty call_int1 kInt_op (by rfl) T.z_int (by decide +kernel) (by decide) (by decide) (sa_cons (s_add (s_add (s_mul (s_v 2) s_int) (s_mul s_int (s_v 1))) s_int) sa_nil)) (s_add (s_pow s_int s_int) s_int)) (sa_cons s_int sa_nil)))))))
theorem fn_p_law {a : Addr} {fd : FuncData} (T : Txt K mg) (F : FunD K "law" "law" (defArgs s_p_law) (defBody s_p_law) (defScope s_p_law) [] [] a fd) {a_l_dip : Addr} {fd_l_dip : FuncData} (G_l_dip : Fn P w K mg base ct 1 a_l_dip fd_l_dip ["_law_well_here", "_law_many"] m_l_dip) (g_l_dip : mg "_law_dip" = some (.ref a_l_dip)) (k_l_dip : PySem.W.keepIn K (.ref a_l_dip) = true) {a_l_long_right : Addr} {fd_l_long_right : FuncData} (G_l_long_right : Fn P w K mg base ct 6 a_l_long_right fd_l_long_right ["_law_well_here"] m_l_long_right) (g_l_long_right : mg "_law_long_right" = some (.ref a_l_long_right)) (k_l_long_right : PySem.W.keepIn K (.ref a_l_long_right) = true) {a_l_right : Addr} {fd_l_right : FuncData} (G_l_right : Fn P w K mg base ct 7 a_l_right fd_l_right ["_law_well_here", "_law_size"] m_l_right) (g_l_right : mg "_law_right" = some (.ref a_l_right)) (k_l_right : PySem.W.keepIn K (.ref a_l_right) = true) {a_l_well : Addr} {fd_l_well : FuncData} (G_l_well : Fn P w K mg base ct 1 a_l_well fd_l_well ["_law_script", "_law_k"] m_l_well) (g_l_well : mg "_law_well" = some (.ref a_l_well)) (k_l_well : PySem.W.keepIn K (.ref a_l_well) = true) {dbl_dip_2 : List Value} (bl_dip_2 : L2.Binds K fd_l_dip ["_law_well_here", "_law_many"] dbl_dip_2) (vbl_dip_2 : Vals [] dbl_dip_2) {dbl_long_right_1 : List Value} (bl_long_right_1 : L2.Binds K fd_l_long_right ["_law_well_here"] dbl_long_right_1) (vbl_long_right_1 : Vals [] dbl_long_right_1) {dbl_right_2 : List Value} (bl_right_2 : L2.Binds K fd_l_right ["_law_well_here", "_law_size"] dbl_right_2) (vbl_right_2 : Vals [] dbl_right_2) {dbl_well_2 : List Value} (bl_well_2 : L2.Binds K fd_l_well ["_law_script", "_law_k"] dbl_well_2) (vbl_well_2 : Vals [] dbl_well_2) : Fn P w K mg base ct 8 a fd ["_law_script"] m_p_law := by
  refine fn_ofD F sc_p_law (by decide) rfl fun cdv A outer s H E hr hgd => ?_
  exact (sss_pre (ss_cons (ss_pre (ss_for rfl (i_range1 (by rfl) T.z_range (sa_cons (s_bi (call_max2 rfl) kMax_op (by rfl) T.z_max (by decide +kernel) (by decide) (by decide) (sa_cons s_int (sa_cons (s_bi (call_min2 rfl) kMin_op (by rfl) T.z_min (by decide +kernel) (by decide) (by decide) (sa_cons s_int (sa_cons (s_bi call_len4 kLen_op (by rfl) T.z_len (by decide +kernel) (by decide) (by decide) (sa_cons (s_v 0) sa_nil)) sa_nil))) sa_nil))) sa_nil)) (sg_name nd_p_law (i := 1) rfl (Or.inl rfl) (by decide)) (sss_tdy (ss_cons (ss_asg (s_call G_l_well hgd (hr.mono (by decide)) (by rfl) g_l_well k_l_well bl_well_2 vbl_well_2 .nil (sc_lend 0 (sc_lend 1 sc_nil)) rfl) (sg_name nd_p_law (i := 2) rfl (Or.inl rfl) (by decide)))
    (ss_cons (ss_pre (ss_for rfl (i_list (s_lst (sa_cons (s_add s_int (s_call G_l_dip hgd (hr.mono (by decide)) (by rfl) g_l_dip k_l_dip bl_dip_2 vbl_dip_2 .nil (sc_lend 2 (sc_val s_int sc_nil)) rfl)) (sa_cons (s_add s_int (s_call G_l_dip hgd (hr.mono (by decide)) (by rfl) g_l_dip k_l_dip bl_dip_2 vbl_dip_2 .nil (sc_lend 2 (sc_val s_int sc_nil)) rfl)) sa_nil)))) (sg_name nd_p_law (i := 3) rfl (Or.inl rfl) (by decide)) (sss_tdy (ss_one (ss_if (t_not (t_val (s_call G_l_right hgd (hr.mono (by decide)) (by rfl) g_l_right k_l_right bl_right_2 vbl_right_2 .nil (sc_lend 2 (sc_lend 3 sc_nil)) rfl))) (ss_one (ss_ret s_bl)) ss_nil)))))
    (ss_one (ss_if (t_not (t_val (s_call G_l_long_right hgd (hr.mono (by decide)) (by rfl) g_l_long_right k_l_long_right bl_long_right_1 vbl_long_right_1 .nil (sc_lend 2 sc_nil) rfl))) (ss_one (ss_ret s_bl)) ss_nil)))))))
    (ss_one (ss_ret s_bl))))
end
end Lw
set_option maxHeartbeats 4000000
/-! Vs: mirrors are run by simp. -/
namespace Vs
open PySem (Str PyData)
section
variable {ρ : Env} {a b c : M} {i : Nat} {x y : VV}
@[simp] theorem e_cst : cst x ρ = .ok x none := (rfl)
@[simp] theorem e_v : v i ρ = match look ρ i with | some (m, d) => .ok ⟨!(m == 0), m, d⟩ none | none => .no := by
  unfold v
  cases look ρ i with
  | none => rfl
  | some z => rfl
@[simp] theorem e_two {k : VV → VV → Option VV} : two a b k ρ = (a ρ).bind ρ fun x ρ1 => (b ρ1).nxt x.stable fun y => .ofO (k x y) := (rfl)
@[simp] theorem e_one {k : VV → Option VV} : one a k ρ = (a ρ).bind ρ fun x _ => .ofO (k x) := (rfl)
@[simp] theorem e_args0 : args [] ρ = .ok [] none := (rfl)
@[simp] theorem e_args1 {as : List M} : args (a :: as) ρ = (a ρ).bind ρ fun x ρ1 => (args as ρ1).nxt x.stable fun xs => .pu (x :: xs) := (rfl)
@[simp] theorem e_argsk {as : MA} {k : List VV → Option VV} : argsk as k ρ = (as ρ).bind ρ fun xs _ => .ofO (k xs) := (rfl)
@[simp] theorem e_tst {t : D → Option Bool} : tst a t ρ = (a ρ).bind ρ fun x _ => .ofO (t x.d) := (rfl)
@[simp] theorem e_tand {s t : MT} : tand s t ρ = (s ρ).bind ρ fun x ρ1 => if x = true then t ρ1 else .pu false := (rfl)
@[simp] theorem e_tor {s t : MT} : tor s t ρ = (s ρ).bind ρ fun x ρ1 => if x = true then .pu true else t ρ1 := (rfl)
@[simp] theorem e_tnot {s : MT} : tnot s ρ = (s ρ).bind ρ fun x _ => .pu (!x) := (rfl)
@[simp] theorem e_ift {s : MT} : ift s a b ρ = (s ρ).bind ρ fun x ρ1 => if x = true then a ρ1 else b ρ1 := (rfl)
@[simp] theorem e_fz {k : Nat} {is : List Nat} : fz k is a ρ = if isThin k is ρ = true then a ρ else ((a (thin k is ρ)).aft (some (thin k is ρ))) := (rfl)
@[simp] theorem e_sq {s t : MS} : sq s t ρ = (s ρ).seq t := (rfl)
@[simp] theorem e_asg {g : MG} : asg a g ρ = (a ρ).go ρ fun x ρ1 => g x ρ1 := (rfl)
@[simp] theorem e_ex : ex a ρ = (a ρ).go ρ fun _ ρ1 => .nx ρ1 := (rfl)
@[simp] theorem e_ret : ret a ρ = (a ρ).go ρ fun x ρ1 => match x.kept with | some pv => .ret pv ρ1 | none => .no := (rfl)
@[simp] theorem e_retv : retv i ρ = match look ρ i with | some pv => .ret pv (put ρ i none) | none => .no := (rfl)
@[simp] theorem e_ifs {s : MT} {t u : MS} : ifs s t u ρ = (s ρ).go ρ fun x ρ1 => if x = true then t ρ1 else u ρ1 := (rfl)
@[simp] theorem e_skip : skip ρ = .nx ρ := (rfl)
@[simp] theorem e_gname : gname i x ρ = match x.kept with | some pv => .nx (put ρ i (some pv)) | none => .no := (rfl)
@[simp] theorem e_gset : gset i b x ρ = match look ρ i with
  | none => .no
  | some _ => (b ρ).go ρ fun y ρ1 => match look ρ1 i, y.d with
    | some (m + 1, .lst l), .int k => if x.stable = true then (match nix l.length k with
        | some j => .nx (put ρ1 i (some ((if x.d.imm = true then m else min m x.m) + 1, .lst (l.set j x.d))))
        | none => .no) else .no
    | _, _ => .no := rfl
@[simp] theorem e_gt {p q : Bool} {m n : Nat} {i j : Int} : kGt ⟨p, m, .int i⟩ ⟨q, n, .int j⟩ = some (vb (decide (j < i))) := (rfl)
@[simp] theorem e_lt {p q : Bool} {m n : Nat} {i j : Int} : kLt ⟨p, m, .int i⟩ ⟨q, n, .int j⟩ = some (vb (decide (i < j))) := (rfl)
@[simp] theorem e_le {p q : Bool} {m n : Nat} {i j : Int} : kLe ⟨p, m, .int i⟩ ⟨q, n, .int j⟩ = some (vb (decide (i ≤ j))) := (rfl)
@[simp] theorem e_ge {p q : Bool} {m n : Nat} {i j : Int} : kGe ⟨p, m, .int i⟩ ⟨q, n, .int j⟩ = some (vb (decide (j ≤ i))) := (rfl)
@[simp] theorem e_addI {p q : Bool} {m n : Nat} {i j : Int} : kAdd ⟨p, m, .int i⟩ ⟨q, n, .int j⟩ = some (vi (i + j)) := (rfl)
@[simp] theorem e_subI {p q : Bool} {m n : Nat} {i j : Int} : kSub ⟨p, m, .int i⟩ ⟨q, n, .int j⟩ = some (vi (i - j)) := (rfl)
theorem e_mulI {p q : Bool} {m n : Nat} {i j : Int} (h : i.natAbs < big) (h' : j.natAbs < big) : kMul ⟨p, m, .int i⟩ ⟨q, n, .int j⟩ = some (vi (i * j)) := if_pos (.inl ⟨h, h'⟩)
theorem e_mulS {p q : Bool} {m n : Nat} {i j : Int} (h : j.natAbs < 18446744073709551616) : kMul ⟨p, m, .int i⟩ ⟨q, n, .int j⟩ = some (vi (i * j)) := if_pos (.inr h)
theorem e_modI {p q : Bool} {m n : Nat} {i j : Int} (h : 0 < j) : kMod ⟨p, m, .int i⟩ ⟨q, n, .int j⟩ = some (vi (i % j)) := if_pos h
theorem e_divI {p q : Bool} {m n : Nat} {i j : Int} (h : 0 < j) (h' : j.natAbs < big) : kDiv ⟨p, m, .int i⟩ ⟨q, n, .int j⟩ = some (vi (i / j)) := if_pos ⟨h, h'⟩
theorem e_powI {p q : Bool} {m n : Nat} {i j : Int} (h : i.natAbs < big) (h1 : 0 ≤ j) (h2 : j ≤ 100) : kPow ⟨p, m, .int i⟩ ⟨q, n, .int j⟩ = some (vi (i ^ j.toNat)) := if_pos ⟨h, h1, h2⟩
@[simp] theorem e_int {p : Bool} {m : Nat} {i : Int} : kInt [⟨p, m, .int i⟩] = some (vi i) := (rfl)
@[simp] theorem e_absI {p : Bool} {m : Nat} {i : Int} : kAbs [⟨p, m, .int i⟩] = some (vi (if i < 0 then -i else i)) := (rfl)
@[simp] theorem e_ixL {p q : Bool} {m n : Nat} {l : List D} {i : Int} : kIx ⟨p, m, .lst l⟩ ⟨q, n, .int i⟩ = (atD l i).map (sub ⟨p, m, .lst l⟩) := (rfl)
@[simp] theorem e_at0 {d : D} {l : List D} : atD (d :: l) 0 = some d := by
  unfold atD nix
  rw [if_pos (by decide), if_pos (by simp only [List.length_cons]; omega)]
  rfl
@[simp] theorem e_at1 {d e : D} {l : List D} : atD (d :: e :: l) 1 = some e := by
  unfold atD nix
  rw [if_pos (by decide), if_pos (by simp only [List.length_cons]; omega)]
  rfl
@[simp] theorem e_at2 {d e f : D} {l : List D} : atD (d :: e :: f :: l) 2 = some f := by
  unfold atD nix
  rw [if_pos (by decide), if_pos (by simp only [List.length_cons]; omega)]
  rfl
@[simp] theorem e_sub {p : Bool} {m : Nat} {d e : D} : sub ⟨p, m, d⟩ e = ⟨p && !(m - 1 == 0), m - 1, e⟩ := (rfl)
theorem small_big {i : Int} (h0 : -(2 ^ 64) < i) (h : i < 2 ^ 64) : i.natAbs < big := big_of (k := 64) (by omega) (by decide)
end
/-- a comprehension whose items are had without changes -/
theorem compL_pure {own : List Nat} {g : MG} {e : M} {k : D → VV} : ∀ (ds : List D) (ρ : Env) (acc : List VV), (∀ d ∈ ds, ∃ ρ1, g ⟨false, 0, d⟩ ρ = .nx ρ1 ∧ e ρ1 = .ok (k d) none ∧ (k d).stable = true) → compL own g yes e ds ρ acc = .ok (acc ++ ds.map k) none
  | [], ρ, acc, _ => by
    unfold compL
    rw [List.map_nil, List.append_nil]
  | d :: ds, ρ, acc, h => by
    obtain ⟨ρ1, h1, h2, h3⟩ := h d (List.mem_cons_self ..)
    have ih := compL_pure (own := own) (g := g) (e := e) ds ρ (acc ++ [k d]) fun d hd => h d (List.mem_cons_of_mem _ hd)
    unfold compL
    rw [h1]
    have hy : yes ρ1 = .ok true none := rfl
    simp only [hy, now_none, h2, h3, if_true, thn_none, Option.map_none, R.aft_none, ih]
    rw [List.map_cons, List.append_assoc]
    rfl
/-- a comprehension whose items change something: P, by the turn -/
theorem compL_eff {own : List Nat} {g : MG} {e : M} {P : Nat → Env → List VV → Prop} : ∀ (ds : List D) (n : Nat) (ρ : Env) (acc : List VV),
    (∀ i d ρ acc, ds[i]? = some d → P (n + i) ρ acc → ∃ ρ1 x ρ2, g ⟨false, 0, d⟩ ρ = .nx ρ1 ∧ e ρ1 = .ok x (some ρ2) ∧ x.stable = true ∧ P (n + i + 1) (wipeE own ρ2) (acc ++ [x])) → P n ρ acc →
    ∃ xs o, compL own g yes e ds ρ acc = .ok xs o ∧ P (n + ds.length) (now o ρ) xs
  | [], n, ρ, acc, _, h => ⟨acc, none, rfl, h⟩
  | d :: ds, n, ρ, acc, hs, h => by
    obtain ⟨ρ1, x, ρ2, h1, h2, h3, h4⟩ := hs 0 d ρ acc rfl h
    obtain ⟨xs, o, h5, h6⟩ := compL_eff (own := own) (g := g) (e := e) ds (n + 1) (wipeE own ρ2) (acc ++ [x]) (fun i d' ρ acc hi hp => by
      have := hs (i + 1) d' ρ acc (by simpa using hi) (by rw [show n + (i + 1) = n + 1 + i by omega]; exact hp)
      rw [show n + (i + 1) + 1 = n + 1 + i + 1 by omega] at this
      exact this) h4
    refine ⟨xs, Vs.thn (some (wipeE own ρ2)) o, ?_, ?_⟩
    · unfold compL
      rw [h1]
      have hy : yes ρ1 = .ok true none := rfl
      simp only [hy, now_none, h2, h3, if_true, thn_some, Option.map_some, Option.map_none, now_some, h5, R.aft_ok, none_thn]
    · have e2 : now (Vs.thn (some (wipeE own ρ2)) o) ρ = now o (wipeE own ρ2) := by cases o <;> rfl
      rw [e2, List.length_cons, show n + (ds.length + 1) = n + 1 + ds.length by omega]
      exact h6
/-- a loop that goes through -/
theorem forL_inv {g : MG} {b : MS} {P : Nat → Env → Prop} : ∀ (ds : List D) (n : Nat) (ρ : Env), (∀ i d ρ, ds[i]? = some d → P (n + i) ρ → ∃ ρ', (g ⟨false, 0, d⟩ ρ).seq b = .nx ρ' ∧ P (n + i + 1) ρ') → P n ρ → ∃ ρ', forL g b ds ρ = .nx ρ' ∧ P (n + ds.length) ρ'
  | [], n, ρ, _, h => ⟨ρ, rfl, h⟩
  | d :: ds, n, ρ, hs, h => by
    obtain ⟨ρ1, h1, h2⟩ := hs 0 d ρ rfl h
    obtain ⟨ρ', h3, h4⟩ := forL_inv (g := g) (b := b) ds (n + 1) ρ1 (fun i d' ρ hi hp => by
      have := hs (i + 1) d' ρ (by simpa using hi) (by rw [show n + (i + 1) = n + 1 + i by omega]; exact hp)
      rw [show n + (i + 1) + 1 = n + 1 + i + 1 by omega] at this
      exact this) h2
    refine ⟨ρ', ?_, by rw [List.length_cons, show n + (ds.length + 1) = n + 1 + ds.length by omega]; exact h4⟩
    unfold forL
    rw [h1]
    exact h3
end Vs
set_option maxHeartbeats 4000000
/-! Vs: numbers in lists. -/
namespace Vs
open PySem (Str PyData)
/-! ### numbers in lists -/
def dnat (l : List Nat) : List D := l.map fun (i : Nat) => D.int (i : Int)
@[simp] theorem dnat_nil : dnat [] = [] := (rfl)
@[simp] theorem dnat_cons (a : Nat) (l : List Nat) : dnat (a :: l) = .int a :: dnat l := (rfl)
@[simp] theorem dnat_length (l : List Nat) : (dnat l).length = l.length := List.length_map ..
theorem dnat_append (l k : List Nat) : dnat (l ++ k) = dnat l ++ dnat k := List.map_append ..
theorem dnat_get (l : List Nat) (i : Nat) : (dnat l)[i]? = l[i]?.map fun (i : Nat) => D.int (i : Int) := List.getElem?_map ..
theorem dnat_set (l : List Nat) (i a : Nat) : (dnat l).set i (.int a) = dnat (l.set i a) := by
  unfold dnat
  rw [List.map_set]
theorem rng_dnat (n : Nat) : rng 0 (n : Int) = dnat (List.range n) := by
  unfold rng dnat
  rw [show ((n : Int) - 0).toNat = n by omega]
  exact List.map_congr_left fun i _ => by rw [Int.zero_add]
theorem nix_nat {n i : Nat} (h : i < n) : nix n (i : Int) = some i := by
  unfold nix
  rw [if_pos (by omega), if_pos (by omega)]
  rfl
theorem nix_last {n : Nat} (h : 0 < n) : nix n (-1) = some (n - 1) := by
  unfold nix
  rw [if_neg (by omega), if_pos (by omega)]
  congr 1
  omega
theorem at_nat {l : List D} {i : Nat} (h : i < l.length) : atD l (i : Int) = some l[i] := by
  unfold atD
  rw [nix_nat h]
  exact List.getElem?_eq_getElem h
theorem at_last {l : List D} (h : l ≠ []) : atD l (-1) = some (l.getLast h) := by
  unfold atD
  rw [nix_last (List.length_pos_iff.mpr h)]
  show l[l.length - 1]? = _
  rw [← List.getLast?_eq_getElem?, List.getLast?_eq_some_getLast h]
theorem at_dnat {l : List Nat} {i : Nat} (h : i < l.length) : atD (dnat l) (i : Int) = some (.int (l[i] : Nat)) := by
  rw [at_nat (by rw [dnat_length]; exact h)]
  unfold dnat
  rw [List.getElem_map]
theorem at_dnat' {l : List Nat} {i : Nat} (h : i < l.length) : atD (dnat l) (i : Int) = some (.int (l.getD i 0 : Nat)) := by
  rw [at_dnat h, List.getD_eq_getElem?_getD, List.getElem?_eq_getElem h]
  rfl
def nth (l : List Nat) (i : Nat) : Nat := l.getD i 0
theorem nth_eq {l : List Nat} {i : Nat} (h : i < l.length) : nth l i = l[i] := by
  unfold nth
  rw [List.getD_eq_getElem?_getD, List.getElem?_eq_getElem h]
  rfl
theorem nth_mem {l : List Nat} {i : Nat} (h : i < l.length) : nth l i ∈ l := by
  rw [nth_eq h]
  exact List.getElem_mem h
theorem at_nth {l : List Nat} {i : Nat} (h : i < l.length) : atD (dnat l) (i : Int) = some (.int (nth l i : Nat)) := by
  rw [at_dnat h, nth_eq h]
end Vs
set_option maxHeartbeats 4000000
/-! Vs: plain tools for the mirrors. -/
namespace Vs
open PySem (Str PyData)
section
variable {ρ : Env} {a b c : M} {i : Nat} {x y : VV}
@[simp] theorem e_call {f : List PV → RF} {df : List PV} {as : List AK} : call f df as ρ = (cargs as ρ).bind ρ fun avs ρ1 => callG f (avs ++ df.map .o) ρ1 (grab (avs ++ df.map .o) ρ1) := (rfl)
@[simp] theorem e_cargs0 : cargs [] ρ = .ok [] none := (rfl)
@[simp] theorem e_cargsL {as : List AK} : cargs (.lend i :: as) ρ = match look ρ i with
    | some _ => (cargs as ρ).bind ρ fun xs _ => .pu (.l i :: xs)
    | none => .no := rfl
@[simp] theorem e_cargsV {as : List AK} : cargs (.val a :: as) ρ = (a ρ).bind ρ fun x ρ1 => match x.kept with
    | some pv => (cargs as ρ1).bind ρ1 fun xs _ => .pu (.o pv :: xs)
    | none => .no := rfl
@[simp] theorem e_grab0 : grab [] ρ = some ([], ρ) := (rfl)
@[simp] theorem e_grabL {as : List AV} : grab (.l i :: as) ρ = match look ρ i with
    | some pv => (match grab as (put ρ i none) with | some (pvs, ρ') => some (pv :: pvs, ρ') | none => none)
    | none => none := rfl
@[simp] theorem e_grabO {as : List AV} {pv : PV} : grab (.o pv :: as) ρ = match grab as ρ with | some (pvs, ρ') => some (pv :: pvs, ρ') | none => none := (rfl)
@[simp] theorem e_callG {f : List PV → RF} {avs : List AV} {pvs : List PV} {ρ2 : Env} : callG f avs ρ (some (pvs, ρ2)) = if avs.all (AV.quiet ρ) = true then (f pvs).pure ρ else (f pvs).fin avs ρ2 := (rfl)
@[simp] theorem e_quietO {pv : PV} : AV.quiet ρ (.o pv) = true := (rfl)
@[simp] theorem e_quietL : AV.quiet ρ (.l i) = match look ρ i with | some pv => pv.cold | none => false := (rfl)
@[simp] theorem e_cold0 {d : D} : PV.cold (0, d) = true := (rfl)
@[simp] theorem e_coldS {m : Nat} {d : D} : PV.cold (m + 1, d) = d.imm := by unfold PV.cold; simp
@[simp] theorem e_coldI {m : Nat} {i : Int} : PV.cold (m, .int i) = true := by unfold PV.cold; simp
@[simp] theorem e_cold1 {d : D} : PV.cold (1, d) = d.imm := by unfold PV.cold; simp
@[simp] theorem e_cold2 {d : D} : PV.cold (2, d) = d.imm := by unfold PV.cold; simp
@[simp] theorem e_cold3 {d : D} : PV.cold (3, d) = d.imm := by unfold PV.cold; simp
@[simp] theorem e_fin {r : PV} {out : Env} {avs : List AV} : (RF.ok r out).fin avs ρ = .ok ⟨false, r.1, r.2⟩ (some (back avs out ρ)) := (rfl)
@[simp] theorem e_finx {e : Ex} {out : Env} {avs : List AV} : (RF.ex e out).fin avs ρ = .ex e (back avs out ρ) := (rfl)
@[simp] theorem e_pure {r : PV} {out : Env} : (RF.ok r out).pure ρ = .ok ⟨false, r.1, r.2⟩ none := (rfl)
@[simp] theorem e_purex {e : Ex} {out : Env} : (RF.ex e out).pure ρ = .ex e ρ := (rfl)
@[simp] theorem e_backL {as : List AV} {z : Option PV} {out : Env} : back (.l i :: as) (z :: out) ρ = back as out (put ρ i z) := (rfl)
@[simp] theorem e_backO {as : List AV} {pv : PV} {z : Option PV} {out : Env} : back (.o pv :: as) (z :: out) ρ = back as out ρ := (rfl)
@[simp] theorem e_back0 {out : Env} : back [] out ρ = ρ := by cases out <;> rfl
@[simp] theorem e_outs0 {r : Env} : outs [] r = [] := (rfl)
@[simp] theorem e_outsT {bs : List Bool} {z : Option PV} {r : Env} : outs (true :: bs) (z :: r) = z :: outs bs r := (rfl)
@[simp] theorem e_outsF {bs : List Bool} {z : Option PV} {r : Env} : outs (false :: bs) (z :: r) = none :: outs bs r := (rfl)
@[simp] theorem e_fnx {l : List Bool} : fnF l (.nx ρ) = .ok (0, .non) (outs l ρ) := (rfl)
@[simp] theorem e_fret {l : List Bool} {r : PV} : fnF l (.ret r ρ) = .ok r (outs l ρ) := (rfl)
@[simp] theorem e_fex {l : List Bool} {e : Ex} : fnF l (.ex e ρ) = .ex e (outs l ρ) := (rfl)
@[simp] theorem e_isThin0 {k : Nat} : isThin k [] ρ = true := (rfl)
@[simp] theorem e_isThin1 {k : Nat} {is : List Nat} : isThin k (i :: is) ρ = ((match look ρ i with | some (m, d) => decide (m ≤ k) || d.imm | none => true) && isThin k is ρ) := (rfl)
@[simp] theorem e_thin0 {k : Nat} : thin k [] ρ = ρ := (rfl)
@[simp] theorem e_thin1 {k : Nat} {is : List Nat} : thin k (i :: is) ρ = match look ρ i with
    | some (m, d) => thin k is (put ρ i (some (min m k, d)))
    | none => thin k is ρ := rfl
@[simp] theorem e_par {i j : Nat} {as : MA} : par i j as ρ = (as ρ).go ρ fun xs ρ1 => match xs with
  | [x, y] => (gname i x ρ1).seq fun ρ2 => gname j y ρ2
  | _ => .no := rfl
@[simp] theorem e_fors {it : MI} {g : MG} {body : MS} : fors it g body ρ = (it ρ).go ρ fun ds ρ1 => forL g body ds ρ1 := (rfl)
@[simp] theorem e_it1 {k : VV → Option (List D)} : it1 k a ρ = (a ρ).bind ρ fun x _ => .ofO (k x) := (rfl)
@[simp] theorem e_itN {k : List VV → Option (List D)} {as : MA} : itN k as ρ = (as ρ).bind ρ fun xs _ => .ofO (k xs) := (rfl)
@[simp] theorem e_comp {it : MI} {g : MG} {cs : MT} {own : List Nat} : comp it g cs a own ρ = (it ρ).bind ρ fun ds ρ1 => compF (compL own g cs a ds (wipeE own ρ1) []) := (rfl)
@[simp] theorem e_compF {xs : List VV} {o : Option Env} : compF (.ok xs o) = (R.ofO (kLst xs)).aft o := (rfl)
@[simp] theorem e_recv {as : MA} {k : PV → List VV → Option (VV × PV)} : recv i as k ρ = match look ρ i with
  | some (_, .lst _) => (as ρ).bind ρ fun xs ρ1 => (match look ρ1 i with
    | some pv => (match k pv xs with | some (r, pv') => .ef r (put ρ1 i (some pv')) | none => .no)
    | none => .no)
  | _ => .no := rfl
@[simp] theorem e_meth {ty : D → Bool} {as : MA} {k : VV → List VV → Option VV} : meth ty a as k ρ = (a ρ).bind ρ fun x ρ1 => if ty x.d = true then (as ρ1).nxt x.stable fun xs => .ofO (k x xs) else .no := (rfl)
@[simp] theorem e_slc {lo hi : Option M} : slc a lo hi ρ = (a ρ).bind ρ fun x ρ1 => (part lo ρ1).nxt false fun l => (part hi ρ1).nxt false fun u => .ofO (kSl x l u) := (rfl)
@[simp] theorem e_part0 : part none ρ = .ok none none := (rfl)
@[simp] theorem e_part1 : part (some a) ρ = (a ρ).bind ρ fun y _ => .ofO (intOf y) := (rfl)
@[simp] theorem e_intOf {p : Bool} {m : Nat} {i : Int} : intOf ⟨p, m, .int i⟩ = some (some i) := (rfl)
@[simp] theorem e_vand : vand a b ρ = (a ρ).bind ρ fun x ρ1 => match x.d with
  | .bl true => b ρ1 | .bl false => .pu (vb false) | _ => .no := rfl
@[simp] theorem e_vor : vor a b ρ = (a ρ).bind ρ fun x ρ1 => match x.d with
  | .bl true => .pu (vb true) | .bl false => b ρ1 | _ => .no := rfl
@[simp] theorem e_chain {φ ψ : Int → Int → Bool} : chain a b c φ ψ ρ = (a ρ).bind ρ fun x ρ1 => (b ρ1).bind ρ1 fun y ρ2 => match x.d, y.d with
  | .int i, .int j => if φ i j = true then (c ρ2).bind ρ2 fun w _ => (match w.d with | .int k => .pu (vb (ψ j k)) | _ => .no) else .pu (vb false)
  | _, _ => .no := rfl
@[simp] theorem e_soft {is : List Nat} : soft is a ρ = match a (thin 0 is ρ) with
  | .no => .no
  | .ok x none => if x.plain = true then .pu x else fz 0 is a ρ
  | _ => fz 0 is a ρ := rfl
@[simp] theorem e_yes : yes ρ = .ok true none := (rfl)
@[simp] theorem e_retN : retN ρ = .ret (0, .non) ρ := (rfl)
@[simp] theorem e_byK {is js : List Nat} {f : List PV → RF} {p : List PV} : byK is js f p = (f (sel is p)).outBy js := (rfl)
@[simp] theorem e_sel0 {α : Type} {l : List α} : sel [] l = [] := (rfl)
@[simp] theorem e_sel1 {α : Type} {is : List Nat} {l : List α} : sel (i :: is) l = match l[i]? with
    | some x => x :: sel is l
    | none => sel is l := rfl
@[simp] theorem e_outBy {js : List Nat} {r : PV} {out : Env} : (RF.ok r out).outBy js = .ok r (sel js out) := (rfl)
@[simp] theorem e_tstb {p : Bool} {m : Nat} {q : Bool} : blOf (VV.d ⟨p, m, .bl q⟩) = some q := (rfl)
/-! kernels -/
@[simp] theorem e_lenL {p : Bool} {m : Nat} {l : List D} : kLen [⟨p, m, .lst l⟩] = some (vi l.length) := (rfl)
@[simp] theorem e_lenT {p : Bool} {m : Nat} {l : List D} : kLen [⟨p, m, .tup l⟩] = some (vi l.length) := (rfl)
@[simp] theorem e_isi {p : Bool} {m : Nat} {t : Ty} {d : D} : kIsi t ⟨p, m, d⟩ = (d.isTy t).map vb := (rfl)
@[simp] theorem e_tyInt {t : Ty} {i : Int} : D.isTy t (.int i) = some (match t with | .int => true | _ => false) := (rfl)
@[simp] theorem e_tyBl {t : Ty} {i : Bool} : D.isTy t (.bl i) = some (match t with | .int => true | .bool => true | _ => false) := (rfl)
@[simp] theorem e_tyStr {t : Ty} {i : Str} : D.isTy t (.str i) = some (match t with | .str => true | _ => false) := (rfl)
@[simp] theorem e_tyNon {t : Ty} : D.isTy t .non = some false := (rfl)
@[simp] theorem e_tyLst {t : Ty} {l : List D} : D.isTy t (.lst l) = some (match t with | .list => true | _ => false) := (rfl)
@[simp] theorem e_tyTup {t : Ty} {l : List D} : D.isTy t (.tup l) = some (match t with | .tuple => true | _ => false) := (rfl)
@[simp] theorem e_tyDic {t : Ty} {q : Bool} {l : List (D × D)} : D.isTy t (.dic q l) = some (match t with | .dict => true | _ => false) := (rfl)
@[simp] theorem e_isN {p q : Bool} {m n : Nat} {d : D} : kIs ⟨p, m, d⟩ ⟨q, n, .non⟩ = some (vb d.isNon) := (rfl)
@[simp] theorem e_isnotN {p q : Bool} {m n : Nat} {d : D} : kIsNot ⟨p, m, d⟩ ⟨q, n, .non⟩ = some (vb (!d.isNon)) := (rfl)
@[simp] theorem e_isNonI {i : Int} : D.isNon (.int i) = false := (rfl)
@[simp] theorem e_isNonL {i : List D} : D.isNon (.lst i) = false := (rfl)
@[simp] theorem e_isNonN : D.isNon .non = true := (rfl)
@[simp] theorem e_neg {p : Bool} {m : Nat} {i : Int} : kNeg ⟨p, m, .int i⟩ = some (vi (-i)) := (rfl)
@[simp] theorem e_not {p : Bool} {m : Nat} {q : Bool} : kNot ⟨p, m, .bl q⟩ = some (vb (!q)) := (rfl)
@[simp] theorem e_max {p q : Bool} {m n : Nat} {i j : Int} : kMax [⟨p, m, .int i⟩, ⟨q, n, .int j⟩] = some (vi (if j > i then j else i)) := (rfl)
@[simp] theorem e_min {p q : Bool} {m n : Nat} {i j : Int} : kMin [⟨p, m, .int i⟩, ⟨q, n, .int j⟩] = some (vi (if j < i then j else i)) := (rfl)
theorem e_range1 {p : Bool} {m : Nat} {j : Int} (h : -(2 ^ 62) ≤ j) (h' : j < 2 ^ 62) : kR1 [⟨p, m, .int j⟩] = some (rng 0 j) := if_pos ⟨h, h'⟩
theorem e_range2 {p q : Bool} {m n : Nat} {i j : Int} (h1 : -(2 ^ 62) ≤ i) (h2 : i < 2 ^ 62) (h : -(2 ^ 62) ≤ j) (h' : j < 2 ^ 62) : kR2 [⟨p, m, .int i⟩, ⟨q, n, .int j⟩] = some (rng i j) := if_pos ⟨h1, h2, h, h'⟩
theorem e_listRange {p : Bool} {m : Nat} {j : Int} (h : -(2 ^ 62) ≤ j) (h' : j ≤ 16777216) : kRange [⟨p, m, .int j⟩] = some ⟨false, 1, .lst (rng 0 j)⟩ := if_pos ⟨h, h'⟩
@[simp] theorem e_kLo {m : Nat} {l : List D} : kL ⟨false, m, .lst l⟩ = some l := (rfl)
@[simp] theorem e_kL0 {p : Bool} {l : List D} : kL ⟨p, 0, .lst l⟩ = some l := if_pos (.inr rfl)
@[simp] theorem e_kTo {m : Nat} {l : List D} : kT ⟨false, m, .tup l⟩ = some l := (rfl)
@[simp] theorem e_kE0 {p : Bool} {l : List D} : kE [⟨p, 0, .lst l⟩] = some (enumD 0 l) := if_pos (.inr rfl)
@[simp] theorem e_kEo {m : Nat} {l : List D} : kE [⟨false, m, .lst l⟩] = some (enumD 0 l) := (rfl)
@[simp] theorem e_rng {i : Int} {n : Nat} (h : n ≤ 100) : True := trivial
theorem e_append {m : Nat} {l : List D} {x : VV} (h : x.stable = true) (h2 : l.length < lim) : rAppend (m + 1, .lst l) [x] = some (vn, ((if x.d.imm = true then m else min m x.m) + 1, .lst (l ++ [x.d]))) := if_pos ⟨h, h2⟩
theorem lim_num : lim = 16777216 := rfl
theorem e_kept {x : VV} (h : x.stable = true) : x.kept = some (x.m, x.d) := by unfold VV.kept; rw [if_pos h]
@[simp] theorem e_keptI {p : Bool} {m : Nat} {i : Int} : VV.kept ⟨p, m, .int i⟩ = some (m, .int i) := kept_bint _ _ _ rfl
@[simp] theorem e_keptB {p : Bool} {m : Nat} {i : Bool} : VV.kept ⟨p, m, .bl i⟩ = some (m, .bl i) := kept_bint _ _ _ rfl
@[simp] theorem e_keptS {p : Bool} {m : Nat} {i : Str} : VV.kept ⟨p, m, .str i⟩ = some (m, .str i) := kept_bint _ _ _ rfl
@[simp] theorem e_keptN {p : Bool} {m : Nat} : VV.kept ⟨p, m, .non⟩ = some (m, .non) := kept_bint _ _ _ rfl
@[simp] theorem e_stableI {p : Bool} {m : Nat} {i : Int} : VV.stable ⟨p, m, .int i⟩ = true := stable_imm _ _ _ rfl
@[simp] theorem e_stableB {p : Bool} {m : Nat} {i : Bool} : VV.stable ⟨p, m, .bl i⟩ = true := stable_imm _ _ _ rfl
@[simp] theorem e_stableS {p : Bool} {m : Nat} {i : Str} : VV.stable ⟨p, m, .str i⟩ = true := stable_imm _ _ _ rfl
@[simp] theorem e_stableN {p : Bool} {m : Nat} : VV.stable ⟨p, m, .non⟩ = true := stable_imm _ _ _ rfl
@[simp] theorem e_openO {m : Nat} {d : D} : VV.open ⟨false, m, d⟩ := .inl rfl
@[simp] theorem e_open0 {p : Bool} {d : D} : VV.open ⟨p, 0, d⟩ := .inr (Nat.zero_le _)
@[simp] theorem e_open1 {p : Bool} {d : D} : VV.open ⟨p, 1, d⟩ := .inr (Nat.le_refl _)
@[simp] theorem e_wipe0 : wipeE [] ρ = ρ := (rfl)
@[simp] theorem e_wipe1 {is : List Nat} : wipeE (i :: is) ρ = wipeE is (put ρ i none) := (rfl)
end
/-! ### what may be compared, written -/
/-- of a bounded size, no dict in it -/
structure Nice (k j : Nat) (d : D) : Prop where
  fl : d.flat = true
  cl : d.py.canLay0 = true
  dp : d.py.depth ≤ j
  bk : d.py.bulk ≤ k
  lv : d.py.leavesShort 100 = true
  sh : d.py.showable = true
structure NiceAll (k j : Nat) (l : List D) : Prop where
  fl : flatAll l = true
  cl : PyData.canLayAll0 (pyAll l) = true
  dp : PyData.depthAll (pyAll l) ≤ j
  bk : PyData.bulkAll (pyAll l) ≤ k
  lv : PyData.leavesShortAll 100 (pyAll l) = true
  sh : PyData.showableAll (pyAll l) = true
theorem Nice.le {k j k' j' : Nat} {d : D} (h : Nice k j d) (hk : k ≤ k') (hj : j ≤ j') : Nice k' j' d := ⟨h.fl, h.cl, Nat.le_trans h.dp hj, Nat.le_trans h.bk hk, h.lv, h.sh⟩
theorem Nice.non : Nice 0 0 .non := ⟨rfl, rfl, Nat.le_refl _, Nat.le_refl _, rfl, rfl⟩
theorem Nice.bl (b : Bool) : Nice 0 0 (.bl b) := ⟨rfl, rfl, Nat.le_refl _, Nat.le_refl _, rfl, rfl⟩
theorem Nice.int {i : Int} (h : i.natAbs < 10 ^ 90) : Nice 0 0 (.int i) := by
  refine ⟨rfl, rfl, Nat.le_refl _, Nat.le_refl _, ?_, ?_⟩
  rotate_left
  · show PyData.showable (.int i) = true
    rw [PyData.showable.eq_4]
    refine decide_eq_true ?_
    by_cases z : i.natAbs = 0
    · rw [z]; decide
    · rw [Nat.log2_lt z]
      exact Nat.lt_of_lt_of_le h (Nat.le_trans (by decide : 10 ^ 90 ≤ 2 ^ 300) (Nat.pow_le_pow_right (by decide) (by decide)))
  have h2 := PySem.int_text_length_le10 (a := i) (k := 90) (by decide) h
  have h1 : (PyData.shown (.int i)).length ≤ 100 := by
    rw [PyData.shown.eq_3]
    have e : (PySem.Str.ofString (toString i)).length = (toString i).length := PySem.ofString_length _
    omega
  show PyData.leavesShort 100 (.int i) = true
  unfold PyData.leavesShort
  exact decide_eq_true h1
theorem NiceAll.nil {k j : Nat} : NiceAll k j [] := ⟨rfl, rfl, Nat.zero_le _, Nat.zero_le _, rfl, rfl⟩
theorem NiceAll.cons {k j k' : Nat} {d : D} {l : List D} (h : Nice k j d) (g : NiceAll k' j l) : NiceAll (k + 1 + k') j (d :: l) := by
  obtain ⟨a1, a2, a3, a4, a5, a6⟩ := h
  obtain ⟨b1, b2, b3, b4, b5, b6⟩ := g
  refine ⟨by unfold flatAll; simp [a1, b1], ?_, ?_, ?_, ?_, ?_⟩
  · simp only [pyAll, PyData.canLayAll0, a2, b2, Bool.and_true]
  · simp only [pyAll, PyData.depthAll]; omega
  · simp only [pyAll, PyData.bulkAll]; omega
  · simp only [pyAll, PyData.leavesShortAll, a5, b5, Bool.and_true]
  · simp only [pyAll, PyData.showableAll, a6, b6, Bool.and_true]
theorem NiceAll.of {k j : Nat} : ∀ {l : List D}, (∀ d ∈ l, Nice k j d) → NiceAll ((k + 1) * l.length) j l
  | [], _ => .nil
  | d :: l, h => by
    have := NiceAll.cons (h d (List.mem_cons_self ..)) (NiceAll.of (l := l) fun e he => h e (List.mem_cons_of_mem _ he))
    rw [show k + 1 + (k + 1) * l.length = (k + 1) * (d :: l).length by rw [List.length_cons, Nat.mul_succ]; omega] at this
    exact this
theorem NiceAll.lst {k j : Nat} {l : List D} (h : NiceAll k j l) : Nice k (j + 1) (.lst l) := by
  obtain ⟨b1, b2, b3, b4, b5, b6⟩ := h
  refine ⟨by unfold D.flat; exact b1, ?_, ?_, ?_, ?_, ?_⟩
  · simp only [D.py, PyData.canLay0, b2]
  · simp only [D.py, PyData.depth]; omega
  · simp only [D.py, PyData.bulk]; omega
  · simp only [D.py, PyData.leavesShort, b5]
  · simp only [D.py, PyData.showable, b6]
theorem NiceAll.tup {k j : Nat} {l : List D} (h : NiceAll k j l) : Nice k (j + 1) (.tup l) := by
  obtain ⟨b1, b2, b3, b4, b5, b6⟩ := h
  refine ⟨by unfold D.flat; exact b1, ?_, ?_, ?_, ?_, ?_⟩
  · simp only [D.py, PyData.canLay0, b2]
  · simp only [D.py, PyData.depth]; omega
  · simp only [D.py, PyData.bulk]; omega
  · simp only [D.py, PyData.leavesShort, b5]
  · simp only [D.py, PyData.showable, b6]
theorem Nice.lstOf {k j n : Nat} {l : List D} (h : ∀ d ∈ l, Nice k j d) (hn : l.length ≤ n) : Nice ((k + 1) * n) (j + 1) (.lst l) := (NiceAll.of h).lst.le (Nat.mul_le_mul_left _ hn) (Nat.le_refl _)
theorem Nice.tupOf {k j n : Nat} {l : List D} (h : ∀ d ∈ l, Nice k j d) (hn : l.length ≤ n) : Nice ((k + 1) * n) (j + 1) (.tup l) := (NiceAll.of h).tup.le (Nat.mul_le_mul_left _ hn) (Nat.le_refl _)
theorem Nice.dnat {n : Nat} {l : List Nat} (h : ∀ i ∈ l, i < 10 ^ 90) (hn : l.length ≤ n) : Nice n 1 (.lst (dnat l)) := by
  have := Nice.lstOf (k := 0) (j := 0) (n := n) (l := Vs.dnat l) (fun d hd => by
    unfold Vs.dnat at hd
    obtain ⟨i, hi, rfl⟩ := List.mem_map.mp hd
    exact .int (by have := h i hi; omega)) (by rw [dnat_length]; exact hn)
  rw [Nat.zero_add, Nat.one_mul] at this
  exact this
theorem Nice.shp {k j : Nat} {d : D} (h : Nice k j d) (hj : j ≤ 64) : d.shp = true := by
  unfold D.shp PySem.SeqAt.shaped
  rw [h.fl, h.cl, Bool.true_and, Bool.true_and]
  exact decide_eq_true (Nat.le_trans h.dp hj)
theorem Nice.shw {k j : Nat} {d : D} (h : Nice k j d) (hk : k ≤ 100000) (hj : j ≤ 60) : d.shw = true := by
  unfold D.shw
  have h1 := PyData.shown_le_bulk 100 (by decide) d.py h.lv
  have h2 := h.bk
  rw [h.fl, h.sh, Bool.true_and, decide_eq_true (show d.py.shown.length ≤ lim by rw [lim_num]; omega), Bool.true_and]
  exact decide_eq_true (Nat.le_trans h.dp hj)
mutual
theorem D.eqv_refl : ∀ d : D, d.flat = true → PyData.eqv d.py d.py = true
  | .non, _ => rfl
  | .bl b, _ => by simp [D.py, PyData.eqv]
  | .int i, _ => by simp [D.py, PyData.eqv]
  | .str s, _ => by simp [D.py, PyData.eqv]
  | .lst l, h => by
    simp only [D.py, PyData.eqv]
    exact eqvAll_refl l (by simpa [D.flat] using h)
  | .tup l, h => by
    simp only [D.py, PyData.eqv]
    exact eqvAll_refl l (by simpa [D.flat] using h)
  | .dic _ l, h => by simp [D.flat] at h
  | .ins c l, h => by simp [D.flat] at h
theorem eqvAll_refl : ∀ l : List D, flatAll l = true → PyData.eqvAll (pyAll l) (pyAll l) = true
  | [], _ => rfl
  | d :: l, h => by
    unfold flatAll at h
    rw [Bool.and_eq_true] at h
    simp only [pyAll, PyData.eqvAll, D.eqv_refl d h.1, eqvAll_refl l h.2, Bool.and_true]
end
theorem strs2_self {d : D} : strs2 d d = none ∨ strs2 d d = some true := by
  cases d with
  | str a => right; unfold strs2; simp
  | _ => left; rfl
theorem e_eqSame {p q : Bool} {m n : Nat} {d : D} (h : d.shp = true) : kEq ⟨p, m, d⟩ ⟨q, n, d⟩ = some (vb true) := by
  unfold kEq
  rcases strs2_self (d := d) with e | e
  · simp only [e]
    rw [if_pos ⟨h, h⟩]
    have : d.eqv d = true := D.eqv_refl d (by unfold D.shp at h; rw [Bool.and_eq_true] at h; exact h.1)
    rw [this]
  · simp only [e]
theorem e_neSame {p q : Bool} {m n : Nat} {d : D} (h : d.shp = true) : kNe ⟨p, m, d⟩ ⟨q, n, d⟩ = some (vb false) := by
  unfold kNe
  rcases strs2_self (d := d) with e | e
  · simp only [e]
    rw [if_pos ⟨h, h⟩]
    have : d.eqv d = true := D.eqv_refl d (by unfold D.shp at h; rw [Bool.and_eq_true] at h; exact h.1)
    rw [this]
    rfl
  · simp only [e]
    rfl
@[simp] theorem e_eqStr {p q : Bool} {m n : Nat} {a b : Str} : kEq ⟨p, m, .str a⟩ ⟨q, n, .str b⟩ = some (vb (decide (a = b))) := (rfl)
@[simp] theorem e_neStr {p q : Bool} {m n : Nat} {a b : Str} : kNe ⟨p, m, .str a⟩ ⟨q, n, .str b⟩ = some (vb (!decide (a = b))) := (rfl)
@[simp] theorem eqv_ints {i j : Int} : D.eqv (.int i) (.int j) = decide (i = j) := by
  unfold D.eqv
  simp only [D.py, PyData.eqv]
  rfl
@[simp] theorem e_eqI {p q : Bool} {m n : Nat} {i j : Int} : kEq ⟨p, m, .int i⟩ ⟨q, n, .int j⟩ = some (vb (decide (i = j))) := by
  show (if D.shp (.int i) = true ∧ D.shp (.int j) = true then some (vb (D.eqv (.int i) (.int j))) else none) = _
  rw [if_pos ⟨rfl, rfl⟩, eqv_ints]
@[simp] theorem e_neI {p q : Bool} {m n : Nat} {i j : Int} : kNe ⟨p, m, .int i⟩ ⟨q, n, .int j⟩ = some (vb (!decide (i = j))) := by
  show (if D.shp (.int i) = true ∧ D.shp (.int j) = true then some (vb (!D.eqv (.int i) (.int j))) else none) = _
  rw [if_pos ⟨rfl, rfl⟩, eqv_ints]

mutual
/-- no bools in it -/
def D.nb : D → Bool
  | .bl _ => false | .lst l => nbAll l | .tup l => nbAll l | .dic _ _ => false | .ins _ _ => false
  | .non => true | .int _ => true | .str _ => true
def nbAll : List D → Bool
  | [] => true | d :: l => d.nb && nbAll l
end
mutual
theorem D.eqv_eq : ∀ {d e : D}, d.nb = true → e.nb = true → PyData.eqv d.py e.py = true → d = e
  | .non, e, _, h, g => by cases e <;> first | rfl | (simp [D.py, PyData.eqv] at g; done) | (simp [D.nb] at h; done)
  | .bl b, _, h, _, _ => by simp [D.nb] at h
  | .int i, e, _, h, g => by
    cases e with
    | int j => simp [D.py, PyData.eqv] at g; rw [g]
    | bl b => simp [D.nb] at h
    | dic l => simp [D.nb] at h
    | ins c l => simp [D.nb] at h
    | _ => simp [D.py, PyData.eqv] at g
  | .str i, e, _, h, g => by
    cases e with
    | str j => simp [D.py, PyData.eqv] at g; rw [g]
    | bl b => simp [D.nb] at h
    | dic l => simp [D.nb] at h
    | ins c l => simp [D.nb] at h
    | _ => simp [D.py, PyData.eqv] at g
  | .lst i, e, h', h, g => by
    cases e with
    | lst j =>
      simp only [D.py, PyData.eqv] at g
      rw [eqvAll_eq (by simpa [D.nb] using h') (by simpa [D.nb] using h) g]
    | bl b => simp [D.nb] at h
    | dic l => simp [D.nb] at h
    | ins c l => simp [D.nb] at h
    | _ => simp [D.py, PyData.eqv] at g
  | .tup i, e, h', h, g => by
    cases e with
    | tup j =>
      simp only [D.py, PyData.eqv] at g
      rw [eqvAll_eq (by simpa [D.nb] using h') (by simpa [D.nb] using h) g]
    | bl b => simp [D.nb] at h
    | dic l => simp [D.nb] at h
    | ins c l => simp [D.nb] at h
    | _ => simp [D.py, PyData.eqv] at g
  | .dic _ l, _, h, _, _ => by simp [D.nb] at h
  | .ins c l, _, h, _, _ => by simp [D.nb] at h
theorem eqvAll_eq : ∀ {l k : List D}, nbAll l = true → nbAll k = true → PyData.eqvAll (pyAll l) (pyAll k) = true → l = k
  | [], [], _, _, _ => rfl
  | [], _ :: _, _, _, g => by simp [pyAll, PyData.eqvAll] at g
  | _ :: _, [], _, _, g => by simp [pyAll, PyData.eqvAll] at g
  | d :: l, e :: k, h, h', g => by
    unfold nbAll at h h'
    rw [Bool.and_eq_true] at h h'
    simp only [pyAll, PyData.eqvAll, Bool.and_eq_true] at g
    rw [D.eqv_eq h.1 h'.1 g.1, eqvAll_eq h.2 h'.2 g.2]
end
theorem eqv_iff {d e : D} (h : d.nb = true) (h' : e.nb = true) (hf : d.flat = true) : d.eqv e = true ↔ d = e :=
  ⟨D.eqv_eq h h', fun g => by subst g; exact D.eqv_refl d hf⟩
theorem nb_dnat (l : List Nat) : (D.lst (dnat l)).nb = true := by
  simp only [D.nb]
  induction l with
  | nil => rfl
  | cons a l ih => simp only [dnat_cons, nbAll, D.nb, ih, Bool.and_true]
theorem flat_dnat (l : List Nat) : (D.lst (dnat l)).flat = true := by
  simp only [D.flat]
  induction l with
  | nil => rfl
  | cons a l ih => simp only [dnat_cons, flatAll, D.flat, ih, Bool.and_true]
theorem dnat_inj {l k : List Nat} (h : dnat l = dnat k) : l = k := by
  induction l generalizing k with
  | nil => cases k with
    | nil => rfl
    | cons b k => cases h
  | cons a l ih => cases k with
    | nil => cases h
    | cons b k =>
      rw [dnat_cons, dnat_cons] at h
      injection h with h1 h2
      injection h1 with h1
      rw [ih h2, Int.ofNat_inj.mp h1]
theorem eqv_dnat {l k : List Nat} : D.eqv (.lst (dnat l)) (.lst (dnat k)) = decide (l = k) := by
  by_cases h : l = k
  · subst h
    rw [decide_eq_true rfl]
    exact D.eqv_refl _ (flat_dnat l)
  · rw [decide_eq_false h]
    cases q : D.eqv (.lst (dnat l)) (.lst (dnat k)) with
    | false => rfl
    | true =>
      have := (eqv_iff (nb_dnat l) (nb_dnat k) (flat_dnat l)).mp q
      injection this with this
      exact absurd (dnat_inj this) h
/-! ### sorted -/
theorem sortI_is {l l' : List Int} (p : l'.Perm l) (s : l'.Pairwise (· ≤ ·)) : sortI l = l' := by
  unfold sortI
  have p2 : (l.mergeSort fun a b => decide (a ≤ b)).Perm l := List.mergeSort_perm l _
  have s2 : (l.mergeSort fun a b => decide (a ≤ b)).Pairwise fun a b => decide (a ≤ b) = true := List.pairwise_mergeSort (le := fun a b => decide (a ≤ b)) (fun a b c h1 h2 => by simp at *; omega) (fun a b => by simp; omega) l
  exact (List.Perm.eq_of_pairwise (le := (· ≤ ·)) (fun a b _ _ h1 h2 => by omega) s (s2.imp fun h => by simpa using h) (p.trans p2.symm)).symm
theorem intsOf_dnat : ∀ l : List Nat, intsOf (dnat l) = some (l.map fun (i : Nat) => (i : Int))
  | [] => rfl
  | a :: l => by
    rw [dnat_cons, intsOf, intsOf_dnat l]
    rfl
theorem dints_nat (l : List Nat) : dints (l.map fun (i : Nat) => (i : Int)) = dnat l := by
  unfold dints dnat
  rw [List.map_map]
  rfl
theorem range_sorted (n : Nat) : (List.range n).Pairwise (· ≤ ·) := List.pairwise_lt_range.imp fun h => Nat.le_of_lt h
theorem e_sorted' {p : Bool} {m : Nat} {l l' : List Nat} (h : l'.Perm l) (hs : l'.Pairwise (· ≤ ·)) (hn : l.length < 64) : kSorted [⟨p, m, .lst (dnat l)⟩] = some ⟨false, 1, .lst (dnat l')⟩ := by
  unfold kSorted
  show ((intsOf (dnat l)).bind fun bs => if bs.length < 64 then some (⟨false, 1, .lst (dints (sortI bs))⟩ : VV) else none) = _
  rw [intsOf_dnat, Option.bind_some, if_pos (by rw [List.length_map]; exact hn)]
  rw [sortI_is (l' := l'.map fun (i : Nat) => (i : Int)) (h.map _) (List.pairwise_map.mpr (hs.imp fun h => by omega)), dints_nat]
theorem e_sorted {p : Bool} {m n : Nat} {l : List Nat} (h : l.Perm (List.range n)) (hn : n < 64) : kSorted [⟨p, m, .lst (dnat l)⟩] = some ⟨false, 1, .lst (dnat (List.range n))⟩ :=
  e_sorted' h.symm (range_sorted n) (by rw [h.length_eq, List.length_range]; exact hn)
theorem e_listRange' {p : Bool} {m : Nat} {n : Nat} (h : n ≤ 16777216) : kRange [⟨p, m, .int n⟩] = some ⟨false, 1, .lst (dnat (List.range n))⟩ := by
  rw [e_listRange (by omega) (by omega), rng_dnat]
/-! ### lists of numbers, of lists of numbers, compared -/
/-- may be compared, so deep -/
structure Shp (j : Nat) (d : D) : Prop where
  fl : d.flat = true
  cl : d.py.canLay0 = true
  dp : d.py.depth ≤ j
theorem Shp.shp {j : Nat} {d : D} (h : Shp j d) (hj : j ≤ 64 := by decide) : d.shp = true := by
  unfold D.shp PySem.SeqAt.shaped
  rw [h.fl, h.cl, Bool.true_and, Bool.true_and]
  exact decide_eq_true (Nat.le_trans h.dp hj)
theorem Shp.int {i : Int} : Shp 0 (.int i) := ⟨rfl, rfl, Nat.le_refl _⟩
theorem Shp.bl {i : Bool} : Shp 0 (.bl i) := ⟨rfl, rfl, Nat.le_refl _⟩
theorem Shp.non : Shp 0 .non := ⟨rfl, rfl, Nat.le_refl _⟩
theorem Nice.toShp {k j : Nat} {d : D} (h : Nice k j d) : Shp j d := ⟨h.fl, h.cl, h.dp⟩
theorem Shp.le {j j' : Nat} {d : D} (h : Shp j d) (hj : j ≤ j') : Shp j' d := ⟨h.fl, h.cl, Nat.le_trans h.dp hj⟩
theorem shpAll {j : Nat} : ∀ {l : List D}, (∀ d ∈ l, Shp j d) → flatAll l = true ∧ PyData.canLayAll0 (pyAll l) = true ∧ PyData.depthAll (pyAll l) ≤ j
  | [], _ => ⟨rfl, rfl, Nat.zero_le _⟩
  | d :: l, h => by
    obtain ⟨a1, a2, a3⟩ := h d (List.mem_cons_self ..)
    obtain ⟨b1, b2, b3⟩ := shpAll (l := l) fun e he => h e (List.mem_cons_of_mem _ he)
    refine ⟨by unfold flatAll; simp [a1, b1], ?_, ?_⟩
    · simp only [pyAll, PyData.canLayAll0, a2, b2, Bool.and_true]
    · simp only [pyAll, PyData.depthAll]; omega
theorem Shp.lst {j : Nat} {l : List D} (h : ∀ d ∈ l, Shp j d) : Shp (j + 1) (.lst l) := by
  obtain ⟨b1, b2, b3⟩ := shpAll h
  refine ⟨by unfold D.flat; exact b1, ?_, ?_⟩
  · simp only [D.py, PyData.canLay0, b2]
  · simp only [D.py, PyData.depth]; omega
theorem Shp.tup {j : Nat} {l : List D} (h : ∀ d ∈ l, Shp j d) : Shp (j + 1) (.tup l) := by
  obtain ⟨b1, b2, b3⟩ := shpAll h
  refine ⟨by unfold D.flat; exact b1, ?_, ?_⟩
  · simp only [D.py, PyData.canLay0, b2]
  · simp only [D.py, PyData.depth]; omega
/-- a list of numbers -/
abbrev dn (l : List Nat) : D := .lst (dnat l)
theorem Shp.dn (l : List Nat) : Shp 1 (dn l) := Shp.lst fun d hd => by
  unfold dnat at hd
  obtain ⟨i, _, rfl⟩ := List.mem_map.mp hd
  exact .int
/-- a list of lists of numbers -/
abbrev dnn (l : List (List Nat)) : D := .lst (l.map dn)
theorem Shp.dnn (l : List (List Nat)) : Shp 2 (dnn l) := Shp.lst fun d hd => by
  obtain ⟨i, _, rfl⟩ := List.mem_map.mp hd
  exact .dn i
@[simp] theorem shp_dn (l : List Nat) : D.shp (.lst (dnat l)) = true := (Shp.dn l).shp
@[simp] theorem shp_dnn (l : List (List Nat)) : D.shp (.lst (l.map dn)) = true := (Shp.dnn l).shp
@[simp] theorem shp_int (i : Int) : D.shp (.int i) = true := (rfl)
@[simp] theorem shp_non : D.shp .non = true := (rfl)
@[simp] theorem shp_bl (b : Bool) : D.shp (.bl b) = true := (rfl)
theorem e_eqDn {p q : Bool} {m n : Nat} {l k : List Nat} : kEq ⟨p, m, .lst (dnat l)⟩ ⟨q, n, .lst (dnat k)⟩ = some (vb (decide (l = k))) := by
  show (if D.shp (dn l) = true ∧ D.shp (dn k) = true then some (vb (D.eqv (dn l) (dn k))) else none) = _
  rw [if_pos ⟨shp_dn l, shp_dn k⟩, eqv_dnat]
theorem e_neDn {p q : Bool} {m n : Nat} {l k : List Nat} : kNe ⟨p, m, .lst (dnat l)⟩ ⟨q, n, .lst (dnat k)⟩ = some (vb (!decide (l = k))) := by
  show (if D.shp (dn l) = true ∧ D.shp (dn k) = true then some (vb (!D.eqv (dn l) (dn k))) else none) = _
  rw [if_pos ⟨shp_dn l, shp_dn k⟩, eqv_dnat]
theorem find_dnat {x : Nat} : ∀ {l : List Nat}, x ∈ l → (dnat l).findIdx? (fun z => z.eqv (.int x)) = some (l.idxOf x)
  | [], h => by cases h
  | a :: l, h => by
    rw [dnat_cons, List.findIdx?_cons, eqv_ints]
    by_cases e : a = x
    · subst e
      rw [decide_eq_true rfl, if_pos rfl, List.idxOf_cons_self]
    · rw [decide_eq_false (by omega), if_neg (by decide), find_dnat (l := l) ((List.mem_cons.mp h).resolve_left fun z => e z.symm), List.idxOf_cons, beq_eq_false_iff_ne.mpr e]
      rfl
theorem e_index {p q : Bool} {m n : Nat} {l : List Nat} {x : Nat} (h : x ∈ l) : kIndex ⟨p, m, .lst (dnat l)⟩ [⟨q, n, .int x⟩] = some (vi (l.idxOf x : Nat)) := by
  unfold kIndex
  simp only [shp_dn, shp_int, and_self, if_true, find_dnat h]
theorem any_dnat {x : Nat} {l : List Nat} : ((dnat l).any fun z => z.eqv (.int x)) = decide (x ∈ l) := by
  induction l with
  | nil => rfl
  | cons a l ih =>
    rw [dnat_cons, List.any_cons, ih, eqv_ints]
    by_cases e : a = x
    · subst e; simp
    · rw [decide_eq_false (by omega : ¬ (a : Int) = (x : Int)), Bool.false_or]
      congr 1
      rw [List.mem_cons]
      exact propext ⟨.inr, fun h => h.resolve_left fun z => e z.symm⟩
theorem e_in {p q : Bool} {m n : Nat} {l : List Nat} {x : Nat} : kIn ⟨p, m, .int x⟩ ⟨q, n, .lst (dnat l)⟩ = some (vb (decide (x ∈ l))) := by
  unfold kIn
  simp only [shp_dn, shp_int, and_self, if_true, any_dnat]
theorem e_notin {p q : Bool} {m n : Nat} {l : List Nat} {x : Nat} : kNotIn ⟨p, m, .int x⟩ ⟨q, n, .lst (dnat l)⟩ = some (vb (!decide (x ∈ l))) := by
  unfold kNotIn
  simp only [shp_dn, shp_int, and_self, if_true, any_dnat]
@[simp] theorem ok_match {α : Type} {b : Bool} : (if b = true then (true : Bool) else false) = b := by cases b <;> rfl
/-! ### displays -/
theorem minM_imm : ∀ {xs : List VV}, (∀ x ∈ xs, x.d.imm = true) → minM xs = none
  | [], _ => rfl
  | x :: xs, h => by
    unfold minM
    rw [if_pos (h x (List.mem_cons_self ..)), minM_imm fun y hy => h y (List.mem_cons_of_mem _ hy)]
theorem kLst_imm {xs : List VV} (h : ∀ x ∈ xs, x.d.imm = true) (hn : xs.length ≤ lim) : kLst xs = some ⟨false, 1, .lst (xs.map VV.d)⟩ := by
  unfold kLst dmode
  rw [minM_imm h, if_pos]
  refine ⟨?_, hn⟩
  rw [List.all_eq_true]
  intro x hx
  unfold VV.stable
  rw [h x hx, Bool.or_true]
theorem minM_same {n : Nat} : ∀ {xs : List VV}, xs ≠ [] → (∀ x ∈ xs, x.d.imm = false ∧ x.m = n) → minM xs = some n
  | [], h, _ => absurd rfl h
  | [x], _, h => by
    obtain ⟨h1, h2⟩ := h x (List.mem_cons_self ..)
    unfold minM
    rw [h1, if_neg (by decide), h2]
    rfl
  | x :: y :: xs, _, h => by
    obtain ⟨h1, h2⟩ := h x (List.mem_cons_self ..)
    have ih := minM_same (n := n) (xs := y :: xs) (by simp) fun z hz => h z (List.mem_cons_of_mem _ hz)
    unfold minM
    rw [h1, if_neg (by decide), ih, h2]
    simp
theorem kLst_own {n : Nat} {xs : List VV} (h0 : xs ≠ []) (h : ∀ x ∈ xs, x.d.imm = false ∧ x.m = n ∧ x.b = false) (hn : xs.length ≤ lim) : kLst xs = some ⟨false, n + 1, .lst (xs.map VV.d)⟩ := by
  unfold kLst dmode
  rw [minM_same h0 (n := n) fun x hx => ⟨(h x hx).1, (h x hx).2.1⟩, if_pos]
  refine ⟨?_, hn⟩
  rw [List.all_eq_true]
  intro x hx
  unfold VV.stable
  rw [(h x hx).2.2]
  rfl
/-- a comprehension of numbers -/
theorem kLst_nats {xs : List Nat} {m : Nat} (hn : xs.length ≤ lim) : kLst (xs.map fun (i : Nat) => (⟨false, m, .int i⟩ : VV)) = some ⟨false, 1, .lst (dnat xs)⟩ := by
  rw [kLst_imm (fun x hx => by obtain ⟨i, _, rfl⟩ := List.mem_map.mp hx; rfl) (by rw [List.length_map]; exact hn), List.map_map]
  rfl
/-- a comprehension whose items are had without changes -/
theorem compL_map {α : Type} {own : List Nat} {g : MG} {e : M} {f : α → D} {k : α → VV} : ∀ (xs : List α) (ρ : Env) (acc : List VV), (∀ x ∈ xs, ∃ ρ1, g ⟨false, 0, f x⟩ ρ = .nx ρ1 ∧ e ρ1 = .ok (k x) none ∧ (k x).stable = true) → compL own g yes e (xs.map f) ρ acc = .ok (acc ++ xs.map k) none
  | [], ρ, acc, _ => by
    rw [List.map_nil]
    unfold compL
    rw [List.map_nil, List.append_nil]
  | d :: ds, ρ, acc, h => by
    obtain ⟨ρ1, h1, h2, h3⟩ := h d (List.mem_cons_self ..)
    have ih := compL_map (own := own) (g := g) (e := e) (f := f) ds ρ (acc ++ [k d]) fun d hd => h d (List.mem_cons_of_mem _ hd)
    rw [List.map_cons]
    unfold compL
    rw [h1]
    have hy : yes ρ1 = .ok true none := rfl
    simp only [hy, now_none, h2, h3, if_true, thn_none, Option.map_none, R.aft_none, ih]
    rw [List.map_cons, List.append_assoc]
    rfl
theorem compL_nat {own : List Nat} {g : MG} {e : M} {k : Nat → Nat} {ρ : Env} (l : List Nat) (h : ∀ x ∈ l, ∃ ρ1, g (vi x) ρ = .nx ρ1 ∧ e ρ1 = .ok (vi (k x)) none) : compL own g yes e (dnat l) ρ [] = .ok ((l.map k).map fun (i : Nat) => vi i) none := by
  unfold dnat
  rw [compL_map (k := fun x => vi (k x)) l ρ [] fun x hx => by
    obtain ⟨ρ1, h1, h2⟩ := h x hx
    exact ⟨ρ1, h1, h2, rfl⟩]
  rw [List.nil_append, List.map_map]
  rfl
theorem dnat_all (l : List Nat) : (dnat l).all D.imm = true := by
  unfold dnat
  rw [List.all_map]
  exact List.all_eq_true.mpr fun _ _ => rfl
@[simp] theorem plain_dn {l : List Nat} : VV.plain ⟨false, 1, .lst (dnat l)⟩ = true := by
  unfold VV.plain
  simp [dnat_all]
@[simp] theorem e_neNil {p q : Bool} {m n : Nat} : kNe ⟨p, m, .lst []⟩ ⟨q, n, .lst []⟩ = some (vb false) := e_neSame (d := .lst []) (shp_dn [])
@[simp] theorem e_eqNil {p q : Bool} {m n : Nat} : kEq ⟨p, m, .lst []⟩ ⟨q, n, .lst []⟩ = some (vb true) := e_eqSame (d := .lst []) (shp_dn [])
theorem dnat_eraseIdx (l : List Nat) (i : Nat) : (dnat l).eraseIdx i = dnat (l.eraseIdx i) := by
  unfold dnat
  rw [List.eraseIdx_eq_take_drop_succ, List.eraseIdx_eq_take_drop_succ, List.map_append, List.map_take, List.map_drop]
theorem perm_erase {α : Type} {l : List α} {i : Nat} (h : i < l.length) : (l[i] :: l.eraseIdx i).Perm l := by
  rw [List.eraseIdx_eq_take_drop_succ]
  refine List.perm_middle.symm.trans ?_
  rw [← List.drop_eq_getElem_cons h, List.take_append_drop]
/-- a comprehension whose items change something: P, by the turn; not empty -/
theorem compL_eff1 {own : List Nat} {g : MG} {e : M} (P : Nat → Env → List VV → Prop) (ds : List D) (ρ : Env) (hne : ds ≠ [])
    (hs : ∀ i d ρ acc, ds[i]? = some d → P i ρ acc → ∃ ρ1 x ρ2, g ⟨false, 0, d⟩ ρ = .nx ρ1 ∧ e ρ1 = .ok x (some ρ2) ∧ x.stable = true ∧ P (i + 1) (wipeE own ρ2) (acc ++ [x])) (h : P 0 ρ []) :
    ∃ xs ρ', compL own g yes e ds ρ [] = .ok xs (some ρ') ∧ P ds.length ρ' xs := by
  cases ds with
  | nil => exact absurd rfl hne
  | cons d ds =>
    obtain ⟨ρ1, x, ρ2, h1, h2, h3, h4⟩ := hs 0 d ρ [] rfl h
    obtain ⟨xs, o, h5, h6⟩ := compL_eff (own := own) (g := g) (e := e) (P := fun i ρ acc => P i ρ acc) ds 1 (wipeE own ρ2) ([] ++ [x]) (fun i d' ρ acc hi hp => by
      have := hs (i + 1) d' ρ acc (by simpa using hi) (by rw [show i + 1 = 1 + i by omega]; exact hp)
      rw [show i + 1 + 1 = 1 + i + 1 by omega] at this
      exact this) h4
    refine ⟨xs, now o (wipeE own ρ2), ?_, by rw [List.length_cons, show ds.length + 1 = 1 + ds.length by omega]; exact h6⟩
    unfold compL
    rw [h1]
    have hy : yes ρ1 = .ok true none := (rfl)
    simp only [hy, now_none, h2, h3, if_true, thn_some, Option.map_some, Option.map_none, now_some, h5, R.aft_ok, none_thn]
    cases o <;> rfl
/-- a loop that goes through -/
theorem forL_inv0 {g : MG} {b : MS} (P : Nat → Env → Prop) (ds : List D) (ρ : Env) (hs : ∀ i d ρ, ds[i]? = some d → P i ρ → ∃ ρ', (g ⟨false, 0, d⟩ ρ).seq b = .nx ρ' ∧ P (i + 1) ρ') (h : P 0 ρ) : ∃ ρ', forL g b ds ρ = .nx ρ' ∧ P ds.length ρ' := by
  have := forL_inv (g := g) (b := b) (P := P) ds 0 ρ (fun i d ρ hi hp => by
    rw [Nat.zero_add] at hp ⊢
    exact hs i d ρ hi hp) h
  rw [Nat.zero_add] at this
  exact this
/-- [d] * n -/
theorem e_rep {m : Nat} {d : D} {n k : Nat} {p : Bool} (h : n ≤ 1000000) : kMul ⟨false, m + 1, .lst [d]⟩ ⟨p, k, .int n⟩ = some ⟨false, 1, .lst (List.replicate n d)⟩ := by
  unfold kMul
  simp only
  rw [if_pos (by
    refine ⟨⟨by first | trivial | rfl, by show 0 < m + 1; omega⟩, by omega, by omega, ?_⟩
    rw [lim_num, List.length_singleton]
    omega)]
  rw [Int.toNat_natCast, List.flatten_replicate_singleton]
theorem dnat_replicate (n a : Nat) : dnat (List.replicate n a) = List.replicate n (.int a) := List.map_replicate ..
theorem rng_get {a b : Int} {k : Nat} {d : D} (h : (rng a b)[k]? = some d) : d = .int (a + k) ∧ k < (b - a).toNat := by
  unfold rng at h
  rw [List.getElem?_map] at h
  by_cases hk : k < (b - a).toNat
  · rw [List.getElem?_range hk] at h
    exact ⟨(Option.some.inj h).symm, hk⟩
  · rw [List.getElem?_eq_none (by rw [List.length_range]; omega)] at h
    cases h
theorem rng_len {a b : Int} : (rng a b).length = (b - a).toNat := by unfold rng; simp
/-! ### displays, written out -/
@[simp] theorem kLst_nil : kLst [] = some ⟨false, 1, .lst []⟩ := (rfl)
@[simp] theorem kLst_cons {x : VV} {xs : List VV} : kLst (x :: xs) = if (x :: xs).all VV.stable = true ∧ (x :: xs).length ≤ 16777216 then some ⟨false, match minM (x :: xs) with | none => 1 | some n => n + 1, .lst ((x :: xs).map VV.d)⟩ else none := (rfl)
@[simp] theorem kTup_nil : kTup [] = some ⟨false, 1, .tup []⟩ := (rfl)
@[simp] theorem kTup_cons {x : VV} {xs : List VV} : kTup (x :: xs) = if (x :: xs).all VV.stable = true ∧ (x :: xs).length ≤ 16777216 then some ⟨false, match minM (x :: xs) with | none => 1 | some n => n + 1, .tup ((x :: xs).map VV.d)⟩ else none := (rfl)
@[simp] theorem minM_nil : minM [] = none := (rfl)
@[simp] theorem minM_cons {x : VV} {xs : List VV} : minM (x :: xs) = if x.d.imm = true then minM xs else some (match minM xs with | none => x.m | some n => min x.m n) := (rfl)
/-- a loop that looks for what is not right -/
theorem forL_search {g : MG} {b : MS} {P : Env → Prop} {good : D → Bool} {r : PV} : ∀ (ds : List D) (ρ : Env),
    (∀ d ∈ ds, ∀ ρ, P ρ → (good d = true → ∃ ρ', (g ⟨false, 0, d⟩ ρ).seq b = .nx ρ' ∧ P ρ') ∧ (good d = false → ∃ ρ', (g ⟨false, 0, d⟩ ρ).seq b = .ret r ρ' ∧ P ρ')) → P ρ →
    (ds.all good = true → ∃ ρ', forL g b ds ρ = .nx ρ' ∧ P ρ') ∧ (ds.all good = false → ∃ ρ', forL g b ds ρ = .ret r ρ' ∧ P ρ')
  | [], ρ, _, h => ⟨fun _ => ⟨ρ, rfl, h⟩, fun z => by cases z⟩
  | d :: ds, ρ, hs, h => by
    obtain ⟨h1, h2⟩ := hs d (List.mem_cons_self ..) ρ h
    cases e : good d with
    | true =>
      obtain ⟨ρ1, e1, p1⟩ := h1 e
      obtain ⟨i1, i2⟩ := forL_search (good := good) (r := r) ds ρ1 (fun d hd => hs d (List.mem_cons_of_mem _ hd)) p1
      unfold forL
      rw [e1]
      refine ⟨fun z => i1 ?_, fun z => i2 ?_⟩
      · rw [List.all_cons, e, Bool.true_and] at z; exact z
      · rw [List.all_cons, e, Bool.true_and] at z; exact z
    | false =>
      obtain ⟨ρ1, e1, p1⟩ := h2 e
      unfold forL
      rw [e1]
      refine ⟨fun z => ?_, fun z => ⟨ρ1, rfl, p1⟩⟩
      rw [List.all_cons, e] at z
      cases z
/-- a comprehension with a test -/
theorem compL_filt {α : Type} {own : List Nat} {g : MG} {cs : MT} {e : M} {f : α → D} {c : α → Bool} {k : α → VV} : ∀ (xs : List α) (ρ : Env) (acc : List VV),
    (∀ x ∈ xs, ∃ ρ1, g ⟨false, 0, f x⟩ ρ = .nx ρ1 ∧ cs ρ1 = .ok (c x) none ∧ (c x = true → e ρ1 = .ok (k x) none ∧ (k x).stable = true)) →
    compL own g cs e (xs.map f) ρ acc = .ok (acc ++ (xs.filter c).map k) none
  | [], ρ, acc, _ => by
    rw [List.map_nil]
    unfold compL
    rw [List.filter_nil, List.map_nil, List.append_nil]
  | d :: ds, ρ, acc, h => by
    obtain ⟨ρ1, h1, h2, h3⟩ := h d (List.mem_cons_self ..)
    rw [List.map_cons]
    unfold compL
    rw [h1]
    cases hc : c d with
    | false =>
      have ih := compL_filt (own := own) (g := g) (cs := cs) (e := e) (f := f) (c := c) (k := k) ds ρ acc fun d hd => h d (List.mem_cons_of_mem _ hd)
      simp only [h2, hc, Option.map_none, now_none, R.aft_none, ih]
      rw [List.filter_cons, if_neg (by rw [hc]; simp)]
    | true =>
      obtain ⟨h4, h5⟩ := h3 hc
      have ih := compL_filt (own := own) (g := g) (cs := cs) (e := e) (f := f) (c := c) (k := k) ds ρ (acc ++ [k d]) fun d hd => h d (List.mem_cons_of_mem _ hd)
      simp only [h2, hc, now_none, h4, h5, if_true, thn_none, Option.map_none, R.aft_none, ih]
      rw [List.filter_cons, if_pos hc, List.map_cons, List.append_assoc]
      rfl
theorem cut_to {α : Type} {l : List α} {t : Nat} : cutD l none (some (t : Int)) = l.take t := by
  unfold cutD six
  simp only [List.drop_zero, Nat.sub_zero]
  rw [if_neg (by omega), Int.toNat_natCast]
  by_cases h : t ≤ l.length
  · rw [Nat.min_eq_left h]
  · rw [Nat.min_eq_right (by omega), List.take_length, List.take_of_length_le (by omega)]
theorem cut_from {α : Type} {l : List α} {t : Nat} : cutD l (some (t : Int)) none = l.drop t := by
  unfold cutD six
  simp only
  rw [if_neg (by omega), Int.toNat_natCast]
  by_cases h : t ≤ l.length
  · rw [Nat.min_eq_left h, List.take_of_length_le (by rw [List.length_drop]; omega)]
  · rw [Nat.min_eq_right (by omega), Nat.sub_self, List.take_zero, List.drop_eq_nil_of_le (by omega)]
theorem cut_all {α : Type} {l : List α} : cutD l none none = l := by
  unfold cutD six
  simp
theorem at_mem {l : List D} {i : Nat} (h : i < l.length) : ∃ d, atD l (i : Int) = some d ∧ d ∈ l := ⟨l[i], at_nat h, List.getElem_mem h⟩
theorem e_sl {p : Bool} {m : Nat} {l : List D} {lo hi : Option Int} (h : VV.open ⟨p, m, .lst l⟩) : kSl ⟨p, m, .lst l⟩ lo hi = some ⟨false, 1, .lst (cutD l lo hi)⟩ := if_pos h
theorem e_addL {p q : Bool} {m n : Nat} {l k : List D} (h1 : VV.open ⟨p, m, .lst l⟩) (h2 : VV.open ⟨q, n, .lst k⟩) (h : l.length + k.length ≤ 16777216) : kAdd ⟨p, m, .lst l⟩ ⟨q, n, .lst k⟩ = some ⟨false, 1, .lst (l ++ k)⟩ := if_pos ⟨h1, h2, h⟩
theorem e_rev {p : Bool} {m : Nat} {l : List D} (h : VV.open ⟨p, m, .lst l⟩) : kRev ⟨p, m, .lst l⟩ = some ⟨false, 1, .lst l.reverse⟩ := if_pos h
theorem e_list {p : Bool} {m : Nat} {l : List D} (h : VV.open ⟨p, m, .lst l⟩) : kList [⟨p, m, .lst l⟩] = some ⟨false, 1, .lst l⟩ := if_pos h
theorem e_tuple {p : Bool} {m : Nat} {l : List D} (h : VV.open ⟨p, m, .lst l⟩) : kTuple [⟨p, m, .lst l⟩] = some ⟨false, 1, .tup l⟩ := if_pos h
theorem cut_mid {α : Type} {l : List α} {a b : Nat} (ha : a ≤ l.length) (hb : b ≤ l.length) : cutD l (some (a : Int)) (some (b : Int)) = (l.drop a).take (b - a) := by
  unfold cutD six
  simp only
  rw [if_neg (by omega), if_neg (by omega), Int.toNat_natCast, Int.toNat_natCast, Nat.min_eq_left ha, Nat.min_eq_left hb]
theorem dnat_take (l : List Nat) (k : Nat) : (dnat l).take k = dnat (l.take k) := List.map_take.symm
theorem dnat_drop (l : List Nat) (k : Nat) : (dnat l).drop k = dnat (l.drop k) := List.map_drop.symm
theorem dnat_reverse (l : List Nat) : (dnat l).reverse = dnat l.reverse := List.map_reverse.symm
@[simp] theorem e_ixv2 {ρ : Env} {i : Nat} {b : M} : ixv2 i b ρ = match look ρ i with
  | none => .no
  | some _ => (b ρ).bind ρ fun y ρ1 => match look ρ1 i with
    | some (m, d) => .ofO (kIx ⟨true, m, d⟩ y)
    | none => .no := (rfl)
theorem cut_last {α : Type} {l : List α} : cutD l none (some (-1)) = l.take (l.length - 1) := by
  unfold cutD six
  simp only [List.drop_zero, Nat.sub_zero]
  rw [if_pos (by decide)]
  congr 1
  omega
end Vs
set_option maxHeartbeats 4000000
/-! Vs: permutations as lists of numbers. -/
namespace Vs
/-- a permutation of so many items -/
def Pm (n : Nat) (p : List Nat) : Prop := p.Perm (List.range n)
theorem Pm.len {n : Nat} {p : List Nat} (h : Pm n p) : p.length = n := by rw [List.Perm.length_eq h, List.length_range]
theorem Pm.nodup {n : Nat} {p : List Nat} (h : Pm n p) : p.Nodup := (List.Perm.nodup_iff h).mpr List.nodup_range
theorem Pm.lt {n : Nat} {p : List Nat} (h : Pm n p) {i : Nat} (hi : i ∈ p) : i < n := List.mem_range.mp (h.mem_iff.mp hi)
theorem Pm.mem {n : Nat} {p : List Nat} (h : Pm n p) {i : Nat} (hi : i < n) : i ∈ p := h.mem_iff.mpr (List.mem_range.mpr hi)
theorem Pm.nth_lt {n : Nat} {p : List Nat} (h : Pm n p) {i : Nat} (hi : i < n) : nth p i < n := h.lt (nth_mem (by rw [h.len]; exact hi))
theorem Pm.idx_lt {n : Nat} {p : List Nat} (h : Pm n p) {i : Nat} (hi : i < n) : p.idxOf i < n := by
  have := List.idxOf_lt_length_of_mem (h.mem hi)
  rw [h.len] at this
  exact this
theorem Pm.nth_idx {n : Nat} {p : List Nat} (h : Pm n p) {i : Nat} (hi : i < n) : nth p (p.idxOf i) = i := by
  rw [nth_eq (List.idxOf_lt_length_of_mem (h.mem hi))]
  exact List.getElem_idxOf _
theorem nth_inj {p : List Nat} (h : p.Nodup) {i j : Nat} (hi : i < p.length) (hj : j < p.length) (e : nth p i = nth p j) : i = j := by
  rw [nth_eq hi, nth_eq hj] at e
  have := List.pairwise_iff_getElem.mp h
  rcases Nat.lt_trichotomy i j with z | z | z
  · exact absurd e (this i j hi hj z)
  · exact z
  · exact absurd e.symm (this j i hj hi z)
theorem Pm.idx_nth {n : Nat} {p : List Nat} (h : Pm n p) {k : Nat} (hk : k < n) : p.idxOf (nth p k) = k := by
  have hk' : k < p.length := by rw [h.len]; exact hk
  have h1 := h.nth_idx (h.nth_lt hk)
  have h2 := h.idx_lt (h.nth_lt hk)
  exact nth_inj h.nodup (by rw [h.len]; exact h2) hk' h1
theorem nth_ext {l k : List Nat} (h : l.length = k.length) (hn : ∀ i, i < l.length → nth l i = nth k i) : l = k := by
  apply List.ext_getElem h
  intro i h1 h2
  have := hn i h1
  rw [nth_eq h1, nth_eq h2] at this
  exact this
theorem nth_map {l : List Nat} {f : Nat → Nat} {i : Nat} (h : i < l.length) : nth (l.map f) i = f (nth l i) := by
  rw [nth_eq (by rw [List.length_map]; exact h), nth_eq h, List.getElem_map]
theorem nth_range {n i : Nat} (h : i < n) : nth (List.range n) i = i := by
  rw [nth_eq (by rw [List.length_range]; exact h), List.getElem_range]
theorem Pm.of {n : Nat} {p : List Nat} (hl : p.length = n) (hd : p.Nodup) (hb : ∀ i ∈ p, i < n) : Pm n p := by
  have sub : p ⊆ List.range n := fun i hi => List.mem_range.mpr (hb i hi)
  have all : ∀ j, j < n → j ∈ p := fun j hj => by
    by_cases h : j ∈ p
    · exact h
    · have : (j :: p).length ≤ (List.range n).length := List.Nodup.length_le_of_subset (List.nodup_cons.mpr ⟨h, hd⟩) fun x hx => by
        rcases List.mem_cons.mp hx with rfl | z
        · exact List.mem_range.mpr hj
        · exact sub z
      rw [List.length_cons, List.length_range] at this
      omega
  refine List.perm_iff_count.mpr fun a => ?_
  have hr := List.nodup_range (n := n)
  by_cases ha : a < n
  · rw [List.Nodup.count hd, List.Nodup.count hr, if_pos (all a ha), if_pos (List.mem_range.mpr ha)]
  · rw [List.count_eq_zero.mpr fun z => ha (hb a z), List.count_eq_zero.mpr fun z => ha (List.mem_range.mp z)]
/-- first p, then q -/
def cmp (p q : List Nat) : List Nat := p.map (nth q)
theorem cmp_len {p q : List Nat} : (cmp p q).length = p.length := List.length_map ..
theorem nth_cmp {p q : List Nat} {i : Nat} (h : i < p.length) : nth (cmp p q) i = nth q (nth p i) := nth_map h
theorem Pm.cmp {n : Nat} {p q : List Nat} (hp : Pm n p) (hq : Pm n q) : Pm n (Vs.cmp p q) := by
  have e : q = (List.range n).map (nth q) := nth_ext (by rw [List.length_map, List.length_range, hq.len]) fun i hi => by
    rw [hq.len] at hi
    rw [nth_map (by rw [List.length_range]; exact hi), nth_range hi]
  have h1 : (p.map (nth q)).Perm ((List.range n).map (nth q)) := List.Perm.map _ hp
  rw [← e] at h1
  exact h1.trans hq
theorem Pm.id (n : Nat) : Pm n (List.range n) := List.Perm.refl _
/-- backwards -/
def inv (p : List Nat) : List Nat := (List.range p.length).map fun j => p.idxOf j
theorem inv_len {p : List Nat} : (inv p).length = p.length := by unfold inv; rw [List.length_map, List.length_range]
theorem nth_inv {p : List Nat} {i : Nat} (h : i < p.length) : nth (inv p) i = p.idxOf i := by
  unfold inv
  rw [nth_map (by rw [List.length_range]; exact h), nth_range h]
theorem Pm.inv {n : Nat} {p : List Nat} (hp : Pm n p) : Pm n (Vs.inv p) := by
  refine Pm.of (by rw [inv_len, hp.len]) ?_ ?_
  · unfold Vs.inv
    refine List.Pairwise.map _ (fun a b h => h) ?_ |> fun z => z
    rw [hp.len]
    refine List.Pairwise.imp_of_mem ?_ (List.nodup_range (n := n))
    intro a b ha hb hab e
    have h1 := hp.nth_idx (List.mem_range.mp ha)
    have h2 := hp.nth_idx (List.mem_range.mp hb)
    rw [e, h2] at h1
    exact hab h1.symm
  · intro i hi
    unfold Vs.inv at hi
    obtain ⟨j, hj, rfl⟩ := List.mem_map.mp hi
    rw [hp.len] at hj
    exact hp.idx_lt (List.mem_range.mp hj)
theorem Pm.ext {n : Nat} {p q : List Nat} (hp : p.length = n) (hq : q.length = n) (h : ∀ i, i < n → nth p i = nth q i) : p = q := nth_ext (by omega) fun i hi => h i (by omega)
theorem Pm.idx_inv {n : Nat} {p : List Nat} (hp : Pm n p) {i : Nat} (hi : i < n) : (Vs.inv p).idxOf i = nth p i := by
  have h := hp.inv.idx_nth (hp.nth_lt hi)
  rw [nth_inv (by rw [hp.len]; exact hp.nth_lt hi), hp.idx_nth hi] at h
  exact h
theorem Pm.idx_cmp {n : Nat} {p q : List Nat} (hp : Pm n p) (hq : Pm n q) {i : Nat} (hi : i < n) : (Vs.cmp p q).idxOf i = p.idxOf (q.idxOf i) := by
  have h1 := hp.idx_lt (hq.idx_lt hi)
  have h := (hp.cmp hq).idx_nth h1
  rw [nth_cmp (by rw [hp.len]; exact h1), hp.nth_idx (hq.idx_lt hi), hq.nth_idx hi] at h
  exact h
theorem cmp_assoc {n : Nat} {p q r : List Nat} (hp : Pm n p) (hq : Pm n q) : cmp (cmp p q) r = cmp p (cmp q r) :=
  Pm.ext (n := n) (by rw [cmp_len, cmp_len, hp.len]) (by rw [cmp_len, hp.len]) fun i hi => by
    rw [nth_cmp (by rw [cmp_len, hp.len]; exact hi), nth_cmp (by rw [hp.len]; exact hi), nth_cmp (by rw [hp.len]; exact hi), nth_cmp (by rw [hq.len]; exact hp.nth_lt hi)]
theorem inv_inv {n : Nat} {p : List Nat} (hp : Pm n p) : inv (inv p) = p :=
  Pm.ext (n := n) (by rw [inv_len, inv_len, hp.len]) hp.len fun i hi => by
    rw [nth_inv (by rw [inv_len, hp.len]; exact hi), hp.idx_inv hi]
theorem inv_cmp {n : Nat} {p q : List Nat} (hp : Pm n p) (hq : Pm n q) : inv (cmp p q) = cmp (inv q) (inv p) :=
  Pm.ext (n := n) (by rw [inv_len, cmp_len, hp.len]) (by rw [cmp_len, inv_len, hq.len]) fun i hi => by
    rw [nth_inv (by rw [cmp_len, hp.len]; exact hi), nth_cmp (by rw [inv_len, hq.len]; exact hi), nth_inv (p := q) (by rw [hq.len]; exact hi), nth_inv (p := p) (by rw [hp.len]; exact hq.idx_lt hi), hp.idx_cmp hq hi]
theorem cmp_inv {n : Nat} {p : List Nat} (hp : Pm n p) : cmp p (inv p) = List.range n :=
  Pm.ext (n := n) (by rw [cmp_len, hp.len]) List.length_range fun i hi => by
    rw [nth_cmp (by rw [hp.len]; exact hi), nth_inv (by rw [hp.len]; exact hp.nth_lt hi), hp.idx_nth hi, nth_range hi]
theorem inv_cmp_self {n : Nat} {p : List Nat} (hp : Pm n p) : cmp (inv p) p = List.range n :=
  Pm.ext (n := n) (by rw [cmp_len, inv_len, hp.len]) List.length_range fun i hi => by
    rw [nth_cmp (by rw [inv_len, hp.len]; exact hi), nth_inv (by rw [hp.len]; exact hi), hp.nth_idx hi, nth_range hi]
theorem cmp_id {n : Nat} {p : List Nat} (hp : Pm n p) : cmp p (List.range n) = p :=
  Pm.ext (n := n) (by rw [cmp_len, hp.len]) hp.len fun i hi => by
    rw [nth_cmp (by rw [hp.len]; exact hi), nth_range (hp.nth_lt hi)]
theorem id_cmp {n : Nat} {p : List Nat} (hp : Pm n p) : cmp (List.range n) p = p :=
  Pm.ext (n := n) (by rw [cmp_len, List.length_range]) hp.len fun i hi => by
    rw [nth_cmp (by rw [List.length_range]; exact hi), nth_range hi]
/-! ### items that are moved -/
/-- each item put where p says -/
def scat {α : Type} : List Nat → List α → List α → List α
  | i :: p, x :: xs, l => scat p xs (l.set i x)
  | _, _, l => l
theorem scat_len {α : Type} : ∀ (p : List Nat) (xs l : List α), (scat p xs l).length = l.length
  | [], _, l => rfl
  | i :: p, [], l => rfl
  | i :: p, x :: xs, l => by
    unfold scat
    rw [scat_len p xs, List.length_set]
theorem scat_other {α : Type} : ∀ (p : List Nat) (xs l : List α) (j : Nat), j ∉ p → (scat p xs l)[j]? = l[j]?
  | [], _, l, _, _ => rfl
  | i :: p, [], l, _, _ => rfl
  | i :: p, x :: xs, l, j, h => by
    unfold scat
    rw [scat_other p xs _ j fun z => h (List.mem_cons_of_mem _ z), List.getElem?_set_ne fun z => h (by rw [z]; exact List.mem_cons_self ..)]
theorem scat_at {α : Type} : ∀ (p : List Nat) (xs l : List α) (k : Nat), p.Nodup → (∀ i ∈ p, i < l.length) → k < p.length → k < xs.length → (scat p xs l)[nth p k]? = xs[k]?
  | [], _, _, _, _, _, h, _ => by simp at h
  | _ :: _, [], _, _, _, _, _, h => by simp at h
  | i :: p, x :: xs, l, 0, hd, hb, _, _ => by
    unfold scat
    have hi : i < l.length := hb i (List.mem_cons_self ..)
    rw [show nth (i :: p) 0 = i from rfl, scat_other p xs _ i (List.nodup_cons.mp hd).1, List.getElem?_set_self hi]
    rfl
  | i :: p, x :: xs, l, k + 1, hd, hb, h1, h2 => by
    unfold scat
    have : nth (i :: p) (k + 1) = nth p k := rfl
    rw [this, scat_at p xs (l.set i x) k (List.nodup_cons.mp hd).2 (fun j hj => by rw [List.length_set]; exact hb j (List.mem_cons_of_mem _ hj)) (by simpa using h1) (by simpa using h2)]
    rfl
/-- where each item goes when p moves it -/
def mv {α : Type} (p : List Nat) (xs : List α) : List α := scat p xs xs
theorem mv_len {α : Type} {p : List Nat} {xs : List α} : (mv p xs).length = xs.length := scat_len _ _ _
theorem scat_get {α : Type} {n : Nat} {p : List Nat} {xs l : List α} (hp : Pm n p) (hx : xs.length = n) (hl : l.length = n) {j : Nat} : (scat p xs l)[j]? = if j < n then xs[p.idxOf j]? else none := by
  split
  · rename_i h
    have := scat_at p xs l (p.idxOf j) hp.nodup (fun i hi => by rw [hl]; exact hp.lt hi) (by rw [hp.len]; exact hp.idx_lt h) (by rw [hx]; exact hp.idx_lt h)
    rw [hp.nth_idx h] at this
    exact this
  · exact List.getElem?_eq_none (by rw [scat_len, hl]; omega)
theorem mv_get {α : Type} {n : Nat} {p : List Nat} {xs : List α} (hp : Pm n p) (hx : xs.length = n) {j : Nat} : (mv p xs)[j]? = if j < n then xs[p.idxOf j]? else none := scat_get hp hx hx
theorem scat_mv {α : Type} {n : Nat} {p : List Nat} {xs l : List α} (hp : Pm n p) (hx : xs.length = n) (hl : l.length = n) : scat p xs l = mv p xs := by
  apply List.ext_getElem?
  intro j
  rw [mv_get hp hx, scat_get hp hx hl]
theorem mv_cmp {α : Type} {n : Nat} {p q : List Nat} {xs : List α} (hp : Pm n p) (hq : Pm n q) (hx : xs.length = n) : mv q (mv p xs) = mv (cmp p q) xs := by
  apply List.ext_getElem?
  intro j
  rw [mv_get hq (mv_len.trans hx), mv_get (hp.cmp hq) hx]
  split
  · rename_i h
    rw [mv_get hp hx, if_pos (hq.idx_lt h), hp.idx_cmp hq h]
  · rfl
theorem mv_id {α : Type} {n : Nat} {xs : List α} (hx : xs.length = n) : mv (List.range n) xs = xs := by
  apply List.ext_getElem?
  intro j
  rw [mv_get (.id n) hx]
  split
  · rename_i h
    have := (Pm.id n).idx_nth h
    rw [nth_range h] at this
    rw [this]
  · rw [List.getElem?_eq_none (by omega)]
theorem mv_range {n : Nat} {p : List Nat} (hp : Pm n p) : mv p (List.range n) = inv p := by
  apply List.ext_getElem?
  intro j
  rw [mv_get hp List.length_range]
  split
  · rename_i h
    rw [List.getElem?_range (hp.idx_lt h), List.getElem?_eq_getElem (by rw [inv_len, hp.len]; exact h), ← nth_eq, nth_inv (by rw [hp.len]; exact h)]
  · rw [List.getElem?_eq_none (by rw [inv_len, hp.len]; omega)]
theorem scat_map {α β : Type} (f : α → β) : ∀ (p : List Nat) (xs l : List α), (scat p xs l).map f = scat p (xs.map f) (l.map f)
  | [], _, l => rfl
  | i :: p, [], l => rfl
  | i :: p, x :: xs, l => by
    rw [List.map_cons]
    unfold scat
    rw [scat_map f p xs, List.map_set]
theorem mv_map {α β : Type} (f : α → β) (p : List Nat) (xs : List α) : (mv p xs).map f = mv p (xs.map f) := scat_map f p xs xs
theorem scat_step {α : Type} : ∀ (k : Nat) (p : List Nat) (xs l : List α) (x : α), k < p.length → xs[k]? = some x → scat (p.take (k + 1)) xs l = (scat (p.take k) xs l).set (nth p k) x
  | 0, i :: p, y :: xs, l, x, _, h => by
    obtain rfl : y = x := by simpa using h
    rfl
  | k + 1, i :: p, y :: xs, l, x, hp, h => by
    rw [List.take_succ_cons, List.take_succ_cons]
    unfold scat
    exact scat_step k p xs _ x (by simpa using hp) (by simpa using h)
  | 0, [], _, _, _, h, _ => by simp at h
  | k + 1, [], _, _, _, h, _ => by simp at h
  | 0, _ :: _, [], _, _, _, h => by simp at h
  | k + 1, _ :: _, [], _, _, _, h => by simp at h
theorem scat_dnat (p xs l : List Nat) : scat p (dnat xs) (dnat l) = dnat (scat p xs l) := (scat_map _ p xs l).symm
end Vs
set_option maxHeartbeats 4000000
namespace Lw
open PySem Vs
/-! is_integer, is_permutation_of -/
theorem isint_eq {m : Nat} {i : Int} : m_p_is_integer [(m, .int i), (0, .non), (0, .non)] = .ok (0, .bl true) [some (m, .int i), some (0, .non), some (0, .non)] := by
  unfold m_p_is_integer fnM b_p_is_integer
  simp
theorem blsOf_all {n : Nat} : blsOf (List.replicate n (.bl true)) = some (List.replicate n true) := by
  induction n with
  | zero => rfl
  | succ n ih => rw [List.replicate_succ, blsOf, ih, List.replicate_succ]; rfl
theorem kAll_true {p : Bool} {m n : Nat} : kAll [⟨p, m, .lst (List.replicate n (.bl true))⟩] = some (vb true) := by
  unfold kAll
  show (blsOf (List.replicate n (.bl true))).map _ = _
  rw [blsOf_all]
  simp
theorem allint_eq {l : List Nat} {a1 : Option PV} (hn : l.length ≤ 16777216) : compL [2] (gname 2) yes (call m_p_is_integer [(0, .non), (0, .non)] [.lend 2]) (dnat l) [some (0, .lst (dnat l)), a1, none] [] = .ok (List.replicate l.length (vb true)) none := by
  unfold dnat
  rw [compL_map (k := fun _ => vb true) l _ _ fun i hi => ⟨_, rfl, by simp [isint_eq], rfl⟩, List.nil_append, List.map_const']
theorem kLst_bls {n : Nat} {b : Bool} (hn : n ≤ 16777216) : kLst (List.replicate n (vb b)) = some ⟨false, 1, .lst (List.replicate n (.bl b))⟩ := by
  rw [kLst_imm (fun x hx => by rw [(List.mem_replicate.mp hx).2]; rfl) (by rw [List.length_replicate, lim_num]; omega), List.map_replicate]
theorem plain_bls {n : Nat} {b : Bool} : VV.plain ⟨false, 1, .lst (List.replicate n (.bl b))⟩ = true := by
  unfold VV.plain
  simp
theorem isperm_eq {m n : Nat} {p : List Nat} (h : Pm n p) (hn : n < 60) : m_p_is_permutation_of [(m, .lst (dnat p)), (0, .int n)] = .ok (0, .bl true) [some (m, .lst (dnat p)), some (0, .int n)] := by
  have hl := h.len
  have e1 := allint_eq (l := p) (a1 := some (0, .int n)) (by omega)
  rw [hl] at e1
  unfold m_p_is_permutation_of fnM b_p_is_permutation_of
  simp [hl, e1, kLst_bls (show n ≤ 16777216 by omega), plain_bls, kAll_true, e_sorted h (show n < 64 by omega), e_listRange' (show n ≤ 16777216 by omega), e_eqDn]
end Lw
set_option maxHeartbeats 4000000
namespace Lw
open PySem Vs
theorem dnat_at {l : List Nat} {k : Nat} {d : D} (h : (dnat l)[k]? = some d) : k < l.length ∧ d = .int (nth l k : Nat) := by
  have hk : k < l.length := by
    have := (List.getElem?_eq_some_iff.mp h).1
    rwa [dnat_length] at this
  refine ⟨hk, ?_⟩
  rw [dnat_get, List.getElem?_eq_getElem hk] at h
  rw [nth_eq hk]
  exact (Option.some.inj h).symm
end Lw
set_option maxHeartbeats 4000000
namespace Lw
open PySem Vs
/-! blocks, rules and rows are checked; rows are moved -/
def isBk : D → Bool
  | .int i => decide (0 ≤ i) && decide (i ≤ 1000000000)
  | _ => false
theorem isblk_any {m : Nat} {d : D} (hf : d.flat = true) : m_p_is_block [(m, d)] = .ok (0, .bl (isBk d)) [some (m, d)] := by
  have e1 : m_p_is_integer [(m, d), (0, .int 0), (0, .int 1000000000)] = .ok (0, .bl (isBk d)) [some (m, d), some (0, .int 0), some (0, .int 1000000000)] := by
    unfold m_p_is_integer fnM b_p_is_integer isBk
    cases d with
    | dic _ _ => simp [D.flat] at hf
    | ins _ _ => simp [D.flat] at hf
    | int i => by_cases c : 0 ≤ i <;> simp [c]
    | _ => simp
  unfold m_p_is_block fnM b_p_is_block
  cases m with
  | zero => simp [e1]
  | succ m => cases hi : d.imm <;> simp [e1, hi]
theorem isblk_nat {m x : Nat} (hx : x ≤ 1000000000) : m_p_is_block [(m, .int (x : Int))] = .ok (0, .bl true) [some (m, .int (x : Int))] := by
  rw [isblk_any (d := .int (x : Int)) rfl]
  have : isBk (.int (x : Int)) = true := by
    show (decide ((0 : Int) ≤ x) && decide ((x : Int) ≤ 1000000000)) = true
    rw [decide_eq_true (by omega), decide_eq_true (by omega)]
    rfl
  rw [this]
structure Row (n : Nat) (L : List Nat) : Prop where
  len : L.length = n
  nd : L.Nodup
  le : ∀ x ∈ L, x ≤ 1000000000
theorem nth_take {l : List Nat} {k : Nat} (h : l.Nodup) (hk : k < l.length) : nth l k ∉ l.take k := by
  intro hm
  obtain ⟨j, hj, e⟩ := List.mem_iff_getElem.mp hm
  rw [List.length_take] at hj
  rw [List.getElem_take] at e
  have := nth_inj h (i := j) (j := k) (by omega) hk (by rw [nth_eq (by omega)]; exact e)
  omega
noncomputable def rowB : MS := (ifs (tor (tnot (tst (call m_p_is_block [] [.lend 3]) blOf)) (tst (two (v 3) (slc (fz 1 [1] (v 1)) none (some (v 2))) kIn) blOf)) (fun _ => .no) skip)
theorem enumD_at : ∀ (ds : List D) (n i : Nat), (enumD n ds)[i]? = ds[i]?.map fun d => .tup [.int ((n + i : Nat) : Int), d]
  | [], n, i => by simp [enumD]
  | d :: ds, n, 0 => by simp [enumD]
  | d :: ds, n, i + 1 => by
    show (enumD (n + 1) ds)[i]? = ds[i]?.map _
    rw [enumD_at ds (n + 1) i]
    congr 1
    funext d
    rw [show n + 1 + i = n + (i + 1) by omega]
noncomputable def ruleB : MS := (ifs (tnot (tst (call m_p_is_permutation_of [] [.lend 2, .val (argsk (args [(v 0)]) kLen)]) blOf)) (fun _ => .no) skip)
theorem check_rule_eq {m n : Nat} {R : List (List Nat)} (hl : R.length = n) (hp : ∀ p ∈ R, Pm n p) (h2 : 2 ≤ n) (hn : n ≤ 12) : m_p_check_rule [(m, .lst (R.map dn))] = .ok (0, .non) [some (0, .lst (R.map dn))] := by
  have hll : (R.map dn).length = n := by rw [List.length_map, hl]
  obtain ⟨ρ', e1, x1, x2, rfl⟩ := forL_inv0 (g := gtup [(gname 1), (gname 2)]) (b := ruleB) (fun k ρ => ∃ x1 x2, ρ = [some (0, .lst (R.map dn)), x1, x2]) (enumD 0 (R.map dn)) [some (0, .lst (R.map dn)), none, none]
    (fun k d ρ hd h => by
      obtain ⟨x1, x2, rfl⟩ := h
      rw [enumD_at, List.getElem?_map] at hd
      have hk : k < R.length := by
        rcases Nat.lt_or_ge k R.length with z | z
        · exact z
        · rw [List.getElem?_eq_none z] at hd; cases hd
      rw [List.getElem?_eq_getElem hk] at hd
      have hd' : d = .tup [.int ((0 + k : Nat) : Int), .lst (dnat R[k])] := (Option.some.inj hd).symm
      subst hd'
      have e2 := isperm_eq (m := 0) (hp _ (List.getElem_mem hk)) (by omega)
      refine ⟨[some (0, .lst (R.map dn)), some (0, .int ((0 + k : Nat) : Int)), some (0, .lst (dnat R[k]))], ?_, _, _, rfl⟩
      generalize R[k] = q at *
      generalize R.map dn = Rd at *
      unfold ruleB
      simp [gtup, gall, hll, e2, VV.kept, VV.stable]) ⟨none, none, rfl⟩
  have h1 : (2 : Int) ≤ n := by omega
  have h2' : (n : Int) ≤ 12 := by omega
  have hf : ∀ g b o, forsV 0 wEnum g b o [some (m, .lst (R.map dn)), none, none] = o [some (m, .lst (R.map dn)), none, none] := fun g b o => by
    unfold forsV
    have : (R.map dn).all D.imm = false := by
      cases R with
      | nil => simp at hl; omega
      | cons p R => rfl
    simp only [look_z, this]
    rfl
  generalize R.map dn = Rd at *
  unfold ruleB at e1
  unfold m_p_check_rule fnM b_p_check_rule
  cases m with
  | zero => simp [hll, h1, h2', hf, e1]
  | succ m => simp [hll, h1, h2', hf, e1]
theorem moved_eq {m m' n : Nat} {p L : List Nat} (hp : Pm n p) (hx : L.length = n) (hm : m' ≤ 1) : m_p_moved [(m, .lst (dnat p)), (m', .lst (dnat L))] = .ok (1, .lst (dnat (mv p L))) [some (m, .lst (dnat p)), some (m', .lst (dnat L))] := by
  have hl := hp.len
  have h3 : m' = 0 ∨ m' = 1 := by omega
  obtain ⟨ρ', e1, x2, x3, rfl⟩ := forsV_inv (i := 1) (w := wEnum) (g := gtup [(gname 3), (gname 4)]) (b := asg (fz 0 [4] (v 4)) (gset 2 (two (v 0) (v 3) kIx))) (o := (fors (itN kE (args [(fz 0 [1] (v 1))])) (gtup [(gname 3), (gname 4)]) (asg (fz 0 [4] (v 4)) (gset 2 (two (v 0) (v 3) kIx))))) (ds := dnat L) (ρ := [some (m, .lst (dnat p)), some (m', .lst (dnat L)), some (1, .lst (dnat L)), none, none]) (m0 := m')
    (fun k ρ => ∃ x2 x3, ρ = [some (m, .lst (dnat p)), some (m', .lst (dnat L)), some (1, .lst (dnat (scat (p.take k) L L))), x2, x3]) rfl (dnat_all L) (fun k ρ h => by obtain ⟨x2, x3, rfl⟩ := h; exact ⟨m', rfl⟩)
    (fun k d ρ hd h => by
      obtain ⟨x2, x3, rfl⟩ := h
      obtain ⟨hk, rfl⟩ := dnat_at hd
      have h1 := hp.nth_lt (i := k) (by omega)
      have h2 : (scat (p.take k) L L).length = n := by rw [scat_len, hx]
      have h4 := at_nth (l := p) (i := k) (by omega)
      refine ⟨_, ?_, some (0, .int k), some (0, .int (nth L k : Nat)), rfl⟩
      rw [scat_step k p L L (nth L k) (by omega) (by rw [nth_eq hk]; exact List.getElem?_eq_getElem hk), ← dnat_set]
      simp [gtup, gall, wEnum, h2, h4, nix_nat h1]) ⟨none, none, by simp [scat]⟩
  have e2 : scat p L L = mv p L := rfl
  rw [dnat_length, hx, ← hl, List.take_length, e2] at e1
  unfold m_p_moved fnM b_p_moved
  rcases h3 with rfl | rfl <;> simp [kList, e1]
end Lw
set_option maxHeartbeats 4000000
namespace Lw
open PySem Vs
/-! rules; permutations told by a function -/
structure IsRule (n : Nat) (R : List (List Nat)) : Prop where
  len : R.length = n
  pm : ∀ p ∈ R, Pm n p
def rmap (n : Nat) (f : Nat → Nat) : List Nat := (List.range n).map f
theorem rmap_len {n : Nat} {f : Nat → Nat} : (rmap n f).length = n := by unfold rmap; rw [List.length_map, List.length_range]
theorem rmap_nth {n i : Nat} {f : Nat → Nat} (h : i < n) : nth (rmap n f) i = f i := by
  rw [nth_eq (by rw [rmap_len]; exact h)]
  unfold rmap
  rw [List.getElem_map, List.getElem_range]
theorem nth_set {l : List Nat} {i j w : Nat} (hi : i < l.length) : nth (l.set j w) i = if i = j then w else nth l i := by
  rw [nth_eq (by rw [List.length_set]; exact hi)]
  by_cases c : j = i
  · subst c; rw [List.getElem_set_self, if_pos rfl]
  · rw [List.getElem_set_ne c, if_neg (fun e => c e.symm), nth_eq hi]
theorem rmap_set {n j w : Nat} {f g : Nat → Nat} (h : ∀ x, x < n → g x = if x = j then w else f x) : (rmap n f).set j w = rmap n g :=
  nth_ext (by rw [List.length_set, rmap_len, rmap_len]) fun i hi => by
    rw [List.length_set, rmap_len] at hi
    rw [nth_set (by rw [rmap_len]; exact hi), rmap_nth hi, rmap_nth hi, h i hi]
theorem rmap_id (n : Nat) : List.range n = rmap n fun x => x := by unfold rmap; simp
theorem rmap_pm {n : Nat} {f : Nat → Nat} (hb : ∀ x, x < n → f x < n) (hi : ∀ x y, x < n → y < n → x < y → f x ≠ f y) : Pm n (rmap n f) := by
  refine Pm.of rmap_len ?_ ?_
  · unfold rmap
    refine List.pairwise_map.mpr ((List.pairwise_lt_range (n := n)).imp_of_mem ?_)
    intro a b ha hb hab
    exact hi a b (List.mem_range.mp ha) (List.mem_range.mp hb) hab
  · intro i h
    obtain ⟨j, hj, rfl⟩ := List.mem_map.mp h
    exact hb j (List.mem_range.mp hj)
def liftF (i g x : Nat) : Nat := if x = i then g else if i < x ∧ x ≤ g then x - 1 else x
theorem lift_pm {n i g : Nat} (hi : i ≤ g) (hg : g < n) : Pm n (rmap n (liftF i g)) := by
  refine rmap_pm (fun x hx => ?_) fun x y hx hy hxy => ?_
  · unfold liftF
    split
    · exact hg
    · split <;> omega
  · unfold liftF
    split <;> split <;> (try split) <;> (try split) <;> omega
end Lw
set_option maxHeartbeats 4000000
namespace Lw
open PySem Vs
/-! rows behind hits -/
theorem mv_inv {n : Nat} {p L : List Nat} (hp : Pm n p) (hx : L.length = n) : mv p L = (inv p).map (nth L) := by
  refine nth_ext (by rw [mv_len, List.length_map, inv_len, hp.len, hx]) fun i hi => ?_
  rw [mv_len, hx] at hi
  have e := mv_get hp hx (j := i)
  rw [if_pos hi] at e
  have h1 := hp.idx_lt hi
  rw [nth_map (by rw [inv_len, hp.len]; exact hi), nth_inv (by rw [hp.len]; exact hi), nth_eq (by rw [mv_len, hx]; exact hi), nth_eq (by omega)]
  rw [List.getElem?_eq_getElem (by rw [mv_len, hx]; exact hi), List.getElem?_eq_getElem (by omega)] at e
  exact Option.some.inj e
theorem range_nth (L : List Nat) : (List.range L.length).map (nth L) = L :=
  nth_ext (by simp) fun i hi => by
    rw [List.length_map, List.length_range] at hi
    rw [nth_map (by rw [List.length_range]; exact hi), nth_range hi]
theorem mv_perm {n : Nat} {p L : List Nat} (hp : Pm n p) (hx : L.length = n) : (mv p L).Perm L := by
  rw [mv_inv hp hx]
  have := List.Perm.map (nth L) hp.inv
  rw [← hx, range_nth L] at this
  exact this
theorem Row.mv {n : Nat} {p L : List Nat} (h : Row n L) (hp : Pm n p) : Row n (Vs.mv p L) :=
  ⟨by rw [mv_len, h.len], (mv_perm hp h.len).nodup_iff.mpr h.nd, fun x hx => h.le x ((mv_perm hp h.len).mem_iff.mp hx)⟩
def hitF (R : List (List Nat)) (L : List Nat) (t : Nat) : List Nat := mv (R.getD (L.idxOf t) []) L
def runF (R : List (List Nat)) : List Nat → List Nat → List Nat
  | L, [] => L
  | L, t :: ts => runF R (hitF R L t) ts
theorem runF_snoc {R : List (List Nat)} : ∀ {ts L : List Nat} {t : Nat}, runF R L (ts ++ [t]) = hitF R (runF R L ts) t
  | [], L, t => rfl
  | a :: ts, L, t => runF_snoc (ts := ts)
theorem idx_lt {L : List Nat} {t : Nat} (h : t ∈ L) : L.idxOf t < L.length := List.idxOf_lt_length_of_mem h
theorem rule_at {n t : Nat} {R : List (List Nat)} {L : List Nat} (hR : IsRule n R) (hL : L.length = n) (ht : t ∈ L) : ∃ p, R.getD (L.idxOf t) [] = p ∧ Pm n p ∧ atD (R.map dn) (L.idxOf t : Int) = some (.lst (dnat p)) := by
  have h1 := idx_lt ht
  have h2 : L.idxOf t < R.length := by rw [hR.len]; omega
  refine ⟨R[L.idxOf t], ?_, hR.pm _ (List.getElem_mem h2), ?_⟩
  · rw [List.getD_eq_getElem?_getD, List.getElem?_eq_getElem h2]; rfl
  · rw [at_nat (by rw [List.length_map]; exact h2), List.getElem_map]
theorem hit_perm {n t : Nat} {R : List (List Nat)} {L : List Nat} (hR : IsRule n R) (hL : L.length = n) (ht : t ∈ L) : (hitF R L t).Perm L := by
  obtain ⟨p, e, hp, _⟩ := rule_at hR hL ht
  unfold hitF
  rw [e]
  exact mv_perm hp hL
theorem run_perm {n : Nat} {R : List (List Nat)} (hR : IsRule n R) : ∀ {ts L : List Nat}, L.length = n → (∀ t ∈ ts, t ∈ L) → (runF R L ts).Perm L
  | [], L, hL, h => List.Perm.refl _
  | t :: ts, L, hL, h => by
    have h1 := hit_perm hR hL (h t (List.mem_cons_self ..))
    exact (run_perm hR (ts := ts) (L := hitF R L t) (by rw [h1.length_eq, hL]) fun x hx => h1.mem_iff.mpr (h x (List.mem_cons_of_mem _ hx))).trans h1
theorem Row.run {n : Nat} {R : List (List Nat)} {L ts : List Nat} (hR : IsRule n R) (h : Row n L) (ht : ∀ t ∈ ts, t ∈ L) : Row n (runF R L ts) := by
  have p := run_perm hR h.len ht
  exact ⟨by rw [p.length_eq, h.len], p.nodup_iff.mpr h.nd, fun x hx => h.le x (p.mem_iff.mp hx)⟩
end Lw
set_option maxHeartbeats 4000000
namespace Lw
open PySem Vs
/-! accesses: stepped, check_stream, check_all -/
def stepF (R : List (List Nat)) (L : List Nat) (t : Nat) : List Nat := if t ∈ L then hitF R L t else L.drop 1 ++ [t]
theorem step_len {n t : Nat} {R : List (List Nat)} {L : List Nat} (hR : IsRule n R) (hL : L.length = n) (h0 : 0 < n) : (stepF R L t).length = n := by
  unfold stepF
  split
  · rename_i ht
    rw [(hit_perm hR hL ht).length_eq, hL]
  · rw [List.length_append, List.length_drop, hL]
    simp
    omega
noncomputable def strB : MS := (ifs (tnot (tst (call m_p_is_block [] [.lend 2]) blOf)) (fun _ => .no) skip)
theorem check_stream_eq {m : Nat} {ts : List Nat} (ht : ∀ t ∈ ts, t ≤ 1000000000) : m_p_check_stream [(m, .lst (dnat ts))] = .ok (0, .non) [some (m, .lst (dnat ts))] := by
  obtain ⟨ρ', e1, x1, x2, rfl⟩ := forsV_inv (i := 0) (w := wEnum) (g := gtup [(gname 1), (gname 2)]) (b := strB) (o := (fors (itN kE (args [(fz 0 [0] (v 0))])) (gtup [(gname 1), (gname 2)]) strB)) (ds := dnat ts) (ρ := [some (m, .lst (dnat ts)), none, none]) (m0 := m)
    (fun k ρ => ∃ x1 x2, ρ = [some (m, .lst (dnat ts)), x1, x2]) rfl (dnat_all ts) (fun k ρ h => by obtain ⟨x1, x2, rfl⟩ := h; exact ⟨m, rfl⟩)
    (fun k d ρ hd h => by
      obtain ⟨x1, x2, rfl⟩ := h
      obtain ⟨hk, rfl⟩ := dnat_at hd
      have e2 := isblk_nat (m := 0) (ht _ (nth_mem hk))
      refine ⟨[some (m, .lst (dnat ts)), some (0, .int k), some (0, .int (nth ts k : Nat))], ?_, _, _, rfl⟩
      generalize nth ts k = z at *
      unfold strB
      simp [gtup, gall, wEnum, e2]) ⟨none, none, rfl⟩
  unfold strB at e1
  unfold m_p_check_stream fnM b_p_check_stream
  simp [e1]
/-! a round -/
def roundF (R : List (List Nat)) : List Nat → List Nat → Nat × List Nat
  | L, [] => (0, L)
  | L, t :: ts => ((if t ∈ L then 1 else 0) + (roundF R (stepF R L t) ts).1, (roundF R (stepF R L t) ts).2)
theorem round_snoc {R : List (List Nat)} : ∀ {ts L : List Nat} {t : Nat}, roundF R L (ts ++ [t]) = ((roundF R L ts).1 + (if t ∈ (roundF R L ts).2 then 1 else 0), stepF R (roundF R L ts).2 t)
  | [], L, t => by by_cases h : t ∈ L <;> simp [roundF, h]
  | a :: ts, L, t => by
    rw [List.cons_append, roundF, round_snoc, roundF]
    simp [Nat.add_assoc]
theorem round_len {n : Nat} {R : List (List Nat)} (hR : IsRule n R) (h0 : 0 < n) : ∀ {ts L : List Nat}, L.length = n → (roundF R L ts).2.length = n
  | [], L, h => h
  | t :: ts, L, h => round_len hR h0 (ts := ts) (step_len hR h h0)
theorem round_le {R : List (List Nat)} : ∀ {ts L : List Nat}, (roundF R L ts).1 ≤ ts.length
  | [], L => Nat.le_refl _
  | t :: ts, L => by
    have := round_le (R := R) (ts := ts) (L := stepF R L t)
    rw [roundF, List.length_cons]
    show (if t ∈ L then 1 else 0) + _ ≤ _
    split <;> omega
end Lw
set_option maxHeartbeats 4000000
namespace Vs
open PySem (Str PyData)
/-! lists of whole numbers -/
theorem nb_di (l : List Int) : (D.lst (dints l)).nb = true := by
  simp only [D.nb]
  induction l with
  | nil => rfl
  | cons a l ih => exact (show nbAll (D.int a :: dints l) = true by simp only [nbAll, D.nb, ih, Bool.and_true])
theorem shp_di (l : List Int) : (D.lst (dints l)).shp = true := (Shp.lst (j := 0) fun d hd => by
  obtain ⟨i, _, rfl⟩ := List.mem_map.mp hd
  exact .int).shp
theorem flat_di (l : List Int) : (D.lst (dints l)).flat = true := by
  simp only [D.flat]
  induction l with
  | nil => rfl
  | cons a l ih => exact (show flatAll (D.int a :: dints l) = true by simp only [flatAll, D.flat, ih, Bool.and_true])
theorem di_inj : ∀ {l k : List Int}, dints l = dints k → l = k
  | [], [], _ => rfl
  | [], _ :: _, h => by cases h
  | _ :: _, [], h => by cases h
  | a :: l, b :: k, h => by
    have h : D.int a :: dints l = D.int b :: dints k := h
    injection h with h1 h2
    injection h1 with h1
    rw [h1, di_inj h2]
theorem e_eqDi {p q : Bool} {m n : Nat} {l k : List Int} : kEq ⟨p, m, .lst (dints l)⟩ ⟨q, n, .lst (dints k)⟩ = some (vb (decide (l = k))) := by
  show (if D.shp (.lst (dints l)) = true ∧ D.shp (.lst (dints k)) = true then some (vb (D.eqv (.lst (dints l)) (.lst (dints k)))) else none) = _
  rw [if_pos ⟨shp_di l, shp_di k⟩]
  congr 1
  congr 1
  congr 1
  rw [Bool.eq_iff_iff, eqv_iff (nb_di l) (nb_di k) (flat_di l), decide_eq_true_eq]
  exact ⟨fun h => by injection h with h; exact di_inj h, fun h => by rw [h]⟩
theorem di_len (l : List Int) : (dints l).length = l.length := List.length_map ..
theorem di_take (l : List Int) (k : Nat) : (dints l).take k = dints (l.take k) := List.map_take.symm
theorem di_append (l k : List Int) : dints (l ++ k) = dints l ++ dints k := List.map_append ..
theorem enu_get : ∀ (l : List D) (n i : Nat), (enumD n l)[i]? = l[i]?.map fun d => .tup [.int ((n + i : Nat) : Int), d]
  | [], _, _ => rfl
  | d :: l, n, 0 => by simp [enumD]
  | d :: l, n, i + 1 => by
    rw [enumD, List.getElem?_cons_succ, enu_get l (n + 1) i, List.getElem?_cons_succ, show n + 1 + i = n + (i + 1) by omega]
theorem enu_len : ∀ (l : List D) (n : Nat), (enumD n l).length = l.length
  | [], _ => rfl
  | d :: l, n => by rw [enumD, List.length_cons, enu_len l (n + 1), List.length_cons]
/-- powers that are told -/
theorem pwr {a : Int} {k : Nat} {p q : Bool} {m n : Nat} (ha : a.natAbs < 2 ^ 64 := by decide) (hk : k ≤ 100 := by decide) : kPow ⟨p, m, .int a⟩ ⟨q, n, .int (k : Int)⟩ = some (vi (a ^ k)) := by
  rw [e_powI (small_big (by omega) (by omega)) (by omega) (by omega), Int.toNat_natCast]
theorem p18 {p q : Bool} {m n : Nat} : kPow ⟨p, m, .int 10⟩ ⟨q, n, .int 18⟩ = some (vi 1000000000000000000) := by
  have := pwr (a := 10) (k := 18) (p := p) (q := q) (m := m) (n := n)
  simpa using this
theorem p17 {p q : Bool} {m n : Nat} : kPow ⟨p, m, .int 10⟩ ⟨q, n, .int 17⟩ = some (vi 100000000000000000) := by
  have := pwr (a := 10) (k := 17) (p := p) (q := q) (m := m) (n := n)
  simpa using this
theorem p9 {p q : Bool} {m n : Nat} : kPow ⟨p, m, .int 10⟩ ⟨q, n, .int 9⟩ = some (vi 1000000000) := by
  have := pwr (a := 10) (k := 9) (p := p) (q := q) (m := m) (n := n)
  simpa using this
theorem p7 {p q : Bool} {m n : Nat} : kPow ⟨p, m, .int 10⟩ ⟨q, n, .int 7⟩ = some (vi 10000000) := by
  have := pwr (a := 10) (k := 7) (p := p) (q := q) (m := m) (n := n)
  simpa using this
theorem p6 {p q : Bool} {m n : Nat} : kPow ⟨p, m, .int 10⟩ ⟨q, n, .int 6⟩ = some (vi 1000000) := by
  have := pwr (a := 10) (k := 6) (p := p) (q := q) (m := m) (n := n)
  simpa using this
theorem now_some_thn {a ρ : Env} {o : Option Env} : now (thn (some a) o) ρ = now o a := by cases o <;> rfl
theorem p30 {p q : Bool} {m n : Nat} : kPow ⟨p, m, .int 10⟩ ⟨q, n, .int 30⟩ = some (vi 1000000000000000000000000000000) := by
  have := pwr (a := 10) (k := 30) (p := p) (q := q) (m := m) (n := n)
  simpa using this
end Vs
set_option maxHeartbeats 4000000
namespace Lw
open PySem Vs
/-! is_integer, is_permutation_of: any values -/
def isInt : D → Bool
  | .int _ => true | _ => false
theorem isint_any {m : Nat} {d : D} (hf : d.flat = true) : m_p_is_integer [(m, d), (0, .non), (0, .non)] = .ok (0, .bl (isInt d)) [some (m, d), some (0, .non), some (0, .non)] := by
  unfold m_p_is_integer fnM b_p_is_integer
  cases d with
  | dic _ _ => simp [D.flat] at hf
  | ins _ _ => simp [D.flat] at hf
  | _ => simp [isInt]
def intsL (l : List D) : List Int := l.filterMap fun d => match d with | .int i => some i | _ => none
theorem flat_mem : ∀ {l : List D} {d : D}, flatAll l = true → d ∈ l → d.flat = true
  | a :: l, d, h, hd => by
    unfold flatAll at h
    rw [Bool.and_eq_true] at h
    rcases List.mem_cons.mp hd with rfl | z
    · exact h.1
    · exact flat_mem h.2 z
theorem blsOf_map {α : Type} {f : α → Bool} : ∀ l : List α, blsOf (l.map fun d => .bl (f d)) = some (l.map f)
  | [] => rfl
  | a :: l => by
    rw [List.map_cons, blsOf, blsOf_map l]
    rfl
theorem intsOf_all : ∀ {l : List D}, l.all isInt = true → intsOf l = some (intsL l) ∧ l = dints (intsL l)
  | [], _ => ⟨rfl, rfl⟩
  | a :: l, h => by
    rw [List.all_cons, Bool.and_eq_true] at h
    cases a with
    | int i =>
      obtain ⟨e1, e2⟩ := intsOf_all h.2
      refine ⟨?_, ?_⟩
      · rw [intsOf, e1]; rfl
      · show _ = D.int i :: dints (intsL l)
        rw [← e2]
    | _ => exact absurd h.1 (by simp [isInt])
theorem intsOf_filter (l : List D) : intsOf (l.filter isInt) = some (intsL l) := by
  have h : (l.filter isInt).all isInt = true := List.all_eq_true.mpr fun d hd => (List.mem_filter.mp hd).2
  rw [(intsOf_all h).1]
  congr 1
  clear h
  induction l with
  | nil => rfl
  | cons a l ih =>
    cases a with
    | int i => rw [List.filter_cons, if_pos (show isInt (.int i) = true from rfl)]; unfold intsL at ih ⊢; rw [List.filterMap_cons, List.filterMap_cons, ih]
    | _ => rw [List.filter_cons, if_neg (by simp [isInt])]; unfold intsL at ih ⊢; rw [List.filterMap_cons, ih]
def nints (n : Nat) : List Int := (List.range n).map fun (i : Nat) => (i : Int)
/-- a permutation of so many, of any items -/
def isPl (l : List D) (n : Nat) : Bool := decide (l.length = n) && l.all isInt && decide (sortI (intsL l) = nints n)
theorem dints_inj : ∀ {l k : List Int}, dints l = dints k → l = k
  | [], [], _ => rfl
  | [], _ :: _, h => by cases h
  | _ :: _, [], h => by cases h
  | a :: l, b :: k, h => by
    have h : D.int a :: dints l = D.int b :: dints k := h
    injection h with h1 h2
    injection h1 with h1
    rw [h1, dints_inj h2]
theorem nb_dints (l : List Int) : (D.lst (dints l)).nb = true := by
  simp only [D.nb]
  induction l with
  | nil => rfl
  | cons a l ih => exact (show nbAll (D.int a :: dints l) = true by simp only [nbAll, D.nb, ih, Bool.and_true])
theorem shp_dints (l : List Int) : (D.lst (dints l)).shp = true := (Shp.lst (j := 0) fun d hd => by
  obtain ⟨i, _, rfl⟩ := List.mem_map.mp hd
  exact .int).shp
theorem flat_dints (l : List Int) : (D.lst (dints l)).flat = true := by
  simp only [D.flat]
  induction l with
  | nil => rfl
  | cons a l ih => exact (show flatAll (D.int a :: dints l) = true by simp only [flatAll, D.flat, ih, Bool.and_true])
theorem e_eqInts {p q : Bool} {m n : Nat} {l k : List Int} : kEq ⟨p, m, .lst (dints l)⟩ ⟨q, n, .lst (dints k)⟩ = some (vb (decide (l = k))) := by
  show (if D.shp (.lst (dints l)) = true ∧ D.shp (.lst (dints k)) = true then some (vb (D.eqv (.lst (dints l)) (.lst (dints k)))) else none) = _
  rw [if_pos ⟨shp_dints l, shp_dints k⟩]
  congr 1
  congr 1
  congr 1
  rw [Bool.eq_iff_iff, eqv_iff (nb_dints l) (nb_dints k) (flat_dints l), decide_eq_true_eq]
  exact ⟨fun h => by injection h with h; exact dints_inj h, fun h => by rw [h]⟩
theorem ispo_any {m n : Nat} {l : List D} (hf : flatAll l = true) (hl : l.length ≤ 60) (hn : n ≤ 60) : m_p_is_permutation_of [(m, .lst l), (0, .int n)] = .ok (0, .bl (isPl l n)) [some (m, .lst l), some (0, .int n)] := by
  have e1 : compL [2] (gname 2) yes (call m_p_is_integer [(0, .non), (0, .non)] [.lend 2]) l [some (0, .lst l), some (0, .int n), none] [] = .ok (l.map fun d => vb (isInt d)) none := by
    have := compL_map (own := [2]) (g := gname 2) (e := call m_p_is_integer [(0, .non), (0, .non)] [.lend 2]) (f := id) (k := fun d => vb (isInt d)) l [some (0, .lst l), some (0, .int n), none] [] fun d hd => ⟨_, rfl, by simp [isint_any (flat_mem hf hd)], rfl⟩
    rw [List.map_id, List.nil_append] at this
    exact this
  have e2 : kLst (l.map fun d => vb (isInt d)) = some ⟨false, 1, .lst (l.map fun d => .bl (isInt d))⟩ := by
    rw [kLst_imm (fun x hx => by obtain ⟨d, _, rfl⟩ := List.mem_map.mp hx; rfl) (by rw [List.length_map, lim_num]; omega), List.map_map]
    rfl
  have e3 : VV.plain ⟨false, 1, .lst (l.map fun d => .bl (isInt d))⟩ = true := by
    unfold VV.plain
    simp
  have e4 : kAll [⟨false, 1, .lst (l.map fun d => .bl (isInt d))⟩] = some (vb (l.all isInt)) := by
    unfold kAll
    show (blsOf (l.map fun d => .bl (isInt d))).map _ = _
    rw [blsOf_map]
    simp [List.all_map]
  unfold m_p_is_permutation_of fnM b_p_is_permutation_of isPl
  by_cases c1 : l.length = n
  · cases c2 : l.all isInt with
    | false => simp [c1, c2, e1, e2, e3, e4]
    | true =>
      obtain ⟨i1, i2⟩ := intsOf_all c2
      have hli : (intsL l).length = l.length := by
        have := congrArg List.length i2
        simpa [dints] using this.symm
      have e5 : ∀ b, kSorted [⟨b, m, .lst l⟩] = some ⟨false, 1, .lst (dints (sortI (intsL l)))⟩ := fun b => by
        show ((intsOf l).bind fun bs => if bs.length < 64 then some (⟨false, 1, .lst (dints (sortI bs))⟩ : VV) else none) = _
        rw [i1, Option.bind_some, if_pos (by omega)]
      have e6 := e_eqInts (p := false) (q := false) (m := 1) (n := 1) (l := sortI (intsL l)) (k := nints n)
      have e7 : dnat (List.range n) = dints (nints n) := (dints_nat _).symm
      simp [c1, c2, e1, e2, e3, e4, e5, e_listRange' (show n ≤ 16777216 by omega), e7, e6]
  · have c1' : ¬ (l.length : Int) = n := by omega
    simp [c1, c1']
end Lw
set_option maxHeartbeats 4000000
namespace Lw
open PySem Vs
/-! the law's access; rows of any whole numbers are moved; kernels over whole numbers -/
noncomputable def setB : MS := (asg (fz 1 [1] (two (v 1) (v 4) kIx)) (gset 3 (two (two (v 0) (v 2) kIx) (v 4) kIx)))
theorem lhit_eq {m1 n i : Nat} {R : List (List Nat)} {L p : List Nat} (hR : R.length = n) (hp : Pm n p) (hn : n ≤ 1000) (hL : L.length = n) (h1 : m1 ≤ 1) (hi : atD (R.map dn) (i : Int) = some (.lst (dnat p))) :
    m_l_hit [(0, .lst (R.map dn)), (m1, .lst (dnat L)), (0, .int i)] = .ok (1, .lst (dnat (mv p L))) [some (0, .lst (R.map dn)), some (m1, .lst (dnat L)), some (0, .int i)] := by
  have h3 : m1 = 0 ∨ m1 = 1 := by omega
  obtain ⟨ρ', e1, x4, rfl⟩ := forL_inv0 (g := gname 4) (b := setB) (fun k ρ => ∃ x4, ρ = [some (0, .lst (R.map dn)), some (m1, .lst (dnat L)), some (0, .int i), some (1, .lst (dnat (scat (p.take k) L L))), x4]) (rng 0 n) [some (0, .lst (R.map dn)), some (m1, .lst (dnat L)), some (0, .int i), some (1, .lst (dnat L)), none]
    (fun k d ρ hd h => by
      obtain ⟨x4, rfl⟩ := h
      obtain ⟨rfl, hk⟩ := rng_get hd
      have hk : k < n := by omega
      have e1 := at_nth (l := p) (i := k) (by rw [hp.len]; exact hk)
      have e2 := at_nth (l := L) (i := k) (by omega)
      have h2 : (scat (p.take k) L L).length = n := by rw [scat_len, hL]
      have h4 := nix_nat (hp.nth_lt hk)
      refine ⟨[some (0, .lst (R.map dn)), some (m1, .lst (dnat L)), some (0, .int i), some (1, .lst (dnat (scat (p.take (k + 1)) L L))), some (0, .int (0 + k))], ?_, _, rfl⟩
      rw [scat_step k p L L (nth L k) (by rw [hp.len]; exact hk) (by rw [nth_eq (by omega)]; exact List.getElem?_eq_getElem (by omega)), ← dnat_set]
      generalize R.map dn = Rd at *
      generalize scat (p.take k) L L = sc at *
      unfold setB
      rcases h3 with rfl | rfl <;> simp [e1, e2, h2, h4, hi]) ⟨none, by simp [scat]⟩
  rw [rng_len, show ((n : Int) - 0).toNat = n by omega, ← hp.len, List.take_length] at e1
  have e2 : scat p L L = mv p L := rfl
  rw [e2, hp.len] at e1
  have r1 := e_range1 (p := false) (m := 0) (show -(2 ^ 62) ≤ (n : Int) by omega) (show (n : Int) < 2 ^ 62 by omega)
  generalize R.map dn = Rd at *
  generalize mv p L = w at *
  unfold setB at e1
  unfold m_l_hit fnM b_l_hit
  rcases h3 with rfl | rfl <;> simp [kList, hL, r1, e1]
theorem lstep_eq {m m1 n t : Nat} {R : List (List Nat)} {L : List Nat} (hR : IsRule n R) (hn : n ≤ 12) (hL : L.length = n) :
    m_l_step [(m, .lst (R.map dn)), (m1, .lst (dnat L)), (0, .int (t : Int))] = .ok (2, .tup [.bl (decide (t ∈ L)), .lst (dnat (stepF R L t))]) [some (0, .lst (R.map dn)), some (0, .lst (dnat L)), some (0, .int (t : Int))] := by
  have e6 : ∀ a b c d, kIn ⟨a, b, .int (t : Int)⟩ ⟨c, d, .lst (dnat L)⟩ = some (vb (decide (t ∈ L))) := fun a b c d => e_in
  by_cases ht : t ∈ L
  · obtain ⟨p, e1, e2, e3⟩ := rule_at hR hL ht
    have e4 := lhit_eq (m1 := 0) (i := L.idxOf t) hR.len e2 (by omega) hL (by omega) e3
    have e5 : ∀ q m q' n', kIndex ⟨q, m, .lst (dnat L)⟩ [⟨q', n', .int (t : Int)⟩] = some (vi (L.idxOf t : Nat)) := fun q m q' n' => e_index ht
    have e7 : stepF R L t = mv p L := by unfold stepF hitF; rw [if_pos ht, e1]
    rw [e7]
    rw [decide_eq_true ht] at e6 ⊢
    generalize L.idxOf t = i at *
    generalize R.map dn = Rd at *
    generalize mv p L = w at *
    unfold m_l_step fnM b_l_step
    simp [e_pre, e_even, isL, e4, e5, e6, VV.kept, VV.stable]
  · have e7 : stepF R L t = L.drop 1 ++ [t] := by unfold stepF; rw [if_neg ht]
    have c1 : cutD (dnat L) (some 1) none = dnat (L.drop 1) := by
      have := cut_from (l := dnat L) (t := 1)
      rw [dnat_drop] at this
      exact this
    have e8 := e_addL (p := false) (q := false) (m := 1) (n := 1) (l := dnat (L.drop 1)) (k := [.int (t : Int)]) (.inl rfl) (.inl rfl) (by rw [dnat_length, List.length_drop]; simp; omega)
    rw [show dnat (L.drop 1) ++ [.int (t : Int)] = dnat (L.drop 1 ++ [t]) by rw [dnat_append]; rfl] at e8
    rw [e7]
    rw [decide_eq_false ht] at e6 ⊢
    generalize R.map dn = Rd at *
    generalize L.drop 1 ++ [t] = w at *
    generalize dnat (L.drop 1) = l1 at *
    unfold m_l_step fnM b_l_step
    simp [e_pre, e_even, isL, e6, e8, e_sl, c1, VV.kept, VV.stable]
/-! ### rows with unknown blocks -/
theorem di_all (l : List Int) : (dints l).all D.imm = true := by
  rw [List.all_eq_true]
  intro d hd
  obtain ⟨i, _, rfl⟩ := List.mem_map.mp hd
  rfl
theorem di_at {l : List Int} {k : Nat} {d : D} (h : (dints l)[k]? = some d) : ∃ hk : k < l.length, d = .int l[k] := by
  unfold dints at h
  rw [List.getElem?_map, Option.map_eq_some_iff] at h
  obtain ⟨x, h1, rfl⟩ := h
  obtain ⟨hk, rfl⟩ := List.getElem?_eq_some_iff.mp h1
  exact ⟨hk, rfl⟩
theorem di_set (l : List Int) (j : Nat) (x : Int) : (dints l).set j (.int x) = dints (l.set j x) := by
  unfold dints
  rw [List.map_set]
theorem di_drop (l : List Int) (k : Nat) : (dints l).drop k = dints (l.drop k) := List.map_drop.symm
theorem atZ {l : List Int} {k : Nat} (h : k < l.length) : atD (dints l) (k : Int) = some (.int l[k]) := by
  rw [at_nat (by rw [di_len]; exact h)]
  simp [dints]
theorem moved_eqZ {m m' n : Nat} {p : List Nat} {L : List Int} (hp : Pm n p) (hx : L.length = n) (hm : m' ≤ 1 := by omega) : m_p_moved [(m, .lst (dnat p)), (m', .lst (dints L))] = .ok (1, .lst (dints (mv p L))) [some (m, .lst (dnat p)), some (m', .lst (dints L))] := by
  have hl := hp.len
  have h3 : m' = 0 ∨ m' = 1 := by omega
  obtain ⟨ρ', e1, x2, x3, rfl⟩ := forsV_inv (i := 1) (w := wEnum) (g := gtup [(gname 3), (gname 4)]) (b := asg (fz 0 [4] (v 4)) (gset 2 (two (v 0) (v 3) kIx))) (o := (fors (itN kE (args [(fz 0 [1] (v 1))])) (gtup [(gname 3), (gname 4)]) (asg (fz 0 [4] (v 4)) (gset 2 (two (v 0) (v 3) kIx))))) (ds := dints L) (ρ := [some (m, .lst (dnat p)), some (m', .lst (dints L)), some (1, .lst (dints L)), none, none]) (m0 := m')
    (fun k ρ => ∃ x2 x3, ρ = [some (m, .lst (dnat p)), some (m', .lst (dints L)), some (1, .lst (dints (scat (p.take k) L L))), x2, x3]) rfl (di_all L) (fun k ρ h => by obtain ⟨x2, x3, rfl⟩ := h; exact ⟨m', rfl⟩)
    (fun k d ρ hd h => by
      obtain ⟨x2, x3, rfl⟩ := h
      obtain ⟨hk, rfl⟩ := di_at hd
      have h1 := hp.nth_lt (i := k) (by omega)
      have h2 : (scat (p.take k) L L).length = n := by rw [scat_len, hx]
      have h4 := at_nth (l := p) (i := k) (by omega)
      refine ⟨_, ?_, some (0, .int k), some (0, .int L[k]), rfl⟩
      rw [scat_step k p L L L[k] (by omega) (List.getElem?_eq_getElem hk), ← di_set]
      simp [gtup, gall, wEnum, h2, h4, di_len, nix_nat h1]) ⟨none, none, by simp [scat]⟩
  have e2 : scat p L L = mv p L := rfl
  rw [di_len, hx, ← hl, List.take_length, e2] at e1
  unfold m_p_moved fnM b_p_moved
  rcases h3 with rfl | rfl <;> simp [kList, e1]
theorem any_di {x : Int} {l : List Int} : ((dints l).any fun z => z.eqv (.int x)) = decide (x ∈ l) := by
  induction l with
  | nil => rfl
  | cons a l ih =>
    show (D.eqv (.int a) (.int x) || (dints l).any fun z => z.eqv (.int x)) = _
    rw [ih, eqv_ints]
    by_cases e : a = x
    · subst e; simp
    · rw [decide_eq_false e, Bool.false_or]
      congr 1
      rw [List.mem_cons]
      exact propext ⟨.inr, fun h => h.resolve_left fun z => e z.symm⟩
theorem e_inZ {p q : Bool} {m n : Nat} {l : List Int} {x : Int} : kIn ⟨p, m, .int x⟩ ⟨q, n, .lst (dints l)⟩ = some (vb (decide (x ∈ l))) := by
  unfold kIn
  simp only [shp_di, shp_int, and_self, if_true, any_di]
theorem find_di {x : Int} : ∀ {l : List Int}, x ∈ l → (dints l).findIdx? (fun z => z.eqv (.int x)) = some (l.idxOf x)
  | [], h => by cases h
  | a :: l, h => by
    show ((D.int a) :: dints l).findIdx? _ = _
    rw [List.findIdx?_cons, eqv_ints]
    by_cases e : a = x
    · subst e
      rw [decide_eq_true rfl, if_pos rfl, List.idxOf_cons_self]
    · rw [decide_eq_false e, if_neg (by decide), find_di (l := l) ((List.mem_cons.mp h).resolve_left fun z => e z.symm), List.idxOf_cons, beq_eq_false_iff_ne.mpr e]
      rfl
theorem e_indexZ {p q : Bool} {m n : Nat} {l : List Int} {x : Int} (h : x ∈ l) : kIndex ⟨p, m, .lst (dints l)⟩ [⟨q, n, .int x⟩] = some (vi (l.idxOf x : Nat)) := by
  unfold kIndex
  simp only [shp_di, shp_int, and_self, if_true, find_di h]
end Lw
set_option maxHeartbeats 4000000
namespace Lw
open PySem Vs
/-! the pairs behind an access -/
abbrev Pr := List Int × List Int
def dPr (p : Pr) : D := .tup [.lst (dints p.1), .lst (dints p.2)]
theorem dPr_imm (p : Pr) : (dPr p).imm = false := rfl
def ix (l : List Int) (k : Nat) : Int := l.getD k 0
theorem ix_eq {l : List Int} {k : Nat} (h : k < l.length) : ix l k = l[k] := by
  unfold ix
  rw [List.getD_eq_getElem?_getD, List.getElem?_eq_getElem h, Option.getD_some]
/-- an unknown block is told at a place -/
def fitK (R : List (List Nat)) (b : Int) (p : Pr) (k : Nat) : List Pr := if ix p.1 k < 0 then [(mv (R.getD k []) (p.1.set k b), p.2.set (-1 - ix p.1 k).toNat b)] else []
def fit1 (R : List (List Nat)) (b : Int) (new out : Bool) (p : Pr) : List Pr :=
  if b ∈ p.1 then (if out = true then [(mv (R.getD (p.1.idxOf b) []) p.1, p.2)] else [])
  else if out = false then [(p.1.drop 1 ++ [b], p.2)]
  else if new = true then (List.range p.1.length).flatMap (fitK R b p) else []
structure RowOk (n : Nat) (p : Pr) : Prop where
  l1 : p.1.length = n
  l2 : p.2.length = n
  lo : ∀ x ∈ p.1, -(n : Int) ≤ x
theorem e_star3 {a c x : M} {ρ : Vs.Env} {A C : List Int} {b : Int} {q : Bool} {m : Nat} (ha : a ρ = .ok ⟨false, 1, .lst (dints A)⟩ none) (hx : x ρ = .ok ⟨q, m, .int b⟩ none) (hc : c ρ = .ok ⟨false, 1, .lst (dints C)⟩ none) (hl : A.length + C.length ≤ 1000) :
    argsk (argS a (argC x (argS c argN))) kLst ρ = .ok ⟨false, 1, .lst (dints (A ++ [b] ++ C))⟩ none := by
  have k1 := kLst_imm (xs := (dints A).map (fun d => (⟨false, 0, d⟩ : VV)) ++ ((⟨q, m, .int b⟩ : VV) :: ((dints C).map (fun d => (⟨false, 0, d⟩ : VV)) ++ []))) (fun y hy => by
    simp only [List.append_nil, List.mem_append, List.mem_cons, List.mem_map] at hy
    rcases hy with ⟨d, hd, rfl⟩ | rfl | ⟨d, hd, rfl⟩
    · exact List.all_eq_true.mp (di_all A) d hd
    · rfl
    · exact List.all_eq_true.mp (di_all C) d hd) (by simp [di_len, lim_num]; omega)
  have k2 : ((dints A).map (fun d => (⟨false, 0, d⟩ : VV)) ++ ((⟨q, m, .int b⟩ : VV) :: ((dints C).map (fun d => (⟨false, 0, d⟩ : VV)) ++ []))).map VV.d = dints (A ++ [b] ++ C) := by
    simp [dints, Function.comp_def]
  rw [k2] at k1
  simp only [List.append_nil, List.append_assoc, List.singleton_append] at k1
  simp [argS, argC, argN, starD, ha, hx, hc, VV.open, k1]
theorem e_star2 {a x : M} {ρ : Vs.Env} {A : List Int} {b : Int} {q : Bool} {m : Nat} (ha : a ρ = .ok ⟨false, 1, .lst (dints A)⟩ none) (hx : x ρ = .ok ⟨q, m, .int b⟩ none) (hl : A.length ≤ 1000) :
    argsk (argS a (argC x argN)) kLst ρ = .ok ⟨false, 1, .lst (dints (A ++ [b]))⟩ none := by
  have k1 := kLst_imm (xs := (dints A).map (fun d => (⟨false, 0, d⟩ : VV)) ++ [(⟨q, m, .int b⟩ : VV)]) (fun y hy => by
    simp only [List.mem_append, List.mem_singleton, List.mem_map] at hy
    rcases hy with ⟨d, hd, rfl⟩ | rfl
    · exact List.all_eq_true.mp (di_all A) d hd
    · rfl) (by simp [di_len, lim_num]; omega)
  have k2 : ((dints A).map (fun d => (⟨false, 0, d⟩ : VV)) ++ [(⟨q, m, .int b⟩ : VV)]).map VV.d = dints (A ++ [b]) := by
    simp [dints, Function.comp_def]
  rw [k2] at k1
  simp [argS, argC, argN, starD, ha, hx, VV.open, k1]
section
variable {n k : Nat} {R : List (List Nat)} {b : Int} {new out : Bool} {P F : List Pr} {p : Pr}
abbrev eF (R : List (List Nat)) (P : List Pr) (b : Int) (new out : Bool) (F : List Pr) (x6 x7 x8 x9 : Option PV) : Vs.Env :=
  [some (0, .lst (R.map dn)), some (0, .lst (P.map dPr)), some (0, .int b), some (0, .bl new), some (0, .bl out), some (1, .lst (F.map dPr)), x6, x7, x8, x9, none, none]
theorem known_turn (hR : IsRule n R) (hn : n ≤ 12) (hp : RowOk n p) (hk : k < n) (hF : F.length < 1000000) :
    q_p_fits_behind_0 (eF R P b new out F (some (0, .lst (dints p.1))) (some (0, .lst (dints p.2))) (some (0, .int (k : Int))) (some (0, .int (ix p.1 k)))) =
    .nx (eF R P b new out (F ++ fitK R b p k) (some (0, .lst (dints p.1))) (some (0, .lst (dints p.2))) none none) := by
  obtain ⟨f1, f2⟩ := p
  obtain ⟨h1, h2, h3⟩ := hp
  simp only at h1 h2 h3 ⊢
  have hx := ix_eq (l := f1) (k := k) (by omega)
  have hlo := h3 (ix f1 k) (by rw [hx]; exact List.getElem_mem _)
  unfold fitK
  simp only
  by_cases c : ix f1 k < 0
  · rw [if_pos c]
    obtain ⟨j, hj⟩ : ∃ j : Nat, ix f1 k = -1 - (j : Int) := ⟨(-1 - ix f1 k).toNat, by omega⟩
    have hjn : j < n := by omega
    have c1 : cutD (dints f1) none (some (k : Int)) = dints (f1.take k) := by rw [cut_to, di_take]
    have c2 : cutD (dints f1) (some ((k : Int) + 1)) none = dints (f1.drop (k + 1)) := by
      have := cut_from (l := dints f1) (t := k + 1)
      rw [di_drop] at this
      exact this
    have c3 : cutD (dints f2) none (some (-1 - ix f1 k)) = dints (f2.take j) := by
      rw [show -1 - ix f1 k = (j : Int) by omega, cut_to, di_take]
    have c4 : cutD (dints f2) (some (-ix f1 k)) none = dints (f2.drop (j + 1)) := by
      rw [show -ix f1 k = ((j + 1 : Nat) : Int) by omega, cut_from, di_drop]
    have s1 : f1.take k ++ [b] ++ f1.drop (k + 1) = f1.set k b := by
      rw [List.set_eq_take_append_cons_drop, if_pos (by omega)]
      simp
    have s2 : f2.take j ++ [b] ++ f2.drop (j + 1) = f2.set j b := by
      rw [List.set_eq_take_append_cons_drop, if_pos (by omega)]
      simp
    have sj : (-1 - ix f1 k).toNat = j := by omega
    obtain ⟨q, hq, hq2⟩ : ∃ q, R.getD k [] = q ∧ R[k]? = some q := ⟨R[k]'(by rw [hR.len]; exact hk), by rw [List.getD_eq_getElem?_getD, List.getElem?_eq_getElem (by rw [hR.len]; exact hk)]; rfl, List.getElem?_eq_getElem _⟩
    have hqp : Pm n q := hR.pm q (List.mem_of_getElem? hq2)
    have a1 : atD (R.map dn) (k : Int) = some (.lst (dnat q)) := by
      rw [at_nat (by rw [List.length_map, hR.len]; exact hk), ← List.getElem?_eq_getElem, List.getElem?_map, hq2]
      rfl
    have m1 := moved_eqZ (m := 0) (m' := 1) (L := f1.set k b) hqp (by rw [List.length_set]; exact h1)
    rw [hq, sj]
    have t1 := e_star3 (a := (slc (fz 1 [6] (v 6)) none (some (v 8)))) (x := fz 0 [2] (v 2)) (c := (slc (fz 1 [6] (v 6)) (some (two (fz 1 [8] (v 8)) (cst (vi 1)) kAdd)) none)) (ρ := eF R P b new out F (some (0, .lst (dints f1))) (some (0, .lst (dints f2))) (some (0, .int (k : Int))) (some (0, .int (ix f1 k)))) (A := f1.take k) (C := f1.drop (k + 1)) (b := b) (q := false) (m := 0)
      (by unfold eF; simp [kSl, VV.open, c1]) (by unfold eF; simp) (by unfold eF; simp [kSl, VV.open, c2]) (by simp; omega)
    have t2 := e_star3 (a := (slc (fz 1 [7] (v 7)) none (some (two (one (cst (vi 1)) kNeg) (v 9) kSub)))) (x := fz 0 [2] (v 2)) (c := (slc (fz 1 [7] (v 7)) (some (one (v 9) kNeg)) none)) (ρ := [some (0, .lst (R.map dn)), some (0, .lst (P.map dPr)), some (0, .int b), some (0, .bl new), some (0, .bl out), some (1, .lst (F.map dPr)), some (0, .lst (dints f1)), some (0, .lst (dints f2)), some (0, .int (k : Int)), some (0, .int (ix f1 k)), some (1, .lst (dints (f1.set k b))), none]) (A := f2.take j) (C := f2.drop (j + 1)) (b := b) (q := false) (m := 0)
      (by simp [kSl, VV.open, c3]) (by simp) (by simp [kSl, VV.open, c4]) (by simp; omega)
    rw [s1] at t1
    rw [s2] at t2
    have ap := fun x h => e_append (m := 0) (l := F.map dPr) (x := x) h (by rw [List.length_map, lim_num]; omega)
    unfold eF at *
    rw [List.map_append]
    have dp : ([(mv q (f1.set k b), f2.set j b)] : List Pr).map dPr = [.tup [.lst (dints (mv q (f1.set k b))), .lst (dints (f2.set j b))]] := rfl
    rw [dp]
    generalize dints (mv q (f1.set k b)) = w1 at *
    generalize dints (f1.set k b) = w2 at *
    generalize dints (f2.set j b) = w3 at *
    generalize F.map dPr = Fd at *
    generalize P.map dPr = Pd at *
    generalize R.map dn = Rd at *
    generalize ix f1 k = x at *
    unfold q_p_fits_behind_0
    generalize (argsk (argS (slc (fz 1 [6] (v 6)) none (some (v 8))) (argC (fz 0 [2] (v 2)) (argS (slc (fz 1 [6] (v 6)) (some (two (fz 1 [8] (v 8)) (cst (vi 1)) kAdd)) none) argN))) kLst) = g1 at *
    generalize (argsk (argS (slc (fz 1 [7] (v 7)) none (some (two (one (cst (vi 1)) kNeg) (v 9) kSub))) (argC (fz 0 [2] (v 2)) (argS (slc (fz 1 [7] (v 7)) (some (one (v 9) kNeg)) none) argN))) kLst) = g2 at *
    simp [e_tdy, e_even, c, t1, t2, a1, m1, kTup, dmode, minM, lim_num, VV.stable, VV.kept, ap]
  · rw [if_neg c, List.append_nil]
    unfold eF
    generalize F.map dPr = Fd at *
    generalize P.map dPr = Pd at *
    generalize R.map dn = Rd at *
    generalize ix f1 k = x at *
    unfold q_p_fits_behind_0
    simp [e_tdy, e_even, c]
theorem known_loop (hR : IsRule n R) (hn : n ≤ 12) (hp : RowOk n p) (hF : F.length < 900000) (o : MS) :
    forsV 6 wEnum (gtup [(gname 8), (gname 9)]) q_p_fits_behind_0 o (eF R P b new out F (some (0, .lst (dints p.1))) (some (0, .lst (dints p.2))) none none) =
    .nx (eF R P b new out (F ++ (List.range p.1.length).flatMap (fitK R b p)) (some (0, .lst (dints p.1))) (some (0, .lst (dints p.2))) none none) := by
  have h := forsV_eq (i := 6) (w := wEnum) (g := gtup [(gname 8), (gname 9)]) (b := q_p_fits_behind_0) (o := o) (ds := dints p.1) (m0 := 0) (fun k => eF R P b new out (F ++ (List.range k).flatMap (fitK R b p)) (some (0, .lst (dints p.1))) (some (0, .lst (dints p.2))) none none)
    (di_all p.1) (fun k => rfl) fun k d hd => by
      obtain ⟨hk, rfl⟩ := di_at hd
      have hk' : k < n := by rw [← hp.l1]; exact hk
      have hl : ((List.range k).flatMap (fitK R b p)).length ≤ k := by
        clear hd hk hk'
        induction k with
        | zero => simp
        | succ k ih =>
          rw [List.range_succ, List.flatMap_append, List.length_append]
          have : (List.flatMap (fitK R b p) [k]).length ≤ 1 := by
            rw [List.flatMap_singleton]
            unfold fitK
            split <;> simp
          omega
      have t := known_turn (P := P) (new := new) (out := out) (b := b) (F := F ++ (List.range k).flatMap (fitK R b p)) hR hn hp hk' (by rw [List.length_append]; omega)
      rw [List.range_succ, List.flatMap_append, List.flatMap_singleton, ← List.append_assoc]
      rw [ix_eq hk] at t
      rw [← t]
      unfold eF
      simp [wEnum, gtup, gall]
  rw [di_len, List.range_zero, List.flatMap_nil, List.append_nil] at h
  exact h
theorem fit1_len (hp : RowOk n p) (h0 : 1 ≤ n) : (fit1 R b new out p).length ≤ n := by
  have hl : ∀ k, ((List.range k).flatMap (fitK R b p)).length ≤ k := fun k => by
    induction k with
    | zero => simp
    | succ k ih =>
      rw [List.range_succ, List.flatMap_append, List.length_append]
      have : (List.flatMap (fitK R b p) [k]).length ≤ 1 := by
        rw [List.flatMap_singleton]
        unfold fitK
        split <;> simp
      omega
  have := hl p.1.length
  rw [hp.l1] at this
  unfold fit1
  rw [hp.l1]
  split
  · split <;> simp <;> omega
  · split
    · simp; omega
    · split
      · exact this
      · simp
theorem fit_turn (hR : IsRule n R) (hn : n ≤ 12) (h0 : 1 ≤ n) (hp : RowOk n p) (hF : F.length < 900000) :
    q_p_fits_behind_1 (eF R P b new out F (some (0, .lst (dints p.1))) (some (0, .lst (dints p.2))) none none) =
    .nx (eF R P b new out (F ++ fit1 R b new out p) none none none none) := by
  have e1 : ∀ x q m m', kIn ⟨x, m, .int b⟩ ⟨q, m', .lst (dints p.1)⟩ = some (vb (decide (b ∈ p.1))) := fun _ _ _ _ => e_inZ
  have ap := fun x h => e_append (m := 0) (l := F.map dPr) (x := x) h (by rw [List.length_map, lim_num]; omega)
  by_cases hb : b ∈ p.1
  · rw [decide_eq_true hb] at e1
    unfold fit1
    rw [if_pos hb]
    cases out with
    | false =>
      rw [if_neg (by decide), List.append_nil]
      unfold eF
      generalize F.map dPr = Fd at *
      generalize P.map dPr = Pd at *
      generalize R.map dn = Rd at *
      unfold q_p_fits_behind_1
      generalize w_p_fits_behind_0 = w0 at *
      simp [e_tdy, e_even, e1]
    | true =>
      rw [if_pos rfl]
      have hk : p.1.idxOf b < n := by rw [← hp.l1]; exact List.idxOf_lt_length_of_mem hb
      have e5 : ∀ q m q' n', kIndex ⟨q, m, .lst (dints p.1)⟩ [⟨q', n', .int b⟩] = some (vi (p.1.idxOf b : Nat)) := fun q m q' n' => e_indexZ hb
      generalize p.1.idxOf b = k at *
      obtain ⟨q, hq, hq2⟩ : ∃ q, R.getD k [] = q ∧ R[k]? = some q := ⟨R[k]'(by rw [hR.len]; exact hk), by rw [List.getD_eq_getElem?_getD, List.getElem?_eq_getElem (by rw [hR.len]; exact hk)]; rfl, List.getElem?_eq_getElem _⟩
      have hqp : Pm n q := hR.pm q (List.mem_of_getElem? hq2)
      have a1 : atD (R.map dn) (k : Int) = some (.lst (dnat q)) := by
        rw [at_nat (by rw [List.length_map, hR.len]; exact hk), ← List.getElem?_eq_getElem, List.getElem?_map, hq2]
        rfl
      have m1 := moved_eqZ (m := 0) (m' := 0) (L := p.1) hqp hp.l1
      rw [hq]
      unfold eF
      rw [List.map_append]
      have dp : ([(mv q p.1, p.2)] : List Pr).map dPr = [.tup [.lst (dints (mv q p.1)), .lst (dints p.2)]] := rfl
      rw [dp]
      generalize dints (mv q p.1) = w1 at *
      generalize dints p.1 = w2 at *
      generalize dints p.2 = w3 at *
      generalize F.map dPr = Fd at *
      generalize P.map dPr = Pd at *
      generalize R.map dn = Rd at *
      unfold q_p_fits_behind_1
      generalize w_p_fits_behind_0 = w0 at *
      simp [e_tdy, e_even, e1, e5, isL, a1, m1, kTup, dmode, minM, lim_num, VV.stable, VV.kept, ap]
  · rw [decide_eq_false hb] at e1
    unfold fit1
    rw [if_neg hb]
    cases out with
    | false =>
      rw [if_pos rfl]
      have c1 : cutD (dints p.1) (some 1) none = dints (p.1.drop 1) := by
        have := cut_from (l := dints p.1) (t := 1)
        rw [di_drop] at this
        exact this
      have t1 := e_star2 (a := (slc (fz 1 [6] (v 6)) (some (cst (vi 1))) none)) (x := fz 0 [2] (v 2)) (ρ := eF R P b new false F (some (0, .lst (dints p.1))) (some (0, .lst (dints p.2))) none none) (A := p.1.drop 1) (b := b) (q := false) (m := 0)
        (by unfold eF; simp [kSl, VV.open, c1]) (by unfold eF; simp) (by have := hp.l1; simp; omega)
      unfold eF at *
      rw [List.map_append]
      have dp : ([(p.1.drop 1 ++ [b], p.2)] : List Pr).map dPr = [.tup [.lst (dints (p.1.drop 1 ++ [b])), .lst (dints p.2)]] := rfl
      rw [dp]
      generalize dints (p.1.drop 1 ++ [b]) = w1 at *
      generalize dints p.1 = w2 at *
      generalize dints p.2 = w3 at *
      generalize F.map dPr = Fd at *
      generalize P.map dPr = Pd at *
      generalize R.map dn = Rd at *
      unfold q_p_fits_behind_1
      generalize w_p_fits_behind_0 = w0 at *
      generalize (argsk (argS (slc (fz 1 [6] (v 6)) (some (cst (vi 1))) none) (argC (fz 0 [2] (v 2)) argN)) kLst) = g1 at *
      simp [e_tdy, e_even, e1, t1, kTup, dmode, minM, lim_num, VV.stable, VV.kept, ap]
    | true =>
      rw [if_neg (by decide)]
      cases new with
      | false =>
        rw [if_neg (by decide), List.append_nil]
        unfold eF
        generalize F.map dPr = Fd at *
        generalize P.map dPr = Pd at *
        generalize R.map dn = Rd at *
        unfold q_p_fits_behind_1
        generalize w_p_fits_behind_0 = w0 at *
        simp [e_tdy, e_even, e1]
      | true =>
        rw [if_pos rfl]
        have hl := known_loop (P := P) (b := b) (new := true) (out := true) (p := p) hR hn hp hF (fors (itN kE (args [(fz 0 [6] (v 6))])) (gtup [(gname 8), (gname 9)]) q_p_fits_behind_0)
        have hl' : w_p_fits_behind_0 (eF R P b true true F (some (0, .lst (dints p.1))) (some (0, .lst (dints p.2))) none none) = .nx (eF R P b true true (F ++ (List.range p.1.length).flatMap (fitK R b p)) (some (0, .lst (dints p.1))) (some (0, .lst (dints p.2))) none none) := by
          unfold w_p_fits_behind_0
          rw [e_pre]
          exact hl
        unfold eF at *
        generalize (F ++ (List.range p.1.length).flatMap (fitK R b p)).map dPr = F2 at *
        generalize F.map dPr = Fd at *
        generalize P.map dPr = Pd at *
        generalize R.map dn = Rd at *
        unfold q_p_fits_behind_1
        generalize w_p_fits_behind_0 = w0 at *
        simp [e_tdy, e_even, e1, hl']
def fits (R : List (List Nat)) (b : Int) (new out : Bool) (P : List Pr) : List Pr := P.flatMap (fit1 R b new out)
theorem flat_len {f : Pr → List Pr} {m : Nat} : ∀ (P : List Pr), (∀ p ∈ P, (f p).length ≤ m) → (P.flatMap f).length ≤ P.length * m
  | [], _ => by simp
  | p :: P, h => by
    rw [List.flatMap_cons, List.length_append, List.length_cons]
    have h1 := h p (List.mem_cons_self ..)
    have h2 := flat_len P fun q hq => h q (List.mem_cons_of_mem _ hq)
    rw [Nat.add_mul]
    omega
theorem fits_eq {m1 : Nat} (hR : IsRule n R) (hn : n ≤ 12) (h0 : 1 ≤ n) (hP : ∀ p ∈ P, RowOk n p) (hl : P.length ≤ 60000) :
    m_p_fits_behind [(0, .lst (R.map dn)), (m1, .lst (P.map dPr)), (0, .int b), (0, .bl new), (0, .bl out)] =
    .ok (1, .lst ((fits R b new out P).map dPr)) [some (0, .lst (R.map dn)), some (0, .lst (P.map dPr)), some (0, .int b), some (0, .bl new), some (0, .bl out)] := by
  have h := forsV_eq' (i := 1) (w := wOne) (g := gtup [(gname 6), (gname 7)]) (b := q_p_fits_behind_1) (it := it1 kL (fz 0 [1] (v 1))) (ds := P.map dPr) (m0 := 0) (fun k => eF R P b new out (fits R b new out (P.take k)) none none none none)
    (fun k => rfl) (by
      unfold eF
      simp [wOne]
      exact (List.map_snd_zip (by simp)).symm) fun k d hd => by
      rw [List.getElem?_map, Option.map_eq_some_iff] at hd
      obtain ⟨p, hp1, rfl⟩ := hd
      have hp := hP p (List.mem_of_getElem? hp1)
      have hf : (fits R b new out (P.take k)).length ≤ 60000 * 12 := by
        unfold fits
        have := flat_len (m := 12) (P.take k) (f := fit1 R b new out) fun q hq => by
          have := fit1_len (R := R) (b := b) (new := new) (out := out) (hP q (List.mem_of_mem_take hq)) h0
          omega
        rw [List.length_take] at this
        omega
      have t := fit_turn (P := P) (b := b) (new := new) (out := out) (F := fits R b new out (P.take k)) hR hn h0 hp (by omega)
      have e2 : fits R b new out (P.take (k + 1)) = fits R b new out (P.take k) ++ fit1 R b new out p := by
        unfold fits
        rw [List.take_succ, hp1, List.flatMap_append]
        simp
      rw [e2, ← t]
      unfold eF
      obtain ⟨f1, f2⟩ := p
      unfold dPr
      simp [wOne, gtup, gall]
  rw [List.length_map, List.take_zero, List.take_length] at h
  have e0 : fits R b new out [] = [] := rfl
  rw [e0] at h
  have hw : w_p_fits_behind_1 (eF R P b new out [] none none none none) = .nx (eF R P b new out (fits R b new out P) none none none none) := by
    unfold w_p_fits_behind_1
    rw [e_pre]
    exact h
  unfold eF at hw
  rw [List.map_nil] at hw
  unfold m_p_fits_behind fnM
  rw [b_p_fits_behind_eq]
  generalize w_p_fits_behind_1 = w1 at *
  generalize (fits R b new out P).map dPr = F2 at *
  generalize P.map dPr = Pd at *
  generalize R.map dn = Rd at *
  have kl : kLst [] = some ⟨false, 1, .lst []⟩ := rfl
  cases m1 <;> simp [e_pre, e_even, kl, hw]
end
end Lw
set_option maxHeartbeats 4000000
namespace Lw
open PySem Vs
/-! what holds of the pairs; how many they are -/
theorem ix_list {l : List Int} {n : Nat} (h : l.length = n) : (List.range n).map (ix l) = l := by
  apply List.ext_getElem
  · rw [List.length_map, List.length_range, h]
  · intro i h1 h2
    rw [List.getElem_map, List.getElem_range, ix_eq h2]
theorem mvZ_perm {n : Nat} {p : List Nat} {L : List Int} (hp : Pm n p) (hx : L.length = n) : (mv p L).Perm L := by
  have e : mv p L = (inv p).map (ix L) := by
    rw [← mv_range hp, mv_map, ix_list hx]
  rw [e]
  refine (List.Perm.map (ix L) hp.inv).trans ?_
  rw [ix_list hx]
structure Ok (n : Nat) (S : List Nat) (p : Pr) : Prop where
  row : RowOk n p
  nd : p.1.Nodup
  kn : ∀ x ∈ p.1, 0 ≤ x → ∃ t ∈ S, x = (t : Int)
  un : ∀ j : Nat, -1 - (j : Int) ∈ p.1 → ix p.2 j = -1
  lo2 : ∀ x ∈ p.2, -1 ≤ x
def FillsZ (n : Nat) (now old : List Int) : Prop := ∀ i, i < n → ix old i ≠ -1 → ix now i = ix old i
theorem set_perm1 {l : List Int} {k : Nat} {b : Int} (h : k < l.length) : (l.set k b).Perm (b :: l.eraseIdx k) := by
  rw [List.set_eq_take_append_cons_drop, if_pos h, List.eraseIdx_eq_take_drop_succ]
  exact List.perm_middle
theorem erase_perm1 {l : List Int} {k : Nat} (h : k < l.length) : (ix l k :: l.eraseIdx k).Perm l := by
  have e : l.set k (ix l k) = l := by rw [ix_eq h]; exact List.set_getElem_self h
  have := set_perm1 (b := ix l k) h
  rw [e] at this
  exact this.symm
theorem ix_set {l : List Int} {j i : Nat} {b : Int} (h : i ≠ j) : ix (l.set j b) i = ix l i := by
  unfold ix
  rw [List.getD_eq_getElem?_getD, List.getElem?_set_ne (by omega), List.getD_eq_getElem?_getD]
theorem getD_mem {R : List (List Nat)} {n k : Nat} (hR : IsRule n R) (hk : k < n) : Pm n (R.getD k []) := by
  rw [List.getD_eq_getElem?_getD, List.getElem?_eq_getElem (by rw [hR.len]; exact hk)]
  exact hR.pm _ (List.getElem_mem _)
section
variable {n : Nat} {R : List (List Nat)} {t : Nat} {new out : Bool} {P : List Pr} {p q : Pr} {S : List Nat}
theorem fit1_ok (h1n : 1 ≤ n) (hR : IsRule n R) (h : Ok n S p) (hq : q ∈ fit1 R (t : Int) new out p) : Ok n (S ++ [t]) q ∧ FillsZ n q.2 p.2 := by
  obtain ⟨⟨l1, l2, lo⟩, nd, kn, un, lo2⟩ := h
  unfold fit1 at hq
  split at hq
  · rename_i hb
    split at hq
    · obtain rfl := List.mem_singleton.mp hq
      have hk : p.1.idxOf (t : Int) < n := by rw [← l1]; exact List.idxOf_lt_length_of_mem hb
      have pm := mvZ_perm (L := p.1) (getD_mem hR hk) l1
      refine ⟨⟨⟨by rw [mv_len]; exact l1, l2, fun x hx => lo x (pm.mem_iff.mp hx)⟩, pm.nodup_iff.mpr nd, fun x hx h0 => ?_, fun j hj => un j (pm.mem_iff.mp hj), lo2⟩, fun i _ _ => rfl⟩
      obtain ⟨s, hs, e⟩ := kn x (pm.mem_iff.mp hx) h0
      exact ⟨s, List.mem_append_left _ hs, e⟩
    · cases hq
  · rename_i hb
    split at hq
    · obtain rfl := List.mem_singleton.mp hq
      have hm : ∀ x ∈ p.1.drop 1 ++ [(t : Int)], x ∈ p.1 ∨ x = (t : Int) := fun x hx => by
        rcases List.mem_append.mp hx with h | h
        · exact .inl (List.mem_of_mem_drop h)
        · exact .inr (List.mem_singleton.mp h)
      · refine ⟨⟨⟨by simp [l1]; omega, l2, fun x hx => ?_⟩, ?_, fun x hx h0 => ?_, fun j hj => ?_, lo2⟩, fun i _ _ => rfl⟩
        · rcases hm x hx with h | rfl
          · exact lo x h
          · omega
        · refine List.nodup_append.mpr ⟨(List.drop_sublist 1 p.1).nodup nd, by simp, ?_⟩
          intro a ha b hb2 e
          rw [List.mem_singleton.mp hb2] at e
          subst e
          exact hb (List.mem_of_mem_drop ha)
        · rcases hm x hx with h | rfl
          · obtain ⟨s, hs, e⟩ := kn x h h0
            exact ⟨s, List.mem_append_left _ hs, e⟩
          · exact ⟨t, by simp, rfl⟩
        · rcases hm _ hj with h | e
          · exact un j h
          · omega
    · split at hq
      · obtain ⟨k, hk, hq⟩ := List.mem_flatMap.mp hq
        rw [List.mem_range] at hk
        unfold fitK at hq
        split at hq
        · rename_i c
          obtain rfl := List.mem_singleton.mp hq
          have hxm : ix p.1 k ∈ p.1 := by rw [ix_eq hk]; exact List.getElem_mem _
          have hlo := lo _ hxm
          obtain ⟨j, hj⟩ : ∃ j : Nat, ix p.1 k = -1 - (j : Int) := ⟨(-1 - ix p.1 k).toNat, by omega⟩
          rw [show (-1 - ix p.1 k).toNat = j by omega]
          have ep := erase_perm1 hk
          have sp := set_perm1 (b := (t : Int)) hk
          have end_ : (ix p.1 k :: p.1.eraseIdx k).Nodup := ep.nodup_iff.mpr nd
          have hes : ∀ x ∈ p.1.eraseIdx k, x ∈ p.1 := fun x hx => List.mem_of_mem_eraseIdx hx
          have pm := (mvZ_perm (L := p.1.set k (t : Int)) (getD_mem hR (k := k) (by omega)) (by rw [List.length_set]; exact l1)).trans sp
          have hm : ∀ x ∈ mv (R.getD k []) (p.1.set k (t : Int)), x = (t : Int) ∨ x ∈ p.1.eraseIdx k := fun x hx => List.mem_cons.mp (pm.mem_iff.mp hx)
          have h2j := un j (hj ▸ hxm)
          refine ⟨⟨⟨by rw [mv_len, List.length_set]; exact l1, by rw [List.length_set]; exact l2, fun x hx => ?_⟩, ?_, fun x hx h0 => ?_, fun i hi => ?_, fun x hx => ?_⟩, fun i hi h => ?_⟩
          · rcases hm x hx with rfl | h
            · omega
            · exact lo x (hes x h)
          · refine pm.nodup_iff.mpr (List.nodup_cons.mpr ⟨fun h => hb (hes _ h), (List.nodup_cons.mp end_).2⟩)
          · rcases hm x hx with rfl | h
            · exact ⟨t, by simp, rfl⟩
            · obtain ⟨s, hs, e⟩ := kn x (hes x h) h0
              exact ⟨s, List.mem_append_left _ hs, e⟩
          · rcases hm _ hi with e | h
            · omega
            · have hne : i ≠ j := fun e => by
                subst e
                rw [← hj] at h
                exact (List.nodup_cons.mp end_).1 h
              rw [ix_set hne]
              exact un i (hes _ h)
          · rcases List.mem_or_eq_of_mem_set hx with h | rfl
            · exact lo2 x h
            · omega
          · by_cases e : i = j
            · subst e; exact absurd h2j h
            · exact ix_set e
        · cases hq
      · cases hq
def uN (p : Pr) : Nat := p.1.countP (fun x => decide (x < 0))
def fc : Nat → Nat
  | 0 => 1
  | k + 1 => (k + 1) * fc k
theorem fc_pos : ∀ k, 1 ≤ fc k
  | 0 => Nat.le_refl 1
  | k + 1 => by unfold fc; exact Nat.mul_le_mul (show 1 ≤ k + 1 by omega) (fc_pos k)
theorem fc_mono : ∀ {j k : Nat}, j ≤ k → fc j ≤ fc k
  | j, 0, h => by rw [show j = 0 by omega]; exact Nat.le_refl _
  | j, k + 1, h => by
    by_cases e : j = k + 1
    · rw [e]; exact Nat.le_refl _
    · show fc j ≤ (k + 1) * fc k
      have := Nat.mul_le_mul (show 1 ≤ k + 1 by omega) (fc_mono (j := j) (k := k) (by omega))
      omega
def wt (P : List Pr) : Nat := (P.map fun p => fc (uN p)).sum
theorem wt_app (P Q : List Pr) : wt (P ++ Q) = wt P + wt Q := by unfold wt; rw [List.map_append, List.sum_append]
theorem wt_flat {α : Type} {f : α → List Pr} {g : α → Nat} : ∀ (l : List α), (∀ a ∈ l, wt (f a) ≤ g a) → wt (l.flatMap f) ≤ (l.map g).sum
  | [], _ => Nat.le_refl 0
  | a :: l, h => by
    rw [List.flatMap_cons, wt_app, List.map_cons, List.sum_cons]
    exact Nat.add_le_add (h a (List.mem_cons_self ..)) (wt_flat l fun b hb => h b (List.mem_cons_of_mem _ hb))
theorem wt_len : ∀ P : List Pr, P.length ≤ wt P
  | [] => Nat.le_refl 0
  | p :: P => by
    have := wt_len P
    have := fc_pos (uN p)
    unfold wt at *
    rw [List.map_cons, List.sum_cons, List.length_cons]
    omega
theorem sum_neg (c : Nat) : ∀ l : List Int, (l.map fun x => if x < 0 then c else 0).sum = l.countP (fun x => decide (x < 0)) * c
  | [] => by simp
  | x :: l => by
    rw [List.map_cons, List.sum_cons, sum_neg c l, List.countP_cons]
    by_cases h : x < 0
    · rw [if_pos h, if_pos (decide_eq_true h), Nat.add_mul]; omega
    · rw [if_neg h, if_neg (by simpa using h), Nat.add_zero, Nat.zero_add]
theorem fit1_wt (hR : IsRule n R) (h : Ok n S p) : wt (fit1 R (t : Int) new out p) ≤ fc (uN p) := by
  have l1 := h.row.l1
  have one : ∀ q, wt [q] = fc (uN q) := fun q => by unfold wt; simp
  unfold fit1
  split
  · rename_i hb
    split
    · have hk : p.1.idxOf (t : Int) < n := by rw [← l1]; exact List.idxOf_lt_length_of_mem hb
      have pm := mvZ_perm (L := p.1) (getD_mem hR hk) l1
      rw [one]
      refine fc_mono (Nat.le_of_eq ?_)
      exact pm.countP_eq _
    · exact Nat.zero_le _
  · rename_i hb
    split
    · rw [one]
      refine fc_mono ?_
      unfold uN
      rw [List.countP_append, List.countP_singleton, if_neg (by simp), Nat.add_zero]
      exact (List.drop_sublist 1 p.1).countP_le
    · split
      · refine Nat.le_trans (wt_flat (g := fun k => if ix p.1 k < 0 then fc (uN p - 1) else 0) _ fun k hk => ?_) ?_
        · rw [List.mem_range] at hk
          unfold fitK
          by_cases c : ix p.1 k < 0
          · rw [if_pos c, if_pos c, one]
            refine fc_mono ?_
            have pm := (mvZ_perm (L := p.1.set k (t : Int)) (getD_mem hR (k := k) (by omega)) (by rw [List.length_set]; exact l1)).trans (set_perm1 hk)
            have e1 := pm.countP_eq (fun x => decide (x < 0))
            have e2 := (erase_perm1 hk).countP_eq (fun x => decide (x < 0))
            rw [List.countP_cons] at e1 e2
            rw [if_neg (by simp)] at e1
            rw [if_pos (decide_eq_true c)] at e2
            unfold uN
            show List.countP _ (mv (R.getD k []) (p.1.set k (t : Int))) ≤ _
            omega
          · rw [if_neg c, if_neg c]
            exact Nat.le_refl 0
        · have e : (List.range p.1.length).map (fun k => if ix p.1 k < 0 then fc (uN p - 1) else 0) = p.1.map fun x => if x < 0 then fc (uN p - 1) else 0 := by
            have := congrArg (List.map fun x : Int => if x < 0 then fc (uN p - 1) else 0) (ix_list (l := p.1) rfl)
            rw [List.map_map] at this
            exact this
          rw [e, sum_neg]
          show uN p * fc (uN p - 1) ≤ _
          cases hu : uN p with
          | zero => simp
          | succ k => exact Nat.le_refl _
      · exact Nat.zero_le _
theorem fits_ok (h1n : 1 ≤ n) (hR : IsRule n R) (h : ∀ p ∈ P, Ok n S p) (hq : q ∈ fits R (t : Int) new out P) : Ok n (S ++ [t]) q ∧ ∃ p ∈ P, FillsZ n q.2 p.2 := by
  obtain ⟨p, hp, hq⟩ := List.mem_flatMap.mp hq
  exact ⟨(fit1_ok h1n hR (h p hp) hq).1, p, hp, (fit1_ok h1n hR (h p hp) hq).2⟩
theorem fits_wt (hR : IsRule n R) (h : ∀ p ∈ P, Ok n S p) : wt (fits R (t : Int) new out P) ≤ wt P :=
  wt_flat (g := fun p => fc (uN p)) P fun p hp => fit1_wt hR (h p hp)
end
end Lw
set_option maxHeartbeats 4000000
namespace Lw
open PySem Vs
/-! a record is checked; the pairs behind a stream -/
def dbl (O : List Bool) : List D := O.map D.bl
theorem dbl_len (O : List Bool) : (dbl O).length = O.length := List.length_map ..
def ob (O : List Bool) (k : Nat) : Bool := O.getD k false
theorem ob_eq {O : List Bool} {k : Nat} (h : k < O.length) : ob O k = O[k] := by
  unfold ob
  rw [List.getD_eq_getElem?_getD, List.getElem?_eq_getElem h, Option.getD_some]
theorem at_bl {O : List Bool} {k : Nat} (h : k < O.length) : atD (dbl O) (k : Int) = some (.bl (ob O k)) := by
  rw [at_nat (by rw [dbl_len]; exact h), ob_eq h]
  simp [dbl]
theorem outcomes_eq {m m1 : Nat} {S : List Nat} {O : List Bool} (hl : O.length = S.length) (hb : S.length ≤ 1000) :
    m_p_check_outcomes [(m, .lst (dnat S)), (m1, .lst (dbl O))] = .ok (0, .non) [some (0, .lst (dnat S)), some (0, .lst (dbl O))] := by
  have e1 := compL_map (own := [2]) (g := gname 2) (e := one (v 2) (kIsi .bool)) (f := fun b => D.bl b) (k := fun _ => vb true) O [some (0, .lst (dnat S)), some (0, .lst (dbl O)), none] [] fun d hd => ⟨[some (0, .lst (dnat S)), some (0, .lst (dbl O)), some (0, .bl d)], by simp, by simp [kIsi], rfl⟩
  rw [List.nil_append] at e1
  have e2 : kLst (O.map fun _ => vb true) = some ⟨false, 1, .lst (O.map fun _ => .bl true)⟩ := by
    rw [kLst_imm (fun x hx => by obtain ⟨d, _, rfl⟩ := List.mem_map.mp hx; rfl) (by rw [List.length_map, lim_num]; omega), List.map_map]
    rfl
  have e3 : VV.plain ⟨false, 1, .lst (O.map fun _ => D.bl true)⟩ = true := by
    unfold VV.plain
    simp
  have e4 : kAll [⟨false, 1, .lst (O.map fun _ => .bl true)⟩] = some (vb true) := by
    have := blsOf_map (f := fun _ : Bool => true) O
    unfold kAll
    show (blsOf (O.map fun _ => .bl true)).map _ = _
    rw [this]
    simp
  have hl' : (dbl O).length = (dnat S).length := by rw [dbl_len, dnat_length, hl]
  have e5 : O.map (fun b => D.bl b) = dbl O := rfl
  rw [e5] at e1
  generalize (O.map fun _ => D.bl true) = w at *
  generalize (O.map fun _ => vb true) = w2 at *
  generalize dbl O = Od at *
  generalize dnat S = Sd at *
  unfold m_p_check_outcomes fnM b_p_check_outcomes
  cases m <;> cases m1 <;> simp [e_pre, e_even, hl', e1, e2, e3, e4, kIsi]
/-- a record is right -/
structure Rec (n : Nat) (R : List (List Nat)) (S : List Nat) (O : List Bool) : Prop where
  hR : IsRule n R
  h2 : 2 ≤ n
  hn : n ≤ 12
  hb : ∀ t ∈ S, t ≤ 1000000000
  hl : O.length = S.length
  h1000 : S.length ≤ 1000
theorem record_eq {m m1 m2 n : Nat} {R : List (List Nat)} {S : List Nat} {O : List Bool} (h : Rec n R S O) :
    m_p_check_record [(m, .lst (R.map dn)), (m1, .lst (dnat S)), (m2, .lst (dbl O))] = .ok (0, .non) [some (0, .lst (R.map dn)), some (0, .lst (dnat S)), some (0, .lst (dbl O))] := by
  have c1 := check_rule_eq (m := 0) h.hR.len h.hR.pm h.h2 h.hn
  have c2 := check_stream_eq (m := 0) h.hb
  have c3 := outcomes_eq (m := 0) (m1 := 0) h.hl h.h1000
  generalize R.map dn = Rd at *
  generalize dbl O = Od at *
  generalize dnat S = Sd at *
  unfold m_p_check_record fnM b_p_check_record
  cases m <;> cases m1 <;> cases m2 <;> simp [e_pre, e_even, c1, c2, c3]
def start (n : Nat) : Pr := ((List.range n).map fun (k : Nat) => -1 - (k : Int), List.replicate n (-1))
def pairsK (R : List (List Nat)) (n : Nat) (S : List Nat) (O : List Bool) : Nat → List Pr
  | 0 => [start n]
  | k + 1 => fits R (nth S k : Int) (!decide (nth S k ∈ S.take k)) (ob O k) (pairsK R n S O k)
theorem ix_rep {n i : Nat} (h : i < n) : ix (List.replicate n (-1)) i = -1 := by
  rw [ix_eq (by simpa using h), List.getElem_replicate]
theorem start_ok (n : Nat) : Ok n [] (start n) := by
  unfold start
  refine ⟨⟨by simp, by simp, fun x hx => ?_⟩, ?_, fun x hx h0 => ?_, fun j hj => ?_, fun x hx => ?_⟩
  · obtain ⟨k, hk, rfl⟩ := List.mem_map.mp hx
    rw [List.mem_range] at hk
    omega
  · refine List.Pairwise.map _ (R := fun a b => a ≠ b) (fun a b h => ?_) List.nodup_range
    omega
  · obtain ⟨k, hk, rfl⟩ := List.mem_map.mp hx
    omega
  · obtain ⟨k, hk, e⟩ := List.mem_map.mp hj
    rw [List.mem_range] at hk
    exact ix_rep (by omega)
  · rw [List.eq_of_mem_replicate hx]
    omega
section
variable {n : Nat} {R : List (List Nat)} {S : List Nat} {O : List Bool}
theorem take_nth {S : List Nat} {k : Nat} (hk : k < S.length) : S.take (k + 1) = S.take k ++ [nth S k] := by
  rw [nth_eq hk]; exact List.take_succ_eq_append_getElem hk
theorem pairs_ok (h1 : 1 ≤ n) (hR : IsRule n R) : ∀ k, k ≤ S.length → ∀ p ∈ pairsK R n S O k, Ok n (S.take k) p
  | 0, _, p, hp => by
    rw [List.mem_singleton.mp hp]
    exact start_ok n
  | k + 1, hk, p, hp => by
    rw [take_nth (by omega)]
    exact (fits_ok h1 hR (pairs_ok h1 hR k (by omega)) hp).1
theorem pairs_eq {m m1 m2 : Nat} (h : Rec n R S O) (hb : ∀ k ≤ S.length, (pairsK R n S O k).length ≤ 5000) :
    ∃ m', m_p_pairs_behind [(m, .lst (R.map dn)), (m1, .lst (dnat S)), (m2, .lst (dbl O))] = .ok (m', .lst ((pairsK R n S O S.length).map dPr)) [some (0, .lst (R.map dn)), some (0, .lst (dnat S)), some (0, .lst (dbl O))] := by
  have hrl := h.hR.len
  have hn := h.hn
  have h2 := h.h2
  refine ⟨if S.length = 0 then 3 else 1, ?_⟩
  have loop := forsV_eq (i := 1) (w := wEnum) (g := gtup [(gname 5), (gname 6)]) (b := q_p_pairs_behind_0) (o := (fors (itN kE (args [(fz 0 [1] (v 1))])) (gtup [(gname 5), (gname 6)]) q_p_pairs_behind_0)) (ds := dnat S) (m0 := 0)
    (fun k => [some (0, .lst (R.map dn)), some (0, .lst (dnat S)), some (0, .lst (dbl O)), some (0, .int (n : Int)), some (if k = 0 then 3 else 1, .lst ((pairsK R n S O k).map dPr)), none, none, none]) (dnat_all S) (fun k => rfl) fun k d hd => by
      obtain ⟨hk, rfl⟩ := dnat_at hd
      have f := fits_eq (P := pairsK R n S O k) (R := R) (b := (nth S k : Int)) (new := !decide (nth S k ∈ S.take k)) (out := ob O k) (m1 := if k = 0 then 3 else 1) h.hR hn (by omega) (fun p hp => (pairs_ok (by omega) h.hR k (by omega) p hp).row) (by have := hb k (by omega); omega)
      have a1 := at_bl (O := O) (k := k) (by rw [h.hl]; exact hk)
      have c1 : cutD (dnat S) none (some (k : Int)) = dnat (S.take k) := by rw [cut_to, dnat_take]
      have e1 : ∀ x q m m', kNotIn ⟨x, m, .int (nth S k : Int)⟩ ⟨q, m', .lst (dnat (S.take k))⟩ = some (vb (!decide (nth S k ∈ S.take k))) := fun _ _ _ _ => e_notin
      have hlen := hb (k + 1) (by omega)
      have c5 : ¬ 5000 < (((fits R (nth S k : Int) (!decide (nth S k ∈ S.take k)) (ob O k) (pairsK R n S O k)).map dPr).length : Int) := by
        rw [List.length_map]
        show ¬ 5000 < ((pairsK R n S O (k + 1)).length : Int)
        omega
      rw [if_neg (show ¬ k + 1 = 0 by omega)]
      show _ = Fl.nx [some (0, .lst (R.map dn)), some (0, .lst (dnat S)), some (0, .lst (dbl O)), some (0, .int (n : Int)), some (1, .lst ((fits R (nth S k : Int) (!decide (nth S k ∈ S.take k)) (ob O k) (pairsK R n S O k)).map dPr)), none, none, none]
      generalize (if k = 0 then 3 else 1 : Nat) = mm at *
      generalize (!decide (nth S k ∈ S.take k)) = nw at *
      generalize dnat (S.take k) = Sk at *
      generalize dnat S = Sd at *
      generalize dbl O = Od at *
      generalize R.map dn = Rd at *
      generalize nth S k = t at *
      generalize (fits R (t : Int) nw (ob O k) (pairsK R n S O k)).map dPr = F2 at *
      generalize (pairsK R n S O k).map dPr = F1 at *
      generalize ob O k = oo at *
      unfold q_p_pairs_behind_0
      cases mm <;> simp [e_tdy, e_even, wEnum, gtup, gall, e_sl, c1, e1, a1, f, c5]
  rw [dnat_length] at loop
  rw [if_pos rfl] at loop
  have cm := compL_map (own := [7]) (g := gname 7) (e := two (one (cst (vi 1)) kNeg) (v 7) kSub) (f := fun (i : Nat) => D.int (i : Int)) (k := fun (i : Nat) => vi (-1 - (i : Int))) (List.range n) [some (0, .lst (R.map dn)), some (0, .lst (dnat S)), some (0, .lst (dbl O)), some (0, .int (n : Int)), none, none, none, none] [] fun i hi => ⟨[some (0, .lst (R.map dn)), some (0, .lst (dnat S)), some (0, .lst (dbl O)), some (0, .int (n : Int)), none, none, none, some (0, .int (i : Int))], by simp, by simp, rfl⟩
  rw [List.nil_append] at cm
  have kl : kLst ((List.range n).map fun (i : Nat) => vi (-1 - (i : Int))) = some ⟨false, 1, .lst (dints (start n).1)⟩ := by
    rw [kLst_imm (fun x hx => by obtain ⟨d, _, rfl⟩ := List.mem_map.mp hx; rfl) (by rw [List.length_map, List.length_range, lim_num]; omega), List.map_map]
    unfold start dints
    rw [List.map_map]
    rfl
  have rg : ∀ b k, kR1 [⟨b, k, .int (n : Int)⟩] = some ((List.range n).map fun (i : Nat) => D.int (i : Int)) := fun b k => by
    rw [e_range1 (by omega) (by omega)]
    congr 1
    exact (rng_dnat n)
  have er : ∀ m p k, kMul ⟨false, m + 1, .lst [.int (-1)]⟩ ⟨p, k, .int (n : Int)⟩ = some ⟨false, 1, .lst (dints (start n).2)⟩ := fun m p k => by
    rw [e_rep (by omega)]
    unfold start dints
    rw [List.map_replicate]
  have p0 : (pairsK R n S O 0).map dPr = [.tup [.lst (dints (start n).1), .lst (dints (start n).2)]] := rfl
  rw [p0] at loop
  have hlr : (R.map dn).length = n := by rw [List.length_map, hrl]
  have t2 : t_p_pairs_behind_2 [some (0, .lst (R.map dn)), some (0, .lst (dnat S)), some (0, .lst (dbl O)), some (0, .int (n : Int)), some (3, .lst [.tup [.lst (dints (start n).1), .lst (dints (start n).2)]]), none, none, none] = .nx [some (0, .lst (R.map dn)), some (0, .lst (dnat S)), some (0, .lst (dbl O)), some (0, .int (n : Int)), some (if S.length = 0 then 3 else 1, .lst ((pairsK R n S O S.length).map dPr)), none, none, none] := by
    unfold t_p_pairs_behind_2 w_p_pairs_behind_0
    rw [e_pre]
    exact loop
  clear loop
  generalize (if S.length = 0 then 3 else 1 : Nat) = mm at *
  generalize (pairsK R n S O S.length).map dPr = F2 at *
  generalize dints (start n).1 = z1 at *
  generalize dints (start n).2 = z2 at *
  generalize ((List.range n).map fun (i : Nat) => vi (-1 - (i : Int))) = z3 at *
  generalize ((List.range n).map fun (i : Nat) => D.int (i : Int)) = z4 at *
  generalize dnat S = Sd at *
  generalize dbl O = Od at *
  generalize R.map dn = Rd at *
  have ks : ∀ q m, kLst [⟨q, m, .int (-1)⟩] = some ⟨false, 1, .lst [.int (-1)]⟩ := fun q m => kLst_imm (xs := [⟨q, m, .int (-1)⟩]) (fun x hx => by rw [List.mem_singleton.mp hx]; rfl) (by simp [lim_num])
  have kt : ∀ X, kLst [⟨false, 2, .tup X⟩] = some ⟨false, 3, .lst [.tup X]⟩ := fun X => kLst_own (n := 2) (xs := [⟨false, 2, .tup X⟩]) (by simp) (fun x hx => by rw [List.mem_singleton.mp hx]; exact ⟨rfl, rfl, rfl⟩) (by simp [lim_num])
  unfold m_p_pairs_behind fnM
  rw [b_p_pairs_behind_eq]
  generalize t_p_pairs_behind_2 = T2 at *
  unfold t_p_pairs_behind_0 t_p_pairs_behind_1 t_p_pairs_behind_3
  cases m <;> cases m1 <;> cases m2 <;> simp [e_pre, e_even, hlr, rg, cm, kl, ks, kt, er, kTup, dmode, minM, lim_num, VV.stable, VV.kept, t2]
theorem pairs_wt (h1 : 1 ≤ n) (hR : IsRule n R) : ∀ k, k ≤ S.length → wt (pairsK R n S O k) ≤ fc n
  | 0, _ => by
    show wt [start n] ≤ _
    have e : wt [start n] = fc (uN (start n)) := by unfold wt; simp
    rw [e]
    refine fc_mono ?_
    unfold uN start
    exact Nat.le_trans List.countP_le_length (by simp)
  | k + 1, hk => Nat.le_trans (fits_wt hR (pairs_ok h1 hR k (by omega))) (pairs_wt h1 hR k (by omega))
theorem pairs_few (h1 : 1 ≤ n) (h5 : n ≤ 5) (hR : IsRule n R) : ∀ k ≤ S.length, (pairsK R n S O k).length ≤ 5000 := fun k hk => by
  have := wt_len (pairsK R n S O k)
  have := pairs_wt (S := S) (O := O) h1 hR k hk
  have := fc_mono h5
  have : fc 5 = 120 := rfl
  omega
end
end Lw
set_option maxHeartbeats 4000000
namespace Lw
open PySem Vs
/-! rows with None, ascending and different -/
def nrm (r : List Int) : List Int := r.map fun x => if x > -1 then x else -1
def put1 (a : List (List Int)) (k : List Int) : List (List Int) := if k ∈ a then a else a ++ [k]
def uniq (ks : List (List Int)) : List (List Int) := ks.foldl put1 []
def withF (rows : List (List Int)) : List (List Int) := (uniq (rows.map nrm)).mergeSort fun p q => decide (p ≤ q)
def oD (x : Int) : D := if x < 0 then .non else .int x
def dRow (r : List Int) : D := .lst (r.map oD)
def dzs (rows : List (List Int)) : List D := rows.map fun r => .lst (dints r)
theorem sameZ_all : ∀ {a b : List Int}, sameAll (dints a) (dints b) = decide (a = b)
  | [], [] => rfl
  | [], _ :: _ => rfl
  | _ :: _, [] => rfl
  | x :: a, y :: b => by
    show (D.same (.int x) (.int y) && sameAll (dints a) (dints b)) = _
    rw [sameZ_all]
    show (decide (x = y) && decide (a = b)) = _
    by_cases c : x = y
    · subst c
      by_cases c2 : a = b
      · subst c2; simp
      · simp [c2]
    · rw [decide_eq_false c]
      simp [c]
theorem sameZ {a b : List Int} : D.same (.tup (dints a)) (.tup (dints b)) = decide (a = b) := sameZ_all
def kv (ks : List (List Int)) : List (D × D) := ks.map fun k => (.tup (dints k), .bl true)
theorem any_kv {k : List Int} {ks : List (List Int)} : ((kv ks).any fun p => p.1.same (.tup (dints k))) = decide (k ∈ ks) := by
  induction ks with
  | nil => rfl
  | cons c ks ih =>
    show (D.same (.tup (dints c)) (.tup (dints k)) || (kv ks).any _) = _
    rw [ih, sameZ]
    by_cases e : c = k
    · subst e; simp
    · rw [decide_eq_false e, Bool.false_or]
      congr 1
      rw [List.mem_cons]
      exact propext ⟨.inr, fun h => h.resolve_left fun z => e z.symm⟩
theorem put_kv {k : List Int} {ks : List (List Int)} : dPut (kv ks) (.tup (dints k)) (.bl true) = kv (put1 ks k) := by
  unfold dPut put1
  rw [any_kv]
  by_cases h : k ∈ ks
  · rw [decide_eq_true h, if_pos rfl, if_pos h]
    unfold kv
    rw [List.map_map]
    refine List.map_congr_left fun x _ => ?_
    show (if _ then _ else _) = _
    split <;> rfl
  · rw [decide_eq_false h, if_neg (by decide), if_neg h]
    unfold kv
    rw [List.map_append]
    rfl
theorem fold_kv : ∀ (rs : List (List Int)) (a : List (List Int)), rs.foldl (fun a r => dPut a (.tup (dints (nrm r))) (.bl true)) (kv a) = kv ((rs.map nrm).foldl put1 a)
  | [], a => rfl
  | r :: rs, a => by
    rw [List.foldl_cons, put_kv, List.map_cons, List.foldl_cons]
    exact fold_kv rs _
theorem put1_mem {a : List (List Int)} {k x : List Int} : x ∈ put1 a k ↔ x ∈ a ∨ x = k := by
  unfold put1
  split
  · rename_i h
    exact ⟨.inl, fun g => g.elim id fun e => e ▸ h⟩
  · rw [List.mem_append, List.mem_singleton]
theorem fold_mem {x : List Int} : ∀ (ks a : List (List Int)), x ∈ ks.foldl put1 a ↔ x ∈ a ∨ x ∈ ks
  | [], a => by simp
  | k :: ks, a => by
    rw [List.foldl_cons, fold_mem ks, put1_mem, List.mem_cons, or_assoc]
theorem put1_len {a : List (List Int)} {k : List Int} : (put1 a k).length ≤ a.length + 1 := by
  unfold put1
  split
  · omega
  · rw [List.length_append]; exact Nat.le_refl _
theorem fold_len : ∀ (ks a : List (List Int)), (ks.foldl put1 a).length ≤ a.length + ks.length
  | [], a => Nat.le_refl _
  | k :: ks, a => by
    rw [List.foldl_cons, List.length_cons]
    have := fold_len ks (put1 a k)
    have := put1_len (a := a) (k := k)
    omega
theorem with_mem {rows : List (List Int)} {x : List Int} : x ∈ withF rows ↔ ∃ r ∈ rows, nrm r = x := by
  unfold withF uniq
  rw [List.mem_mergeSort, fold_mem]
  simp
theorem with_nil {rows : List (List Int)} : withF rows = [] ↔ rows = [] := by
  constructor
  · intro h
    cases rows with
    | nil => rfl
    | cons r rows =>
      have : nrm r ∈ withF (r :: rows) := with_mem.mpr ⟨r, List.mem_cons_self .., rfl⟩
      rw [h] at this
      cases this
  · rintro rfl
    unfold withF uniq
    simp
/-- rows that are all alike -/
theorem with_same {rows : List (List Int)} {x : List Int} (h0 : rows ≠ []) (h : ∀ r ∈ rows, nrm r = x) : withF rows = [x] := by
  have e : ∀ (ks : List (List Int)), (∀ k ∈ ks, k = x) → ks.foldl put1 [x] = [x] := fun ks => by
    induction ks with
    | nil => intro _; rfl
    | cons k ks ih =>
      intro hk
      rw [List.foldl_cons]
      have : put1 [x] k = [x] := by
        unfold put1
        rw [if_pos (by rw [hk k (List.mem_cons_self ..)]; exact List.mem_singleton.mpr rfl)]
      rw [this]
      exact ih fun y hy => hk y (List.mem_cons_of_mem _ hy)
  cases rows with
  | nil => exact absurd rfl h0
  | cons r rows =>
    unfold withF uniq
    rw [List.map_cons, List.foldl_cons, h r (List.mem_cons_self ..)]
    have : put1 [] x = [x] := rfl
    rw [this, e _ fun k hk => by
      obtain ⟨r', hr', rfl⟩ := List.mem_map.mp hk
      exact h r' (List.mem_cons_of_mem _ hr')]
    exact List.mergeSort_singleton x
theorem nrm_len (r : List Int) : (nrm r).length = r.length := List.length_map ..
section
variable {x0 x1 : Option PV} {r : List Int}
theorem ek_eq (h : r.length ≤ 1000) : (argsk (args [(soft [2] (comp (it1 kL (v 2)) (gname 3) yes (argsk (args [(one (cst (vi 1)) kNeg), (v 3)]) kMax) [3]))]) kTuple) [x0, x1, some (0, .lst (dints r)), none] = .ok ⟨false, 1, .tup (dints (nrm r))⟩ none := by
  have c := compL_map (own := [3]) (g := gname 3) (e := (argsk (args [(one (cst (vi 1)) kNeg), (v 3)]) kMax)) (f := fun x : Int => D.int x) (k := fun x => vi (if x > -1 then x else -1)) r [x0, x1, some (0, .lst (dints r)), none] [] fun x hx => ⟨[x0, x1, some (0, .lst (dints r)), some (0, .int x)], by simp, by simp, rfl⟩
  rw [List.nil_append] at c
  have kl : kLst (r.map fun x => vi (if x > -1 then x else -1)) = some ⟨false, 1, .lst (dints (nrm r))⟩ := by
    rw [kLst_imm (fun x hx => by obtain ⟨d, _, rfl⟩ := List.mem_map.mp hx; rfl) (by rw [List.length_map, lim_num]; omega), List.map_map]
    unfold nrm dints
    rw [List.map_map]
    rfl
  have e : (r.map fun x : Int => D.int x) = dints r := rfl
  rw [e] at c
  generalize dints (nrm r) = w at *
  generalize dints r = rd at *
  generalize (r.map fun x => vi (if x > -1 then x else -1)) = w2 at *
  simp [c, kl, kTuple, VV.open]
theorem back_eq (h : r.length ≤ 1000) : (soft [2] (comp (it1 kT (v 2)) (gname 3) yes (ift (tst (two (v 3) (cst (vi 0)) kLt) blOf) (cst vn) (fz 0 [3] (v 3))) [3])) [x0, x1, some (0, .tup (dints r)), none] = .ok ⟨false, 1, dRow r⟩ none := by
  have c := compL_map (own := [3]) (g := gname 3) (e := (ift (tst (two (v 3) (cst (vi 0)) kLt) blOf) (cst vn) (fz 0 [3] (v 3)))) (f := fun x : Int => D.int x) (k := fun x => (⟨false, 0, oD x⟩ : VV)) r [x0, x1, some (0, .tup (dints r)), none] [] fun x hx => ⟨[x0, x1, some (0, .tup (dints r)), some (0, .int x)], by simp, by
    unfold oD
    by_cases hx : x < 0 <;> simp [hx], by unfold VV.stable; rfl⟩
  rw [List.nil_append] at c
  have kl : kLst (r.map fun x => (⟨false, 0, oD x⟩ : VV)) = some ⟨false, 1, dRow r⟩ := by
    rw [kLst_imm (fun x hx => by obtain ⟨d, _, rfl⟩ := List.mem_map.mp hx; unfold oD; simp only; split <;> rfl) (by rw [List.length_map, lim_num]; omega), List.map_map]
    rfl
  have e : (r.map fun x : Int => D.int x) = dints r := rfl
  rw [e] at c
  generalize dRow r = w at *
  generalize dints r = rd at *
  generalize (r.map fun x => (⟨false, 0, oD x⟩ : VV)) = w2 at *
  simp [c, kl]
end
theorem with_none_eq {m : Nat} {rows : List (List Int)} (h0 : ∀ r ∈ rows, r ≠ [] ∧ r.length ≤ 1000) (hl : rows.length ≤ 5000) :
    ∃ m', m_p_with_none [(m, .lst (dzs rows))] = .ok (m', .lst ((withF rows).map dRow)) [some (0, .lst (dzs rows))] := by
  refine ⟨if withF rows = [] then 1 else 2, ?_⟩
  have hk : (uniq (rows.map nrm)).length ≤ 5000 := by
    have := fold_len (rows.map nrm) []
    rw [List.length_map, List.length_nil] at this
    unfold uniq
    omega
  have hm : ∀ k ∈ uniq (rows.map nrm), k ≠ [] ∧ k.length ≤ 1000 := fun k hk => by
    unfold uniq at hk
    rw [fold_mem] at hk
    obtain ⟨r, hr, rfl⟩ := List.mem_map.mp (hk.resolve_left (by simp))
    have := h0 r hr
    refine ⟨fun e => this.1 ?_, by rw [nrm_len]; exact this.2⟩
    have := congrArg List.length e
    rw [nrm_len] at this
    exact List.length_eq_zero_iff.mp this
  have d1 := dcL_map (own := [2]) (g := gname 2) (ek := (argsk (args [(soft [2] (comp (it1 kL (v 2)) (gname 3) yes (argsk (args [(one (cst (vi 1)) kNeg), (v 3)]) kMax) [3]))]) kTuple)) (ev := cst (vb true)) (f := fun r => D.lst (dints r)) (k := fun r => D.tup (dints (nrm r))) (w := fun _ => .bl true) rows [some (0, .lst (dzs rows)), none, none, none] [] (by rw [List.length_nil, lim_num]; omega) fun r hr => ⟨[some (0, .lst (dzs rows)), none, some (0, .lst (dints r)), none], false, 1, false, 0, by simp, ek_eq (h0 r hr).2, by
      unfold isKeyT
      simp only [List.all_eq_true]
      intro d hd
      obtain ⟨i, _, rfl⟩ := List.mem_map.mp hd
      rfl, rfl, rfl⟩
  have d2 := fold_kv rows []
  rw [show kv [] = ([] : List (D × D)) from rfl] at d2
  rw [d2] at d1
  have ks : kSdt ⟨true, 1, .dic true (kv ((rows.map nrm).foldl put1 []))⟩ = some ⟨false, 1, .lst ((withF rows).map fun n => .tup (dints n))⟩ := e_sdt (ns := uniq (rows.map nrm)) (by
    have := keysI_map (w := fun _ : List Int => D.bl true) (k := id) (uniq (rows.map nrm))
    rw [List.map_id] at this
    exact this) (by omega) fun n hn => (hm n hn).1
  have c := compL_map (own := [2]) (g := gname 2) (e := (soft [2] (comp (it1 kT (v 2)) (gname 3) yes (ift (tst (two (v 3) (cst (vi 0)) kLt) blOf) (cst vn) (fz 0 [3] (v 3))) [3]))) (f := fun r : List Int => D.tup (dints r)) (k := fun r => (⟨false, 1, dRow r⟩ : VV)) (withF rows) [some (0, .lst (dzs rows)), some (1, .dic true (kv ((rows.map nrm).foldl put1 []))), none, none] [] fun r hr => ⟨[some (0, .lst (dzs rows)), some (1, .dic true (kv ((rows.map nrm).foldl put1 []))), some (0, .tup (dints r)), none], by simp, back_eq (by
      unfold withF at hr
      exact (hm r (List.mem_mergeSort.mp hr)).2), rfl⟩
  rw [List.nil_append] at c
  have hwl : (withF rows).length ≤ 5000 := by
    unfold withF
    rw [List.length_mergeSort]
    exact hk
  have kl : kLst ((withF rows).map fun r => (⟨false, 1, dRow r⟩ : VV)) = some ⟨false, if withF rows = [] then 1 else 2, .lst ((withF rows).map dRow)⟩ := by
    by_cases e : withF rows = []
    · rw [e]; rw [if_pos rfl]
      exact kLst_imm (xs := []) (by simp) (by simp)
    · rw [if_neg e, kLst_own (n := 1) (by simpa using e) (fun x hx => by obtain ⟨d, _, rfl⟩ := List.mem_map.mp hx; exact ⟨rfl, rfl, rfl⟩) (by rw [List.length_map, lim_num]; omega), List.map_map]
      rfl
  have e1 : (rows.map fun r => D.lst (dints r)) = dzs rows := rfl
  rw [e1] at d1
  generalize (if withF rows = [] then 1 else 2 : Nat) = mm at *
  generalize kv ((rows.map nrm).foldl put1 []) = ps at *
  generalize (withF rows).map dRow = W at *
  generalize ((withF rows).map fun r => (⟨false, 1, dRow r⟩ : VV)) = W2 at *
  generalize ((withF rows).map fun n => D.tup (dints n)) = W3 at *
  generalize dzs rows = Z at *
  unfold m_p_with_none fnM b_p_with_none
  generalize (argsk (args [(soft [2] (comp (it1 kL (v 2)) (gname 3) yes (argsk (args [(one (cst (vi 1)) kNeg), (v 3)]) kMax) [3]))]) kTuple) = E1 at *
  generalize (soft [2] (comp (it1 kT (v 2)) (gname 3) yes (ift (tst (two (v 3) (cst (vi 0)) kLt) blOf) (cst vn) (fz 0 [3] (v 3))) [3])) = E2 at *
  cases m <;> simp [e_pre, e_even, d1, ks, c, kl]
end Lw
set_option maxHeartbeats 4000000
namespace Lw
open PySem Vs
/-! first_rows, rows_left, is_possible, next_one -/
theorem kLst_deep {α : Type} {f : α → List D} (P : List α) (h : P.length ≤ 16777216) : kLst (P.map fun p => (⟨false, 0, .lst (f p)⟩ : VV)) = some ⟨false, 1, .lst (P.map fun p => .lst (f p))⟩ := by
  cases P with
  | nil => exact kLst_imm (xs := []) (by simp) (by simp)
  | cons p P =>
    rw [kLst_own (n := 0) (by simp) (fun x hx => by obtain ⟨d, _, rfl⟩ := List.mem_map.mp hx; exact ⟨rfl, rfl, rfl⟩) (by rw [List.length_map, lim_num]; omega), List.map_map]
    rfl
/-- the pairs are told and few -/
structure Few (n : Nat) (R : List (List Nat)) (S : List Nat) (O : List Bool) : Prop where
  rc : Rec n R S O
  few : ∀ k ≤ S.length, (pairsK R n S O k).length ≤ 5000
abbrev pairsF (R : List (List Nat)) (n : Nat) (S : List Nat) (O : List Bool) : List Pr := pairsK R n S O S.length
section
variable {n : Nat} {R : List (List Nat)} {S : List Nat} {O : List Bool} {m m1 m2 : Nat}
theorem Few.ok (h : Few n R S O) {p : Pr} (hp : p ∈ pairsF R n S O) : Ok n S p := by
  have h2 := h.rc.h2
  have := pairs_ok (S := S) (O := O) (by omega) h.rc.hR S.length (Nat.le_refl _) p hp
  rwa [List.take_length] at this
theorem first_rows_eq (h : Few n R S O) : ∃ m', m_p_first_rows [(m, .lst (R.map dn)), (m1, .lst (dnat S)), (m2, .lst (dbl O))] = .ok (m', .lst ((withF ((pairsF R n S O).map (·.2))).map dRow)) [some (0, .lst (R.map dn)), some (0, .lst (dnat S)), some (0, .lst (dbl O))] := by
  have h2 := h.rc.h2
  have hn := h.rc.hn
  have r1 := record_eq (m := 0) (m1 := 0) (m2 := 0) h.rc
  obtain ⟨mp, r2⟩ := pairs_eq (m := 0) (m1 := 0) (m2 := 0) h.rc h.few
  have hf := h.few S.length (Nat.le_refl _)
  obtain ⟨mw, r3⟩ := with_none_eq (m := 1) (rows := (pairsF R n S O).map (·.2)) (fun r hr => by
    obtain ⟨p, hp, rfl⟩ := List.mem_map.mp hr
    have := (h.ok hp).row.l2
    refine ⟨fun e => ?_, by omega⟩
    rw [e] at this
    simp at this
    omega) (by rw [List.length_map]; exact hf)
  have c := compL_map (own := [3, 4]) (g := (gtup [(gname 3), (gname 4)])) (e := (fz 0 [4] (v 4))) (f := dPr) (k := fun p => (⟨false, 0, .lst (dints p.2)⟩ : VV)) (pairsF R n S O) [some (0, .lst (R.map dn)), some (0, .lst (dnat S)), some (0, .lst (dbl O)), none, none] [] fun p hp => ⟨[some (0, .lst (R.map dn)), some (0, .lst (dnat S)), some (0, .lst (dbl O)), some (0, .lst (dints p.1)), some (0, .lst (dints p.2))], by unfold dPr; simp [gtup, gall], by simp, rfl⟩
  rw [List.nil_append] at c
  have kl := kLst_deep (f := fun p : Pr => dints p.2) (pairsF R n S O) (by have := hf; unfold pairsF; omega)
  have e : (pairsF R n S O).map (fun p => D.lst (dints p.2)) = dzs ((pairsF R n S O).map (·.2)) := by
    unfold dzs
    rw [List.map_map]
    rfl
  rw [e] at kl
  refine ⟨mw, ?_⟩
  show m_p_first_rows _ = _
  unfold pairsF at *
  generalize dzs ((pairsK R n S O S.length).map (·.2)) = Z at *
  generalize (withF ((pairsK R n S O S.length).map (·.2))).map dRow = W at *
  generalize ((pairsK R n S O S.length).map fun p => (⟨false, 0, .lst (dints p.2)⟩ : VV)) = Z2 at *
  generalize (pairsK R n S O S.length).map dPr = Z3 at *
  generalize R.map dn = Rd at *
  generalize dnat S = Sd at *
  generalize dbl O = Od at *
  unfold m_p_first_rows fnM b_p_first_rows
  cases m <;> cases m1 <;> cases m2 <;> simp [e_pre, e_even, r1, r2, r3, c, kl]
theorem rows_left_eq (h : Few n R S O) : ∃ m', m_p_rows_left [(m, .lst (R.map dn)), (m1, .lst (dnat S)), (m2, .lst (dbl O))] = .ok (m', .lst ((withF ((pairsF R n S O).map (·.1))).map dRow)) [some (0, .lst (R.map dn)), some (0, .lst (dnat S)), some (0, .lst (dbl O))] := by
  have h2 := h.rc.h2
  have hn := h.rc.hn
  have r1 := record_eq (m := 0) (m1 := 0) (m2 := 0) h.rc
  obtain ⟨mp, r2⟩ := pairs_eq (m := 0) (m1 := 0) (m2 := 0) h.rc h.few
  have hf := h.few S.length (Nat.le_refl _)
  obtain ⟨mw, r3⟩ := with_none_eq (m := 1) (rows := (pairsF R n S O).map (·.1)) (fun r hr => by
    obtain ⟨p, hp, rfl⟩ := List.mem_map.mp hr
    have := (h.ok hp).row.l1
    refine ⟨fun e => ?_, by omega⟩
    rw [e] at this
    simp at this
    omega) (by rw [List.length_map]; exact hf)
  have c := compL_map (own := [3, 4]) (g := (gtup [(gname 3), (gname 4)])) (e := (fz 0 [3] (v 3))) (f := dPr) (k := fun p => (⟨false, 0, .lst (dints p.1)⟩ : VV)) (pairsF R n S O) [some (0, .lst (R.map dn)), some (0, .lst (dnat S)), some (0, .lst (dbl O)), none, none] [] fun p hp => ⟨[some (0, .lst (R.map dn)), some (0, .lst (dnat S)), some (0, .lst (dbl O)), some (0, .lst (dints p.1)), some (0, .lst (dints p.2))], by unfold dPr; simp [gtup, gall], by simp, rfl⟩
  rw [List.nil_append] at c
  have kl := kLst_deep (f := fun p : Pr => dints p.1) (pairsF R n S O) (by have := hf; unfold pairsF; omega)
  have e : (pairsF R n S O).map (fun p => D.lst (dints p.1)) = dzs ((pairsF R n S O).map (·.1)) := by
    unfold dzs
    rw [List.map_map]
    rfl
  rw [e] at kl
  refine ⟨mw, ?_⟩
  unfold pairsF at *
  generalize dzs ((pairsK R n S O S.length).map (·.1)) = Z at *
  generalize (withF ((pairsK R n S O S.length).map (·.1))).map dRow = W at *
  generalize ((pairsK R n S O S.length).map fun p => (⟨false, 0, .lst (dints p.1)⟩ : VV)) = Z2 at *
  generalize (pairsK R n S O S.length).map dPr = Z3 at *
  generalize R.map dn = Rd at *
  generalize dnat S = Sd at *
  generalize dbl O = Od at *
  unfold m_p_rows_left fnM b_p_rows_left
  cases m <;> cases m1 <;> cases m2 <;> simp [e_pre, e_even, r1, r2, r3, c, kl]
theorem shp_pairs (P : List Pr) : (D.lst (P.map dPr)).shp = true := (Shp.lst (j := 2) fun d hd => by
  obtain ⟨p, _, rfl⟩ := List.mem_map.mp hd
  refine Shp.tup (j := 1) fun d hd => ?_
  have hz : ∀ l : List Int, Shp 1 (.lst (dints l)) := fun l => Shp.lst fun d hd => by
    obtain ⟨i, _, rfl⟩ := List.mem_map.mp hd
    exact Shp.int
  simp only [List.mem_cons, List.not_mem_nil, or_false] at hd
  rcases hd with rfl | rfl
  · exact hz _
  · exact hz _).shp
theorem eqv_nil {l : List D} (h : (D.lst l).flat = true) : D.eqv (.lst l) (.lst []) = decide (l = []) := by
  by_cases e : l = []
  · subst e
    rw [decide_eq_true rfl]
    exact D.eqv_refl _ h
  · rw [decide_eq_false e]
    cases l with
    | nil => exact absurd rfl e
    | cons a l => rfl
theorem e_eqN {l : List D} (hs : (D.lst l).shp = true) {p q : Bool} {a b : Nat} : kEq ⟨p, a, .lst l⟩ ⟨q, b, .lst []⟩ = some (vb (decide (l = []))) := by
  show (if D.shp (.lst l) = true ∧ D.shp (.lst []) = true then some (vb (D.eqv (.lst l) (.lst []))) else none) = _
  rw [if_pos ⟨hs, shp_dn []⟩, eqv_nil (by unfold D.shp at hs; rw [Bool.and_eq_true] at hs; exact hs.1)]
theorem e_neN {l : List D} (hs : (D.lst l).shp = true) {p q : Bool} {a b : Nat} : kNe ⟨p, a, .lst l⟩ ⟨q, b, .lst []⟩ = some (vb (!decide (l = []))) := by
  show (if D.shp (.lst l) = true ∧ D.shp (.lst []) = true then some (vb (!D.eqv (.lst l) (.lst []))) else none) = _
  rw [if_pos ⟨hs, shp_dn []⟩, eqv_nil (by unfold D.shp at hs; rw [Bool.and_eq_true] at hs; exact hs.1)]
theorem possible_eq (h : Few n R S O) : m_p_is_possible [(m, .lst (R.map dn)), (m1, .lst (dnat S)), (m2, .lst (dbl O))] = .ok (0, .bl (!decide (pairsF R n S O = []))) [some (0, .lst (R.map dn)), some (0, .lst (dnat S)), some (0, .lst (dbl O))] := by
  have r1 := record_eq (m := 0) (m1 := 0) (m2 := 0) h.rc
  obtain ⟨mp, r2⟩ := pairs_eq (m := 0) (m1 := 0) (m2 := 0) h.rc h.few
  have e1 := fun p q a b => e_neN (shp_pairs (pairsF R n S O)) (p := p) (q := q) (a := a) (b := b)
  have e2 : decide ((pairsF R n S O).map dPr = []) = decide (pairsF R n S O = []) := decide_eq_decide.mpr List.map_eq_nil_iff
  rw [e2] at e1
  have kn : kLst [] = some ⟨false, 1, .lst []⟩ := kLst_imm (xs := []) (by simp) (by simp)
  unfold pairsF at *
  generalize (!decide (pairsK R n S O S.length = [])) = bb at *
  generalize (pairsK R n S O S.length).map dPr = Z3 at *
  generalize R.map dn = Rd at *
  generalize dnat S = Sd at *
  generalize dbl O = Od at *
  unfold m_p_is_possible fnM b_p_is_possible
  cases m <;> cases m1 <;> cases m2 <;> simp [e_pre, e_even, r1, r2, e1, kn]
def hasU (p : Pr) : Bool := p.1.any fun x => decide (x < 0)
def nextF (P : List Pr) (S : List Nat) (t : Nat) : D :=
  if P = [] then .non else if t ∉ S ∧ P.any hasU = true then .str "open" else if (P.filter fun p => decide ((t : Int) ∈ p.1)).length = P.length then .str "hit"
  else if (P.filter fun p => decide ((t : Int) ∈ p.1)) ≠ [] then .str "open" else .str "miss"
theorem min_neg {l : List Int} (h : l ≠ []) : ∃ a, kMinL [⟨false, 0, .lst (dints l)⟩] = some (vi a) ∧ decide (a < 0) = l.any fun x => decide (x < 0) := by
  obtain ⟨a, ha, hb⟩ : ∃ a ∈ l, ∀ b ∈ l, a ≤ b := by
    induction l with
    | nil => exact absurd rfl h
    | cons x l ih =>
      by_cases hl : l = []
      · subst hl
        exact ⟨x, List.mem_cons_self .., fun b hb => by rw [List.mem_singleton.mp hb]; exact Int.le_refl _⟩
      · obtain ⟨a, ha, hb⟩ := ih hl
        by_cases c : x ≤ a
        · exact ⟨x, List.mem_cons_self .., fun b hb' => by
            rcases List.mem_cons.mp hb' with rfl | h
            · exact Int.le_refl _
            · exact Int.le_trans c (hb b h)⟩
        · exact ⟨a, List.mem_cons_of_mem _ ha, fun b hb' => by
            rcases List.mem_cons.mp hb' with rfl | h
            · omega
            · exact hb b h⟩
  refine ⟨a, e_minL ha hb, ?_⟩
  rw [Bool.eq_iff_iff, decide_eq_true_eq, List.any_eq_true]
  constructor
  · intro h; exact ⟨a, ha, decide_eq_true h⟩
  · rintro ⟨x, hx, h⟩
    have := hb x hx
    have := of_decide_eq_true h
    omega
theorem next_one_eq {t : Nat} (h : Few n R S O) (ht : t ≤ 1000000000) : m_p_next_one [(m, .lst (R.map dn)), (m1, .lst (dnat S)), (m2, .lst (dbl O)), (0, .int (t : Int))] = .ok (0, nextF (pairsF R n S O) S t) [some (0, .lst (R.map dn)), some (0, .lst (dnat S)), some (0, .lst (dbl O)), some (0, .int (t : Int))] := by
  have h2 := h.rc.h2
  have r1 := record_eq (m := 0) (m1 := 0) (m2 := 0) h.rc
  have rb := isblk_nat (m := 0) ht
  obtain ⟨mp, r2⟩ := pairs_eq (m := 0) (m1 := 0) (m2 := 0) h.rc h.few
  have hf := h.few S.length (Nat.le_refl _)
  have e1 := fun p q a b => e_eqN (shp_pairs (pairsF R n S O)) (p := p) (q := q) (a := a) (b := b)
  have e2 : decide ((pairsF R n S O).map dPr = []) = decide (pairsF R n S O = []) := decide_eq_decide.mpr List.map_eq_nil_iff
  rw [e2] at e1
  have kn : kLst [] = some ⟨false, 1, .lst []⟩ := kLst_imm (xs := []) (by simp) (by simp)
  have hok : ∀ p ∈ pairsF R n S O, p.1 ≠ [] := fun p hp e => by
    have := (h.ok hp).row.l1
    rw [e] at this
    simp at this
    omega
  have c5 := fun mm => compL_filt (own := [6, 7]) (g := (gtup [(gname 6), (gname 7)])) (cs := (tst (two (v 3) (v 6) kIn) blOf)) (e := (fz 0 [6] (v 6))) (f := dPr) (c := fun p : Pr => decide ((t : Int) ∈ p.1)) (k := fun p => (⟨false, 0, .lst (dints p.1)⟩ : VV)) (pairsF R n S O) [some (0, .lst (R.map dn)), some (0, .lst (dnat S)), some (0, .lst (dbl O)), some (0, .int (t : Int)), some (mm, .lst ((pairsF R n S O).map dPr)), none, none, none] [] fun p hp => ⟨[some (0, .lst (R.map dn)), some (0, .lst (dnat S)), some (0, .lst (dbl O)), some (0, .int (t : Int)), some (mm, .lst ((pairsF R n S O).map dPr)), none, some (0, .lst (dints p.1)), some (0, .lst (dints p.2))], by unfold dPr; simp [gtup, gall], by
    have := fun x q a b => e_inZ (x := (t : Int)) (l := p.1) (p := x) (q := q) (m := a) (n := b)
    simp [this], fun _ => ⟨by simp, rfl⟩⟩
  simp only [List.nil_append] at c5
  have kl5 := kLst_deep (f := fun p : Pr => dints p.1) ((pairsF R n S O).filter fun p => decide ((t : Int) ∈ p.1)) (Nat.le_trans (List.length_filter_le _ _) (by have := hf; unfold pairsF; omega))
  have c6 := fun x5 => compL_map (own := [6, 7]) (g := (gtup [(gname 6), (gname 7)])) (e := two (argsk (args [(v 6)]) kMinL) (cst (vi 0)) kLt) (f := dPr) (k := fun p => vb (hasU p)) (pairsF R n S O) [some (0, .lst (R.map dn)), some (0, .lst (dnat S)), some (0, .lst (dbl O)), some (0, .int (t : Int)), some (0, .lst ((pairsF R n S O).map dPr)), x5, none, none] [] fun p hp => ⟨[some (0, .lst (R.map dn)), some (0, .lst (dnat S)), some (0, .lst (dbl O)), some (0, .int (t : Int)), some (0, .lst ((pairsF R n S O).map dPr)), x5, some (0, .lst (dints p.1)), some (0, .lst (dints p.2))], by unfold dPr; simp [gtup, gall], by
    obtain ⟨a, ha, hb⟩ := min_neg (hok p hp)
    unfold hasU
    rw [← hb]
    simp [ha], rfl⟩
  simp only [List.nil_append] at c6
  have kl6 : kLst ((pairsF R n S O).map fun p => vb (hasU p)) = some ⟨false, 1, .lst ((pairsF R n S O).map fun p => .bl (hasU p))⟩ := by
    rw [kLst_imm (fun x hx => by obtain ⟨d, _, rfl⟩ := List.mem_map.mp hx; rfl) (by rw [List.length_map, lim_num]; have := hf; unfold pairsF; omega), List.map_map]
    rfl
  have pl : VV.plain ⟨false, 1, .lst ((pairsF R n S O).map fun p => D.bl (hasU p))⟩ = true := by
    unfold VV.plain
    simp
  have ka : kAny [⟨false, 1, .lst ((pairsF R n S O).map fun p => .bl (hasU p))⟩] = some (vb ((pairsF R n S O).any hasU)) := by
    have := blsOf_map (f := fun p : Pr => hasU p) (pairsF R n S O)
    unfold kAny
    show (blsOf _).map _ = _
    rw [this]
    simp [List.any_map]
  have e3 : ∀ x q a b, kNotIn ⟨x, a, .int (t : Int)⟩ ⟨q, b, .lst (dnat S)⟩ = some (vb (!decide (t ∈ S))) := fun _ _ _ _ => e_notin
  have e7 := fun p q a b => e_neN (l := ((pairsF R n S O).filter fun p => decide ((t : Int) ∈ p.1)).map fun p => .lst (dints p.1)) ((Shp.lst (j := 1) fun d hd => by
    obtain ⟨p, _, rfl⟩ := List.mem_map.mp hd
    refine Shp.lst fun d hd => ?_
    obtain ⟨i, _, rfl⟩ := List.mem_map.mp hd
    exact Shp.int).shp) (p := p) (q := q) (a := a) (b := b)
  have e8 : decide ((((pairsF R n S O).filter fun p => decide ((t : Int) ∈ p.1)).map fun p => D.lst (dints p.1)) = []) = decide (((pairsF R n S O).filter fun p => decide ((t : Int) ∈ p.1)) = []) := decide_eq_decide.mpr List.map_eq_nil_iff
  rw [e8] at e7
  have l1 : (((pairsF R n S O).filter fun p => decide ((t : Int) ∈ p.1)).map fun p => D.lst (dints p.1)).length = ((pairsF R n S O).filter fun p => decide ((t : Int) ∈ p.1)).length := List.length_map ..
  have l2 : ((pairsF R n S O).map dPr).length = (pairsF R n S O).length := List.length_map ..
  unfold nextF
  unfold pairsF at *
  generalize hP : pairsK R n S O S.length = P at *
  generalize hH : (P.filter fun p => decide ((t : Int) ∈ p.1)) = H at *
  generalize (H.map fun p => D.lst (dints p.1)) = Hd at *
  generalize (H.map fun p => (⟨false, 0, .lst (dints p.1)⟩ : VV)) = Hv at *
  generalize (P.map fun p => D.bl (hasU p)) = Ud at *
  generalize (P.map fun p => vb (hasU p)) = Uv at *
  generalize P.map dPr = Pd at *
  generalize P.any hasU = au at *
  generalize R.map dn = Rd at *
  generalize dnat S = Sd at *
  generalize dbl O = Od at *
  have ce : ∀ a b : Nat, (decide ((a : Int) = (b : Int))) = decide (a = b) := fun a b => decide_eq_decide.mpr (by omega)
  have run : m_p_next_one [(0, .lst Rd), (0, .lst Sd), (0, .lst Od), (0, .int (t : Int))] = .ok (0, if P = [] then .non else if t ∉ S ∧ au = true then .str "open" else if H.length = P.length then .str "hit" else if H ≠ [] then .str "open" else .str "miss") [some (0, .lst Rd), some (0, .lst Sd), some (0, .lst Od), some (0, .int (t : Int))] := by
    unfold m_p_next_one fnM
    rw [b_p_next_one_eq]
    unfold t_p_next_one_0 t_p_next_one_1 t_p_next_one_2 t_p_next_one_3 t_p_next_one_4 t_p_next_one_5 t_p_next_one_6
    by_cases hp0 : P = []
    · cases mp <;> simp [e_pre, e_even, r1, rb, r2, e1, kn, hp0]
    · by_cases ho : t ∉ S ∧ au = true
      · cases mp <;> simp [e_pre, e_even, r1, rb, r2, e1, kn, hp0, c5, kl5, e3, ho, c6, kl6, pl, ka]
      · have : (t ∈ S ∨ (t ∉ S ∧ au = false)) := by
          by_cases c : t ∈ S
          · exact .inl c
          · exact .inr ⟨c, by cases au with | false => rfl | true => exact absurd ⟨c, rfl⟩ ho⟩
        have hc : ((H.length : Int) = (P.length : Int)) = (H.length = P.length) := propext (by omega)
        have hpl : ¬ (0 : Nat) = P.length := fun e => hp0 (List.length_eq_zero_iff.mp e.symm)
        have hpl' : ¬ (0 : Int) = (P.length : Int) := fun e => hpl (by omega)
        rcases this with c | ⟨c, ca⟩
        · by_cases c1 : H.length = P.length
          · cases mp <;> simp [e_pre, e_even, r1, rb, r2, e1, kn, hp0, c5, kl5, e3, c, l1, l2, c1]
          · by_cases c2 : H = [] <;> cases mp <;> simp [e_pre, e_even, r1, rb, r2, e1, kn, hp0, c5, kl5, e3, c, l1, l2, c1, hc, hpl, hpl', e7, c2]
        · by_cases c1 : H.length = P.length
          · cases mp <;> simp [e_pre, e_even, r1, rb, r2, e1, kn, hp0, c5, kl5, e3, c, ca, c6, kl6, pl, ka, l1, l2, c1]
          · by_cases c2 : H = [] <;> cases mp <;> simp [e_pre, e_even, r1, rb, r2, e1, kn, hp0, c5, kl5, e3, c, ca, c6, kl6, pl, ka, l1, l2, c1, hc, hpl, hpl', e7, c2]
  have st : m_p_next_one [(m, .lst Rd), (m1, .lst Sd), (m2, .lst Od), (0, .int (t : Int))] = m_p_next_one [(0, .lst Rd), (0, .lst Sd), (0, .lst Od), (0, .int (t : Int))] := by
    unfold m_p_next_one fnM
    rw [b_p_next_one_eq]
    cases m <;> cases m1 <;> cases m2 <;> rfl
  rw [st, run]
end
end Lw
set_option maxHeartbeats 4000000
namespace Lw
open PySem Vs
/-! records that grow; the true row is among the pairs -/
section
variable {n k t : Nat} {R : List (List Nat)} {S S' : List Nat} {O O' : List Bool} {o new : Bool} {L : List Nat} {p q : Pr}
theorem nth_app {S S' : List Nat} (h : k < S.length) : nth (S ++ S') k = nth S k := by
  unfold nth
  rw [List.getD_eq_getElem?_getD, List.getD_eq_getElem?_getD, List.getElem?_append_left h]
theorem ob_app (h : k < O.length) : ob (O ++ O') k = ob O k := by
  unfold ob
  rw [List.getD_eq_getElem?_getD, List.getD_eq_getElem?_getD, List.getElem?_append_left h]
theorem pairs_app (hl : O.length = S.length) : ∀ k, k ≤ S.length → pairsK R n (S ++ S') (O ++ O') k = pairsK R n S O k
  | 0, _ => rfl
  | k + 1, h => by
    show fits R _ _ _ _ = fits R _ _ _ _
    rw [nth_app (by omega), ob_app (by omega), pairs_app hl k (by omega), List.take_append_of_le_length (by omega)]
theorem pairs_snoc (hl : O.length = S.length) : pairsF R n (S ++ [t]) (O ++ [o]) = fits R (t : Int) (!decide (t ∈ S)) o (pairsF R n S O) := by
  unfold pairsF
  rw [List.length_append]
  show fits R _ _ _ _ = _
  rw [pairs_app hl S.length (Nat.le_refl _), List.take_left]
  have e1 : nth (S ++ [t]) S.length = t := by
    unfold nth
    rw [List.getD_eq_getElem?_getD, List.getElem?_append_right (Nat.le_refl _)]
    simp
  have e2 : ob (O ++ [o]) S.length = o := by
    unfold ob
    rw [List.getD_eq_getElem?_getD, List.getElem?_append_right (by omega)]
    simp [hl]
  rw [e1, e2]
theorem Rec.snoc (h : Rec n R S O) (ht : t ≤ 1000000000) (hb : S.length < 1000) : Rec n R (S ++ [t]) (O ++ [o]) := ⟨h.hR, h.h2, h.hn, fun x hx => by
  rcases List.mem_append.mp hx with g | g
  · exact h.hb x g
  · rw [List.mem_singleton.mp g]; exact ht, by rw [List.length_append, List.length_append, h.hl]; rfl, by rw [List.length_append]; simp; omega⟩
theorem few_small (h : Rec n R S O) (h5 : n ≤ 5) : Few n R S O := ⟨h, pairs_few (by have := h.h2; omega) h5 h.hR⟩
/-- the true row, the places of a pair -/
def Tr (p : Pr) (L S : List Nat) : Prop := ∃ Z : List (Int × Nat), p.1 = Z.map (·.1) ∧ L = Z.map (·.2) ∧ ∀ z ∈ Z, (0 ≤ z.1 → z.1 = (z.2 : Int)) ∧ (z.1 < 0 → z.2 ∉ S)
theorem mv_mem {α : Type} {q : List Nat} {Z : List α} (hq : Pm n q) (hZ : Z.length = n) {z : α} (hz : z ∈ mv q Z) : z ∈ Z := by
  obtain ⟨j, hj⟩ := List.mem_iff_getElem?.mp hz
  rw [mv_get hq hZ] at hj
  split at hj
  · exact List.mem_of_getElem? hj
  · cases hj
theorem set_same_ {l : List Nat} {i a : Nat} (h : l[i]? = some a) : l.set i a = l := by
  obtain ⟨hi, rfl⟩ := List.getElem?_eq_some_iff.mp h
  exact List.set_getElem_self hi
theorem start_tr (hL : L.length = n) : Tr (start n) L [] := by
  refine ⟨(start n).1.zip L, ?_, ?_, fun z hz => ⟨fun h => ?_, fun _ => by simp⟩⟩
  · rw [List.map_fst_zip]
    unfold start
    simp [hL]
  · rw [List.map_snd_zip]
    unfold start
    simp [hL]
  · have := (List.of_mem_zip hz).1
    unfold start at this
    obtain ⟨k, _, e⟩ := List.mem_map.mp this
    omega
theorem tr_step (h1 : 1 ≤ n) (hR : IsRule n R) (hL : L.length = n) (hd : L.Nodup) (h : Tr p L S) : ∃ q ∈ fit1 R (t : Int) (!decide (t ∈ S)) (decide (t ∈ L)) p, Tr q (stepF R L t) (S ++ [t]) := by
  obtain ⟨Z, z1, z2, hz⟩ := h
  have hZ : Z.length = n := by rw [← hL, z2, List.length_map]
  have hp1 : p.1.length = n := by rw [z1, List.length_map, hZ]
  -- a known thing is at its place
  have ndZ : ∀ i j (a b : Int × Nat), Z[i]? = some a → Z[j]? = some b → a.2 = b.2 → i = j := fun i j a b ha hb e => by
    have hi := (List.getElem?_eq_some_iff.mp ha).1
    have hj := (List.getElem?_eq_some_iff.mp hb).1
    rw [z2] at hd
    have e1 : (Z.map (·.2))[i]? = some a.2 := by rw [List.getElem?_map, ha]; rfl
    have e2 : (Z.map (·.2))[j]? = some b.2 := by rw [List.getElem?_map, hb]; rfl
    exact (List.getElem?_inj (by rw [List.length_map]; exact hi) hd).mp (by rw [e1, e2, e])
  by_cases ht : t ∈ L
  · have hi : L.idxOf t < n := by rw [← hL]; exact List.idxOf_lt_length_of_mem ht
    have hLi : L[L.idxOf t]? = some t := by rw [List.getElem?_eq_getElem (by omega), List.getElem_idxOf]
    have es : stepF R L t = mv (R.getD (L.idxOf t) []) L := by unfold stepF hitF; rw [if_pos ht]
    rw [es]
    generalize L.idxOf t = i at *
    have hq := getD_mem hR hi
    generalize hqq : R.getD i [] = g at *
    obtain ⟨z, hzi⟩ : ∃ z, Z[i]? = some z := ⟨Z[i]'(by omega), List.getElem?_eq_getElem _⟩
    have hz2 : z.2 = t := by
      rw [z2, List.getElem?_map, hzi] at hLi
      simpa using hLi
    have hzm := List.mem_of_getElem? hzi
    by_cases hp : (t : Int) ∈ p.1
    · have hj := List.idxOf_lt_length_of_mem hp
      have hpj : p.1[p.1.idxOf (t : Int)]? = some (t : Int) := by rw [List.getElem?_eq_getElem hj, List.getElem_idxOf]
      have hji : p.1.idxOf (t : Int) = i := by
        generalize p.1.idxOf (t : Int) = j at *
        obtain ⟨w, hwj⟩ : ∃ w, Z[j]? = some w := ⟨Z[j]'(by omega), List.getElem?_eq_getElem _⟩
        rw [z1, List.getElem?_map, hwj] at hpj
        have hw1 : w.1 = (t : Int) := by simpa using hpj
        have := (hz w (List.mem_of_getElem? hwj)).1 (by omega)
        exact ndZ j i w z hwj hzi (by omega)
      refine ⟨(mv g p.1, p.2), by unfold fit1; rw [if_pos hp, if_pos (decide_eq_true ht), hji, hqq]; exact List.mem_singleton.mpr rfl, mv g Z, ?_, ?_, fun w hw => ⟨fun h => (hz w (mv_mem hq hZ hw)).1 h, fun h hs => ?_⟩⟩
      · rw [mv_map, ← z1]
      · rw [mv_map, ← z2]
      · have hwm := mv_mem hq hZ hw
        rcases List.mem_append.mp hs with hs | hs
        · exact (hz w hwm).2 h hs
        · rw [List.mem_singleton] at hs
          obtain ⟨j, hwj⟩ := List.mem_iff_getElem?.mp hwm
          have e := ndZ j i w z hwj hzi (by omega)
          rw [hji, z1, List.getElem?_map, hzi] at hpj
          have hz1 : z.1 = (t : Int) := by simpa using hpj
          rw [e, hzi] at hwj
          injection hwj with hwj
          rw [← hwj] at h
          omega
    · have hzn : z.1 < 0 := by
        refine Int.not_le.mp fun h => hp ?_
        have := (hz z hzm).1 h
        rw [z1, ← hz2, ← this]
        exact List.mem_map.mpr ⟨z, hzm, rfl⟩
      have hnS : t ∉ S := hz2 ▸ (hz z hzm).2 hzn
      have hix : ix p.1 i < 0 := by
        have : p.1[i]? = some z.1 := by rw [z1, List.getElem?_map, hzi]; rfl
        unfold ix
        rw [List.getD_eq_getElem?_getD, this]
        exact hzn
      refine ⟨(mv g (p.1.set i (t : Int)), p.2.set (-1 - ix p.1 i).toNat (t : Int)), ?_, mv g (Z.set i ((t : Int), t)), ?_, ?_, fun w hw => ?_⟩
      · unfold fit1
        rw [if_neg hp, if_neg (by rw [decide_eq_true ht]; decide), if_pos (by rw [decide_eq_false hnS]; rfl)]
        refine List.mem_flatMap.mpr ⟨i, List.mem_range.mpr (by omega), ?_⟩
        unfold fitK
        rw [if_pos hix, hqq]
        exact List.mem_singleton.mpr rfl
      · rw [mv_map, List.map_set, ← z1]
      · rw [mv_map, List.map_set, ← z2]
        congr 1
        exact (set_same_ hLi).symm
      · have hwm := mv_mem hq (by rw [List.length_set]; exact hZ) hw
        obtain ⟨j, hwj⟩ := List.mem_iff_getElem?.mp hwm
        by_cases e : j = i
        · subst e
          rw [List.getElem?_set_self (by omega)] at hwj
          injection hwj with hwj
          subst hwj
          exact ⟨fun _ => rfl, fun h => by simp only at h; omega⟩
        · rw [List.getElem?_set_ne (by omega)] at hwj
          have hwm := List.mem_of_getElem? hwj
          refine ⟨(hz w hwm).1, fun h hs => ?_⟩
          rcases List.mem_append.mp hs with hs | hs
          · exact (hz w hwm).2 h hs
          · rw [List.mem_singleton] at hs
            exact e (ndZ j i w z hwj hzi (by omega))
  · have hp : (t : Int) ∉ p.1 := fun h => by
      rw [z1] at h
      obtain ⟨z, hzm, e⟩ := List.mem_map.mp h
      have := (hz z hzm).1 (by omega)
      apply ht
      rw [z2]
      exact List.mem_map.mpr ⟨z, hzm, by omega⟩
    have es : stepF R L t = L.drop 1 ++ [t] := by unfold stepF; rw [if_neg ht]
    rw [es]
    refine ⟨(p.1.drop 1 ++ [(t : Int)], p.2), by unfold fit1; rw [if_neg hp, if_pos (decide_eq_false ht)]; exact List.mem_singleton.mpr rfl, Z.drop 1 ++ [((t : Int), t)], ?_, ?_, fun w hw => ?_⟩
    · rw [List.map_append, List.map_drop, ← z1]; rfl
    · rw [List.map_append, List.map_drop, ← z2]; rfl
    · rcases List.mem_append.mp hw with hw | hw
      · have hwm := List.mem_of_mem_drop hw
        refine ⟨(hz w hwm).1, fun h hs => ?_⟩
        rcases List.mem_append.mp hs with hs | hs
        · exact (hz w hwm).2 h hs
        · rw [List.mem_singleton] at hs
          apply ht
          rw [z2, ← hs]
          exact List.mem_map.mpr ⟨w, hwm, rfl⟩
      · rw [List.mem_singleton.mp hw]
        exact ⟨fun _ => rfl, fun h => by simp only at h; omega⟩
end
end Lw
set_option maxHeartbeats 4000000
namespace Lw
open PySem Vs
/-! what a record grows into -/
theorem e_neNI {p q : Bool} {m n : Nat} {j : Int} : kNe ⟨p, m, .non⟩ ⟨q, n, .int j⟩ = some (vb true) := (rfl)
theorem e_neB {p q : Bool} {m n : Nat} {a b : Bool} : kNe ⟨p, m, .bl a⟩ ⟨q, n, .bl b⟩ = some (vb (!decide (a = b))) := by cases a <;> cases b <;> rfl
theorem e_eqBB {p q : Bool} {m n : Nat} {a b c d : Bool} : kEq ⟨p, m, .lst [.bl a, .bl b]⟩ ⟨q, n, .lst [.bl c, .bl d]⟩ = some (vb (decide (a = c) && decide (b = d))) := by cases a <;> cases b <;> cases c <;> cases d <;> rfl
section
variable {n t : Nat} {R : List (List Nat)} {S : List Nat} {O : List Bool} {P : List Pr} {m m1 m2 : Nat}
theorem grow_t (hP : ∀ p ∈ P, Ok n S p) : fits R (t : Int) (!decide (t ∈ S)) true P ≠ [] ↔ ∃ p ∈ P, (t : Int) ∈ p.1 ∨ (t ∉ S ∧ hasU p = true) := by
  constructor
  · intro h
    obtain ⟨q, hq⟩ := List.exists_mem_of_ne_nil _ h
    obtain ⟨p, hp, hq⟩ := List.mem_flatMap.mp hq
    refine ⟨p, hp, ?_⟩
    unfold fit1 at hq
    split at hq
    · rename_i c; exact .inl c
    · split at hq
      · rename_i c; cases c
      · split at hq
        · rename_i c
          refine .inr ⟨by simpa using c, ?_⟩
          obtain ⟨k, hk, hq⟩ := List.mem_flatMap.mp hq
          unfold fitK at hq
          split at hq
          · rename_i c2
            unfold hasU
            rw [List.any_eq_true]
            exact ⟨ix p.1 k, by rw [ix_eq (List.mem_range.mp hk)]; exact List.getElem_mem _, decide_eq_true c2⟩
          · cases hq
        · cases hq
  · rintro ⟨p, hp, h⟩ e
    have no : ∀ q, q ∉ fit1 R (t : Int) (!decide (t ∈ S)) true p := fun q hq => by
      have : q ∈ fits R (t : Int) (!decide (t ∈ S)) true P := List.mem_flatMap.mpr ⟨p, hp, hq⟩
      rw [e] at this
      cases this
    by_cases c : (t : Int) ∈ p.1
    · unfold fit1 at no
      rw [if_pos c, if_pos rfl] at no
      exact no _ (List.mem_singleton.mpr rfl)
    · obtain ⟨hS, hu⟩ := h.resolve_left c
      unfold fit1 at no
      rw [if_neg c, if_neg (by decide), if_pos (by simpa using hS)] at no
      unfold hasU at hu
      rw [List.any_eq_true] at hu
      obtain ⟨x, hx, hx0⟩ := hu
      obtain ⟨k, hk, rfl⟩ := List.mem_iff_getElem.mp hx
      have hm : (mv (R.getD k []) (p.1.set k (t : Int)), p.2.set (-1 - ix p.1 k).toNat (t : Int)) ∈ fitK R (t : Int) p k := by
        unfold fitK
        rw [if_pos (by rw [ix_eq hk]; exact of_decide_eq_true hx0)]
        exact List.mem_singleton.mpr rfl
      exact no _ (List.mem_flatMap.mpr ⟨k, List.mem_range.mpr hk, hm⟩)
theorem grow_f : fits R (t : Int) (!decide (t ∈ S)) false P ≠ [] ↔ ∃ p ∈ P, (t : Int) ∉ p.1 := by
  constructor
  · intro h
    obtain ⟨q, hq⟩ := List.exists_mem_of_ne_nil _ h
    obtain ⟨p, hp, hq⟩ := List.mem_flatMap.mp hq
    refine ⟨p, hp, fun c => ?_⟩
    unfold fit1 at hq
    rw [if_pos c, if_neg (by decide)] at hq
    cases hq
  · rintro ⟨p, hp, h⟩ e
    have : (p.1.drop 1 ++ [(t : Int)], p.2) ∈ fits R (t : Int) (!decide (t ∈ S)) false P := List.mem_flatMap.mpr ⟨p, hp, by unfold fit1; rw [if_neg h, if_pos rfl]; exact List.mem_singleton.mpr rfl⟩
    rw [e] at this
    cases this
def wordF (a b : Bool) : Str := if a && b then "open" else if a && !b then "hit" else "miss"
theorem sort_eq (hP : ∀ p ∈ P, Ok n S p) (h0 : P ≠ []) : nextF P S t = .str (wordF (!decide (fits R (t : Int) (!decide (t ∈ S)) true P = [])) (!decide (fits R (t : Int) (!decide (t ∈ S)) false P = []))) := by
  have gt := grow_t (R := R) (t := t) hP
  have gf := grow_f (R := R) (t := t) (S := S) (P := P)
  generalize fits R (t : Int) (!decide (t ∈ S)) true P = A at *
  generalize fits R (t : Int) (!decide (t ∈ S)) false P = B at *
  obtain ⟨p0, hp0⟩ := List.exists_mem_of_ne_nil _ h0
  unfold nextF wordF
  rw [if_neg h0]
  have knS : ∀ p ∈ P, t ∉ S → (t : Int) ∉ p.1 := fun p hp hs hm => by
    obtain ⟨s, hs', e⟩ := (hP p hp).kn (t : Int) hm (by omega)
    exact hs (by rw [show t = s by omega]; exact hs')
  by_cases c1 : t ∉ S ∧ P.any hasU = true
  · rw [if_pos c1]
    obtain ⟨p, hp, hu⟩ := List.any_eq_true.mp c1.2
    have hA : A ≠ [] := gt.mpr ⟨p, hp, .inr ⟨c1.1, hu⟩⟩
    have hB : B ≠ [] := gf.mpr ⟨p0, hp0, knS p0 hp0 c1.1⟩
    rw [decide_eq_false hA, decide_eq_false hB]
    rfl
  · rw [if_neg c1]
    have gt' : A ≠ [] ↔ ∃ p ∈ P, (t : Int) ∈ p.1 := gt.trans ⟨fun ⟨p, hp, h⟩ => by
      rcases h with h | ⟨h, hu⟩
      · exact ⟨p, hp, h⟩
      · exact absurd ⟨h, List.any_eq_true.mpr ⟨p, hp, hu⟩⟩ c1, fun ⟨p, hp, h⟩ => ⟨p, hp, .inl h⟩⟩
    by_cases c2 : (P.filter fun p => decide ((t : Int) ∈ p.1)).length = P.length
    · rw [if_pos c2]
      have all := List.length_filter_eq_length_iff.mp c2
      have hA : A ≠ [] := gt'.mpr ⟨p0, hp0, of_decide_eq_true (all p0 hp0)⟩
      have hB : B = [] := by
        refine Classical.byContradiction fun h => ?_
        obtain ⟨p, hp, h⟩ := gf.mp h
        exact h (of_decide_eq_true (all p hp))
      rw [decide_eq_false hA, decide_eq_true hB]
      rfl
    · rw [if_neg c2]
      have hB : B ≠ [] := by
        refine gf.mpr (Classical.byContradiction fun h => c2 (List.length_filter_eq_length_iff.mpr fun p hp => ?_))
        exact decide_eq_true (Classical.byContradiction fun h' => h ⟨p, hp, h'⟩)
      by_cases c3 : (P.filter fun p => decide ((t : Int) ∈ p.1)) = []
      · rw [if_neg (by simpa using c3)]
        have hA : A = [] := by
          refine Classical.byContradiction fun h => ?_
          obtain ⟨p, hp, h⟩ := gt'.mp h
          have : p ∈ P.filter fun p => decide ((t : Int) ∈ p.1) := List.mem_filter.mpr ⟨hp, decide_eq_true h⟩
          rw [c3] at this
          cases this
        rw [decide_eq_true hA, decide_eq_false hB]
        rfl
      · rw [if_pos c3]
        obtain ⟨p, hp⟩ := List.exists_mem_of_ne_nil _ c3
        obtain ⟨hp, h⟩ := List.mem_filter.mp hp
        have hA : A ≠ [] := gt'.mpr ⟨p, hp, of_decide_eq_true h⟩
        rw [decide_eq_false hA, decide_eq_false hB]
        rfl
/-! ### fills -/
def flP (a b : List Int) (i : Nat) : Bool := (!decide (ix b i < 0)) && !(decide (¬ ix a i < 0) && decide (ix a i = ix b i))
def flF (a b : List Int) : Bool := decide ((List.range a.length).filter (flP a b) = [])
theorem at_row {a : List Int} {k : Nat} (h : k < a.length) : atD (a.map oD) (k : Int) = some (oD (ix a k)) := by
  rw [at_nat (by rw [List.length_map]; exact h), List.getElem_map, ix_eq h]
theorem oD_imm (x : Int) : (oD x).imm = true := by unfold oD; split <;> rfl
theorem fills_eq {a b : List Int} (hl : a.length = b.length) (hb : a.length ≤ 1000) : m_l_fills [(0, dRow a), (0, dRow b)] = .ok (0, .bl (flF a b)) [some (0, dRow a), some (0, dRow b)] := by
  have c := compL_filt (own := [2]) (g := gname 2) (cs := (tand (tst (two (two (v 1) (v 2) kIx) (cst vn) kIsNot) blOf) (tst (two (two (v 0) (v 2) kIx) (two (v 1) (v 2) kIx) kNe) blOf))) (e := cst (vi 1)) (f := fun (i : Nat) => D.int (i : Int)) (c := flP a b) (k := fun _ => vi 1) (List.range a.length) [some (0, .lst (a.map oD)), some (0, .lst (b.map oD)), none] [] fun i hi => ⟨[some (0, .lst (a.map oD)), some (0, .lst (b.map oD)), some (0, .int (i : Int))], by simp, by
    have hi := List.mem_range.mp hi
    have e1 := at_row (a := a) (k := i) hi
    have e2 := at_row (a := b) (k := i) (by omega)
    unfold flP
    generalize ix a i = x at *
    generalize ix b i = y at *
    unfold oD at *
    by_cases c1 : y < 0
    · rw [if_pos c1] at e2
      simp [e1, e2, c1]
    · rw [if_neg c1] at e2
      by_cases c2 : x < 0
      · rw [if_pos c2] at e1
        simp [e1, e2, c1, c2, e_neNI]
      · rw [if_neg c2] at e1
        simp [e1, e2, c1, c2], fun _ => ⟨by simp, rfl⟩⟩
  rw [List.nil_append] at c
  have kl : kLst (((List.range a.length).filter (flP a b)).map fun _ => vi 1) = some ⟨false, 1, .lst (dnat (((List.range a.length).filter (flP a b)).map fun _ => 1))⟩ := by
    rw [kLst_imm (fun x hx => by obtain ⟨d, _, rfl⟩ := List.mem_map.mp hx; rfl) (by rw [List.length_map, lim_num]; have := List.length_filter_le (flP a b) (List.range a.length); rw [List.length_range] at this; omega), List.map_map]
    unfold dnat
    rw [List.map_map]
    rfl
  have e := fun p q a' b' => e_eqDn (p := p) (q := q) (m := a') (n := b') (l := ((List.range a.length).filter (flP a b)).map fun _ => 1) (k := [])
  have ed : decide ((((List.range a.length).filter (flP a b)).map fun _ => 1) = []) = flF a b := decide_eq_decide.mpr List.map_eq_nil_iff
  rw [ed, show dnat [] = ([] : List D) from rfl] at e
  have rg : ∀ b k, kR1 [⟨b, k, .int (a.length : Int)⟩] = some ((List.range a.length).map fun (i : Nat) => D.int (i : Int)) := fun b k => by
    rw [e_range1 (by omega) (by omega)]
    congr 1
    exact (rng_dnat _)
  have kn : kLst [] = some ⟨false, 1, .lst []⟩ := kLst_imm (xs := []) (by simp) (by simp)
  have la : (a.map oD).length = a.length := List.length_map ..
  unfold dRow
  generalize (((List.range a.length).filter (flP a b)).map fun _ => vi 1) = w1 at *
  generalize dnat (((List.range a.length).filter (flP a b)).map fun _ => 1) = w2 at *
  generalize ((List.range a.length).map fun (i : Nat) => D.int (i : Int)) = w3 at *
  generalize flF a b = ff at *
  generalize a.length = na at *
  generalize a.map oD = ad at *
  generalize b.map oD = bd at *
  unfold m_l_fills fnM b_l_fills
  simp [e_pre, e_even, la, rg, c, kl, e, kn]
theorem fl_true {a b : List Int} (h : ∀ i, i < a.length → ¬ ix b i < 0 → ix a i = ix b i) : flF a b = true := by
  unfold flF
  rw [decide_eq_true_eq, List.filter_eq_nil_iff]
  intro i hi
  rw [List.mem_range] at hi
  unfold flP
  by_cases c : ix b i < 0
  · simp [c]
  · have := h i hi c
    rw [this]
    simp [c]
theorem ix_nrm {r : List Int} {i : Nat} (h : i < r.length) : ix (nrm r) i = if ix r i > -1 then ix r i else -1 := by
  rw [ix_eq (by rw [nrm_len]; exact h), ix_eq h]
  unfold nrm
  rw [List.getElem_map]
theorem fl_nrm {a b : List Int} (ha : a.length = n) (hb : b.length = n) (h : FillsZ n a b) : flF (nrm a) (nrm b) = true := by
  refine fl_true fun i hi c => ?_
  rw [nrm_len] at hi
  rw [ix_nrm (by omega)] at c
  rw [ix_nrm hi, ix_nrm (by omega)]
  split at c
  · rename_i c2
    rw [h i (by omega) (by omega)]
  · omega
end
end Lw
set_option maxHeartbeats 4000000
namespace Lw
open PySem Vs
/-! grown_right -/
theorem dbl_snoc (O : List Bool) (o : Bool) : dbl O ++ [.bl o] = dbl (O ++ [o]) := by unfold dbl; rw [List.map_append]; rfl
theorem dnat_snoc (S : List Nat) (t : Nat) : dnat S ++ [.int (t : Int)] = dnat (S ++ [t]) := by rw [dnat_append]; rfl
theorem shp_rows (W : List (List Int)) : (D.lst (W.map dRow)).shp = true := (Shp.lst (j := 1) fun d hd => by
  obtain ⟨r, _, rfl⟩ := List.mem_map.mp hd
  unfold dRow
  refine Shp.lst fun d hd => ?_
  obtain ⟨i, _, rfl⟩ := List.mem_map.mp hd
  unfold oD
  split
  · exact Shp.non
  · exact Shp.int).shp
section
variable {n t : Nat} {R : List (List Nat)} {S : List Nat} {O : List Bool} {o : Bool}
def posF (R : List (List Nat)) (n : Nat) (S : List Nat) (O : List Bool) (t : Nat) (o : Bool) : Bool := !decide (pairsF R n (S ++ [t]) (O ++ [o]) = [])
abbrev wf (R : List (List Nat)) (n : Nat) (S : List Nat) (O : List Bool) : List (List Int) := withF ((pairsF R n S O).map (·.2))
abbrev eG (R : List (List Nat)) (S : List Nat) (O : List Bool) (t : Nat) (F : List (List Int)) (x5 : Option PV) (a b : Bool) (x7 x8 x9 x10 : Option PV) : Vs.Env := [some (0, .lst (R.map dn)), some (0, .lst (dnat S)), some (0, .lst (dbl O)), some (0, .int (t : Int)), some (0, .lst (F.map dRow)), x5, some (0, .lst [.bl a, .bl b]), x7, x8, x9, x10]
theorem few_snoc (h : Few n R S O) (h5 : n ≤ 5) (ht : t ≤ 1000000000) (hb : S.length < 1000) : Few n R (S ++ [t]) (O ++ [o]) := few_small (h.rc.snoc ht hb) h5
theorem all_fill (h : Few n R S O) (a : List Int) (ha : a ∈ wf R n (S ++ [t]) (O ++ [o])) : a.length = n ∧ ∃ b ∈ wf R n S O, b.length = n ∧ flF a b = true := by
  have h2 := h.rc.h2
  obtain ⟨r, hr, rfl⟩ := with_mem.mp ha
  obtain ⟨q, hq, rfl⟩ := List.mem_map.mp hr
  rw [pairs_snoc h.rc.hl] at hq
  obtain ⟨ok, p, hp, hf⟩ := fits_ok (by omega) h.rc.hR (fun p hp => h.ok hp) hq
  exact ⟨by rw [nrm_len]; exact ok.row.l2, nrm p.2, with_mem.mpr ⟨p.2, List.mem_map.mpr ⟨p, hp, rfl⟩, rfl⟩, by rw [nrm_len]; exact (h.ok hp).row.l2, fl_nrm ok.row.l2 (h.ok hp).row.l2 hf⟩
theorem wf_len (h : Few n R S O) {a : List Int} (ha : a ∈ wf R n S O) : a.length = n := by
  obtain ⟨r, hr, rfl⟩ := with_mem.mp ha
  obtain ⟨q, hq, rfl⟩ := List.mem_map.mp hr
  rw [nrm_len]
  exact (h.ok hq).row.l2
theorem wf_count (h : Few n R S O) : (wf R n S O).length ≤ 5000 := by
  unfold wf withF
  rw [List.length_mergeSort]
  unfold uniq
  have := fold_len (((pairsF R n S O).map (·.2)).map nrm) []
  rw [List.length_map, List.length_map, List.length_nil] at this
  have := h.few S.length (Nat.le_refl _)
  unfold pairsF at *
  omega
theorem grown_turn {x5 : Option PV} {a b : Bool} (h : Few n R S O) (h5 : n ≤ 5) (ht : t ≤ 1000000000) (hb : S.length < 1000) (hab : (if o = true then a else b) = posF R n S O t o) :
    q_l_grown_right_0 (eG R S O t (wf R n S O) x5 a b (some (0, .bl o)) none none none) = .nx (eG R S O t (wf R n S O) x5 a b none none none none) := by
  have hn := h.rc.hn
  have h' := few_snoc (o := o) h h5 ht hb
  obtain ⟨mg, e1⟩ := first_rows_eq (m := 0) (m1 := 1) (m2 := 1) h'
  have s1 : ∀ q m, kLst [⟨q, m, .int (t : Int)⟩] = some ⟨false, 1, .lst [.int (t : Int)]⟩ := fun q m => kLst_imm (xs := [⟨q, m, .int (t : Int)⟩]) (fun x hx => by rw [List.mem_singleton.mp hx]; rfl) (by simp [lim_num])
  have s2 : ∀ q m, kLst [⟨q, m, .bl o⟩] = some ⟨false, 1, .lst [.bl o]⟩ := fun q m => kLst_imm (xs := [⟨q, m, .bl o⟩]) (fun x hx => by rw [List.mem_singleton.mp hx]; rfl) (by simp [lim_num])
  have kn : kLst [] = some ⟨false, 1, .lst []⟩ := kLst_imm (xs := []) (by simp) (by simp)
  have a1 := e_addL (p := false) (q := false) (m := 0) (n := 1) (l := dnat S) (k := [.int (t : Int)]) (.inl rfl) (.inl rfl) (by rw [dnat_length]; simp; omega)
  have a2 := e_addL (p := false) (q := false) (m := 0) (n := 1) (l := dbl O) (k := [.bl o]) (.inl rfl) (.inl rfl) (by rw [dbl_len, h.rc.hl]; simp; omega)
  rw [dnat_snoc] at a1
  rw [dbl_snoc] at a2
  have ne1 := fun p q a b => e_neN (shp_rows (wf R n (S ++ [t]) (O ++ [o]))) (p := p) (q := q) (a := a) (b := b)
  have ed : decide ((wf R n (S ++ [t]) (O ++ [o])).map dRow = []) = !posF R n S O t o := by
    unfold posF
    rw [Bool.not_not]
    refine decide_eq_decide.mpr ?_
    rw [List.map_eq_nil_iff, with_nil, List.map_eq_nil_iff]
  rw [ed, Bool.not_not] at ne1
  -- no row is new
  have inner : ∀ x ∈ wf R n (S ++ [t]) (O ++ [o]), ∀ x8, compL [10] (gname 10) (tst (call m_l_fills [] [.lend 9, .lend 10]) blOf) (fz 0 [10] (v 10)) ((wf R n S O).map dRow) [some (0, .lst (R.map dn)), some (0, .lst (dnat S)), some (0, .lst (dbl O)), some (0, .int (t : Int)), some (0, .lst ((wf R n S O).map dRow)), x5, some (0, .lst [.bl a, .bl b]), some (0, .bl o), x8, some (0, dRow x), none] [] = .ok (((wf R n S O).filter (flF x)).map fun r => ⟨false, 0, .lst (r.map oD)⟩) none := fun x hx x8 => by
    have := compL_filt (own := [10]) (g := gname 10) (cs := (tst (call m_l_fills [] [.lend 9, .lend 10]) blOf)) (e := (fz 0 [10] (v 10))) (f := dRow) (c := flF x) (k := fun r => (⟨false, 0, .lst (r.map oD)⟩ : VV)) (wf R n S O) [some (0, .lst (R.map dn)), some (0, .lst (dnat S)), some (0, .lst (dbl O)), some (0, .int (t : Int)), some (0, .lst ((wf R n S O).map dRow)), x5, some (0, .lst [.bl a, .bl b]), some (0, .bl o), x8, some (0, dRow x), none] [] fun y hy => ⟨[some (0, .lst (R.map dn)), some (0, .lst (dnat S)), some (0, .lst (dbl O)), some (0, .int (t : Int)), some (0, .lst ((wf R n S O).map dRow)), x5, some (0, .lst [.bl a, .bl b]), some (0, .bl o), x8, some (0, dRow x), some (0, dRow y)], by simp, by
      have f := fills_eq (a := x) (b := y) (by rw [(all_fill h x hx).1, wf_len h hy]) (by rw [(all_fill h x hx).1]; omega)
      generalize flF x y = ff at *
      unfold dRow at f ⊢
      simp [f], fun _ => ⟨by unfold dRow; simp, rfl⟩⟩
    rw [List.nil_append] at this
    exact this
  have inner2 : ∀ x, kLst (((wf R n S O).filter (flF x)).map fun r => (⟨false, 0, .lst (r.map oD)⟩ : VV)) = some ⟨false, 1, .lst (((wf R n S O).filter (flF x)).map dRow)⟩ := fun x => kLst_deep (f := fun r : List Int => r.map oD) _ (by have := wf_count h; have := List.length_filter_le (flF x) (wf R n S O); omega)
  have inner3 : ∀ x ∈ wf R n (S ++ [t]) (O ++ [o]), ∀ p q c d, kEq ⟨p, c, .lst (((wf R n S O).filter (flF x)).map dRow)⟩ ⟨q, d, .lst []⟩ = some (vb false) := fun x hx p q c d => by
    rw [e_eqN (shp_rows _)]
    obtain ⟨_, b, hb, _, hf⟩ := all_fill h x hx
    have : b ∈ (wf R n S O).filter (flF x) := List.mem_filter.mpr ⟨hb, hf⟩
    rw [decide_eq_false (fun e => by rw [List.map_eq_nil_iff] at e; rw [e] at this; cases this)]
  have outer : ∀ mg, compL [9] (gname 9) (tst (two (soft [4] (comp (it1 kL (v 4)) (gname 10) (tst (call m_l_fills [] [.lend 9, .lend 10]) blOf) (fz 0 [10] (v 10)) [10])) (argsk (args []) kLst) kEq) blOf) (fz 0 [9] (v 9)) ((wf R n (S ++ [t]) (O ++ [o])).map dRow) [some (0, .lst (R.map dn)), some (0, .lst (dnat S)), some (0, .lst (dbl O)), some (0, .int (t : Int)), some (0, .lst ((wf R n S O).map dRow)), x5, some (0, .lst [.bl a, .bl b]), some (0, .bl o), some (mg, .lst ((wf R n (S ++ [t]) (O ++ [o])).map dRow)), none, none] [] = .ok [] none := fun mg => by
    have := compL_filt (own := [9]) (g := gname 9) (cs := (tst (two (soft [4] (comp (it1 kL (v 4)) (gname 10) (tst (call m_l_fills [] [.lend 9, .lend 10]) blOf) (fz 0 [10] (v 10)) [10])) (argsk (args []) kLst) kEq) blOf)) (e := (fz 0 [9] (v 9))) (f := dRow) (c := fun _ => false) (k := fun r => (⟨false, 0, .lst (r.map oD)⟩ : VV)) (wf R n (S ++ [t]) (O ++ [o])) [some (0, .lst (R.map dn)), some (0, .lst (dnat S)), some (0, .lst (dbl O)), some (0, .int (t : Int)), some (0, .lst ((wf R n S O).map dRow)), x5, some (0, .lst [.bl a, .bl b]), some (0, .bl o), some (mg, .lst ((wf R n (S ++ [t]) (O ++ [o])).map dRow)), none, none] [] fun x hx => ⟨[some (0, .lst (R.map dn)), some (0, .lst (dnat S)), some (0, .lst (dbl O)), some (0, .int (t : Int)), some (0, .lst ((wf R n S O).map dRow)), x5, some (0, .lst [.bl a, .bl b]), some (0, .bl o), some (mg, .lst ((wf R n (S ++ [t]) (O ++ [o])).map dRow)), some (0, dRow x), none], by simp, by
      have i1 := inner x hx (some (mg, .lst ((wf R n (S ++ [t]) (O ++ [o])).map dRow)))
      have i2 := inner2 x
      have i3 := inner3 x hx
      clear inner inner2 inner3 e1 ne1 ed
      generalize (((wf R n S O).filter (flF x)).map dRow) = A1 at *
      generalize (((wf R n S O).filter (flF x)).map fun r => (⟨false, 0, .lst (r.map oD)⟩ : VV)) = A2 at *
      generalize (wf R n (S ++ [t]) (O ++ [o])).map dRow = A3 at *
      generalize (wf R n S O).map dRow = A4 at *
      generalize R.map dn = Rd at *
      generalize dnat S = Sd at *
      generalize dbl O = Od at *
      generalize dRow x = xd at *
      generalize (tst (call m_l_fills [] [.lend 9, .lend 10]) blOf) = tt at *
      simp [i1, i2, i3, kn], fun h => by cases h⟩
    rw [this]
    simp
  have o2 : compF (Vs.R.ok [] none) = .ok ⟨false, 1, .lst []⟩ none := by simp [kn]
  clear inner inner2 inner3
  have hab' := hab
  generalize posF R n S O t o = po at *
  unfold eG
  generalize (wf R n (S ++ [t]) (O ++ [o])).map dRow = A3 at *
  generalize (wf R n S O).map dRow = A4 at *
  generalize R.map dn = Rd at *
  generalize dnat (S ++ [t]) = St at *
  generalize dbl (O ++ [o]) = Ot at *
  generalize dnat S = Sd at *
  generalize dbl O = Od at *
  unfold q_l_grown_right_0
  generalize (tst (two (soft [4] (comp (it1 kL (v 4)) (gname 10) (tst (call m_l_fills [] [.lend 9, .lend 10]) blOf) (fz 0 [10] (v 10)) [10])) (argsk (args []) kLst) kEq) blOf) = tt at *
  have ou := outer 0
  have pl : VV.plain ⟨false, 1, .lst []⟩ = true := rfl
  have i0 : atD [D.bl a, D.bl b] 0 = some (.bl a) := rfl
  have i1 : atD [D.bl a, D.bl b] 1 = some (.bl b) := rfl
  cases o <;> cases mg <;> simp_all [e_tdy, e_even, e_neB, VV.stable, VV.kept]
end
end Lw
set_option maxHeartbeats 4000000
namespace Lw
open PySem Vs
/-! grown_right is right -/
section
variable {n t : Nat} {R : List (List Nat)} {S : List Nat} {O : List Bool} {o : Bool}
theorem poss_item (h : Few n R S O) (h5 : n ≤ 5) (ht : t ≤ 1000000000) (hb : S.length < 1000) {x4 x5 x6 x8 x9 x10 : Option PV} (o : Bool) :
    (call m_p_is_possible [] [.lend 0, .val (two (fz 0 [1] (v 1)) (argsk (args [(fz 0 [3] (v 3))]) kLst) kAdd), .val (two (fz 0 [2] (v 2)) (argsk (args [(fz 0 [7] (v 7))]) kLst) kAdd)]) [some (0, .lst (R.map dn)), some (0, .lst (dnat S)), some (0, .lst (dbl O)), some (0, .int (t : Int)), x4, x5, x6, some (0, .bl o), x8, x9, x10] = .ok (vb (posF R n S O t o)) none := by
  have h' := few_snoc (o := o) h h5 ht hb
  have e1 := possible_eq (m := 0) (m1 := 1) (m2 := 1) h'
  have s1 : ∀ q m, kLst [⟨q, m, .int (t : Int)⟩] = some ⟨false, 1, .lst [.int (t : Int)]⟩ := fun q m => kLst_imm (xs := [⟨q, m, .int (t : Int)⟩]) (fun x hx => by rw [List.mem_singleton.mp hx]; rfl) (by simp [lim_num])
  have s2 : ∀ q m, kLst [⟨q, m, .bl o⟩] = some ⟨false, 1, .lst [.bl o]⟩ := fun q m => kLst_imm (xs := [⟨q, m, .bl o⟩]) (fun x hx => by rw [List.mem_singleton.mp hx]; rfl) (by simp [lim_num])
  have a1 := e_addL (p := false) (q := false) (m := 0) (n := 1) (l := dnat S) (k := [.int (t : Int)]) (.inl rfl) (.inl rfl) (by rw [dnat_length]; simp; omega)
  have a2 := e_addL (p := false) (q := false) (m := 0) (n := 1) (l := dbl O) (k := [.bl o]) (.inl rfl) (.inl rfl) (by rw [dbl_len, h.rc.hl]; simp; omega)
  rw [dnat_snoc] at a1
  rw [dbl_snoc] at a2
  have ed : (!decide (pairsF R n (S ++ [t]) (O ++ [o]) = [])) = posF R n S O t o := rfl
  rw [ed] at e1
  generalize posF R n S O t o = po at *
  generalize R.map dn = Rd at *
  generalize dnat (S ++ [t]) = St at *
  generalize dbl (O ++ [o]) = Ot at *
  generalize dnat S = Sd at *
  generalize dbl O = Od at *
  simp [s1, s2, a1, a2, e1]
theorem grown_eq (h : Few n R S O) (h5 : n ≤ 5) (ht : t ≤ 1000000000) (hb : S.length < 1000) (h0 : pairsF R n S O ≠ []) :
    m_l_grown_right [(0, .lst (R.map dn)), (0, .lst (dnat S)), (0, .lst (dbl O)), (0, .int (t : Int))] = .ok (0, .bl true) [some (0, .lst (R.map dn)), some (0, .lst (dnat S)), some (0, .lst (dbl O)), some (0, .int (t : Int))] := by
  obtain ⟨mf, e1⟩ := first_rows_eq (m := 0) (m1 := 0) (m2 := 0) h
  have e2 := next_one_eq (m := 0) (m1 := 0) (m2 := 0) h ht
  rw [sort_eq (fun p hp => h.ok hp) h0, ← pairs_snoc h.rc.hl, ← pairs_snoc h.rc.hl] at e2
  have ea : (!decide (pairsF R n (S ++ [t]) (O ++ [true]) = [])) = posF R n S O t true := rfl
  have eb : (!decide (pairsF R n (S ++ [t]) (O ++ [false]) = [])) = posF R n S O t false := rfl
  rw [ea, eb] at e2
  have it := fun (x4 x5 : Option PV) o => poss_item (x4 := x4) (x5 := x5) (x6 := none) (x8 := none) (x9 := none) (x10 := none) h h5 ht hb o
  have cm := fun (x4 x5 : Option PV) => compL_map (own := [7]) (g := gname 7) (e := (call m_p_is_possible [] [.lend 0, .val (two (fz 0 [1] (v 1)) (argsk (args [(fz 0 [3] (v 3))]) kLst) kAdd), .val (two (fz 0 [2] (v 2)) (argsk (args [(fz 0 [7] (v 7))]) kLst) kAdd)])) (f := D.bl) (k := fun o => vb (posF R n S O t o)) [true, false] [some (0, .lst (R.map dn)), some (0, .lst (dnat S)), some (0, .lst (dbl O)), some (0, .int (t : Int)), x4, x5, none, none, none, none, none] [] fun o _ => ⟨_, rfl, it x4 x5 o, rfl⟩
  have kl : kLst [vb (posF R n S O t true), vb (posF R n S O t false)] = some ⟨false, 1, .lst [.bl (posF R n S O t true), .bl (posF R n S O t false)]⟩ := kLst_imm (xs := [vb (posF R n S O t true), vb (posF R n S O t false)]) (fun x hx => by
    simp only [List.mem_cons, List.not_mem_nil, or_false] at hx
    rcases hx with rfl | rfl <;> rfl) (by simp [lim_num])
  have kb : ∀ a b, kLst [vb a, vb b] = some ⟨false, 1, .lst [.bl a, .bl b]⟩ := fun a b => kLst_imm (xs := [vb a, vb b]) (fun x hx => by
    simp only [List.mem_cons, List.not_mem_nil, or_false] at hx
    rcases hx with rfl | rfl <;> rfl) (by simp [lim_num])
  have loop := fun (x5 : Option PV) => forL_eq (g := gname 7) (b := q_l_grown_right_0) [D.bl true, D.bl false] (fun _ => eG R S O t (wf R n S O) x5 (posF R n S O t true) (posF R n S O t false) none none none none) fun k d hd => by
    have : ∃ o : Bool, d = .bl o := by
      match k, hd with
      | 0, hd => injection hd with hd; exact ⟨true, hd.symm⟩
      | 1, hd => injection hd with hd; exact ⟨false, hd.symm⟩
    obtain ⟨o, rfl⟩ := this
    have := grown_turn (o := o) (x5 := x5) (a := posF R n S O t true) (b := posF R n S O t false) h h5 ht hb (by cases o <;> rfl)
    rw [← this]
    rfl
  have pne : posF R n S O t true = true ∨ posF R n S O t false = true := by
    unfold posF
    rw [pairs_snoc h.rc.hl, pairs_snoc h.rc.hl]
    obtain ⟨p, hp⟩ := List.exists_mem_of_ne_nil _ h0
    by_cases c : (t : Int) ∈ p.1
    · left
      rw [decide_eq_false ((grow_t (fun p hp => h.ok hp)).mpr ⟨p, hp, .inl c⟩)]
      rfl
    · right
      rw [decide_eq_false (grow_f.mpr ⟨p, hp, c⟩)]
      rfl
  simp only [List.map_cons, List.map_nil, List.nil_append] at cm
  unfold eG at loop
  unfold wf at *
  generalize posF R n S O t true = a at *
  generalize posF R n S O t false = b at *
  generalize (withF ((pairsF R n S O).map (·.2))).map dRow = A4 at *
  generalize R.map dn = Rd at *
  generalize dnat S = Sd at *
  generalize dbl O = Od at *
  unfold m_l_grown_right fnM
  rw [b_l_grown_right_eq]
  unfold t_l_grown_right_3 w_l_grown_right_0
  generalize q_l_grown_right_0 = Q at *
  unfold t_l_grown_right_0 t_l_grown_right_1 t_l_grown_right_2 t_l_grown_right_4
  generalize (call m_p_is_possible [] [.lend 0, .val (two (fz 0 [1] (v 1)) (argsk (args [(fz 0 [3] (v 3))]) kLst) kAdd), .val (two (fz 0 [2] (v 2)) (argsk (args [(fz 0 [7] (v 7))]) kLst) kAdd)]) = E at *
  have w : ∀ a b, (if (a && b) = true then (vs "open" : VV) else if (a && !b) = true then vs "hit" else vs "miss") = vs (wordF a b) := fun a b => by
    cases a <;> cases b <;> rfl
  cases a <;> cases b <;> cases mf <;> simp [e_pre, e_even, e1, e2, cm, kb, kTup, dmode, minM, lim_num, VV.stable, VV.kept, e_eqBB, wordF, gtup, gall, loop] <;> simp at pne
end
end Lw
set_option maxHeartbeats 4000000
set_option exponentiation.threshold 5000
namespace Lw
open PySem Vs
/-! the source of draws of the laws 37 to 52 -/
structure Sr where
  a : Int
  b : Int
  c : Int
def Sr.D (s : Sr) : D := .lst [.int s.a, .int s.b, .int s.c]
@[simp] theorem Sr.D_imm (s : Sr) : s.D.imm = false := rfl
def mix1 (b c : Int) : Int := (b + 1000000021 * (c + 1)) ^ 3 % (10 ^ 41 + 53)
def mix2 (b c : Int) : Int := (mix1 b c * 19 + 69061 * (c + 1)) ^ 3 % (10 ^ 43 + 81)
/-- a draw of so many; the source behind it -/
def drI (s : Sr) (n : Nat) : Int := if 0 < s.a then s.a % n else mix2 s.b s.c / 1000000 % n
def dr (s : Sr) (n : Nat) : Nat := (drI s n).toNat
def nx (s : Sr) (n : Nat) : Sr := if 0 < s.a then ⟨s.a / n, s.b, s.c⟩ else ⟨s.a, s.b, s.c + 1⟩
/-- so many draws at most -/
structure Src (N : Nat) (s : Sr) : Prop where
  b0 : 0 ≤ s.b
  b1 : s.b < 2 ^ 200
  c0 : 0 ≤ s.c
  c1 : s.c ≤ N
theorem Src.le {N M : Nat} {s : Sr} (h : Src N s) (hm : N ≤ M) : Src M s := ⟨h.b0, h.b1, h.c0, by have := h.c1; omega⟩
theorem Src.nx {N : Nat} {s : Sr} (h : Src N s) (n : Nat) : Src (N + 1) (nx s n) := by
  obtain ⟨h1, h2, h3, h4⟩ := h
  unfold Lw.nx
  split
  · exact ⟨h1, h2, h3, by show s.c ≤ _; omega⟩
  · exact ⟨h1, h2, by show 0 ≤ s.c + 1; omega, by show s.c + 1 ≤ _; omega⟩
theorem drI_nn {s : Sr} {n : Nat} (h : 0 < n) : 0 ≤ drI s n := by
  unfold drI
  split <;> exact Int.emod_nonneg _ (by omega)
theorem drI_lt {s : Sr} {n : Nat} (h : 0 < n) : drI s n < n := by
  unfold drI
  split <;> exact Int.emod_lt_of_pos _ (by omega)
theorem dr_lt {s : Sr} {n : Nat} (h : 0 < n) : dr s n < n := by
  have := drI_nn (s := s) h
  have := drI_lt (s := s) h
  unfold dr
  omega
theorem dr_I {s : Sr} {n : Nat} (h : 0 < n) : drI s n = (dr s n : Nat) := by
  have := drI_nn (s := s) h
  unfold dr
  omega
theorem dip_eq {N : Nat} {s : Sr} {n : Nat} (h : Src N s) (hN : N < 1000000 := by omega) (hn : 0 < n := by omega) (hn2 : n < 1000000000000 := by omega) : m_l_dip [(1, s.D), (0, .int n)] = .ok (0, .int (dr s n : Nat)) [some (1, (nx s n).D), some (0, .int n)] := by
  obtain ⟨h1, h2, h3, h4⟩ := h
  rw [← dr_I hn]
  obtain ⟨a, b, c⟩ := s
  have hn' : (0 : Int) < n := by omega
  have hn3 : (n : Int).natAbs < big := big_of (k := 300) (by omega) (by decide)
  by_cases ha : 0 < a
  · unfold m_l_dip b_l_dip fnM Sr.D drI nx
    simp [ha, e_modI hn', e_divI hn' hn3, nix]
  · simp only at h1 h2 h3 h4
    have b1 : (1000000021 : Int).natAbs < big := small_big (by decide) (by decide)
    have b2 : (69061 : Int).natAbs < big := small_big (by decide) (by decide)
    have b3 : (10 : Int).natAbs < big := small_big (by decide) (by decide)
    have b4 : (1000000 : Int).natAbs < big := small_big (by decide) (by decide)
    have b8 : (19 : Int).natAbs < big := small_big (by decide) (by decide)
    have b5 : (c + 1).natAbs < big := small_big (by omega) (by omega)
    have b6 : (b + 1000000021 * (c + 1)).natAbs < big := big_of (k := 300) (by omega) (by decide)
    have m1 : 0 ≤ mix1 b c ∧ mix1 b c < 10 ^ 41 + 53 := ⟨Int.emod_nonneg _ (by decide), Int.emod_lt_of_pos _ (by decide)⟩
    have b9 : (mix1 b c).natAbs < big := big_of (k := 300) (by omega) (by decide)
    have b7 : (mix1 b c * 19 + 69061 * (c + 1)).natAbs < big := big_of (k := 300) (by omega) (by decide)
    unfold drI nx mix2
    unfold mix1 at b7 b9 ⊢
    rw [show (10 : Int) ^ 41 + 53 = 100000000000000000000000000000000000000053 by decide] at b7 b9
    unfold m_l_dip b_l_dip fnM Sr.D
    simp [ha, e_modI hn', e_mulI b1 b5, e_mulI b2 b5, e_mulI b9 b8, e_powI b6, e_powI b7, e_powI b3, e_modI, e_divI (by decide : (0:Int) < 1000000) b4, nix]
def wellF (x : Int) (k : Nat) : Sr := ⟨if (if x < 0 then -x else x) - 10 ^ 18 > 0 then (if x < 0 then -x else x) - 10 ^ 18 else 0, (x * 89 + 17 * k + 41) % 1000000000000000000000000000000000000037, 0⟩
theorem wellF_ok {x : Int} {k : Nat} : Src 0 (wellF x k) := by
  have r1 : ∀ z : Int, 0 ≤ z % 1000000000000000000000000000000000000037 ∧ z % 1000000000000000000000000000000000000037 < 1000000000000000000000000000000000000037 := fun z => ⟨Int.emod_nonneg _ (by decide), Int.emod_lt_of_pos _ (by decide)⟩
  have := r1 (x * 89 + 17 * k + 41)
  unfold wellF
  exact ⟨this.1, by show _ % _ < (2 : Int) ^ 200; omega, Int.le_refl 0, Int.le_refl 0⟩
theorem well_eq {ns : List Int} {k : Nat} (hk : k < 1000) : ∃ x : Int, m_l_well [(0, .lst (dints ns)), (0, .int k)] = .ok (1, (wellF x k).D) [some (0, .lst (dints ns)), some (0, .int k)] := by
  have b3 : (10 : Int).natAbs < big := small_big (by decide) (by decide)
  have b5 : (k : Int).natAbs < big := small_big (by omega) (by omega)
  have b6 : (17 : Int).natAbs < big := small_big (by decide) (by decide)
  have hl : (dints ns).length = ns.length := by simp [dints]
  have run : ∀ x : Int, (k < ns.length → atD (dints ns) (k : Int) = some (.int x)) → (¬ k < ns.length → x = 0) → m_l_well [(0, .lst (dints ns)), (0, .int k)] = .ok (1, (wellF x k).D) [some (0, .lst (dints ns)), some (0, .int k)] := fun x h1 h2 => by
    by_cases c : k < ns.length
    · have c' : (k : Int) < ns.length := by omega
      unfold m_l_well b_l_well fnM Sr.D wellF
      simp [hl, c, c', h1 c, e_powI b3, e_modI, e_mulS (show (89 : Int).natAbs < 18446744073709551616 by decide), e_mulI b6 b5, kLst, VV.stable, VV.kept, dmode, minM, lim]
    · have c' : ¬ (k : Int) < ns.length := by omega
      have h3 := h2 c
      subst h3
      unfold m_l_well b_l_well fnM Sr.D wellF
      simp [hl, c, c', e_powI b3, e_modI, e_mulS (show (89 : Int).natAbs < 18446744073709551616 by decide), e_mulI b6 b5, kLst, VV.stable, VV.kept, dmode, minM, lim]
  by_cases c : k < ns.length
  · have hc : k < (dints ns).length := by omega
    refine ⟨ns[k], run _ (fun _ => ?_) fun h => absurd c h⟩
    rw [at_nat hc]
    simp [dints]
  · exact ⟨0, run 0 (fun h => absurd h c) fun _ => rfl⟩
theorem e_popAt {m : Nat} {p : Bool} {n : Nat} {l : List Nat} {i : Nat} (h : i < l.length) (hl : l.length ≤ lim) : rPopAt (m + 1, .lst (dnat l)) [⟨p, n, .int i⟩] = some (⟨false, m, .int (nth l i : Nat)⟩, (m + 1, .lst (dnat (l.eraseIdx i)))) := by
  unfold rPopAt
  simp only [dnat_length, hl, if_true, nix_nat h, Option.bind_some, dnat_get, List.getElem?_eq_getElem h, Option.map_some, nth_eq h]
  rw [dnat_eraseIdx]
theorem perm_eq {N n : Nat} {s : Sr} (hs : Src N s) (hN : N < 900000 := by omega) (h0 : 0 < n := by omega) (hn : n < 900 := by omega) : ∃ (p : List Nat) (s' : Sr), Pm n p ∧ Src (N + n) s' ∧ m_l_perm [(1, s.D), (0, .int n)] = .ok (1, .lst (dnat p)) [some (1, s'.D), some (0, .int n)] := by
  have hr : rng 0 (n : Int) ≠ [] := by intro z; have := congrArg List.length z; rw [rng_len] at this; simp at this; omega
  obtain ⟨xs, ρ', e, q, l, s', rfl, rfl, h1, h2, h3⟩ := compL_eff1 (own := [3]) (g := gname 3) (e := (recv 2 (args [(call m_l_dip [] [.lend 0, .val (argsk (args [(v 2)]) kLen)])]) rPopAt))
    (fun k ρ acc => ∃ (q l : List Nat) (s' : Sr), ρ = [some (1, s'.D), some (0, .int n), some (1, .lst (dnat l)), none] ∧ acc = q.map (fun (i : Nat) => vi i) ∧ q.length = k ∧ (q ++ l).Perm (List.range n) ∧ Src (N + k) s')
    (rng 0 n) [some (1, s.D), some (0, .int n), some (1, .lst (dnat (List.range n))), none] hr (fun k d ρ acc hd hp => by
      obtain ⟨q, l, s', rfl, rfl, q1, q2, q3⟩ := hp
      obtain ⟨rfl, hk⟩ := rng_get hd
      have hll : l.length = n - k := by
        have := q2.length_eq
        rw [List.length_append, List.length_range] at this
        omega
      have e1 := dip_eq (n := l.length) q3
      have hi : dr s' l.length < l.length := dr_lt (by omega)
      have h3 := q3.nx l.length
      generalize nx s' l.length = s2 at e1 h3
      generalize dr s' l.length = i at e1 hi
      have e2 := e_popAt (m := 0) (p := false) (n := 0) hi (by rw [lim_num]; omega)
      refine ⟨[some (1, s'.D), some (0, .int n), some (1, .lst (dnat l)), some (0, .int (0 + k))], vi (nth l i : Nat), [some (1, s2.D), some (0, .int n), some (1, .lst (dnat (l.eraseIdx i))), some (0, .int (0 + k))], rfl, by simp [e1, e2], rfl, q ++ [nth l i], l.eraseIdx i, s2, rfl, by simp, by simp [q1], ?_, h3.le (by omega)⟩
      rw [List.append_assoc]
      refine List.Perm.trans (List.Perm.append_left q ?_) q2
      rw [nth_eq hi]
      exact perm_erase hi) ⟨[], List.range n, s, rfl, rfl, rfl, List.Perm.refl _, hs⟩
  rw [rng_len, show ((n : Int) - 0).toNat = n by omega] at h1 h3
  have hl0 : l = [] := by
    have := h2.length_eq
    rw [List.length_append, List.length_range] at this
    exact List.length_eq_zero_iff.mp (by omega)
  subst hl0
  rw [List.append_nil] at h2
  refine ⟨q, s', h2, h3, ?_⟩
  have f1 := kLst_nats (m := 0) (xs := q) (by rw [h1, lim_num]; omega)
  unfold m_l_perm fnM b_l_perm
  simp [e_listRange' (show n ≤ 16777216 by omega), e_range1 (show -(2 ^ 62) ≤ (n : Int) by omega) (show (n : Int) < 2 ^ 62 by omega), e, f1]
end Lw
set_option maxHeartbeats 4000000
namespace Lw
open PySem Vs
/-! lifted permutations, rules that are drawn -/
theorem lift_eq {n i g : Nat} (hn : n ≤ 1000) (hi : i ≤ g) (hg : g < n) : m_l_lift [(0, .int n), (0, .int i), (0, .int g)] = .ok (1, .lst (dnat (rmap n (liftF i g)))) [some (0, .int n), some (0, .int i), some (0, .int g)] := by
  obtain ⟨ρ', e, x4, rfl⟩ := forL_inv0 (g := gname 4) (b := (asg (two (v 4) (cst (vi 1)) kSub) (gset 3 (v 4)))) (fun k ρ => ∃ x4, ρ = [some (0, .int n), some (0, .int i), some (0, .int g), some (1, .lst (dnat (rmap n (fun x => if i < x ∧ x < i + 1 + k then x - 1 else x)))), x4])
    (rng ((i : Int) + 1) ((g : Int) + 1)) [some (0, .int n), some (0, .int i), some (0, .int g), some (1, .lst (dnat (List.range n))), none]
    (fun k d ρ hd h => by
      obtain ⟨x4, rfl⟩ := h
      obtain ⟨rfl, hk⟩ := rng_get hd
      have hk : k < g - i := by omega
      have h1 : nix n ((i : Int) + 1 + k) = some (i + 1 + k) := by
        rw [show (i : Int) + 1 + k = ((i + 1 + k : Nat) : Int) by omega]
        exact nix_nat (by omega)
      have h2 : (rmap n (fun x => if i < x ∧ x < i + 1 + k then x - 1 else x)).set (i + 1 + k) (i + k) = rmap n (fun x => if i < x ∧ x < i + 1 + (k + 1) then x - 1 else x) := rmap_set fun x hx => by
        split <;> split <;> (try split) <;> omega
      have h3 : (i : Int) + 1 + k - 1 = ((i + k : Nat) : Int) := by omega
      refine ⟨[some (0, .int n), some (0, .int i), some (0, .int g), some (1, .lst (dnat (rmap n (fun x => if i < x ∧ x < i + 1 + (k + 1) then x - 1 else x)))), some (0, .int ((i : Int) + 1 + k))], ?_, _, rfl⟩
      rw [← h2]
      have hl : (rmap n (fun x => if i < x ∧ x < i + 1 + k then x - 1 else x)).length = n := rmap_len
      generalize rmap n (fun x => if i < x ∧ x < i + 1 + k then x - 1 else x) = f at *
      rw [← dnat_set]
      simp [h1, h3, hl]) ⟨none, by
        rw [rmap_id]
        have : (fun x : Nat => x) = fun x => if i < x ∧ x < i + 1 + 0 then x - 1 else x := by
          funext x
          split <;> omega
        rw [this]⟩
  rw [rng_len, show ((g : Int) + 1 - ((i : Int) + 1)).toNat = g - i by omega] at e
  have h2 : (rmap n (fun x => if i < x ∧ x < i + 1 + (g - i) then x - 1 else x)).set i g = rmap n (liftF i g) := rmap_set fun x hx => by
    unfold liftF
    split <;> (try split) <;> (try split) <;> omega
  have hl : (rmap n (fun x => if i < x ∧ x < i + 1 + (g - i) then x - 1 else x)).length = n := rmap_len
  have h1 : nix n (i : Int) = some i := nix_nat (by omega)
  rw [← h2]
  generalize rmap n (fun x => if i < x ∧ x < i + 1 + (g - i) then x - 1 else x) = f at *
  rw [← dnat_set]
  unfold m_l_lift fnM b_l_lift
  simp [e_listRange' (show n ≤ 16777216 by omega), e_range2 (show -(2 ^ 62) ≤ (i : Int) + 1 by omega) (show (i : Int) + 1 < 2 ^ 62 by omega) (show -(2 ^ 62) ≤ (g : Int) + 1 by omega) (show (g : Int) + 1 < 2 ^ 62 by omega), e, h1, hl]
noncomputable def moveB : MS := (sq (asg (argsk (args [(one (v 1) fun x => kRange [x]), (call m_l_lift [] [.lend 1, .lend 3, .val (two (fz 0 [3] (v 3)) (call m_l_dip [] [.lend 0, .val (two (v 1) (v 3) kSub)]) kAdd)]), (call m_l_perm [] [.lend 0, .lend 1])]) kLst) (gname 4))
    (ex (recv 2 (args [(fz 1 [4] (ixv2 4 (call m_l_dip [] [.lend 0, .val (cst (vi 3))])))]) rAppend)))
theorem move_ok {N n k : Nat} {s : Sr} {R : List D} {x4 : Option PV} (hs : Src N s) (hN : N < 500000) (hn : n ≤ 12) (hk : k < n) (hR : R.length < 1000) : ∃ (p : List Nat) (s' : Sr) (y4 : Option PV), Pm n p ∧ Src (N + 20) s' ∧
    moveB [some (1, s.D), some (0, .int n), some (1, .lst R), some (0, .int k), x4] = .nx [some (1, s'.D), some (0, .int n), some (1, .lst (R ++ [.lst (dnat p)])), some (0, .int k), y4] := by
  have d1 := dip_eq (n := n - k) hs
  have h1 := hs.nx (n - k)
  have b1 : dr s (n - k) < n - k := dr_lt (by omega)
  rw [show ((n - k : Nat) : Int) = (n : Int) - k by omega] at d1
  generalize dr s (n - k) = w at d1 b1
  generalize nx s (n - k) = s1 at d1 h1
  have l1 := lift_eq (n := n) (i := k) (g := k + w) (by omega) (by omega) (by omega)
  have l2 := lift_pm (n := n) (i := k) (g := k + w) (by omega) (by omega)
  rw [show ((k + w : Nat) : Int) = (k : Int) + w by omega] at l1
  generalize rmap n (liftF k (k + w)) = q at l1 l2
  obtain ⟨p, s2, hp, h2, e2⟩ := perm_eq (n := n) h1
  have d3 : m_l_dip [(1, s2.D), (0, .int 3)] = .ok (0, .int (dr s2 3 : Nat)) [some (1, (nx s2 3).D), some (0, .int 3)] := dip_eq (n := 3) h2
  have h3 := h2.nx 3
  have b3 : dr s2 3 < 3 := dr_lt (by decide)
  generalize dr s2 3 = u at d3 b3
  generalize nx s2 3 = s3 at d3 h3
  obtain ⟨d, ed, hd⟩ := at_mem (l := [.lst (dnat (List.range n)), .lst (dnat q), .lst (dnat p)]) (i := u) (by simpa using b3)
  obtain ⟨z, rfl, hz⟩ : ∃ z, d = .lst (dnat z) ∧ Pm n z := by
    simp only [List.mem_cons, List.not_mem_nil, or_false] at hd
    rcases hd with rfl | rfl | rfl
    · exact ⟨_, rfl, Pm.id n⟩
    · exact ⟨_, rfl, l2⟩
    · exact ⟨_, rfl, hp⟩
  refine ⟨z, s3, some (1, .lst [.lst (dnat (List.range n)), .lst (dnat q), .lst (dnat p)]), hz, h3.le (by omega), ?_⟩
  have hR' : R.length < lim := by rw [lim_num]; omega
  have rg := e_listRange' (p := false) (m := 0) (n := n) (by omega)
  generalize List.range n = rn at *
  unfold moveB
  simp [d1, l1, e2, d3, ed, rg, rAppend, hR', VV.stable, VV.kept]
theorem moves_eq {N n : Nat} {s : Sr} (hs : Src N s) (hN : N < 400000 := by omega) (h0 : 0 < n := by omega) (hn : n ≤ 12 := by omega) : ∃ (R : List (List Nat)) (s' : Sr), IsRule n R ∧ Src (N + 240) s' ∧ m_l_moves [(1, s.D), (0, .int n)] = .ok (1, .lst (R.map dn)) [some (1, s'.D), some (0, .int n)] := by
  obtain ⟨ρ', e, R, s', x3, x4, rfl, h1, h2, h3⟩ := forL_inv0 (g := gname 3) (b := moveB) (fun k ρ => ∃ (R : List (List Nat)) (s' : Sr) (x3 x4 : Option PV), ρ = [some (1, s'.D), some (0, .int n), some (1, .lst (R.map dn)), x3, x4] ∧ R.length = k ∧ (∀ p ∈ R, Pm n p) ∧ Src (N + 20 * k) s')
    (rng 0 n) [some (1, s.D), some (0, .int n), some (1, .lst []), none, none]
    (fun k d ρ hd h => by
      obtain ⟨R, s', x3, x4, rfl, q1, q2, q3⟩ := h
      obtain ⟨rfl, hk⟩ := rng_get hd
      obtain ⟨p, s2, y4, hp, h2, e⟩ := move_ok (x4 := x4) (R := R.map dn) (k := k) q3 (by omega) hn (by omega) (by rw [List.length_map]; omega)
      refine ⟨_, by simp only [e_gname, e_keptI, seq_nx, put_z, put_s, Int.zero_add]; exact e, R ++ [p], s2, some (0, .int k), y4, by simp, by simp [q1], ?_, h2.le (by omega)⟩
      intro p' hp'
      rcases List.mem_append.mp hp' with z | z
      · exact q2 p' z
      · rw [List.mem_singleton.mp z]; exact hp) ⟨[], s, none, none, rfl, rfl, by simp, hs⟩
  rw [rng_len, show ((n : Int) - 0).toNat = n by omega] at h1 h3
  refine ⟨R, s', ⟨h1, h2⟩, h3.le (by omega), ?_⟩
  unfold moveB at e
  unfold m_l_moves fnM b_l_moves
  simp [e_range1 (show -(2 ^ 62) ≤ (n : Int) by omega) (show (n : Int) < 2 ^ 62 by omega), e]
end Lw
set_option maxHeartbeats 4000000
namespace Lw
open PySem Vs
/-! misses of fresh blocks; one hit alone -/
def dz (L : List Nat) : List Int := L.map fun (i : Nat) => (i : Int)
theorem dz_dints (L : List Nat) : dints (dz L) = dnat L := by unfold dints dz dnat; rw [List.map_map]; rfl
theorem nrm_dz (L : List Nat) : nrm (dz L) = dz L := by
  unfold nrm dz
  rw [List.map_map]
  refine List.map_congr_left fun x _ => ?_
  show (if (x : Int) > -1 then (x : Int) else -1) = (x : Int)
  rw [if_pos (by omega)]
theorem dRow_dz (L : List Nat) : dRow (dz L) = .lst (dnat L) := by
  unfold dRow dz dnat
  rw [List.map_map]
  congr 1
theorem with_to {rows T : List (List Int)} (h1 : (uniq (rows.map nrm)).Perm T) (h2 : T.Pairwise (· ≤ ·)) : withF rows = T := by
  unfold withF
  have s := List.pairwise_mergeSort (le := fun p q : List Int => decide (p ≤ q)) (fun a b c h1 h2 => decide_eq_true (List.le_trans (of_decide_eq_true h1) (of_decide_eq_true h2))) (fun a b => by
    rcases List.le_total a b with h | h
    · rw [decide_eq_true h]; rfl
    · rw [decide_eq_true h, Bool.or_true]) (uniq (rows.map nrm))
  exact List.Perm.eq_of_pairwise (le := (· ≤ ·)) (fun a b _ _ h1 h2 => List.le_antisymm h1 h2) (s.imp fun h => of_decide_eq_true h) h2 ((List.mergeSort_perm _ _).trans h1)
def emptyF (n : Nat) : List (List Int) := (List.range n).map fun k => List.replicate (n - 1 - k) (-1) ++ [5] ++ List.replicate k (-1)
theorem empty_dec : ∀ n : Fin 6, 2 ≤ n.val → (uniq (((List.range n.val).map fun k => (List.replicate n.val (-1)).set k 5).map nrm)).Perm (emptyF n.val) ∧ (emptyF n.val).Pairwise (· ≤ ·) := by decide +kernel
section
variable {n t : Nat} {R : List (List Nat)} {S T : List Nat} {O : List Bool} {P : List Pr}
theorem ix_start {k : Nat} (h : k < n) : ix (start n).1 k = -1 - (k : Int) := by
  have : k < (start n).1.length := by unfold start; simpa using h
  rw [ix_eq this]
  show ((List.range n).map fun (k : Nat) => -1 - (k : Int))[k]'(by simpa using h) = _
  rw [List.getElem_map, List.getElem_range]
theorem flat_one {α β γ : Type} {f : α → List β} {g : α → β} {h : β → γ} : ∀ l : List α, (∀ a ∈ l, f a = [g a]) → (l.flatMap f).map h = l.map fun a => h (g a)
  | [], _ => rfl
  | a :: l, hf => by
    rw [List.flatMap_cons, List.map_append, hf a (List.mem_cons_self ..), flat_one l fun b hb => hf b (List.mem_cons_of_mem _ hb)]
    rfl
theorem one_hit (h2 : 2 ≤ n) (h5 : n ≤ 5) : withF ((pairsF R n [5] [true]).map (·.2)) = emptyF n := by
  have e : (pairsF R n [5] [true]).map (·.2) = (List.range n).map fun k => (List.replicate n (-1)).set k 5 := by
    have : pairsF R n [5] [true] = fits R (5 : Int) true true [start n] := rfl
    rw [this]
    unfold fits
    rw [List.flatMap_singleton]
    unfold fit1
    have h5' : (5 : Int) ∉ (start n).1 := fun h => by
      unfold start at h
      obtain ⟨k, _, e⟩ := List.mem_map.mp h
      omega
    rw [if_neg h5', if_neg (by decide), if_pos rfl]
    have hl : (start n).1.length = n := by unfold start; simp
    rw [hl]
    have : ∀ k ∈ List.range n, fitK R 5 (start n) k = [(mv (R.getD k []) ((start n).1.set k 5), (List.replicate n (-1)).set k 5)] := fun k hk => by
      have hk := List.mem_range.mp hk
      unfold fitK
      rw [ix_start hk, if_pos (by omega), show (-1 - (-1 - (k : Int))).toNat = k by omega]
      rfl
    exact flat_one _ this
  rw [e]
  obtain ⟨a, b⟩ := empty_dec ⟨n, by omega⟩ h2
  exact with_to a b
theorem fresh_run (h1 : 1 ≤ n) (hR : IsRule n R) : ∀ (T S : List Nat) (O : List Bool), O.length = S.length → T.length ≤ n → T.Nodup → (∀ t ∈ T, t ∉ S) →
    (pairsF R n S O ≠ [] → pairsF R n (S ++ T) (O ++ List.replicate T.length false) ≠ []) ∧ ∀ q ∈ pairsF R n (S ++ T) (O ++ List.replicate T.length false), ∃ p ∈ pairsF R n S O, q.1 = p.1.drop T.length ++ dz T
  | [], S, O, hl, _, _, _ => by
    refine ⟨fun h => by simpa using h, fun q hq => ⟨q, by simpa using hq, by simp [dz]⟩⟩
  | t :: T, S, O, hl, hT, hd, hf => by
    have okS : ∀ p ∈ pairsF R n S O, Ok n S p := fun p hp => by
      have := pairs_ok (S := S) (O := O) h1 hR S.length (Nat.le_refl _) p hp
      rwa [List.take_length] at this
    have nt : ∀ p ∈ pairsF R n S O, (t : Int) ∉ p.1 := fun p hp hm => by
      obtain ⟨s, hs, e⟩ := (okS p hp).kn (t : Int) hm (by omega)
      exact hf t (List.mem_cons_self ..) (by rw [show t = s by omega]; exact hs)
    have nd := List.nodup_cons.mp hd
    have hT' : T.length + 1 ≤ n := hT
    obtain ⟨i1, i2⟩ := fresh_run h1 hR T (S ++ [t]) (O ++ [false]) (by rw [List.length_append, List.length_append, hl]; rfl) (by omega) nd.2 (fun s hs h => by
      rcases List.mem_append.mp h with h | h
      · exact hf s (List.mem_cons_of_mem _ hs) h
      · rw [List.mem_singleton.mp h] at hs
        exact nd.1 hs)
    rw [List.append_assoc, List.append_assoc] at i1 i2
    have eO : O ++ List.replicate (t :: T).length false = O ++ ([false] ++ List.replicate T.length false) := rfl
    have eS : S ++ t :: T = S ++ ([t] ++ T) := rfl
    rw [eO, eS]
    rw [pairs_snoc hl] at i1 i2
    refine ⟨fun h => i1 ?_, fun q hq => ?_⟩
    · obtain ⟨p, hp⟩ := List.exists_mem_of_ne_nil _ h
      exact grow_f.mpr ⟨p, hp, nt p hp⟩
    · obtain ⟨p1, hp1, e⟩ := i2 q hq
      obtain ⟨p, hp, hp1⟩ := List.mem_flatMap.mp hp1
      refine ⟨p, hp, ?_⟩
      unfold fit1 at hp1
      rw [if_neg (nt p hp), if_pos rfl] at hp1
      rw [e, List.mem_singleton.mp hp1]
      have l1 := (okS p hp).row.l1
      show (p.1.drop 1 ++ [(t : Int)]).drop T.length ++ dz T = p.1.drop (T.length + 1) ++ dz (t :: T)
      rw [List.drop_append_of_le_length (by rw [List.length_drop]; omega), List.drop_drop, List.append_assoc, Nat.add_comm 1]
      rfl
end
end Lw
set_option maxHeartbeats 4000000
namespace Lw
open PySem Vs
/-! the law's records of small rules grow -/
section
variable {n N k t : Nat} {R : List (List Nat)} {L S : List Nat} {O : List Bool} {s : Sr} {z : Str}
theorem step_nodup (hR : IsRule n R) (hL : L.length = n) (hd : L.Nodup) : (stepF R L t).Nodup := by
  unfold stepF
  split
  · rename_i h
    exact (hit_perm hR hL h).nodup_iff.mpr hd
  · rename_i h
    refine List.nodup_append.mpr ⟨(List.drop_sublist 1 L).nodup hd, by simp, ?_⟩
    intro a ha b hb e
    rw [List.mem_singleton.mp hb] at e
    subst e
    exact h (List.mem_of_mem_drop ha)
/-- what holds behind so many accesses -/
structure Inv (n k : Nat) (R : List (List Nat)) (L S : List Nat) (O : List Bool) : Prop where
  rc : Rec n R S O
  lL : L.length = n
  nd : L.Nodup
  lS : S.length = k
  lt : ∀ t ∈ S, t < 100
  tr : ∃ p ∈ pairsF R n S O, Tr p L S
abbrev eR (s : Sr) (n : Nat) (R : List (List Nat)) (L : List Nat) (z : Str) (S : List Nat) (O : List Bool) (x7 x8 x9 : Option PV) : Vs.Env := [some (1, s.D), some (0, .int (n : Int)), some (0, .lst (R.map dn)), some (0, .lst (dnat L)), some (0, .str z), some (0, .lst (dnat S)), some (0, .lst (dbl O)), x7, x8, x9, none, none, none]
theorem Inv.ne (h : Inv n k R L S O) : pairsF R n S O ≠ [] := by
  obtain ⟨p, hp, _⟩ := h.tr
  exact List.ne_nil_of_mem hp
theorem Inv.step (h : Inv n k R L S O) (hk : k < 900) (ht : t < 100) : Inv n (k + 1) R (stepF R L t) (S ++ [t]) (O ++ [decide (t ∈ L)]) := by
  have h2 := h.rc.h2
  obtain ⟨p, hp, htr⟩ := h.tr
  obtain ⟨q, hq, hq2⟩ := tr_step (t := t) (by omega) h.rc.hR h.lL h.nd htr
  refine ⟨h.rc.snoc (by omega) (by rw [h.lS]; omega), step_len h.rc.hR h.lL (by omega), step_nodup h.rc.hR h.lL h.nd, by rw [List.length_append, h.lS]; rfl, fun x hx => ?_, q, ?_, hq2⟩
  · rcases List.mem_append.mp hx with g | g
    · exact h.lt x g
    · rw [List.mem_singleton.mp g]; exact ht
  · rw [pairs_snoc h.rc.hl]
    exact List.mem_flatMap.mpr ⟨p, hp, hq⟩
theorem right_turn (h : Inv n k R L S O) (hk : k < 900) (h5 : n ≤ 5) (hs : Src N s) (hN : N < 400000) : ∃ (s' : Sr) (t : Nat), t < 100 ∧ Src (N + 1) s' ∧
    q_l_right_0 (eR s n R L z S O (some (0, .int (k : Int))) none none) = .nx (eR s' n R (stepF R L t) z (S ++ [t]) (O ++ [decide (t ∈ L)]) none none none) := by
  have h2 := h.rc.h2
  have d1 := dip_eq (n := min 4 n + 2) hs
  have b1 : dr s (min 4 n + 2) < min 4 n + 2 := dr_lt (by omega)
  refine ⟨nx s (min 4 n + 2), 18 + dr s (min 4 n + 2), by omega, hs.nx _, ?_⟩
  generalize nx s (min 4 n + 2) = s1 at *
  generalize dr s (min 4 n + 2) = w at *
  have km : ∀ p q m k, kMin [⟨p, m, .int 4⟩, ⟨q, k, .int (n : Int)⟩] = some (vi (min 4 n : Nat)) := fun p q m k => by
    by_cases c : (n : Int) < 4
    · have e : (min 4 n : Nat) = n := by omega
      rw [e]
      simp [c]
    · have e : (min 4 n : Nat) = 4 := by omega
      rw [e]
      simp [c]
  have fw := few_small h.rc h5
  obtain ⟨t, ht⟩ : ∃ t, t = 18 + w := ⟨_, rfl⟩
  have hti : (18 : Int) + (w : Int) = (t : Int) := by omega
  have p1 := possible_eq (m := 0) (m1 := 0) (m2 := 0) fw
  rw [decide_eq_false h.ne, Bool.not_false] at p1
  have g1 := grown_eq (t := t) fw h5 (by omega) (by rw [h.lS]; omega) h.ne
  have l1 := lstep_eq (m := 0) (m1 := 0) (t := t) h.rc.hR h.rc.hn h.lL
  have s1' : ∀ q m, kLst [⟨q, m, .int (t : Int)⟩] = some ⟨false, 1, .lst [.int (t : Int)]⟩ := fun q m => kLst_imm (xs := [⟨q, m, .int (t : Int)⟩]) (fun x hx => by rw [List.mem_singleton.mp hx]; rfl) (by simp [lim_num])
  have s2' : ∀ q m o, kLst [⟨q, m, .bl o⟩] = some ⟨false, 1, .lst [.bl o]⟩ := fun q m o => kLst_imm (xs := [⟨q, m, .bl o⟩]) (fun x hx => by rw [List.mem_singleton.mp hx]; rfl) (by simp [lim_num])
  have a1 := fun p => e_addL (p := p) (q := false) (m := 0) (n := 1) (l := dnat S) (k := [.int (t : Int)]) (.inr (Nat.zero_le 1)) (.inl rfl) (by rw [dnat_length, h.lS]; simp; omega)
  have a2 := fun p => e_addL (p := p) (q := false) (m := 0) (n := 1) (l := dbl O) (k := [.bl (decide (t ∈ L))]) (.inr (Nat.zero_le 1)) (.inl rfl) (by rw [dbl_len, h.rc.hl, h.lS]; simp; omega)
  rw [dnat_snoc] at a1
  rw [dbl_snoc] at a2
  rw [← ht]
  unfold eR
  clear h fw
  rw [show (((min 4 n + 2 : Nat) : Int)) = ((min 4 n : Nat) : Int) + 2 by omega] at d1
  generalize (min 4 n : Nat) = mn at *
  generalize (decide (t ∈ L)) = oo at *
  generalize dnat (S ++ [t]) = St at *
  generalize dbl (O ++ [oo]) = Ot at *
  generalize dnat (stepF R L t) = L2 at *
  generalize R.map dn = Rd at *
  generalize dnat S = Sd at *
  generalize dbl O = Od at *
  generalize dnat L = Ld at *
  unfold q_l_right_0 r_l_right_0 r_l_right_1 r_l_right_2 r_l_right_3
  simp [e_tdy, e_even, km, d1, hti, p1, g1, l1, gtup, gall, s1', s2', a1, a2, VV.stable, VV.kept]
end
end Lw
set_option maxHeartbeats 4000000
namespace Lw
open PySem Vs
/-! the law on one small rule -/
section
variable {n N k t : Nat} {R : List (List Nat)} {L S : List Nat} {O : List Bool} {s : Sr} {z : Str}
theorem right_loop {m : Nat} (hm : m ≤ 100) (h : Inv n 0 R L [] []) (h5 : n ≤ 5) (hs : Src N s) (hN : N < 300000) : ∃ (s' : Sr) (L' S : List Nat) (O : List Bool), Src (N + m) s' ∧ Inv n m R L' S O ∧
    forL (gname 7) q_l_right_0 (rng 0 (m : Int)) (eR s n R L z [] [] none none none) = .nx (eR s' n R L' z S O none none none) := by
  obtain ⟨ρ', e, s', L', S, O, rfl, h1, h2⟩ := forL_inv0 (g := gname 7) (b := q_l_right_0) (fun k ρ => ∃ (s' : Sr) (L' S : List Nat) (O : List Bool), ρ = eR s' n R L' z S O none none none ∧ Src (N + k) s' ∧ Inv n k R L' S O)
    (rng 0 (m : Int)) (eR s n R L z [] [] none none none)
    (fun k d ρ hd h => by
      obtain ⟨s', L', S, O, rfl, g1, g2⟩ := h
      obtain ⟨rfl, hk⟩ := rng_get hd
      obtain ⟨s2, t, ht, hs2, e⟩ := right_turn (z := z) g2 (by omega) h5 g1 (by omega)
      refine ⟨_, ?_, s2, stepF R L' t, S ++ [t], O ++ [decide (t ∈ L')], rfl, hs2, g2.step (by omega) ht⟩
      rw [← e]
      rw [Int.zero_add]
      rfl) ⟨s, L, [], [], rfl, hs, h⟩
  rw [rng_len, show ((m : Int) - 0).toNat = m by omega] at h1 h2
  exact ⟨s', L', S, O, h1, h2, e⟩
def lastL (n : Nat) : List Nat := (List.range n).map fun k => 100 + k
theorem last_len (n : Nat) : (lastL n).length = n := by unfold lastL; simp
theorem last_nd (n : Nat) : (lastL n).Nodup := by
  unfold lastL
  refine List.Pairwise.map _ (R := fun a b => a ≠ b) (fun a b h => ?_) List.nodup_range
  omega
theorem last_ge {x : Nat} (h : x ∈ lastL n) : 100 ≤ x ∧ x < 100 + n := by
  unfold lastL at h
  obtain ⟨k, hk, rfl⟩ := List.mem_map.mp h
  have := List.mem_range.mp hk
  omega
theorem last_at (h : 1 ≤ n) : atD (dnat (lastL n)) (-1) = some (.int ((100 + (n - 1) : Nat) : Int)) := by
  have hl : (dnat (lastL n)).length = n := by rw [dnat_length, last_len]
  unfold atD nix
  rw [if_neg (by decide), if_pos (by omega), Option.bind_some, hl, show (-1 + (n : Int)).toNat = n - 1 by omega]
  unfold lastL dnat
  rw [List.map_map, List.getElem?_map, List.getElem?_range (by omega)]
  rfl
theorem hit_all {P : List Pr} (h0 : P ≠ []) (ht : t ∈ S) (h : ∀ p ∈ P, (t : Int) ∈ p.1) : nextF P S t = .str "hit" := by
  unfold nextF
  rw [if_neg h0, if_neg (fun g => g.1 ht), if_pos (List.length_filter_eq_length_iff.mpr fun p hp => decide_eq_true (h p hp))]
/-- the records behind the last misses -/
theorem tail_facts (h : Inv n k R L S O) (hk : k ≤ 100) (h5 : n ≤ 5) : ∃ S2 O2, S2 = S ++ lastL n ∧ O2 = O ++ List.replicate n false ∧ Few n R S2 O2 ∧ withF ((pairsF R n S2 O2).map (·.1)) = [dz (lastL n)] ∧ nextF (pairsF R n S2 O2) S2 (100 + (n - 1)) = .str "hit" := by
  have h2 := h.rc.h2
  have hc : Rec n R (S ++ lastL n) (O ++ List.replicate n false) := ⟨h.rc.hR, h2, h.rc.hn, fun x hx => by
    rcases List.mem_append.mp hx with g | g
    · exact h.rc.hb x g
    · have := last_ge g
      omega, by rw [List.length_append, List.length_append, h.rc.hl, List.length_replicate, last_len], by rw [List.length_append, last_len, h.lS]; omega⟩
  have hf := few_small hc h5
  obtain ⟨f1, f2⟩ := fresh_run (R := R) (by omega) h.rc.hR (lastL n) S O h.rc.hl (by rw [last_len]; exact Nat.le_refl _) (last_nd n) (fun t ht hS => by
    have := h.lt t hS
    have := last_ge ht
    omega)
  rw [last_len] at f1 f2
  have hne := f1 h.ne
  have hq : ∀ q ∈ pairsF R n (S ++ lastL n) (O ++ List.replicate n false), q.1 = dz (lastL n) := fun q hq => by
    obtain ⟨p, hp, e⟩ := f2 q hq
    have okp : Ok n S p := (few_small h.rc h5).ok hp
    rw [e, List.drop_of_length_le (by rw [okp.row.l1]; exact Nat.le_refl _), List.nil_append]
  refine ⟨_, _, rfl, rfl, hf, with_same (by simpa using hne) fun r hr => ?_, hit_all hne (List.mem_append_right _ ?_) fun p hp => ?_⟩
  · obtain ⟨q, hq', rfl⟩ := List.mem_map.mp hr
    rw [hq q hq', nrm_dz]
  · unfold lastL
    exact List.mem_map.mpr ⟨n - 1, List.mem_range.mpr (by omega), rfl⟩
  · rw [hq p hp]
    unfold dz lastL
    rw [List.map_map]
    exact List.mem_map.mpr ⟨n - 1, List.mem_range.mpr (by omega), rfl⟩
end
end Lw
set_option maxHeartbeats 4000000
namespace Lw
open PySem Vs
/-! the law on one small rule: the walk -/
theorem p90r {x : Nat} (h : x ≤ 1000) : x < 10 ^ 90 := Nat.lt_of_le_of_lt h (by decide)
theorem nice_rule {n : Nat} {R : List (List Nat)} (hR : IsRule n R) (hn : n ≤ 12) : Nice 156 2 (.lst (R.map dn)) :=
  Nice.lstOf (k := 12) (j := 1) (n := 12) (fun d hd => by
    obtain ⟨q, hq, rfl⟩ := List.mem_map.mp hd
    exact Nice.dnat (fun i hi => p90r (by have := (hR.pm q hq).lt hi; omega)) (by rw [(hR.pm q hq).len]; exact hn)) (by rw [List.length_map, hR.len]; exact hn)
section
variable {n N k t : Nat} {R : List (List Nat)} {L S : List Nat} {O : List Bool} {s : Sr} {z : Str}
theorem tail_eq (h : Inv n k R L S O) (hk : k ≤ 100) (h5 : n ≤ 5) (hz : ∀ b m, kRepr [⟨b, m, .lst (R.map dn)⟩] = some (vs z)) :
    (sq t_l_right_3 (sq t_l_right_4 (sq t_l_right_5 (sq t_l_right_6 t_l_right_7)))) (eR s n R L z S O none none none) = .ret (0, .bl true) [some (1, s.D), some (0, .int (n : Int)), some (0, .lst (R.map dn)), some (0, .lst (dnat L)), some (0, .str z), some (0, .lst (dnat (S ++ lastL n))), some (0, .lst (dbl (O ++ List.replicate n false))), none, none, none, some (0, .lst (dnat (lastL n))), some (2, .lst ((emptyF n).map dRow)), none] := by
  have h2 := h.rc.h2
  obtain ⟨S2, O2, hS2, hO2, few, w1, w2⟩ := tail_facts h hk h5
  obtain ⟨mr, r1⟩ := rows_left_eq (m := 0) (m1 := 1) (m2 := 1) few
  have r2 := next_one_eq (m := 0) (m1 := 0) (m2 := 0) (t := 100 + (n - 1)) few (by omega)
  rw [w1] at r1
  rw [w2] at r2
  have hrc5 : Rec n R [5] [true] := ⟨h.rc.hR, h2, h.rc.hn, fun t ht => by rw [List.mem_singleton.mp ht]; omega, rfl, by simp⟩
  obtain ⟨mf, r3⟩ := first_rows_eq (m := 0) (m1 := 1) (m2 := 1) (few_small hrc5 h5)
  rw [one_hit h2 h5] at r3
  have dz1 : ([dz (lastL n)] : List (List Int)).map dRow = [.lst (dnat (lastL n))] := by
    rw [List.map_singleton, dRow_dz]
  rw [dz1] at r1
  have rg : ∀ b k, kR1 [⟨b, k, .int (n : Int)⟩] = some ((List.range n).map fun (i : Nat) => D.int (i : Int)) := fun b k => by
    rw [e_range1 (by omega) (by omega)]
    congr 1
    exact (rng_dnat n)
  -- the last blocks
  have c1 := compL_map (own := [12]) (g := gname 12) (e := (two (cst (vi 100)) (fz 1 [12] (v 12)) kAdd)) (f := fun (i : Nat) => D.int (i : Int)) (k := fun (i : Nat) => vi (((100 + i : Nat)) : Int)) (List.range n) (eR s n R L z S O none none none) [] fun i hi => ⟨[some (1, s.D), some (0, .int (n : Int)), some (0, .lst (R.map dn)), some (0, .lst (dnat L)), some (0, .str z), some (0, .lst (dnat S)), some (0, .lst (dbl O)), none, none, none, none, none, some (0, .int (i : Int))], by unfold eR; simp, by simp, rfl⟩
  rw [List.nil_append] at c1
  have k1 : kLst ((List.range n).map fun (i : Nat) => vi (((100 + i : Nat)) : Int)) = some ⟨false, 1, .lst (dnat (lastL n))⟩ := by
    have := kLst_nats (m := 0) (xs := lastL n) (by rw [last_len, lim_num]; omega)
    unfold lastL at this
    rw [List.map_map] at this
    exact this
  have a1 := fun p => e_addL (p := p) (q := false) (m := 0) (n := 1) (l := dnat S) (k := dnat (lastL n)) (.inr (Nat.zero_le 1)) (.inl rfl) (by rw [dnat_length, h.lS, dnat_length, last_len]; omega)
  rw [← dnat_append, ← hS2] at a1
  have a1' := fun p q => e_addL (p := p) (q := q) (m := 0) (n := 1) (l := dnat S) (k := dnat (lastL n)) (.inr (Nat.zero_le 1)) (.inr (Nat.le_refl 1)) (by rw [dnat_length, h.lS, dnat_length, last_len]; omega)
  rw [← dnat_append, ← hS2] at a1'
  have a2 := fun p => e_addL (p := p) (q := false) (m := 0) (n := 1) (l := dbl O) (k := List.replicate n (.bl false)) (.inr (Nat.zero_le 1)) (.inl rfl) (by rw [dbl_len, h.rc.hl, h.lS, List.length_replicate]; omega)
  have dO : dbl O ++ List.replicate n (.bl false) = dbl O2 := by
    rw [hO2]
    unfold dbl
    rw [List.map_append, List.map_replicate]
  rw [dO] at a2
  have kF : ∀ o, kLst [vb o] = some ⟨false, 1, .lst [.bl o]⟩ := fun o => kLst_imm (xs := [vb o]) (fun x hx => by rw [List.mem_singleton.mp hx]; rfl) (by simp [lim_num])
  have kN : kLst [vn] = some ⟨false, 1, .lst [.non]⟩ := kLst_imm (xs := [vn]) (fun x hx => by rw [List.mem_singleton.mp hx]; rfl) (by simp [lim_num])
  have k5 : kLst [vi 5] = some ⟨false, 1, .lst [.int 5]⟩ := kLst_imm (xs := [vi 5]) (fun x hx => by rw [List.mem_singleton.mp hx]; rfl) (by simp [lim_num])
  have kr : ∀ m p k, kMul ⟨false, m + 1, .lst [.bl false]⟩ ⟨p, k, .int (n : Int)⟩ = some ⟨false, 1, .lst (List.replicate n (.bl false))⟩ := fun m p k => e_rep (by omega)
  have kd : ∀ q m, kLst [⟨q, m, .lst (dnat (lastL n))⟩] = if q = false then some ⟨false, m + 1, .lst [.lst (dnat (lastL n))]⟩ else kLst [⟨q, m, .lst (dnat (lastL n))⟩] := fun q m => by
    by_cases e : q = false
    · rw [if_pos e]
      exact kLst_own (n := m) (xs := [⟨q, m, .lst (dnat (lastL n))⟩]) (by simp) (fun x hx => by rw [List.mem_singleton.mp hx]; exact ⟨rfl, rfl, e⟩) (by simp [lim_num])
    · rw [if_neg e]
  have kd0 := fun m => (kd false m).trans (if_pos rfl)
  have ne1 : ∀ p q a b, kNe ⟨p, a, .lst [.lst (dnat (lastL n))]⟩ ⟨q, b, .lst [.lst (dnat (lastL n))]⟩ = some (vb false) := fun p q a b => e_neSame (d := .lst [.lst (dnat (lastL n))]) (shp_dnn [lastL n])
  have la := last_at (n := n) (by omega)
  -- the empty rows
  have c2 := fun (x5 x6 x10 : Option PV) => compL_map (own := [12]) (g := gname 12) (e := (two (two (two (argsk (args [(cst vn)]) kLst) (two (two (v 1) (cst (vi 1)) kSub) (v 12) kSub) kMul) (argsk (args [(cst (vi 5))]) kLst) kAdd) (two (argsk (args [(cst vn)]) kLst) (v 12) kMul) kAdd)) (f := fun (i : Nat) => D.int (i : Int)) (k := fun (i : Nat) => (⟨false, 1, .lst (List.replicate (n - 1 - i) .non ++ [.int 5] ++ List.replicate i .non)⟩ : VV)) (List.range n) [some (1, s.D), some (0, .int (n : Int)), some (0, .lst (R.map dn)), some (0, .lst (dnat L)), some (0, .str z), x5, x6, none, none, none, x10, none, none] [] fun i hi => ⟨[some (1, s.D), some (0, .int (n : Int)), some (0, .lst (R.map dn)), some (0, .lst (dnat L)), some (0, .str z), x5, x6, none, none, none, x10, none, some (0, .int (i : Int))], by simp, by
    have hi := List.mem_range.mp hi
    have z1 : ∀ m p k, kMul ⟨false, m + 1, .lst [.non]⟩ ⟨p, k, .int ((n : Int) - 1 - (i : Int))⟩ = some ⟨false, 1, .lst (List.replicate (n - 1 - i) .non)⟩ := fun m p k => by
      rw [show (n : Int) - 1 - (i : Int) = ((n - 1 - i : Nat) : Int) by omega]
      exact e_rep (by omega)
    have z2 : ∀ m p k, kMul ⟨false, m + 1, .lst [.non]⟩ ⟨p, k, .int (i : Int)⟩ = some ⟨false, 1, .lst (List.replicate i .non)⟩ := fun m p k => e_rep (by omega)
    have z3 := e_addL (p := false) (q := false) (m := 1) (n := 1) (l := List.replicate (n - 1 - i) D.non) (k := [.int 5]) (.inl rfl) (.inl rfl) (by simp; omega)
    have z4 := e_addL (p := false) (q := false) (m := 1) (n := 1) (l := List.replicate (n - 1 - i) D.non ++ [.int 5]) (k := List.replicate i D.non) (.inl rfl) (.inl rfl) (by simp; omega)
    generalize List.replicate (n - 1 - i) D.non ++ [.int 5] ++ List.replicate i .non = q4 at *
    generalize List.replicate (n - 1 - i) D.non ++ [.int 5] = q3 at *
    generalize List.replicate (n - 1 - i) D.non = q2 at *
    generalize List.replicate i D.non = q1 at *
    simp [kN, k5, z1, z2, z3, z4], rfl⟩
  simp only [List.nil_append] at c2
  have k2 : kLst ((List.range n).map fun (i : Nat) => (⟨false, 1, .lst (List.replicate (n - 1 - i) .non ++ [.int 5] ++ List.replicate i .non)⟩ : VV)) = some ⟨false, 2, .lst ((emptyF n).map dRow)⟩ := by
    rw [kLst_own (n := 1) (by simp; omega) (fun x hx => by obtain ⟨d, _, rfl⟩ := List.mem_map.mp hx; exact ⟨rfl, rfl, rfl⟩) (by rw [List.length_map, List.length_range, lim_num]; omega), List.map_map]
    unfold emptyF
    rw [List.map_map]
    congr 3
    refine List.map_congr_left fun i _ => ?_
    show D.lst (List.replicate (n - 1 - i) .non ++ [.int 5] ++ List.replicate i .non) = dRow (List.replicate (n - 1 - i) (-1) ++ [5] ++ List.replicate i (-1))
    unfold dRow
    rw [List.map_append, List.map_append, List.map_replicate, List.map_replicate]
    rfl
  have eq1 : ∀ p q a b, kEq ⟨p, a, .lst ((emptyF n).map dRow)⟩ ⟨q, b, .lst ((emptyF n).map dRow)⟩ = some (vb true) := fun p q a b => e_eqSame (shp_rows (emptyF n))
  have d5 : dnat [5] = [.int 5] := rfl
  have d6 : dbl [true] = [.bl true] := rfl
  rw [d5, d6] at r3
  rw [← hS2, ← hO2]
  unfold eR at *
  clear dz1 w1 w2 few h dO
  clear hS2 hO2
  generalize (100 + (n - 1) : Nat) = t9 at *
  generalize ((List.range n).map fun (i : Nat) => (⟨false, 1, .lst (List.replicate (n - 1 - i) .non ++ [.int 5] ++ List.replicate i .non)⟩ : VV)) = Z1 at *
  generalize ((List.range n).map fun (i : Nat) => vi (((100 + i : Nat)) : Int)) = Z2 at *
  generalize ((List.range n).map fun (i : Nat) => D.int (i : Int)) = Z3 at *
  generalize List.replicate n (D.bl false) = Z4 at *
  generalize (emptyF n).map dRow = Z5 at *
  generalize R.map dn = Rd at *
  generalize dnat (lastL n) = Ld at *
  generalize dnat S2 = Sd2 at *
  generalize dbl O2 = Od2 at *
  generalize dnat S = Sd at *
  generalize dbl O = Od at *
  generalize dnat L = Lr at *
  unfold t_l_right_3 t_l_right_4 t_l_right_5 t_l_right_6 t_l_right_7
  generalize (two (two (two (argsk (args [(cst vn)]) kLst) (two (two (v 1) (cst (vi 1)) kSub) (v 12) kSub) kMul) (argsk (args [(cst (vi 5))]) kLst) kAdd) (two (argsk (args [(cst vn)]) kLst) (v 12) kMul) kAdd) = E2 at *
  cases mr <;> cases mf <;> simp [rg, c1, k1, a1, a1', a2, kF, kr, r1, r2, kd0, ne1, la, c2, k2, k5, r3, eq1, hz, VV.stable, VV.kept]
end
end Lw
set_option maxHeartbeats 4000000
namespace Lw
open PySem Vs
/-! the law on one small rule: whole -/
section
variable {n N k t : Nat} {R : List (List Nat)} {L S : List Nat} {O : List Bool} {s : Sr} {z : Str}
theorem right_eq (h2 : 2 ≤ n) (h5 : n ≤ 5) (hs : Src N s) (hN : N < 200000) : ∃ s', Src (N + 1000) s' ∧ m_l_right [(1, s.D), (0, .int (n : Int))] = .ok (0, .bl true) [some (1, s'.D), some (0, .int (n : Int))] := by
  obtain ⟨R, s1, hR, hs1, e1⟩ := moves_eq (n := n) hs (by omega) (by omega) (by omega)
  obtain ⟨p, s2, hp, hs2, e2⟩ := perm_eq (n := n) hs1 (by omega) (by omega) (by omega)
  have hpl := hp.len
  obtain ⟨L, hL⟩ : ∃ L, L = p.map fun i => 20 + i := ⟨_, rfl⟩
  have c1 := compL_map (own := [12]) (g := gname 12) (e := (two (cst (vi 20)) (fz 1 [12] (v 12)) kAdd)) (f := fun (i : Nat) => D.int (i : Int)) (k := fun (i : Nat) => vi (((20 + i : Nat)) : Int)) p [some (1, s2.D), some (0, .int (n : Int)), none, none, none, none, none, none, none, none, none, none, none] [] fun i hi => ⟨[some (1, s2.D), some (0, .int (n : Int)), none, none, none, none, none, none, none, none, none, none, some (0, .int (i : Int))], by simp, by simp, rfl⟩
  rw [List.nil_append] at c1
  have k1 : kLst (p.map fun (i : Nat) => vi (((20 + i : Nat)) : Int)) = some ⟨false, 1, .lst (dnat L)⟩ := by
    have := kLst_nats (m := 0) (xs := L) (by rw [hL, List.length_map, hpl, lim_num]; omega)
    rw [hL, List.map_map] at this
    rw [hL]
    exact this
  have hz : ∀ b m, kRepr [⟨b, m, .lst (R.map dn)⟩] = some (vs (D.lst (R.map dn)).py.shown) := fun b m => if_pos ((nice_rule hR (by omega)).shw (by decide) (by decide))
  generalize (D.lst (R.map dn)).py.shown = z at hz
  have i0 : Inv n 0 R L [] [] := ⟨⟨hR, h2, by omega, by simp, rfl, by simp⟩, by rw [hL, List.length_map, hpl], by
    rw [hL]
    exact List.Pairwise.map _ (R := fun a b => a ≠ b) (fun a b h => by omega) hp.nodup, rfl, by simp, start n, List.mem_singleton.mpr rfl, start_tr (by rw [hL, List.length_map, hpl])⟩
  have d1 : m_l_dip [(1, s2.D), (0, .int 7)] = .ok (0, .int (dr s2 7 : Nat)) [some (1, (nx s2 7).D), some (0, .int 7)] := dip_eq (n := 7) hs2 (by omega)
  have b1 : dr s2 7 < 7 := dr_lt (by omega)
  have hs3 := hs2.nx 7
  generalize nx s2 7 = s3 at *
  generalize dr s2 7 = w at *
  obtain ⟨s4, L', S, O, hs4, hi, lp⟩ := right_loop (z := z) (m := 2 + w) (by omega) i0 h5 hs3 (by omega)
  have tl := tail_eq (s := s4) hi (by omega) h5 hz
  refine ⟨s4, hs4.le (by omega), ?_⟩
  have rg : ∀ b k, kR1 [⟨b, k, .int ((2 : Int) + (w : Int))⟩] = some (rng 0 ((2 + w : Nat) : Int)) := fun b k => by
    rw [show (2 : Int) + (w : Int) = ((2 + w : Nat) : Int) by omega]
    exact e_range1 (by omega) (by omega)
  have dd : (p.map fun (i : Nat) => D.int (i : Int)) = dnat p := rfl
  rw [dd] at c1
  have d0 : dnat [] = ([] : List D) := rfl
  have d00 : dbl [] = ([] : List D) := rfl
  have kn : kLst [] = some ⟨false, 1, .lst []⟩ := kLst_imm (xs := []) (by simp) (by simp)
  unfold eR at lp tl
  rw [d0, d00] at lp
  unfold m_l_right fnM
  rw [b_l_right_eq]
  generalize (sq t_l_right_3 (sq t_l_right_4 (sq t_l_right_5 (sq t_l_right_6 t_l_right_7)))) = TL at *
  unfold t_l_right_2 w_l_right_0
  generalize q_l_right_0 = Q at *
  unfold t_l_right_0 t_l_right_1
  generalize (p.map fun (i : Nat) => vi (((20 + i : Nat)) : Int)) = Z2 at *
  generalize dnat p = pd at *
  generalize dnat L = Ld at *
  generalize R.map dn = Rd at *
  generalize dnat L' = Ld' at *
  generalize dnat S = Sd at *
  generalize dbl O = Od at *
  generalize rng 0 ((2 + w : Nat) : Int) = rr at *
  simp [par3, par3k, e_pre, e_even, e1, e2, c1, k1, hz, kn, d1, rg, lp, tl, VV.stable, VV.kept]
end
end Lw
set_option maxHeartbeats 4000000
namespace Lw
open PySem Vs
/-! a long record behind a known row -/
section
variable {n N k t : Nat} {R : List (List Nat)} {L S A : List Nat} {O : List Bool} {s : Sr} {f : List Int} {new : Bool}
theorem mem_dz {L : List Nat} {t : Nat} : (t : Int) ∈ dz L ↔ t ∈ L := by
  unfold dz
  rw [List.mem_map]
  constructor
  · rintro ⟨x, hx, e⟩
    rwa [show t = x by omega]
  · intro h; exact ⟨t, h, rfl⟩
theorem idx_dz {t : Nat} : ∀ {L : List Nat}, (dz L).idxOf (t : Int) = L.idxOf t
  | [] => rfl
  | a :: L => by
    show ((a : Int) :: dz L).idxOf (t : Int) = _
    rw [List.idxOf_cons, List.idxOf_cons, idx_dz]
    by_cases e : a = t
    · subst e; simp
    · have : ¬ (a : Int) = (t : Int) := by omega
      rw [beq_eq_false_iff_ne.mpr e, beq_eq_false_iff_ne.mpr this]
theorem fit_known (o : Bool) (ho : o = decide (t ∈ L)) : fit1 R (t : Int) new o (dz L, f) = [(dz (stepF R L t), f)] := by
  subst ho
  unfold fit1 stepF hitF
  by_cases h : t ∈ L
  · rw [if_pos (mem_dz.mpr h), if_pos (decide_eq_true h), if_pos h]
    simp only
    rw [idx_dz]
    unfold dz
    rw [mv_map]
  · rw [if_neg (fun g => h (mem_dz.mp g)), if_pos (decide_eq_false h), if_neg h]
    unfold dz
    rw [List.map_append, List.map_drop]
    rfl
theorem fit_flip (o : Bool) (ho : o = !decide (t ∈ L)) : fit1 R (t : Int) new o (dz L, f) = [] := by
  subst ho
  unfold fit1
  by_cases h : t ∈ L
  · rw [if_pos (mem_dz.mpr h), decide_eq_true h]
    rfl
  · rw [if_neg (fun g => h (mem_dz.mp g)), decide_eq_false h, if_neg (by decide)]
    split
    · rw [List.flatMap_eq_nil_iff]
      intro k hk
      unfold fitK
      rw [if_neg]
      have hk := List.mem_range.mp hk
      rw [ix_eq hk]
      have := List.getElem_mem hk
      unfold dz at this
      obtain ⟨x, _, e⟩ := List.mem_map.mp this
      have e : (x : Int) = (dz L)[k]'hk := e
      simp only at e ⊢
      omega
    · rfl
def rep1 (n : Nat) : List Int := List.replicate n (-1)
/-- a long record -/
structure Lg (n : Nat) (R : List (List Nat)) (L S : List Nat) (O : List Bool) : Prop where
  rc : Rec n R S O
  ge : n ≤ S.length
  one : ∀ j ≤ S.length, (pairsK R n S O j).length ≤ 1
  tr : ∀ j, n ≤ j → j < S.length → ∃ L, pairsK R n S O j = [(dz L, rep1 n)] ∧ ob O j = decide (nth S j ∈ L)
  now : pairsF R n S O = [(dz L, rep1 n)]
  lL : L.length = n
theorem Lg.few (h : Lg n R L S O) : Few n R S O := ⟨h.rc, fun k hk => by have := h.one k hk; omega⟩
theorem Lg.step (h : Lg n R L S O) (hb : S.length < 900) (ht : t ≤ 1000) : Lg n R (stepF R L t) (S ++ [t]) (O ++ [decide (t ∈ L)]) := by
  have h2 := h.rc.h2
  have hp : pairsF R n (S ++ [t]) (O ++ [decide (t ∈ L)]) = [(dz (stepF R L t), rep1 n)] := by
    rw [pairs_snoc h.rc.hl, h.now]
    unfold fits
    rw [List.flatMap_singleton]
    exact fit_known _ rfl
  refine ⟨h.rc.snoc (by omega) (by omega), by rw [List.length_append]; have := h.ge; simp; omega, fun j hj => ?_, fun j h1 h3 => ?_, hp, step_len h.rc.hR h.lL (by omega)⟩
  · rw [List.length_append] at hj
    by_cases e : j ≤ S.length
    · rw [pairs_app h.rc.hl j e]
      exact h.one j e
    · have e2 : j = (S ++ [t]).length := by rw [List.length_append]; simp at hj ⊢; omega
      rw [e2]
      show (pairsF R n (S ++ [t]) (O ++ [decide (t ∈ L)])).length ≤ 1
      rw [hp]
      exact Nat.le_refl 1
  · rw [List.length_append] at h3
    have h3 : j < S.length + 1 := h3
    by_cases e : j < S.length
    · rw [pairs_app h.rc.hl j (by omega), ob_app (by rw [h.rc.hl]; exact e), nth_app e]
      exact h.tr j h1 e
    · have e2 : j = S.length := by omega
      subst e2
      rw [pairs_app h.rc.hl _ (Nat.le_refl _)]
      refine ⟨L, h.now, ?_⟩
      unfold ob nth
      rw [List.getD_eq_getElem?_getD, List.getD_eq_getElem?_getD, List.getElem?_append_right (by rw [h.rc.hl]; exact Nat.le_refl _), List.getElem?_append_right (Nat.le_refl _)]
      simp [h.rc.hl]
def firstL (n : Nat) : List Nat := (List.range n).map fun k => 200 + k
theorem first_len (n : Nat) : (firstL n).length = n := by unfold firstL; simp
theorem ob_rep {j : Nat} : ob (List.replicate n false) j = false := by
  unfold ob
  rw [List.getD_eq_getElem?_getD, List.getElem?_replicate]
  split <;> rfl
theorem miss_few : ∀ j, pairsK R n S (List.replicate k false) j = [] ∨ ∃ x, pairsK R n S (List.replicate k false) j = [(x, rep1 n)]
  | 0 => .inr ⟨_, rfl⟩
  | j + 1 => by
    show fits R _ _ _ _ = [] ∨ ∃ x, fits R _ _ _ _ = _
    rw [ob_rep]
    rcases miss_few j with e | ⟨x, e⟩
    · rw [e]; exact .inl rfl
    · rw [e]
      unfold fits
      rw [List.flatMap_singleton]
      unfold fit1
      split
      · exact .inl (if_neg (by decide))
      · rw [if_pos rfl]
        exact .inr ⟨_, rfl⟩
theorem long_start (hR : IsRule n R) (h2 : 2 ≤ n) (hn : n ≤ 12) : Lg n R (firstL n) (firstL n) (List.replicate n false) := by
  have hf : ∀ x ∈ firstL n, x < 212 ∧ 200 ≤ x := fun x hx => by
    unfold firstL at hx
    obtain ⟨k, hk, rfl⟩ := List.mem_map.mp hx
    have := List.mem_range.mp hk
    omega
  obtain ⟨f1, f2⟩ := fresh_run (R := R) (n := n) (by omega) hR (firstL n) [] [] rfl (by rw [first_len]; exact Nat.le_refl _) (by
    unfold firstL
    refine List.Pairwise.map _ (R := fun a b => a ≠ b) (fun a b h => ?_) List.nodup_range
    omega) (fun t _ h => by cases h)
  rw [List.nil_append, List.nil_append, first_len] at f1 f2
  have hne := f1 (by show [start n] ≠ []; simp)
  have hl : (List.replicate n false).length = (firstL n).length := by rw [List.length_replicate, first_len]
  refine ⟨⟨hR, h2, hn, fun x hx => by have := hf x hx; omega, hl, by rw [first_len]; omega⟩, by rw [first_len]; exact Nat.le_refl _, fun j hj => ?_, fun j h1 h3 => ?_, ?_, first_len n⟩
  · rcases miss_few (k := n) (S := firstL n) (R := R) (n := n) j with e | ⟨x, e⟩ <;> rw [e] <;> simp
  · rw [first_len] at h3; omega
  · rcases miss_few (k := n) (S := firstL n) (R := R) (n := n) (firstL n).length with e | ⟨x, e⟩
    · exact absurd e hne
    · show pairsK R n (firstL n) (List.replicate n false) (firstL n).length = _
      rw [e]
      obtain ⟨p, hp, ex⟩ := f2 (x, rep1 n) (by show _ ∈ pairsK _ _ _ _ _; rw [e]; exact List.mem_singleton.mpr rfl)
      have hp : p = start n := List.mem_singleton.mp hp
      subst hp
      simp only at ex
      rw [ex, List.drop_of_length_le (by unfold start; simp), List.nil_append]
/-- one outcome is turned: nothing fits -/
def flip (O : List Bool) (a : Nat) : List Bool := O.take a ++ [!ob O a] ++ O.drop (a + 1)
theorem flip_len {a : Nat} (h : a < O.length) : (flip O a).length = O.length := by
  unfold flip
  simp
  omega
theorem flip_lt {a j : Nat} (h : a < O.length) (hj : j < a) : ob (flip O a) j = ob O j := by
  unfold flip ob
  rw [List.append_assoc, List.getD_eq_getElem?_getD, List.getElem?_append_left (by rw [List.length_take]; omega), List.getElem?_take, if_pos hj, List.getD_eq_getElem?_getD]
theorem flip_at {a : Nat} (h : a < O.length) : ob (flip O a) a = !ob O a := by
  have hl : (O.take a).length = a := by rw [List.length_take]; omega
  have e : (flip O a)[a]? = some (!ob O a) := by
    unfold flip
    rw [List.append_assoc, List.getElem?_append_right (by omega), hl, Nat.sub_self]
    rfl
  generalize flip O a = F at *
  unfold ob at *
  rw [List.getD_eq_getElem?_getD, e]
  rfl
theorem flip_pairs {a : Nat} (h : a < O.length) : ∀ j, j ≤ a → pairsK R n S (flip O a) j = pairsK R n S O j
  | 0, _ => rfl
  | j + 1, hj => by
    show fits R _ _ _ _ = fits R _ _ _ _
    rw [flip_pairs h j (by omega), flip_lt h (by omega)]
theorem flip_none (h : Lg n R L S O) {a : Nat} (h1 : n ≤ a) (h3 : a < S.length) : ∀ d, pairsK R n S (flip O a) (a + 1 + d) = []
  | 0 => by
    have ha : a < O.length := by rw [h.rc.hl]; exact h3
    obtain ⟨L1, e1, e2⟩ := h.tr a h1 h3
    show fits R _ _ _ _ = []
    rw [flip_pairs ha a (Nat.le_refl _), e1, flip_at ha, e2]
    unfold fits
    rw [List.flatMap_singleton]
    exact fit_flip _ rfl
  | d + 1 => by
    show fits R _ _ _ (pairsK R n S (flip O a) (a + 1 + d)) = []
    rw [flip_none h h1 h3 d]
    rfl
theorem flip_few (h : Lg n R L S O) {a : Nat} (h1 : n ≤ a) (h3 : a < S.length) : Few n R S (flip O a) ∧ pairsF R n S (flip O a) = [] := by
  have ha : a < O.length := by rw [h.rc.hl]; exact h3
  have later : ∀ j, a < j → pairsK R n S (flip O a) j = [] := fun j hj => by
    rw [show j = a + 1 + (j - (a + 1)) by omega]
    exact flip_none h h1 h3 _
  refine ⟨⟨⟨h.rc.hR, h.rc.h2, h.rc.hn, h.rc.hb, by rw [flip_len ha]; exact h.rc.hl, h.rc.h1000⟩, fun k hk => ?_⟩, later _ h3⟩
  by_cases c : k ≤ a
  · rw [flip_pairs ha k c]
    have := h.one k hk
    omega
  · rw [later k (by omega)]
    simp
end
end Lw
set_option maxHeartbeats 4000000
namespace Lw
open PySem Vs
/-! a long record: the walk's loop -/
section
variable {n N k t : Nat} {R : List (List Nat)} {L S A : List Nat} {O : List Bool} {s : Sr}
abbrev eL (s : Sr) (n : Nat) (R : List (List Nat)) (A S : List Nat) (O : List Bool) (L : List Nat) (x7 x8 x9 : Option PV) : Vs.Env := [some (1, s.D), some (0, .int (n : Int)), some (0, .lst (R.map dn)), some (0, .lst (dnat A)), some (1, .lst (dnat S)), some (1, .lst (dbl O)), some (0, .lst (dnat L)), x7, x8, x9, none, none, none]
theorem long_turn (h : Lg n R L S O) (hb : S.length < 900) (hA : A ≠ []) (hA2 : ∀ x ∈ A, x ≤ 1000) (hA3 : A.length ≤ 1000) (hs : Src N s) (hN : N < 400000) : ∃ (s' : Sr) (t : Nat), t ≤ 1000 ∧ Src (N + 1) s' ∧
    q_l_long_right_0 (eL s n R A S O L (some (0, .int (k : Int))) none none) = .nx (eL s' n R A (S ++ [t]) (O ++ [decide (t ∈ L)]) (stepF R L t) none none none) := by
  have hl : 0 < A.length := List.length_pos_iff.mpr hA
  have d1 := dip_eq (n := A.length) hs
  have b1 : dr s A.length < A.length := dr_lt hl
  refine ⟨nx s A.length, nth A (dr s A.length), hA2 _ (nth_mem b1), hs.nx _, ?_⟩
  generalize nx s A.length = s1 at *
  generalize dr s A.length = w at *
  have a1 := at_nth (l := A) (i := w) b1
  generalize nth A w = t at *
  have l1 := lstep_eq (m := 0) (m1 := 0) (t := t) h.rc.hR h.rc.hn h.lL
  have ap1 : ∀ q m, rAppend (0 + 1, .lst (dnat S)) [⟨q, m, .int (t : Int)⟩] = some (vn, (0 + 1, .lst (dnat (S ++ [t])))) := fun q m => by
    rw [e_append (m := 0) (x := ⟨q, m, .int (t : Int)⟩) (by unfold VV.stable; simp) (by rw [dnat_length, lim_num]; omega)]
    rw [← dnat_snoc]
    rfl
  have ap2 : ∀ q m, rAppend (0 + 1, .lst (dbl O)) [⟨q, m, .bl (decide (t ∈ L))⟩] = some (vn, (0 + 1, .lst (dbl (O ++ [decide (t ∈ L)])))) := fun q m => by
    rw [e_append (m := 0) (x := ⟨q, m, .bl (decide (t ∈ L))⟩) (by unfold VV.stable; simp) (by rw [dbl_len, h.rc.hl, lim_num]; omega)]
    rw [← dbl_snoc]
    rfl
  have la : (dnat A).length = A.length := dnat_length A
  unfold eL
  clear h hA2
  generalize (decide (t ∈ L)) = oo at *
  generalize dnat (S ++ [t]) = St at *
  generalize dbl (O ++ [oo]) = Ot at *
  generalize dnat (stepF R L t) = L2 at *
  generalize R.map dn = Rd at *
  generalize dnat S = Sd at *
  generalize dbl O = Od at *
  generalize dnat L = Ld at *
  generalize dnat A = Ad at *
  unfold q_l_long_right_0 r_l_long_right_0 r_l_long_right_1 r_l_long_right_2 r_l_long_right_3
  simp [e_tdy, e_even, la, d1, a1, l1, gtup, gall, ap1, ap2, VV.stable, VV.kept]
theorem long_loop {m : Nat} (hm : m ≤ 400) (h : Lg n R L S O) (hS : S.length ≤ 20) (hA : A ≠ []) (hA2 : ∀ x ∈ A, x ≤ 1000) (hA3 : A.length ≤ 1000) (hs : Src N s) (hN : N < 300000) : ∃ (s' : Sr) (L' S' : List Nat) (O' : List Bool), Src (N + m) s' ∧ Lg n R L' S' O' ∧ S'.length = S.length + m ∧
    forL (gname 7) q_l_long_right_0 (rng 0 (m : Int)) (eL s n R A S O L none none none) = .nx (eL s' n R A S' O' L' none none none) := by
  obtain ⟨ρ', e, s', L', S', O', rfl, h1, h2, h3⟩ := forL_inv0 (g := gname 7) (b := q_l_long_right_0) (fun k ρ => ∃ (s' : Sr) (L' S' : List Nat) (O' : List Bool), ρ = eL s' n R A S' O' L' none none none ∧ Src (N + k) s' ∧ Lg n R L' S' O' ∧ S'.length = S.length + k)
    (rng 0 (m : Int)) (eL s n R A S O L none none none)
    (fun k d ρ hd h => by
      obtain ⟨s', L', S', O', rfl, g1, g2, g3⟩ := h
      obtain ⟨rfl, hk⟩ := rng_get hd
      obtain ⟨s2, t, ht, hs2, e⟩ := long_turn (k := k) g2 (by omega) hA hA2 hA3 g1 (by omega)
      refine ⟨_, ?_, s2, stepF R L' t, S' ++ [t], O' ++ [decide (t ∈ L')], rfl, hs2, g2.step (by omega) ht, by rw [List.length_append, g3]; rfl⟩
      rw [← e]
      rw [Int.zero_add]
      rfl) ⟨s, L, S, O, rfl, hs, h, rfl⟩
  rw [rng_len, show ((m : Int) - 0).toNat = m by omega] at h1 h3
  exact ⟨s', L', S', O', h1, h2, h3, e⟩
end
end Lw
set_option maxHeartbeats 4000000
namespace Lw
open PySem Vs
/-! a long record: whole -/
theorem kS1 {a : Nat} {x : List D} : kLst [⟨false, a, .lst x⟩] = some ⟨false, a + 1, .lst [.lst x]⟩ := kLst_own (n := a) (xs := [⟨false, a, .lst x⟩]) (by simp) (fun y hy => by rw [List.mem_singleton.mp hy]; exact ⟨rfl, rfl, rfl⟩) (by simp [lim_num])
theorem kS3 {a b c : Nat} {x y : List D} {z : Str} : kLst [⟨false, a, .lst x⟩, ⟨false, b, .lst y⟩, ⟨false, c, .str z⟩] = some ⟨false, min a b + 1, .lst [.lst x, .lst y, .str z]⟩ := by
  unfold kLst dmode
  simp [minM, VV.stable, lim_num]
theorem kS3' {a b c : Nat} {x : List D} {o : Bool} : kLst [⟨false, a, .lst x⟩, ⟨false, b, .bl o⟩, ⟨false, c, .non⟩] = some ⟨false, a + 1, .lst [.lst x, .bl o, .non]⟩ := by
  unfold kLst dmode
  simp [minM, VV.stable, lim_num]
theorem shp_hit : Shp 0 (.str "hit") := ⟨rfl, by decide +kernel, Nat.le_refl _⟩
section
variable {n N k t : Nat} {R : List (List Nat)} {L S A : List Nat} {O : List Bool} {s : Sr}
theorem shp_exp : (D.lst [.lst [.lst (List.replicate n .non)], .lst [.lst (dnat L)], .str "hit"]).shp = true := (Shp.lst (j := 2) fun d hd => by
  simp only [List.mem_cons, List.not_mem_nil, or_false] at hd
  rcases hd with rfl | rfl | rfl
  · refine Shp.lst fun d hd => ?_
    rw [List.mem_singleton.mp hd]
    refine Shp.lst fun d hd => ?_
    rw [List.eq_of_mem_replicate hd]
    exact Shp.non
  · refine Shp.lst fun d hd => ?_
    rw [List.mem_singleton.mp hd]
    exact Shp.dn L
  · exact shp_hit.le (by omega)).shp
theorem shp_exp2 : (D.lst [.lst [], .bl false, .non]).shp = true := (Shp.lst (j := 1) fun d hd => by
  simp only [List.mem_cons, List.not_mem_nil, or_false] at hd
  rcases hd with rfl | rfl | rfl
  · exact Shp.lst fun d hd => by cases hd
  · exact Shp.bl.le (by omega)
  · exact Shp.non.le (by omega)).shp
theorem dRow_rep : dRow (rep1 n) = .lst (List.replicate n .non) := by
  unfold dRow rep1
  rw [List.map_replicate]
  rfl
theorem long_tail (h : Lg n R L S O) (hS : n + 40 ≤ S.length) (hS2 : S.length ≤ 500) (hs : Src N s) (hN : N < 300000) : ∃ (s' : Sr) (ρ' : Vs.Env), Src (N + 3) s' ∧
    (sq t_l_long_right_4 (sq t_l_long_right_5 (sq t_l_long_right_6 (sq t_l_long_right_7 (sq t_l_long_right_8 t_l_long_right_9))))) (eL s n R A S O L none none none) = .ret (0, .bl true) (some (1, s'.D) :: ρ') := by
  have h2 := h.rc.h2
  have hn := h.rc.hn
  have few := h.few
  obtain ⟨mf, r1⟩ := first_rows_eq (m := 0) (m1 := 1) (m2 := 1) few
  obtain ⟨ml, r2⟩ := rows_left_eq (m := 0) (m1 := 0) (m2 := 0) few
  have hL0 : nth L 0 ∈ L := nth_mem (by rw [h.lL]; omega)
  have wfst : withF ((pairsF R n S O).map (·.2)) = [rep1 n] := with_same (by rw [h.now]; simp) fun r hr => by
    rw [h.now] at hr
    rw [List.mem_singleton.mp hr]
    unfold nrm rep1
    rw [List.map_replicate]
    rfl
  have wlst : withF ((pairsF R n S O).map (·.1)) = [dz L] := with_same (by rw [h.now]; simp) fun r hr => by
    rw [h.now] at hr
    rw [List.mem_singleton.mp hr]
    exact nrm_dz L
  rw [wfst, List.map_singleton, dRow_rep] at r1
  rw [wlst, List.map_singleton, dRow_dz] at r2
  have hLb : ∀ x ∈ L, x ∈ S := fun x hx => by
    have okp := few.ok (p := (dz L, rep1 n)) (by rw [h.now]; exact List.mem_singleton.mpr rfl)
    obtain ⟨y, hy, e⟩ := okp.kn (x : Int) (mem_dz.mpr hx) (by omega)
    rwa [show x = y by omega]
  have r3 := next_one_eq (m := 0) (m1 := 0) (m2 := 0) (t := nth L 0) few (h.rc.hb _ (hLb _ hL0))
  rw [hit_all (by rw [h.now]; simp) (hLb _ hL0) (fun p hp => by rw [h.now] at hp; rw [List.mem_singleton.mp hp]; exact mem_dz.mpr hL0)] at r3
  have aL := at_nth (l := L) (i := 0) (by rw [h.lL]; omega)
  rw [show ((0 : Nat) : Int) = (0 : Int) from rfl] at aL
  -- which outcome is turned
  obtain ⟨lo, hlo⟩ : ∃ lo, lo = S.length := ⟨_, rfl⟩
  have hO : (dbl O).length = lo := by rw [dbl_len, h.rc.hl, hlo]
  have d1 : m_l_dip [(1, s.D), (0, .int 20)] = .ok (0, .int (dr s 20 : Nat)) [some (1, (nx s 20).D), some (0, .int 20)] := dip_eq (n := 20) hs
  have b1 : dr s 20 < 20 := dr_lt (by omega)
  have hs1 := hs.nx 20
  generalize nx s 20 = s1 at *
  generalize dr s 20 = w1 at *
  have d2 := dip_eq (n := lo - n) hs1
  have b2 : dr s1 (lo - n) < lo - n := dr_lt (by omega)
  have hs2 := hs1.nx (lo - n)
  rw [show ((lo - n : Nat) : Int) = (lo : Int) - (n : Int) by omega] at d2
  generalize nx s1 (lo - n) = s2 at *
  generalize dr s1 (lo - n) = w2 at *
  have d3 : m_l_dip [(1, s2.D), (0, .int 2)] = .ok (0, .int (dr s2 2 : Nat)) [some (1, (nx s2 2).D), some (0, .int 2)] := dip_eq (n := 2) hs2
  have b3 : dr s2 2 < 2 := dr_lt (by omega)
  have hs3 := hs2.nx 2
  generalize nx s2 2 = s3 at *
  generalize dr s2 2 = w3 at *
  obtain ⟨b, hb, ab⟩ : ∃ b : Nat, n + b < lo ∧ atD [.int ((lo : Int) - n - 1 - w1), .int (w2 : Int)] (w3 : Int) = some (.int (b : Int)) := by
    have : w3 = 0 ∨ w3 = 1 := by omega
    rcases this with rfl | rfl
    · refine ⟨lo - n - 1 - w1, by omega, ?_⟩
      show some (D.int _) = _
      rw [show (lo : Int) - n - 1 - w1 = ((lo - n - 1 - w1 : Nat) : Int) by omega]
    · exact ⟨w2, by omega, rfl⟩
  obtain ⟨few2, none2⟩ := flip_few h (a := n + b) (by omega) (by omega)
  obtain ⟨mg, q1⟩ := first_rows_eq (m := 0) (m1 := 0) (m2 := 1) few2
  have q2 := possible_eq (m := 0) (m1 := 0) (m2 := 0) few2
  have q3 := next_one_eq (m := 0) (m1 := 0) (m2 := 0) (t := 0) few2 (by omega)
  have q4 := possible_eq (m := 0) (m1 := 0) (m2 := 0) few
  rw [none2] at q1 q2 q3
  rw [show ((0 : Nat) : Int) = (0 : Int) from rfl] at q3
  rw [decide_eq_false (by rw [h.now]; simp : ¬ pairsF R n S O = []), Bool.not_false] at q4
  rw [decide_eq_true rfl, Bool.not_true] at q2
  have wn : withF (([] : List Pr).map (·.2)) = [] := with_nil.mpr rfl
  rw [wn, List.map_nil] at q1
  have nn : nextF [] S 0 = .non := by unfold nextF; rw [if_pos rfl]
  rw [nn] at q3
  have c1 : cutD (dbl O) none (some ((n : Int) + (b : Int))) = dbl (O.take (n + b)) := by
    rw [show (n : Int) + (b : Int) = ((n + b : Nat) : Int) by omega, cut_to]
    unfold dbl
    rw [List.map_take]
  have c2 : cutD (dbl O) (some ((n : Int) + (b : Int) + 1)) none = dbl (O.drop (n + b + 1)) := by
    rw [show (n : Int) + (b : Int) + 1 = ((n + b + 1 : Nat) : Int) by omega, cut_from]
    unfold dbl
    rw [List.map_drop]
  have c3 : atD (dbl O) ((n : Int) + (b : Int)) = some (.bl (ob O (n + b))) := by
    rw [show (n : Int) + (b : Int) = ((n + b : Nat) : Int) by omega]
    exact at_bl (by rw [h.rc.hl, ← hlo]; exact hb)
  have k1 : ∀ q m o, kLst [⟨q, m, .bl o⟩] = some ⟨false, 1, .lst [.bl o]⟩ := fun q m o => kLst_imm (xs := [⟨q, m, .bl o⟩]) (fun x hx => by rw [List.mem_singleton.mp hx]; rfl) (by simp [lim_num])
  have k2 : ∀ q m i q' m' j, kLst [⟨q, m, .int i⟩, ⟨q', m', .int j⟩] = some ⟨false, 1, .lst [.int i, .int j]⟩ := fun q m i q' m' j => kLst_imm (xs := [⟨q, m, .int i⟩, ⟨q', m', .int j⟩]) (fun x hx => by
    simp only [List.mem_cons, List.not_mem_nil, or_false] at hx
    rcases hx with rfl | rfl <;> rfl) (by simp [lim_num])
  have kN : kLst [vn] = some ⟨false, 1, .lst [.non]⟩ := kLst_imm (xs := [vn]) (fun x hx => by rw [List.mem_singleton.mp hx]; rfl) (by simp [lim_num])
  have kn : kLst [] = some ⟨false, 1, .lst []⟩ := kLst_imm (xs := []) (by simp) (by simp)
  have kr : ∀ m p k, kMul ⟨false, m + 1, .lst [.non]⟩ ⟨p, k, .int (n : Int)⟩ = some ⟨false, 1, .lst (List.replicate n .non)⟩ := fun m p k => e_rep (by omega)
  have tl1 : (O.take (n + b)).length ≤ 1000 := by rw [List.length_take, h.rc.hl]; omega
  have tl2 : (O.drop (n + b + 1)).length ≤ 1000 := by rw [List.length_drop, h.rc.hl]; omega
  have a1 := e_addL (p := false) (q := false) (m := 1) (n := 1) (l := dbl (O.take (n + b))) (k := [.bl (!ob O (n + b))]) (.inl rfl) (.inl rfl) (by rw [dbl_len]; simp; omega)
  rw [dbl_snoc] at a1
  have a2 := e_addL (p := false) (q := false) (m := 1) (n := 1) (l := dbl (O.take (n + b) ++ [!ob O (n + b)])) (k := dbl (O.drop (n + b + 1))) (.inl rfl) (.inl rfl) (by rw [dbl_len, dbl_len, List.length_append]; have : [!ob O (n + b)].length = 1 := rfl; omega)
  have fl : dbl (O.take (n + b) ++ [!ob O (n + b)]) ++ dbl (O.drop (n + b + 1)) = dbl (flip O (n + b)) := by
    unfold flip dbl
    rw [← List.map_append]
  rw [fl] at a2
  have ne1 : ∀ p q a b, kNe ⟨p, a, .lst [.lst [.lst (List.replicate n .non)], .lst [.lst (dnat L)], .str "hit"]⟩ ⟨q, b, .lst [.lst [.lst (List.replicate n .non)], .lst [.lst (dnat L)], .str "hit"]⟩ = some (vb false) := fun p q a b => e_neSame shp_exp
  have eq1 : ∀ p q a b, kEq ⟨p, a, .lst [.lst [], .bl false, .non]⟩ ⟨q, b, .lst [.lst [], .bl false, .non]⟩ = some (vb true) := fun p q a b => e_eqSame shp_exp2
  refine ⟨s3, [some (0, .int (n : Int)), some (0, .lst (R.map dn)), some (0, .lst (dnat A)), some (0, .lst (dnat S)), some (0, .lst (dbl O)), some (0, .lst (dnat L)), none, none, none, some (mg + 1, .lst [.lst [], .bl false, .non]), some (0, .int ((n : Int) + (b : Int))), some (0, .lst (dbl (flip O (n + b))))], hs3.le (by omega), ?_⟩
  clear wfst wlst fl tl1 tl2 few few2 none2 h hLb hL0
  unfold eL
  generalize dbl (O.take (n + b) ++ [!ob O (n + b)]) = X1 at *
  generalize dbl (O.take (n + b)) = X2 at *
  generalize dbl (O.drop (n + b + 1)) = X3 at *
  generalize dbl (flip O (n + b)) = X4 at *
  generalize ob O (n + b) = oo at *
  generalize List.replicate n D.non = rn at *
  generalize nth L 0 = l0 at *
  generalize R.map dn = Rd at *
  generalize dnat S = Sd at *
  generalize dbl O = Od at *
  generalize dnat L = Ld at *
  generalize dnat A = Ad at *
  unfold t_l_long_right_4 t_l_long_right_5 t_l_long_right_6 t_l_long_right_7 t_l_long_right_8 t_l_long_right_9
  have ki : kIs ⟨false, 0, .bl true⟩ (vb true) = some (vb true) := rfl
  cases mf <;> cases ml <;> cases mg <;> simp [ki, kSl, VV.open, r1, r2, r3, q1, q2, q3, q4, aL, hO, d1, d2, d3, ab, c1, c2, c3, k1, k2, kN, kn, kr, kS1, kS3, kS3', a1, a2, ne1, eq1, VV.stable, VV.kept]
end
end Lw
set_option maxHeartbeats 4000000
namespace Lw
open PySem Vs
/-! the law -/
section
variable {N : Nat} {s : Sr}
theorem long_eq (hs : Src N s) (hN : N < 100000) : ∃ s', Src (N + 2000) s' ∧ m_l_long_right [(1, s.D)] = .ok (0, .bl true) [some (1, s'.D)] := by
  have d1 : m_l_dip [(1, s.D), (0, .int 11)] = .ok (0, .int (dr s 11 : Nat)) [some (1, (nx s 11).D), some (0, .int 11)] := dip_eq (n := 11) hs
  have b1 : dr s 11 < 11 := dr_lt (by omega)
  have hs1 := hs.nx 11
  generalize nx s 11 = s1 at *
  generalize dr s 11 = w1 at *
  obtain ⟨n, hnw⟩ : ∃ n, n = 2 + w1 := ⟨_, rfl⟩
  have hni : (2 : Int) + (w1 : Int) = (n : Int) := by omega
  obtain ⟨R, s2, hR, hs2, e1⟩ := moves_eq (n := n) hs1 (by omega) (by omega) (by omega)
  have d2 : m_l_dip [(1, s2.D), (0, .int 3)] = .ok (0, .int (dr s2 3 : Nat)) [some (1, (nx s2 3).D), some (0, .int 3)] := dip_eq (n := 3) hs2
  have b2 : dr s2 3 < 3 := dr_lt (by omega)
  have hs3 := hs2.nx 3
  generalize nx s2 3 = s3 at *
  generalize dr s2 3 = w2 at *
  have lg := long_start hR (by omega) (by omega)
  have d3 : m_l_dip [(1, s3.D), (0, .int 320)] = .ok (0, .int (dr s3 320 : Nat)) [some (1, (nx s3 320).D), some (0, .int 320)] := dip_eq (n := 320) hs3
  have b3 : dr s3 320 < 320 := dr_lt (by omega)
  have hs4 := hs3.nx 320
  generalize nx s3 320 = s4 at *
  generalize dr s3 320 = w3 at *
  obtain ⟨s5, L', S', O', hs5, lg', hlen, lp⟩ := long_loop (m := 40 + w3) (A := List.range (n + 1 + w2)) (by omega) lg (by rw [first_len]; omega) (by simp) (fun x hx => by have := List.mem_range.mp hx; omega) (by simp; omega) hs4 (by omega)
  rw [first_len] at hlen
  obtain ⟨s6, ρ6, hs6, tl⟩ := long_tail (A := List.range (n + 1 + w2)) lg' (by omega) (by omega) hs5 (by omega)
  refine ⟨s6, hs6.le (by omega), ?_⟩
  have c1 := fun (x4 x5 : Option PV) => compL_map (own := [11]) (g := gname 11) (e := (two (cst (vi 200)) (fz 1 [11] (v 11)) kAdd)) (f := fun (i : Nat) => D.int (i : Int)) (k := fun (i : Nat) => vi (((200 + i : Nat)) : Int)) (List.range n) [some (1, s3.D), some (0, .int (n : Int)), some (1, .lst (R.map dn)), some (1, .lst (dnat (List.range (n + 1 + w2)))), none, none, none, none, none, none, none, none, none] [] fun i hi => ⟨[some (1, s3.D), some (0, .int (n : Int)), some (1, .lst (R.map dn)), some (1, .lst (dnat (List.range (n + 1 + w2)))), none, none, none, none, none, none, none, some (0, .int (i : Int)), none], by simp, by simp, rfl⟩
  have c1 := c1 none none
  rw [List.nil_append] at c1
  have k1 : kLst ((List.range n).map fun (i : Nat) => vi (((200 + i : Nat)) : Int)) = some ⟨false, 1, .lst (dnat (firstL n))⟩ := by
    have := kLst_nats (m := 0) (xs := firstL n) (by rw [first_len, lim_num]; omega)
    unfold firstL at this
    rw [List.map_map] at this
    exact this
  have rg : ∀ b k, kR1 [⟨b, k, .int (n : Int)⟩] = some ((List.range n).map fun (i : Nat) => D.int (i : Int)) := fun b k => by
    exact (e_range1 (by omega) (by omega)).trans (congrArg some (rng_dnat n))
  have rgm : ∀ b k, kR1 [⟨b, k, .int ((40 : Int) + (w3 : Int))⟩] = some (rng 0 ((40 + w3 : Nat) : Int)) := fun b k => by
    rw [show (40 : Int) + (w3 : Int) = ((40 + w3 : Nat) : Int) by omega]
    exact e_range1 (by omega) (by omega)
  have ra : ∀ b k, kRange [⟨b, k, .int ((n : Int) + 1 + (w2 : Int))⟩] = some ⟨false, 1, .lst (dnat (List.range (n + 1 + w2)))⟩ := fun b k => by
    rw [show (n : Int) + 1 + (w2 : Int) = ((n + 1 + w2 : Nat) : Int) by omega]
    exact e_listRange' (by omega)
  have kF : ∀ q m o, kLst [⟨q, m, .bl o⟩] = some ⟨false, 1, .lst [.bl o]⟩ := fun q m o => kLst_imm (xs := [⟨q, m, .bl o⟩]) (fun x hx => by rw [List.mem_singleton.mp hx]; rfl) (by simp [lim_num])
  have kr : ∀ m p k, kMul ⟨false, m + 1, .lst [.bl false]⟩ ⟨p, k, .int (n : Int)⟩ = some ⟨false, 1, .lst (List.replicate n (.bl false))⟩ := fun m p k => e_rep (by omega)
  have dO : List.replicate n (D.bl false) = dbl (List.replicate n false) := by unfold dbl; rw [List.map_replicate]
  rw [dO] at kr
  unfold eL at lp tl
  clear lg lg' dO
  generalize rng 0 ((40 + w3 : Nat) : Int) = rr at *
  generalize ((List.range n).map fun (i : Nat) => vi (((200 + i : Nat)) : Int)) = Z2 at *
  generalize ((List.range n).map fun (i : Nat) => D.int (i : Int)) = Z3 at *
  generalize dbl (List.replicate n false) = Z4 at *
  generalize dnat (List.range (n + 1 + w2)) = Ad at *
  generalize dnat (firstL n) = Fd at *
  generalize R.map dn = Rd at *
  generalize dnat L' = Ld' at *
  generalize dnat S' = Sd at *
  generalize dbl O' = Od at *
  unfold m_l_long_right fnM
  rw [b_l_long_right_eq]
  generalize (sq t_l_long_right_4 (sq t_l_long_right_5 (sq t_l_long_right_6 (sq t_l_long_right_7 (sq t_l_long_right_8 t_l_long_right_9))))) = TL at *
  unfold t_l_long_right_3 w_l_long_right_0
  generalize q_l_long_right_0 = Q at *
  unfold t_l_long_right_0 t_l_long_right_1 t_l_long_right_2
  simp [par3, par3k, e_pre, e_even, d1, hni, e1, d2, ra, rg, c1, k1, kF, kr, d3, rgm, lp, tl, VV.stable, VV.kept]
end
end Lw
set_option maxHeartbeats 4000000
namespace Lw
open PySem Vs
/-! the law, whole -/
section
variable {N : Nat} {s : Sr}
theorem two_items {a b : Nat} : kLst [vi (a : Int), vi (b : Int)] = some ⟨false, 1, .lst [.int (a : Int), .int (b : Int)]⟩ := kLst_imm (xs := [vi (a : Int), vi (b : Int)]) (fun x hx => by
  simp only [List.mem_cons, List.not_mem_nil, or_false] at hx
  rcases hx with rfl | rfl <;> rfl) (by simp [lim_num])
theorem law_turn {ns : List Int} {k : Nat} (hk : k < 3) : q_p_law_1 [some (0, .lst (dints ns)), some (0, .int (k : Int)), none, none] = .nx [some (0, .lst (dints ns)), none, none, none] := by
  obtain ⟨x, ew⟩ := well_eq (ns := ns) (k := k) (by omega)
  have hs := wellF_ok (x := x) (k := k)
  generalize wellF x k = s at *
  have d1 : m_l_dip [(1, s.D), (0, .int 3)] = .ok (0, .int (dr s 3 : Nat)) [some (1, (nx s 3).D), some (0, .int 3)] := dip_eq (n := 3) hs
  have b1 : dr s 3 < 3 := dr_lt (by omega)
  have hs1 := hs.nx 3
  generalize nx s 3 = s1 at *
  generalize dr s 3 = w1 at *
  have d2 : m_l_dip [(1, s1.D), (0, .int 2)] = .ok (0, .int (dr s1 2 : Nat)) [some (1, (nx s1 2).D), some (0, .int 2)] := dip_eq (n := 2) hs1
  have b2 : dr s1 2 < 2 := dr_lt (by omega)
  have hs2 := hs1.nx 2
  generalize nx s1 2 = s2 at *
  generalize dr s1 2 = w2 at *
  obtain ⟨s3, hs3, e3⟩ := right_eq (n := 2 + w1) (by omega) (by omega) hs2 (by omega)
  obtain ⟨s4, hs4, e4⟩ := right_eq (n := 4 + w2) (by omega) (by omega) hs3 (by omega)
  obtain ⟨s5, hs5, e5⟩ := long_eq hs4 (by omega)
  have n1 : (2 : Int) + (w1 : Int) = ((2 + w1 : Nat) : Int) := by omega
  have n2 : (4 : Int) + (w2 : Int) = ((4 + w2 : Nat) : Int) := by omega
  have kl := two_items (a := 2 + w1) (b := 4 + w2)
  generalize (2 + w1 : Nat) = a at *
  generalize (4 + w2 : Nat) = b at *
  have lp : forL (gname 3) q_p_law_0 [.int (a : Int), .int (b : Int)] [some (0, .lst (dints ns)), some (0, .int (k : Int)), some (1, s2.D), none] = .nx [some (0, .lst (dints ns)), some (0, .int (k : Int)), some (1, s4.D), none] := by
    have h1 : (gname 3 ⟨false, 0, .int (a : Int)⟩ [some (0, .lst (dints ns)), some (0, .int (k : Int)), some (1, s2.D), none]).seq q_p_law_0 = .nx [some (0, .lst (dints ns)), some (0, .int (k : Int)), some (1, s3.D), none] := by
      unfold q_p_law_0
      simp [e_tdy, e_even, e3]
    have h2 : (gname 3 ⟨false, 0, .int (b : Int)⟩ [some (0, .lst (dints ns)), some (0, .int (k : Int)), some (1, s3.D), none]).seq q_p_law_0 = .nx [some (0, .lst (dints ns)), some (0, .int (k : Int)), some (1, s4.D), none] := by
      unfold q_p_law_0
      simp [e_tdy, e_even, e4]
    clear e3 e4 e5 d1 d2 ew kl
    generalize q_p_law_0 = Q at *
    exact forL_eq (g := gname 3) (b := Q) [D.int (a : Int), D.int (b : Int)] (fun k' => [some (0, .lst (dints ns)), some (0, .int (k : Int)), some (1, (match k' with | 0 => s2 | 1 => s3 | _ => s4).D), none]) fun k' d hd => by
      match k', hd with
      | 0, hd => injection hd with hd; subst hd; exact h1
      | 1, hd => injection hd with hd; subst hd; exact h2
  generalize dints ns = nd at *
  unfold q_p_law_1 w_p_law_0
  generalize q_p_law_0 = Q at *
  simp [e_tdy, e_pre, e_even, ew, d1, d2, n1, n2, kl, lp, e5, VV.stable, VV.kept]
end
theorem law_true : ∀ ns : List Int, ns.length ≤ 63 → ∃ r out, m_p_law [(0, .lst (dints ns))] = .ok r out ∧ r.2 = .bl true := fun ns hn => by
  obtain ⟨c, hc, hc3⟩ : ∃ c : Nat, c ≤ 3 ∧ ∀ b m, kR1 [⟨b, m, .int (if (if (ns.length : Int) < 3 then (ns.length : Int) else 3) > 1 then (if (ns.length : Int) < 3 then (ns.length : Int) else 3) else 1)⟩] = some (rng 0 (c : Int)) := by
    obtain ⟨c, hc⟩ : ∃ c : Nat, (if (if (ns.length : Int) < 3 then (ns.length : Int) else 3) > 1 then (if (ns.length : Int) < 3 then (ns.length : Int) else 3) else 1) = (c : Int) ∧ c ≤ 3 := by
      refine ⟨(if (if (ns.length : Int) < 3 then (ns.length : Int) else 3) > 1 then (if (ns.length : Int) < 3 then (ns.length : Int) else 3) else (1 : Int)).toNat, ?_, ?_⟩ <;> split <;> split <;> omega
    refine ⟨c, hc.2, fun b m => ?_⟩
    rw [hc.1]
    exact e_range1 (by omega) (by omega)
  have lp := forL_eq (g := gname 1) (b := q_p_law_1) (rng 0 (c : Int)) (fun _ => [some (0, .lst (dints ns)), none, none, none]) fun k d hd => by
    obtain ⟨rfl, hk⟩ := rng_get hd
    have := law_turn (ns := ns) (k := k) (by omega)
    rw [Int.zero_add]
    exact this
  have hl : (dints ns).length = ns.length := di_len ns
  refine ⟨(0, .bl true), [some (0, .lst (dints ns))], ?_, rfl⟩
  generalize rng 0 (c : Int) = rr at *
  generalize dints ns = nd at *
  unfold m_p_law fnM
  rw [b_p_law_eq]
  unfold w_p_law_1
  generalize q_p_law_1 = Q at *
  simp [e_pre, e_even, hl, hc3, lp]
end Lw
namespace Lw
open PySem PySem.Spec PyProof.Rows L2 Vs
theorem all_mk {l : PySem.W.OpenLaw} {w : World} {K : PySem.W.Frag} {h : Heap} {mg : Str → Option Value} {fa : Addr} (X : K.In h) (G : h.Ns mainGlobals mg) (hfa : mg "law" = some (.ref fa))
    {f_l_dip : Addr} {od_l_dip an_l_dip : Option Addr} {sl_l_dip : Array (Option Value)} {oc_l_dip dV_l_dip kV_l_dip dc_l_dip pm_l_dip cd_l_dip ct_l_dip : Value}
    (a_l_dip : PySem.W.nsIn K mainGlobals "_law_dip" = some (some (.ref f_l_dip))) (l_l_dip : K.lookup f_l_dip = some ⟨oc_l_dip, od_l_dip, .func (PySem.W.fnOf "_law_dip" "_law_dip" (defArgs s_l_dip) (defBody s_l_dip) (defScope s_l_dip) dV_l_dip kV_l_dip dc_l_dip pm_l_dip an_l_dip cd_l_dip ct_l_dip), sl_l_dip⟩) (c_l_dip : PySem.W.codeIn K cd_l_dip "_law_dip" = true) (k_l_dip : PySem.W.keepIn K (.ref f_l_dip) = true)
    (d_l_dip : dV_l_dip = .none)
    {f_l_lift : Addr} {od_l_lift an_l_lift : Option Addr} {sl_l_lift : Array (Option Value)} {oc_l_lift dV_l_lift kV_l_lift dc_l_lift pm_l_lift cd_l_lift ct_l_lift : Value}
    (a_l_lift : PySem.W.nsIn K mainGlobals "_law_lift" = some (some (.ref f_l_lift))) (l_l_lift : K.lookup f_l_lift = some ⟨oc_l_lift, od_l_lift, .func (PySem.W.fnOf "_law_lift" "_law_lift" (defArgs s_l_lift) (defBody s_l_lift) (defScope s_l_lift) dV_l_lift kV_l_lift dc_l_lift pm_l_lift an_l_lift cd_l_lift ct_l_lift), sl_l_lift⟩) (c_l_lift : PySem.W.codeIn K cd_l_lift "_law_lift" = true) (k_l_lift : PySem.W.keepIn K (.ref f_l_lift) = true)
    (d_l_lift : dV_l_lift = .none)
    {f_l_perm : Addr} {od_l_perm an_l_perm : Option Addr} {sl_l_perm : Array (Option Value)} {oc_l_perm dV_l_perm kV_l_perm dc_l_perm pm_l_perm cd_l_perm ct_l_perm : Value}
    (a_l_perm : PySem.W.nsIn K mainGlobals "_law_perm" = some (some (.ref f_l_perm))) (l_l_perm : K.lookup f_l_perm = some ⟨oc_l_perm, od_l_perm, .func (PySem.W.fnOf "_law_perm" "_law_perm" (defArgs s_l_perm) (defBody s_l_perm) (defScope s_l_perm) dV_l_perm kV_l_perm dc_l_perm pm_l_perm an_l_perm cd_l_perm ct_l_perm), sl_l_perm⟩) (c_l_perm : PySem.W.codeIn K cd_l_perm "_law_perm" = true) (k_l_perm : PySem.W.keepIn K (.ref f_l_perm) = true)
    (d_l_perm : dV_l_perm = .none)
    {f_l_moves : Addr} {od_l_moves an_l_moves : Option Addr} {sl_l_moves : Array (Option Value)} {oc_l_moves dV_l_moves kV_l_moves dc_l_moves pm_l_moves cd_l_moves ct_l_moves : Value}
    (a_l_moves : PySem.W.nsIn K mainGlobals "_law_moves" = some (some (.ref f_l_moves))) (l_l_moves : K.lookup f_l_moves = some ⟨oc_l_moves, od_l_moves, .func (PySem.W.fnOf "_law_moves" "_law_moves" (defArgs s_l_moves) (defBody s_l_moves) (defScope s_l_moves) dV_l_moves kV_l_moves dc_l_moves pm_l_moves an_l_moves cd_l_moves ct_l_moves), sl_l_moves⟩) (c_l_moves : PySem.W.codeIn K cd_l_moves "_law_moves" = true) (k_l_moves : PySem.W.keepIn K (.ref f_l_moves) = true)
    (d_l_moves : dV_l_moves = .none)
    {f_l_hit : Addr} {od_l_hit an_l_hit : Option Addr} {sl_l_hit : Array (Option Value)} {oc_l_hit dV_l_hit kV_l_hit dc_l_hit pm_l_hit cd_l_hit ct_l_hit : Value}
    (a_l_hit : PySem.W.nsIn K mainGlobals "_law_hit" = some (some (.ref f_l_hit))) (l_l_hit : K.lookup f_l_hit = some ⟨oc_l_hit, od_l_hit, .func (PySem.W.fnOf "_law_hit" "_law_hit" (defArgs s_l_hit) (defBody s_l_hit) (defScope s_l_hit) dV_l_hit kV_l_hit dc_l_hit pm_l_hit an_l_hit cd_l_hit ct_l_hit), sl_l_hit⟩) (c_l_hit : PySem.W.codeIn K cd_l_hit "_law_hit" = true) (k_l_hit : PySem.W.keepIn K (.ref f_l_hit) = true)
    (d_l_hit : dV_l_hit = .none)
    {f_l_step : Addr} {od_l_step an_l_step : Option Addr} {sl_l_step : Array (Option Value)} {oc_l_step dV_l_step kV_l_step dc_l_step pm_l_step cd_l_step ct_l_step : Value}
    (a_l_step : PySem.W.nsIn K mainGlobals "_law_step" = some (some (.ref f_l_step))) (l_l_step : K.lookup f_l_step = some ⟨oc_l_step, od_l_step, .func (PySem.W.fnOf "_law_step" "_law_step" (defArgs s_l_step) (defBody s_l_step) (defScope s_l_step) dV_l_step kV_l_step dc_l_step pm_l_step an_l_step cd_l_step ct_l_step), sl_l_step⟩) (c_l_step : PySem.W.codeIn K cd_l_step "_law_step" = true) (k_l_step : PySem.W.keepIn K (.ref f_l_step) = true)
    (d_l_step : dV_l_step = .none)
    {f_p_check_outcomes : Addr} {od_p_check_outcomes an_p_check_outcomes : Option Addr} {sl_p_check_outcomes : Array (Option Value)} {oc_p_check_outcomes dV_p_check_outcomes kV_p_check_outcomes dc_p_check_outcomes pm_p_check_outcomes cd_p_check_outcomes ct_p_check_outcomes : Value}
    (a_p_check_outcomes : PySem.W.nsIn K mainGlobals "check_outcomes" = some (some (.ref f_p_check_outcomes))) (l_p_check_outcomes : K.lookup f_p_check_outcomes = some ⟨oc_p_check_outcomes, od_p_check_outcomes, .func (PySem.W.fnOf "check_outcomes" "check_outcomes" (defArgs s_p_check_outcomes) (defBody s_p_check_outcomes) (defScope s_p_check_outcomes) dV_p_check_outcomes kV_p_check_outcomes dc_p_check_outcomes pm_p_check_outcomes an_p_check_outcomes cd_p_check_outcomes ct_p_check_outcomes), sl_p_check_outcomes⟩) (c_p_check_outcomes : PySem.W.codeIn K cd_p_check_outcomes "check_outcomes" = true) (k_p_check_outcomes : PySem.W.keepIn K (.ref f_p_check_outcomes) = true)
    (d_p_check_outcomes : dV_p_check_outcomes = .none)
    {f_p_is_integer : Addr} {od_p_is_integer an_p_is_integer : Option Addr} {sl_p_is_integer : Array (Option Value)} {oc_p_is_integer dV_p_is_integer kV_p_is_integer dc_p_is_integer pm_p_is_integer cd_p_is_integer ct_p_is_integer : Value}
    (a_p_is_integer : PySem.W.nsIn K mainGlobals "is_integer" = some (some (.ref f_p_is_integer))) (l_p_is_integer : K.lookup f_p_is_integer = some ⟨oc_p_is_integer, od_p_is_integer, .func (PySem.W.fnOf "is_integer" "is_integer" (defArgs s_p_is_integer) (defBody s_p_is_integer) (defScope s_p_is_integer) dV_p_is_integer kV_p_is_integer dc_p_is_integer pm_p_is_integer an_p_is_integer cd_p_is_integer ct_p_is_integer), sl_p_is_integer⟩) (c_p_is_integer : PySem.W.codeIn K cd_p_is_integer "is_integer" = true) (k_p_is_integer : PySem.W.keepIn K (.ref f_p_is_integer) = true)
    {t_p_is_integer : Addr} {to_p_is_integer : Value} {td_p_is_integer : Option Addr} {ti_p_is_integer : Array Value} {tn_p_is_integer : Nat} {ts_p_is_integer : Array (Option Value)} (d_p_is_integer : dV_p_is_integer = .ref t_p_is_integer) (tl_p_is_integer : K.lookup t_p_is_integer = some ⟨to_p_is_integer, td_p_is_integer, .seq ti_p_is_integer tn_p_is_integer, ts_p_is_integer⟩) (tv_p_is_integer : Vals [.non, .non] ti_p_is_integer.toList)
    {f_p_is_permutation_of : Addr} {od_p_is_permutation_of an_p_is_permutation_of : Option Addr} {sl_p_is_permutation_of : Array (Option Value)} {oc_p_is_permutation_of dV_p_is_permutation_of kV_p_is_permutation_of dc_p_is_permutation_of pm_p_is_permutation_of cd_p_is_permutation_of ct_p_is_permutation_of : Value}
    (a_p_is_permutation_of : PySem.W.nsIn K mainGlobals "is_permutation_of" = some (some (.ref f_p_is_permutation_of))) (l_p_is_permutation_of : K.lookup f_p_is_permutation_of = some ⟨oc_p_is_permutation_of, od_p_is_permutation_of, .func (PySem.W.fnOf "is_permutation_of" "is_permutation_of" (defArgs s_p_is_permutation_of) (defBody s_p_is_permutation_of) (defScope s_p_is_permutation_of) dV_p_is_permutation_of kV_p_is_permutation_of dc_p_is_permutation_of pm_p_is_permutation_of an_p_is_permutation_of cd_p_is_permutation_of ct_p_is_permutation_of), sl_p_is_permutation_of⟩) (c_p_is_permutation_of : PySem.W.codeIn K cd_p_is_permutation_of "is_permutation_of" = true) (k_p_is_permutation_of : PySem.W.keepIn K (.ref f_p_is_permutation_of) = true)
    (d_p_is_permutation_of : dV_p_is_permutation_of = .none)
    {f_p_check_rule : Addr} {od_p_check_rule an_p_check_rule : Option Addr} {sl_p_check_rule : Array (Option Value)} {oc_p_check_rule dV_p_check_rule kV_p_check_rule dc_p_check_rule pm_p_check_rule cd_p_check_rule ct_p_check_rule : Value}
    (a_p_check_rule : PySem.W.nsIn K mainGlobals "check_rule" = some (some (.ref f_p_check_rule))) (l_p_check_rule : K.lookup f_p_check_rule = some ⟨oc_p_check_rule, od_p_check_rule, .func (PySem.W.fnOf "check_rule" "check_rule" (defArgs s_p_check_rule) (defBody s_p_check_rule) (defScope s_p_check_rule) dV_p_check_rule kV_p_check_rule dc_p_check_rule pm_p_check_rule an_p_check_rule cd_p_check_rule ct_p_check_rule), sl_p_check_rule⟩) (c_p_check_rule : PySem.W.codeIn K cd_p_check_rule "check_rule" = true) (k_p_check_rule : PySem.W.keepIn K (.ref f_p_check_rule) = true)
    (d_p_check_rule : dV_p_check_rule = .none)
    {f_p_is_block : Addr} {od_p_is_block an_p_is_block : Option Addr} {sl_p_is_block : Array (Option Value)} {oc_p_is_block dV_p_is_block kV_p_is_block dc_p_is_block pm_p_is_block cd_p_is_block ct_p_is_block : Value}
    (a_p_is_block : PySem.W.nsIn K mainGlobals "is_block" = some (some (.ref f_p_is_block))) (l_p_is_block : K.lookup f_p_is_block = some ⟨oc_p_is_block, od_p_is_block, .func (PySem.W.fnOf "is_block" "is_block" (defArgs s_p_is_block) (defBody s_p_is_block) (defScope s_p_is_block) dV_p_is_block kV_p_is_block dc_p_is_block pm_p_is_block an_p_is_block cd_p_is_block ct_p_is_block), sl_p_is_block⟩) (c_p_is_block : PySem.W.codeIn K cd_p_is_block "is_block" = true) (k_p_is_block : PySem.W.keepIn K (.ref f_p_is_block) = true)
    (d_p_is_block : dV_p_is_block = .none)
    {f_p_check_stream : Addr} {od_p_check_stream an_p_check_stream : Option Addr} {sl_p_check_stream : Array (Option Value)} {oc_p_check_stream dV_p_check_stream kV_p_check_stream dc_p_check_stream pm_p_check_stream cd_p_check_stream ct_p_check_stream : Value}
    (a_p_check_stream : PySem.W.nsIn K mainGlobals "check_stream" = some (some (.ref f_p_check_stream))) (l_p_check_stream : K.lookup f_p_check_stream = some ⟨oc_p_check_stream, od_p_check_stream, .func (PySem.W.fnOf "check_stream" "check_stream" (defArgs s_p_check_stream) (defBody s_p_check_stream) (defScope s_p_check_stream) dV_p_check_stream kV_p_check_stream dc_p_check_stream pm_p_check_stream an_p_check_stream cd_p_check_stream ct_p_check_stream), sl_p_check_stream⟩) (c_p_check_stream : PySem.W.codeIn K cd_p_check_stream "check_stream" = true) (k_p_check_stream : PySem.W.keepIn K (.ref f_p_check_stream) = true)
    (d_p_check_stream : dV_p_check_stream = .none)
    {f_p_check_record : Addr} {od_p_check_record an_p_check_record : Option Addr} {sl_p_check_record : Array (Option Value)} {oc_p_check_record dV_p_check_record kV_p_check_record dc_p_check_record pm_p_check_record cd_p_check_record ct_p_check_record : Value}
    (a_p_check_record : PySem.W.nsIn K mainGlobals "check_record" = some (some (.ref f_p_check_record))) (l_p_check_record : K.lookup f_p_check_record = some ⟨oc_p_check_record, od_p_check_record, .func (PySem.W.fnOf "check_record" "check_record" (defArgs s_p_check_record) (defBody s_p_check_record) (defScope s_p_check_record) dV_p_check_record kV_p_check_record dc_p_check_record pm_p_check_record an_p_check_record cd_p_check_record ct_p_check_record), sl_p_check_record⟩) (c_p_check_record : PySem.W.codeIn K cd_p_check_record "check_record" = true) (k_p_check_record : PySem.W.keepIn K (.ref f_p_check_record) = true)
    (d_p_check_record : dV_p_check_record = .none)
    {f_p_moved : Addr} {od_p_moved an_p_moved : Option Addr} {sl_p_moved : Array (Option Value)} {oc_p_moved dV_p_moved kV_p_moved dc_p_moved pm_p_moved cd_p_moved ct_p_moved : Value}
    (a_p_moved : PySem.W.nsIn K mainGlobals "moved" = some (some (.ref f_p_moved))) (l_p_moved : K.lookup f_p_moved = some ⟨oc_p_moved, od_p_moved, .func (PySem.W.fnOf "moved" "moved" (defArgs s_p_moved) (defBody s_p_moved) (defScope s_p_moved) dV_p_moved kV_p_moved dc_p_moved pm_p_moved an_p_moved cd_p_moved ct_p_moved), sl_p_moved⟩) (c_p_moved : PySem.W.codeIn K cd_p_moved "moved" = true) (k_p_moved : PySem.W.keepIn K (.ref f_p_moved) = true)
    (d_p_moved : dV_p_moved = .none)
    {f_p_fits_behind : Addr} {od_p_fits_behind an_p_fits_behind : Option Addr} {sl_p_fits_behind : Array (Option Value)} {oc_p_fits_behind dV_p_fits_behind kV_p_fits_behind dc_p_fits_behind pm_p_fits_behind cd_p_fits_behind ct_p_fits_behind : Value}
    (a_p_fits_behind : PySem.W.nsIn K mainGlobals "fits_behind" = some (some (.ref f_p_fits_behind))) (l_p_fits_behind : K.lookup f_p_fits_behind = some ⟨oc_p_fits_behind, od_p_fits_behind, .func (PySem.W.fnOf "fits_behind" "fits_behind" (defArgs s_p_fits_behind) (defBody s_p_fits_behind) (defScope s_p_fits_behind) dV_p_fits_behind kV_p_fits_behind dc_p_fits_behind pm_p_fits_behind an_p_fits_behind cd_p_fits_behind ct_p_fits_behind), sl_p_fits_behind⟩) (c_p_fits_behind : PySem.W.codeIn K cd_p_fits_behind "fits_behind" = true) (k_p_fits_behind : PySem.W.keepIn K (.ref f_p_fits_behind) = true)
    (d_p_fits_behind : dV_p_fits_behind = .none)
    {f_p_pairs_behind : Addr} {od_p_pairs_behind an_p_pairs_behind : Option Addr} {sl_p_pairs_behind : Array (Option Value)} {oc_p_pairs_behind dV_p_pairs_behind kV_p_pairs_behind dc_p_pairs_behind pm_p_pairs_behind cd_p_pairs_behind ct_p_pairs_behind : Value}
    (a_p_pairs_behind : PySem.W.nsIn K mainGlobals "pairs_behind" = some (some (.ref f_p_pairs_behind))) (l_p_pairs_behind : K.lookup f_p_pairs_behind = some ⟨oc_p_pairs_behind, od_p_pairs_behind, .func (PySem.W.fnOf "pairs_behind" "pairs_behind" (defArgs s_p_pairs_behind) (defBody s_p_pairs_behind) (defScope s_p_pairs_behind) dV_p_pairs_behind kV_p_pairs_behind dc_p_pairs_behind pm_p_pairs_behind an_p_pairs_behind cd_p_pairs_behind ct_p_pairs_behind), sl_p_pairs_behind⟩) (c_p_pairs_behind : PySem.W.codeIn K cd_p_pairs_behind "pairs_behind" = true) (k_p_pairs_behind : PySem.W.keepIn K (.ref f_p_pairs_behind) = true)
    (d_p_pairs_behind : dV_p_pairs_behind = .none)
    {f_p_with_none : Addr} {od_p_with_none an_p_with_none : Option Addr} {sl_p_with_none : Array (Option Value)} {oc_p_with_none dV_p_with_none kV_p_with_none dc_p_with_none pm_p_with_none cd_p_with_none ct_p_with_none : Value}
    (a_p_with_none : PySem.W.nsIn K mainGlobals "with_none" = some (some (.ref f_p_with_none))) (l_p_with_none : K.lookup f_p_with_none = some ⟨oc_p_with_none, od_p_with_none, .func (PySem.W.fnOf "with_none" "with_none" (defArgs s_p_with_none) (defBody s_p_with_none) (defScope s_p_with_none) dV_p_with_none kV_p_with_none dc_p_with_none pm_p_with_none an_p_with_none cd_p_with_none ct_p_with_none), sl_p_with_none⟩) (c_p_with_none : PySem.W.codeIn K cd_p_with_none "with_none" = true) (k_p_with_none : PySem.W.keepIn K (.ref f_p_with_none) = true)
    (d_p_with_none : dV_p_with_none = .none)
    {f_p_first_rows : Addr} {od_p_first_rows an_p_first_rows : Option Addr} {sl_p_first_rows : Array (Option Value)} {oc_p_first_rows dV_p_first_rows kV_p_first_rows dc_p_first_rows pm_p_first_rows cd_p_first_rows ct_p_first_rows : Value}
    (a_p_first_rows : PySem.W.nsIn K mainGlobals "first_rows" = some (some (.ref f_p_first_rows))) (l_p_first_rows : K.lookup f_p_first_rows = some ⟨oc_p_first_rows, od_p_first_rows, .func (PySem.W.fnOf "first_rows" "first_rows" (defArgs s_p_first_rows) (defBody s_p_first_rows) (defScope s_p_first_rows) dV_p_first_rows kV_p_first_rows dc_p_first_rows pm_p_first_rows an_p_first_rows cd_p_first_rows ct_p_first_rows), sl_p_first_rows⟩) (c_p_first_rows : PySem.W.codeIn K cd_p_first_rows "first_rows" = true) (k_p_first_rows : PySem.W.keepIn K (.ref f_p_first_rows) = true)
    (d_p_first_rows : dV_p_first_rows = .none)
    {f_p_is_possible : Addr} {od_p_is_possible an_p_is_possible : Option Addr} {sl_p_is_possible : Array (Option Value)} {oc_p_is_possible dV_p_is_possible kV_p_is_possible dc_p_is_possible pm_p_is_possible cd_p_is_possible ct_p_is_possible : Value}
    (a_p_is_possible : PySem.W.nsIn K mainGlobals "is_possible" = some (some (.ref f_p_is_possible))) (l_p_is_possible : K.lookup f_p_is_possible = some ⟨oc_p_is_possible, od_p_is_possible, .func (PySem.W.fnOf "is_possible" "is_possible" (defArgs s_p_is_possible) (defBody s_p_is_possible) (defScope s_p_is_possible) dV_p_is_possible kV_p_is_possible dc_p_is_possible pm_p_is_possible an_p_is_possible cd_p_is_possible ct_p_is_possible), sl_p_is_possible⟩) (c_p_is_possible : PySem.W.codeIn K cd_p_is_possible "is_possible" = true) (k_p_is_possible : PySem.W.keepIn K (.ref f_p_is_possible) = true)
    (d_p_is_possible : dV_p_is_possible = .none)
    {f_p_next_one : Addr} {od_p_next_one an_p_next_one : Option Addr} {sl_p_next_one : Array (Option Value)} {oc_p_next_one dV_p_next_one kV_p_next_one dc_p_next_one pm_p_next_one cd_p_next_one ct_p_next_one : Value}
    (a_p_next_one : PySem.W.nsIn K mainGlobals "next_one" = some (some (.ref f_p_next_one))) (l_p_next_one : K.lookup f_p_next_one = some ⟨oc_p_next_one, od_p_next_one, .func (PySem.W.fnOf "next_one" "next_one" (defArgs s_p_next_one) (defBody s_p_next_one) (defScope s_p_next_one) dV_p_next_one kV_p_next_one dc_p_next_one pm_p_next_one an_p_next_one cd_p_next_one ct_p_next_one), sl_p_next_one⟩) (c_p_next_one : PySem.W.codeIn K cd_p_next_one "next_one" = true) (k_p_next_one : PySem.W.keepIn K (.ref f_p_next_one) = true)
    (d_p_next_one : dV_p_next_one = .none)
    {f_p_rows_left : Addr} {od_p_rows_left an_p_rows_left : Option Addr} {sl_p_rows_left : Array (Option Value)} {oc_p_rows_left dV_p_rows_left kV_p_rows_left dc_p_rows_left pm_p_rows_left cd_p_rows_left ct_p_rows_left : Value}
    (a_p_rows_left : PySem.W.nsIn K mainGlobals "rows_left" = some (some (.ref f_p_rows_left))) (l_p_rows_left : K.lookup f_p_rows_left = some ⟨oc_p_rows_left, od_p_rows_left, .func (PySem.W.fnOf "rows_left" "rows_left" (defArgs s_p_rows_left) (defBody s_p_rows_left) (defScope s_p_rows_left) dV_p_rows_left kV_p_rows_left dc_p_rows_left pm_p_rows_left an_p_rows_left cd_p_rows_left ct_p_rows_left), sl_p_rows_left⟩) (c_p_rows_left : PySem.W.codeIn K cd_p_rows_left "rows_left" = true) (k_p_rows_left : PySem.W.keepIn K (.ref f_p_rows_left) = true)
    (d_p_rows_left : dV_p_rows_left = .none)
    {f_l_long_right : Addr} {od_l_long_right an_l_long_right : Option Addr} {sl_l_long_right : Array (Option Value)} {oc_l_long_right dV_l_long_right kV_l_long_right dc_l_long_right pm_l_long_right cd_l_long_right ct_l_long_right : Value}
    (a_l_long_right : PySem.W.nsIn K mainGlobals "_law_long_right" = some (some (.ref f_l_long_right))) (l_l_long_right : K.lookup f_l_long_right = some ⟨oc_l_long_right, od_l_long_right, .func (PySem.W.fnOf "_law_long_right" "_law_long_right" (defArgs s_l_long_right) (defBody s_l_long_right) (defScope s_l_long_right) dV_l_long_right kV_l_long_right dc_l_long_right pm_l_long_right an_l_long_right cd_l_long_right ct_l_long_right), sl_l_long_right⟩) (c_l_long_right : PySem.W.codeIn K cd_l_long_right "_law_long_right" = true) (k_l_long_right : PySem.W.keepIn K (.ref f_l_long_right) = true)
    (d_l_long_right : dV_l_long_right = .none)
    {f_l_fills : Addr} {od_l_fills an_l_fills : Option Addr} {sl_l_fills : Array (Option Value)} {oc_l_fills dV_l_fills kV_l_fills dc_l_fills pm_l_fills cd_l_fills ct_l_fills : Value}
    (a_l_fills : PySem.W.nsIn K mainGlobals "_law_fills" = some (some (.ref f_l_fills))) (l_l_fills : K.lookup f_l_fills = some ⟨oc_l_fills, od_l_fills, .func (PySem.W.fnOf "_law_fills" "_law_fills" (defArgs s_l_fills) (defBody s_l_fills) (defScope s_l_fills) dV_l_fills kV_l_fills dc_l_fills pm_l_fills an_l_fills cd_l_fills ct_l_fills), sl_l_fills⟩) (c_l_fills : PySem.W.codeIn K cd_l_fills "_law_fills" = true) (k_l_fills : PySem.W.keepIn K (.ref f_l_fills) = true)
    (d_l_fills : dV_l_fills = .none)
    {f_l_grown_right : Addr} {od_l_grown_right an_l_grown_right : Option Addr} {sl_l_grown_right : Array (Option Value)} {oc_l_grown_right dV_l_grown_right kV_l_grown_right dc_l_grown_right pm_l_grown_right cd_l_grown_right ct_l_grown_right : Value}
    (a_l_grown_right : PySem.W.nsIn K mainGlobals "_law_grown_right" = some (some (.ref f_l_grown_right))) (l_l_grown_right : K.lookup f_l_grown_right = some ⟨oc_l_grown_right, od_l_grown_right, .func (PySem.W.fnOf "_law_grown_right" "_law_grown_right" (defArgs s_l_grown_right) (defBody s_l_grown_right) (defScope s_l_grown_right) dV_l_grown_right kV_l_grown_right dc_l_grown_right pm_l_grown_right an_l_grown_right cd_l_grown_right ct_l_grown_right), sl_l_grown_right⟩) (c_l_grown_right : PySem.W.codeIn K cd_l_grown_right "_law_grown_right" = true) (k_l_grown_right : PySem.W.keepIn K (.ref f_l_grown_right) = true)
    (d_l_grown_right : dV_l_grown_right = .none)
    {f_l_right : Addr} {od_l_right an_l_right : Option Addr} {sl_l_right : Array (Option Value)} {oc_l_right dV_l_right kV_l_right dc_l_right pm_l_right cd_l_right ct_l_right : Value}
    (a_l_right : PySem.W.nsIn K mainGlobals "_law_right" = some (some (.ref f_l_right))) (l_l_right : K.lookup f_l_right = some ⟨oc_l_right, od_l_right, .func (PySem.W.fnOf "_law_right" "_law_right" (defArgs s_l_right) (defBody s_l_right) (defScope s_l_right) dV_l_right kV_l_right dc_l_right pm_l_right an_l_right cd_l_right ct_l_right), sl_l_right⟩) (c_l_right : PySem.W.codeIn K cd_l_right "_law_right" = true) (k_l_right : PySem.W.keepIn K (.ref f_l_right) = true)
    (d_l_right : dV_l_right = .none)
    {f_l_well : Addr} {od_l_well an_l_well : Option Addr} {sl_l_well : Array (Option Value)} {oc_l_well dV_l_well kV_l_well dc_l_well pm_l_well cd_l_well ct_l_well : Value}
    (a_l_well : PySem.W.nsIn K mainGlobals "_law_well" = some (some (.ref f_l_well))) (l_l_well : K.lookup f_l_well = some ⟨oc_l_well, od_l_well, .func (PySem.W.fnOf "_law_well" "_law_well" (defArgs s_l_well) (defBody s_l_well) (defScope s_l_well) dV_l_well kV_l_well dc_l_well pm_l_well an_l_well cd_l_well ct_l_well), sl_l_well⟩) (c_l_well : PySem.W.codeIn K cd_l_well "_law_well" = true) (k_l_well : PySem.W.keepIn K (.ref f_l_well) = true)
    (d_l_well : dV_l_well = .none)
    {f_p_law : Addr} {od_p_law an_p_law : Option Addr} {sl_p_law : Array (Option Value)} {oc_p_law dV_p_law kV_p_law dc_p_law pm_p_law cd_p_law ct_p_law : Value}
    (a_p_law : PySem.W.nsIn K mainGlobals "law" = some (some (.ref f_p_law))) (l_p_law : K.lookup f_p_law = some ⟨oc_p_law, od_p_law, .func (PySem.W.fnOf "law" "law" (defArgs s_p_law) (defBody s_p_law) (defScope s_p_law) dV_p_law kV_p_law dc_p_law pm_p_law an_p_law cd_p_law ct_p_law), sl_p_law⟩) (c_p_law : PySem.W.codeIn K cd_p_law "law" = true) (k_p_law : PySem.W.keepIn K (.ref f_p_law) = true)
    (d_p_law : dV_p_law = .none)
    (z_abs : PySem.W.nsIn K mainGlobals "abs" = some none)
    (z_all : PySem.W.nsIn K mainGlobals "all" = some none)
    (z_any : PySem.W.nsIn K mainGlobals "any" = some none)
    (z_bool : PySem.W.nsIn K mainGlobals "bool" = some none)
    (z_enumerate : PySem.W.nsIn K mainGlobals "enumerate" = some none)
    (z_int : PySem.W.nsIn K mainGlobals "int" = some none)
    (z_isinstance : PySem.W.nsIn K mainGlobals "isinstance" = some none)
    (z_len : PySem.W.nsIn K mainGlobals "len" = some none)
    (z_list : PySem.W.nsIn K mainGlobals "list" = some none)
    (z_max : PySem.W.nsIn K mainGlobals "max" = some none)
    (z_min : PySem.W.nsIn K mainGlobals "min" = some none)
    (z_range : PySem.W.nsIn K mainGlobals "range" = some none)
    (z_repr : PySem.W.nsIn K mainGlobals "repr" = some none)
    (z_sorted : PySem.W.nsIn K mainGlobals "sorted" = some none)
    (z_tuple : PySem.W.nsIn K mainGlobals "tuple" = some none)
    {u_LEAST_PLACES : Value} (w_LEAST_PLACES : PySem.W.nsIn K mainGlobals "LEAST_PLACES" = some (some u_LEAST_PLACES)) (r_LEAST_PLACES : RelV (.int 2) u_LEAST_PLACES)
    {u_MOST_BLOCK : Value} (w_MOST_BLOCK : PySem.W.nsIn K mainGlobals "MOST_BLOCK" = some (some u_MOST_BLOCK)) (r_MOST_BLOCK : RelV (.int 1000000000) u_MOST_BLOCK)
    {u_MOST_PLACES : Value} (w_MOST_PLACES : PySem.W.nsIn K mainGlobals "MOST_PLACES" = some (some u_MOST_PLACES)) (r_MOST_PLACES : RelV (.int 12) u_MOST_PLACES)
    {u_MOST_ROWS : Value} (w_MOST_ROWS : PySem.W.nsIn K mainGlobals "MOST_ROWS" = some (some u_MOST_ROWS)) (r_MOST_ROWS : RelV (.int 5000) u_MOST_ROWS)
    : ∃ (ct : Str → Addr) (fd : FuncData), (∀ (s : Shared) (u : Value), BindsTo s fd ⟨[u], []⟩ [("_law_script", u)]) ∧ ∀ base : Heap, K.In base → base.Ns mainGlobals mg → Fn l.prog w K mg base ct 8 fa fd ["_law_script"] m_p_law := by
  have e := hfa.symm.trans (PySem.W.mg_of X G a_p_law)
  cases e
  subst d_p_law
  have T : Txt K mg := ⟨PySem.W.mg_none_of X G z_abs, PySem.W.mg_none_of X G z_all, PySem.W.mg_none_of X G z_any, PySem.W.mg_none_of X G z_bool, PySem.W.mg_none_of X G z_enumerate, PySem.W.mg_none_of X G z_int, PySem.W.mg_none_of X G z_isinstance, PySem.W.mg_none_of X G z_len, PySem.W.mg_none_of X G z_list, PySem.W.mg_none_of X G z_max, PySem.W.mg_none_of X G z_min, PySem.W.mg_none_of X G z_range, PySem.W.mg_none_of X G z_repr, PySem.W.mg_none_of X G z_sorted, PySem.W.mg_none_of X G z_tuple, ⟨_, _, PySem.W.mg_of X G w_LEAST_PLACES, r_LEAST_PLACES, fun _ _ => .int _ _⟩, ⟨_, _, PySem.W.mg_of X G w_MOST_BLOCK, r_MOST_BLOCK, fun _ _ => .int _ _⟩, ⟨_, _, PySem.W.mg_of X G w_MOST_PLACES, r_MOST_PLACES, fun _ _ => .int _ _⟩, ⟨_, _, PySem.W.mg_of X G w_MOST_ROWS, r_MOST_ROWS, fun _ _ => .int _ _⟩⟩
  have F_l_dip := funD_mk (st := s_l_dip) (dvs := []) l_l_dip c_l_dip k_l_dip (dfl_none d_l_dip)
  have F_l_lift := funD_mk (st := s_l_lift) (dvs := []) l_l_lift c_l_lift k_l_lift (dfl_none d_l_lift)
  have F_l_perm := funD_mk (st := s_l_perm) (dvs := []) l_l_perm c_l_perm k_l_perm (dfl_none d_l_perm)
  have F_l_moves := funD_mk (st := s_l_moves) (dvs := []) l_l_moves c_l_moves k_l_moves (dfl_none d_l_moves)
  have F_l_hit := funD_mk (st := s_l_hit) (dvs := []) l_l_hit c_l_hit k_l_hit (dfl_none d_l_hit)
  have F_l_step := funD_mk (st := s_l_step) (dvs := []) l_l_step c_l_step k_l_step (dfl_none d_l_step)
  have F_p_check_outcomes := funD_mk (st := s_p_check_outcomes) (dvs := []) l_p_check_outcomes c_p_check_outcomes k_p_check_outcomes (dfl_none d_p_check_outcomes)
  have F_p_is_integer := funD_mk (st := s_p_is_integer) (dvs := [.non, .non]) l_p_is_integer c_p_is_integer k_p_is_integer (by rw [d_p_is_integer]; exact dfl_some (by simp) tl_p_is_integer tv_p_is_integer)
  have F_p_is_permutation_of := funD_mk (st := s_p_is_permutation_of) (dvs := []) l_p_is_permutation_of c_p_is_permutation_of k_p_is_permutation_of (dfl_none d_p_is_permutation_of)
  have F_p_check_rule := funD_mk (st := s_p_check_rule) (dvs := []) l_p_check_rule c_p_check_rule k_p_check_rule (dfl_none d_p_check_rule)
  have F_p_is_block := funD_mk (st := s_p_is_block) (dvs := []) l_p_is_block c_p_is_block k_p_is_block (dfl_none d_p_is_block)
  have F_p_check_stream := funD_mk (st := s_p_check_stream) (dvs := []) l_p_check_stream c_p_check_stream k_p_check_stream (dfl_none d_p_check_stream)
  have F_p_check_record := funD_mk (st := s_p_check_record) (dvs := []) l_p_check_record c_p_check_record k_p_check_record (dfl_none d_p_check_record)
  have F_p_moved := funD_mk (st := s_p_moved) (dvs := []) l_p_moved c_p_moved k_p_moved (dfl_none d_p_moved)
  have F_p_fits_behind := funD_mk (st := s_p_fits_behind) (dvs := []) l_p_fits_behind c_p_fits_behind k_p_fits_behind (dfl_none d_p_fits_behind)
  have F_p_pairs_behind := funD_mk (st := s_p_pairs_behind) (dvs := []) l_p_pairs_behind c_p_pairs_behind k_p_pairs_behind (dfl_none d_p_pairs_behind)
  have F_p_with_none := funD_mk (st := s_p_with_none) (dvs := []) l_p_with_none c_p_with_none k_p_with_none (dfl_none d_p_with_none)
  have F_p_first_rows := funD_mk (st := s_p_first_rows) (dvs := []) l_p_first_rows c_p_first_rows k_p_first_rows (dfl_none d_p_first_rows)
  have F_p_is_possible := funD_mk (st := s_p_is_possible) (dvs := []) l_p_is_possible c_p_is_possible k_p_is_possible (dfl_none d_p_is_possible)
  have F_p_next_one := funD_mk (st := s_p_next_one) (dvs := []) l_p_next_one c_p_next_one k_p_next_one (dfl_none d_p_next_one)
  have F_p_rows_left := funD_mk (st := s_p_rows_left) (dvs := []) l_p_rows_left c_p_rows_left k_p_rows_left (dfl_none d_p_rows_left)
  have F_l_long_right := funD_mk (st := s_l_long_right) (dvs := []) l_l_long_right c_l_long_right k_l_long_right (dfl_none d_l_long_right)
  have F_l_fills := funD_mk (st := s_l_fills) (dvs := []) l_l_fills c_l_fills k_l_fills (dfl_none d_l_fills)
  have F_l_grown_right := funD_mk (st := s_l_grown_right) (dvs := []) l_l_grown_right c_l_grown_right k_l_grown_right (dfl_none d_l_grown_right)
  have F_l_right := funD_mk (st := s_l_right) (dvs := []) l_l_right c_l_right k_l_right (dfl_none d_l_right)
  have F_l_well := funD_mk (st := s_l_well) (dvs := []) l_l_well c_l_well k_l_well (dfl_none d_l_well)
  have F_p_law := funD_mk (st := s_p_law) (dvs := []) l_p_law c_p_law k_p_law (dfl_none rfl)
  have Bbl_dip_2 := bl_dip_2 F_l_dip
  have Bbl_fills_2 := bl_fills_2 F_l_fills
  have Bbl_grown_right_4 := bl_grown_right_4 F_l_grown_right
  have Bbl_hit_3 := bl_hit_3 F_l_hit
  have Bbl_lift_3 := bl_lift_3 F_l_lift
  have Bbl_long_right_1 := bl_long_right_1 F_l_long_right
  have Bbl_moves_2 := bl_moves_2 F_l_moves
  have Bbl_perm_2 := bl_perm_2 F_l_perm
  have Bbl_right_2 := bl_right_2 F_l_right
  have Bbl_step_3 := bl_step_3 F_l_step
  have Bbl_well_2 := bl_well_2 F_l_well
  have Bbp_check_outcomes_2 := bp_check_outcomes_2 F_p_check_outcomes
  have Bbp_check_record_3 := bp_check_record_3 F_p_check_record
  have Bbp_check_rule_1 := bp_check_rule_1 F_p_check_rule
  have Bbp_check_stream_1 := bp_check_stream_1 F_p_check_stream
  have Bbp_first_rows_3 := bp_first_rows_3 F_p_first_rows
  have Bbp_fits_behind_5 := bp_fits_behind_5 F_p_fits_behind
  have Bbp_is_block_1 := bp_is_block_1 F_p_is_block
  obtain ⟨dsbp_is_integer_1, Vbp_is_integer_1, Bbp_is_integer_1⟩ := bp_is_integer_1 F_p_is_integer
  obtain ⟨dsbp_is_integer_3, Vbp_is_integer_3, Bbp_is_integer_3⟩ := bp_is_integer_3 F_p_is_integer
  have Bbp_is_permutation_of_2 := bp_is_permutation_of_2 F_p_is_permutation_of
  have Bbp_is_possible_3 := bp_is_possible_3 F_p_is_possible
  have Bbp_moved_2 := bp_moved_2 F_p_moved
  have Bbp_next_one_4 := bp_next_one_4 F_p_next_one
  have Bbp_pairs_behind_3 := bp_pairs_behind_3 F_p_pairs_behind
  have Bbp_rows_left_3 := bp_rows_left_3 F_p_rows_left
  have Bbp_with_none_1 := bp_with_none_1 F_p_with_none
  refine ⟨(fun _ => 0), PySem.W.fnOf "law" "law" (defArgs s_p_law) (defBody s_p_law) (defScope s_p_law) .none kV_p_law dc_p_law pm_p_law an_p_law cd_p_law ct_p_law, fun s v => .of_eq rfl, fun base _ _ => ?_⟩
  have G_l_dip : Fn l.prog w K mg base (fun _ => 0) 1 _ _ ["_law_well_here", "_law_many"] m_l_dip := fn_l_dip T F_l_dip 
  have G_l_lift : Fn l.prog w K mg base (fun _ => 0) 1 _ _ ["_law_size", "_law_spot", "_law_goal_spot"] m_l_lift := fn_l_lift T F_l_lift 
  have G_l_perm : Fn l.prog w K mg base (fun _ => 0) 2 _ _ ["_law_well_here", "_law_size"] m_l_perm := fn_l_perm T F_l_perm G_l_dip (PySem.W.mg_of X G a_l_dip) k_l_dip Bbl_dip_2 .nil
  have G_l_moves : Fn l.prog w K mg base (fun _ => 0) 3 _ _ ["_law_well_here", "_law_size"] m_l_moves := fn_l_moves T F_l_moves G_l_dip (PySem.W.mg_of X G a_l_dip) k_l_dip G_l_lift (PySem.W.mg_of X G a_l_lift) k_l_lift G_l_perm (PySem.W.mg_of X G a_l_perm) k_l_perm Bbl_dip_2 .nil Bbl_lift_3 .nil Bbl_perm_2 .nil
  have G_l_hit : Fn l.prog w K mg base (fun _ => 0) 1 _ _ ["_law_moves_here", "_law_line", "_law_spot"] m_l_hit := fn_l_hit T F_l_hit 
  have G_l_step : Fn l.prog w K mg base (fun _ => 0) 2 _ _ ["_law_moves_here", "_law_line", "_law_thing"] m_l_step := fn_l_step T F_l_step G_l_hit (PySem.W.mg_of X G a_l_hit) k_l_hit Bbl_hit_3 .nil
  have G_p_check_outcomes : Fn l.prog w K mg base (fun _ => 0) 1 _ _ ["stream", "value"] m_p_check_outcomes := fn_p_check_outcomes T F_p_check_outcomes 
  have G_p_is_integer : Fn l.prog w K mg base (fun _ => 0) 1 _ _ ["value", "least", "most"] m_p_is_integer := fn_p_is_integer T F_p_is_integer 
  have G_p_is_permutation_of : Fn l.prog w K mg base (fun _ => 0) 2 _ _ ["value", "size"] m_p_is_permutation_of := fn_p_is_permutation_of T F_p_is_permutation_of G_p_is_integer (PySem.W.mg_of X G a_p_is_integer) k_p_is_integer Bbp_is_integer_1 Vbp_is_integer_1
  have G_p_check_rule : Fn l.prog w K mg base (fun _ => 0) 3 _ _ ["value"] m_p_check_rule := fn_p_check_rule T F_p_check_rule G_p_is_permutation_of (PySem.W.mg_of X G a_p_is_permutation_of) k_p_is_permutation_of Bbp_is_permutation_of_2 .nil
  have G_p_is_block : Fn l.prog w K mg base (fun _ => 0) 2 _ _ ["value"] m_p_is_block := fn_p_is_block T F_p_is_block G_p_is_integer (PySem.W.mg_of X G a_p_is_integer) k_p_is_integer Bbp_is_integer_3 Vbp_is_integer_3
  have G_p_check_stream : Fn l.prog w K mg base (fun _ => 0) 3 _ _ ["value"] m_p_check_stream := fn_p_check_stream T F_p_check_stream G_p_is_block (PySem.W.mg_of X G a_p_is_block) k_p_is_block Bbp_is_block_1 .nil
  have G_p_check_record : Fn l.prog w K mg base (fun _ => 0) 4 _ _ ["rule", "stream", "outcomes"] m_p_check_record := fn_p_check_record T F_p_check_record G_p_check_outcomes (PySem.W.mg_of X G a_p_check_outcomes) k_p_check_outcomes G_p_check_rule (PySem.W.mg_of X G a_p_check_rule) k_p_check_rule G_p_check_stream (PySem.W.mg_of X G a_p_check_stream) k_p_check_stream Bbp_check_outcomes_2 .nil Bbp_check_rule_1 .nil Bbp_check_stream_1 .nil
  have G_p_moved : Fn l.prog w K mg base (fun _ => 0) 1 _ _ ["permutation", "row"] m_p_moved := fn_p_moved T F_p_moved 
  have G_p_fits_behind : Fn l.prog w K mg base (fun _ => 0) 2 _ _ ["rule", "pairs", "block", "is_new", "outcome"] m_p_fits_behind := fn_p_fits_behind T F_p_fits_behind G_p_moved (PySem.W.mg_of X G a_p_moved) k_p_moved Bbp_moved_2 .nil
  have G_p_pairs_behind : Fn l.prog w K mg base (fun _ => 0) 3 _ _ ["rule", "stream", "outcomes"] m_p_pairs_behind := fn_p_pairs_behind T F_p_pairs_behind G_p_fits_behind (PySem.W.mg_of X G a_p_fits_behind) k_p_fits_behind Bbp_fits_behind_5 .nil
  have G_p_with_none : Fn l.prog w K mg base (fun _ => 0) 1 _ _ ["rows"] m_p_with_none := fn_p_with_none T F_p_with_none 
  have G_p_first_rows : Fn l.prog w K mg base (fun _ => 0) 5 _ _ ["rule", "stream", "outcomes"] m_p_first_rows := fn_p_first_rows T F_p_first_rows G_p_check_record (PySem.W.mg_of X G a_p_check_record) k_p_check_record G_p_pairs_behind (PySem.W.mg_of X G a_p_pairs_behind) k_p_pairs_behind G_p_with_none (PySem.W.mg_of X G a_p_with_none) k_p_with_none Bbp_check_record_3 .nil Bbp_pairs_behind_3 .nil Bbp_with_none_1 .nil
  have G_p_is_possible : Fn l.prog w K mg base (fun _ => 0) 5 _ _ ["rule", "stream", "outcomes"] m_p_is_possible := fn_p_is_possible T F_p_is_possible G_p_check_record (PySem.W.mg_of X G a_p_check_record) k_p_check_record G_p_pairs_behind (PySem.W.mg_of X G a_p_pairs_behind) k_p_pairs_behind Bbp_check_record_3 .nil Bbp_pairs_behind_3 .nil
  have G_p_next_one : Fn l.prog w K mg base (fun _ => 0) 5 _ _ ["rule", "stream", "outcomes", "block"] m_p_next_one := fn_p_next_one T F_p_next_one G_p_check_record (PySem.W.mg_of X G a_p_check_record) k_p_check_record G_p_is_block (PySem.W.mg_of X G a_p_is_block) k_p_is_block G_p_pairs_behind (PySem.W.mg_of X G a_p_pairs_behind) k_p_pairs_behind Bbp_check_record_3 .nil Bbp_is_block_1 .nil Bbp_pairs_behind_3 .nil
  have G_p_rows_left : Fn l.prog w K mg base (fun _ => 0) 5 _ _ ["rule", "stream", "outcomes"] m_p_rows_left := fn_p_rows_left T F_p_rows_left G_p_check_record (PySem.W.mg_of X G a_p_check_record) k_p_check_record G_p_pairs_behind (PySem.W.mg_of X G a_p_pairs_behind) k_p_pairs_behind G_p_with_none (PySem.W.mg_of X G a_p_with_none) k_p_with_none Bbp_check_record_3 .nil Bbp_pairs_behind_3 .nil Bbp_with_none_1 .nil
  have G_l_long_right : Fn l.prog w K mg base (fun _ => 0) 6 _ _ ["_law_well_here"] m_l_long_right := fn_l_long_right T F_l_long_right G_l_dip (PySem.W.mg_of X G a_l_dip) k_l_dip G_l_moves (PySem.W.mg_of X G a_l_moves) k_l_moves G_l_step (PySem.W.mg_of X G a_l_step) k_l_step G_p_first_rows (PySem.W.mg_of X G a_p_first_rows) k_p_first_rows G_p_is_possible (PySem.W.mg_of X G a_p_is_possible) k_p_is_possible G_p_next_one (PySem.W.mg_of X G a_p_next_one) k_p_next_one G_p_rows_left (PySem.W.mg_of X G a_p_rows_left) k_p_rows_left Bbl_dip_2 .nil Bbl_moves_2 .nil Bbl_step_3 .nil Bbp_first_rows_3 .nil Bbp_is_possible_3 .nil Bbp_next_one_4 .nil Bbp_rows_left_3 .nil
  have G_l_fills : Fn l.prog w K mg base (fun _ => 0) 1 _ _ ["_law_line", "_law_early"] m_l_fills := fn_l_fills T F_l_fills 
  have G_l_grown_right : Fn l.prog w K mg base (fun _ => 0) 6 _ _ ["_law_moves_here", "_law_things", "_law_outs", "_law_thing"] m_l_grown_right := fn_l_grown_right T F_l_grown_right G_l_fills (PySem.W.mg_of X G a_l_fills) k_l_fills G_p_first_rows (PySem.W.mg_of X G a_p_first_rows) k_p_first_rows G_p_is_possible (PySem.W.mg_of X G a_p_is_possible) k_p_is_possible G_p_next_one (PySem.W.mg_of X G a_p_next_one) k_p_next_one Bbl_fills_2 .nil Bbp_first_rows_3 .nil Bbp_is_possible_3 .nil Bbp_next_one_4 .nil
  have G_l_right : Fn l.prog w K mg base (fun _ => 0) 7 _ _ ["_law_well_here", "_law_size"] m_l_right := fn_l_right T F_l_right G_l_dip (PySem.W.mg_of X G a_l_dip) k_l_dip G_l_grown_right (PySem.W.mg_of X G a_l_grown_right) k_l_grown_right G_l_moves (PySem.W.mg_of X G a_l_moves) k_l_moves G_l_perm (PySem.W.mg_of X G a_l_perm) k_l_perm G_l_step (PySem.W.mg_of X G a_l_step) k_l_step G_p_first_rows (PySem.W.mg_of X G a_p_first_rows) k_p_first_rows G_p_is_possible (PySem.W.mg_of X G a_p_is_possible) k_p_is_possible G_p_next_one (PySem.W.mg_of X G a_p_next_one) k_p_next_one G_p_rows_left (PySem.W.mg_of X G a_p_rows_left) k_p_rows_left Bbl_dip_2 .nil Bbl_grown_right_4 .nil Bbl_moves_2 .nil Bbl_perm_2 .nil Bbl_step_3 .nil Bbp_first_rows_3 .nil Bbp_is_possible_3 .nil Bbp_next_one_4 .nil Bbp_rows_left_3 .nil
  have G_l_well : Fn l.prog w K mg base (fun _ => 0) 1 _ _ ["_law_script", "_law_k"] m_l_well := fn_l_well T F_l_well 
  have G_p_law : Fn l.prog w K mg base (fun _ => 0) 8 _ _ ["_law_script"] m_p_law := fn_p_law T F_p_law G_l_dip (PySem.W.mg_of X G a_l_dip) k_l_dip G_l_long_right (PySem.W.mg_of X G a_l_long_right) k_l_long_right G_l_right (PySem.W.mg_of X G a_l_right) k_l_right G_l_well (PySem.W.mg_of X G a_l_well) k_l_well Bbl_dip_2 .nil Bbl_long_right_1 .nil Bbl_right_2 .nil Bbl_well_2 .nil
  exact G_p_law
end Lw
open PySem PySem.W PyProof.Rows
set_option maxRecDepth 100000 in
set_option maxHeartbeats 0 in
theorem PySem.Challenge.cw_goesnext_k51_records_grow_holds : PySem.Challenge.rw_goesnext_k51_records_grow.Holds := by
  w_on; o_law; k_head; (case hw => w_witness2)
  k_fill
  refine Vs.walk_of (l := PySem.Challenge.rw_goesnext_k51_records_grow) (n := 63) (k := 8) (x := "_law_script") (m := Lw.m_p_law) rfl (by decide) rfl ⟨rfl, by decide, by decide⟩ (fun w h Y => PySem.W.kIn_of Y) ?F Lw.law_true
  case F =>
    intro w mg fa h KX G hmg
    refine' Lw.all_mk KX G hmg ?a_l_dip ?l_l_dip ?c_l_dip ?k_l_dip ?d_l_dip ?a_l_lift ?l_l_lift ?c_l_lift ?k_l_lift ?d_l_lift ?a_l_perm ?l_l_perm ?c_l_perm ?k_l_perm ?d_l_perm ?a_l_moves ?l_l_moves ?c_l_moves ?k_l_moves ?d_l_moves ?a_l_hit ?l_l_hit ?c_l_hit ?k_l_hit ?d_l_hit ?a_l_step ?l_l_step ?c_l_step ?k_l_step ?d_l_step ?a_p_check_outcomes ?l_p_check_outcomes ?c_p_check_outcomes ?k_p_check_outcomes ?d_p_check_outcomes ?a_p_is_integer ?l_p_is_integer ?c_p_is_integer ?k_p_is_integer ?d_p_is_integer ?tl_p_is_integer ?tv_p_is_integer ?a_p_is_permutation_of ?l_p_is_permutation_of ?c_p_is_permutation_of ?k_p_is_permutation_of ?d_p_is_permutation_of ?a_p_check_rule ?l_p_check_rule ?c_p_check_rule ?k_p_check_rule ?d_p_check_rule ?a_p_is_block ?l_p_is_block ?c_p_is_block ?k_p_is_block ?d_p_is_block ?a_p_check_stream ?l_p_check_stream ?c_p_check_stream ?k_p_check_stream ?d_p_check_stream ?a_p_check_record ?l_p_check_record ?c_p_check_record ?k_p_check_record ?d_p_check_record ?a_p_moved ?l_p_moved ?c_p_moved ?k_p_moved ?d_p_moved ?a_p_fits_behind ?l_p_fits_behind ?c_p_fits_behind ?k_p_fits_behind ?d_p_fits_behind ?a_p_pairs_behind ?l_p_pairs_behind ?c_p_pairs_behind ?k_p_pairs_behind ?d_p_pairs_behind ?a_p_with_none ?l_p_with_none ?c_p_with_none ?k_p_with_none ?d_p_with_none ?a_p_first_rows ?l_p_first_rows ?c_p_first_rows ?k_p_first_rows ?d_p_first_rows ?a_p_is_possible ?l_p_is_possible ?c_p_is_possible ?k_p_is_possible ?d_p_is_possible ?a_p_next_one ?l_p_next_one ?c_p_next_one ?k_p_next_one ?d_p_next_one ?a_p_rows_left ?l_p_rows_left ?c_p_rows_left ?k_p_rows_left ?d_p_rows_left ?a_l_long_right ?l_l_long_right ?c_l_long_right ?k_l_long_right ?d_l_long_right ?a_l_fills ?l_l_fills ?c_l_fills ?k_l_fills ?d_l_fills ?a_l_grown_right ?l_l_grown_right ?c_l_grown_right ?k_l_grown_right ?d_l_grown_right ?a_l_right ?l_l_right ?c_l_right ?k_l_right ?d_l_right ?a_l_well ?l_l_well ?c_l_well ?k_l_well ?d_l_well ?a_p_law ?l_p_law ?c_p_law ?k_p_law ?d_p_law ?z_abs ?z_all ?z_any ?z_bool ?z_enumerate ?z_int ?z_isinstance ?z_len ?z_list ?z_max ?z_min ?z_range ?z_repr ?z_sorted ?z_tuple ?w_LEAST_PLACES ?r_LEAST_PLACES ?w_MOST_BLOCK ?r_MOST_BLOCK ?w_MOST_PLACES ?r_MOST_PLACES ?w_MOST_ROWS ?r_MOST_ROWS
    (case a_l_dip => k_is)
    (case l_l_dip => k_is)
    (case c_l_dip => k_is)
    (case k_l_dip => k_is)
    (case d_l_dip => rfl)
    (case a_l_lift => k_is)
    (case l_l_lift => k_is)
    (case c_l_lift => k_is)
    (case k_l_lift => k_is)
    (case d_l_lift => rfl)
    (case a_l_perm => k_is)
    (case l_l_perm => k_is)
    (case c_l_perm => k_is)
    (case k_l_perm => k_is)
    (case d_l_perm => rfl)
    (case a_l_moves => k_is)
    (case l_l_moves => k_is)
    (case c_l_moves => k_is)
    (case k_l_moves => k_is)
    (case d_l_moves => rfl)
    (case a_l_hit => k_is)
    (case l_l_hit => k_is)
    (case c_l_hit => k_is)
    (case k_l_hit => k_is)
    (case d_l_hit => rfl)
    (case a_l_step => k_is)
    (case l_l_step => k_is)
    (case c_l_step => k_is)
    (case k_l_step => k_is)
    (case d_l_step => rfl)
    (case a_p_check_outcomes => k_is)
    (case l_p_check_outcomes => k_is)
    (case c_p_check_outcomes => k_is)
    (case k_p_check_outcomes => k_is)
    (case d_p_check_outcomes => rfl)
    (case a_p_is_integer => k_is)
    (case l_p_is_integer => k_is)
    (case c_p_is_integer => k_is)
    (case k_p_is_integer => k_is)
    (case d_p_is_integer => rfl)
    (case tl_p_is_integer => k_is)
    (case tv_p_is_integer => exact .cons (by first | exact rfl | exact ⟨_, rfl⟩) (.cons (by first | exact rfl | exact ⟨_, rfl⟩) (.nil)))
    (case a_p_is_permutation_of => k_is)
    (case l_p_is_permutation_of => k_is)
    (case c_p_is_permutation_of => k_is)
    (case k_p_is_permutation_of => k_is)
    (case d_p_is_permutation_of => rfl)
    (case a_p_check_rule => k_is)
    (case l_p_check_rule => k_is)
    (case c_p_check_rule => k_is)
    (case k_p_check_rule => k_is)
    (case d_p_check_rule => rfl)
    (case a_p_is_block => k_is)
    (case l_p_is_block => k_is)
    (case c_p_is_block => k_is)
    (case k_p_is_block => k_is)
    (case d_p_is_block => rfl)
    (case a_p_check_stream => k_is)
    (case l_p_check_stream => k_is)
    (case c_p_check_stream => k_is)
    (case k_p_check_stream => k_is)
    (case d_p_check_stream => rfl)
    (case a_p_check_record => k_is)
    (case l_p_check_record => k_is)
    (case c_p_check_record => k_is)
    (case k_p_check_record => k_is)
    (case d_p_check_record => rfl)
    (case a_p_moved => k_is)
    (case l_p_moved => k_is)
    (case c_p_moved => k_is)
    (case k_p_moved => k_is)
    (case d_p_moved => rfl)
    (case a_p_fits_behind => k_is)
    (case l_p_fits_behind => k_is)
    (case c_p_fits_behind => k_is)
    (case k_p_fits_behind => k_is)
    (case d_p_fits_behind => rfl)
    (case a_p_pairs_behind => k_is)
    (case l_p_pairs_behind => k_is)
    (case c_p_pairs_behind => k_is)
    (case k_p_pairs_behind => k_is)
    (case d_p_pairs_behind => rfl)
    (case a_p_with_none => k_is)
    (case l_p_with_none => k_is)
    (case c_p_with_none => k_is)
    (case k_p_with_none => k_is)
    (case d_p_with_none => rfl)
    (case a_p_first_rows => k_is)
    (case l_p_first_rows => k_is)
    (case c_p_first_rows => k_is)
    (case k_p_first_rows => k_is)
    (case d_p_first_rows => rfl)
    (case a_p_is_possible => k_is)
    (case l_p_is_possible => k_is)
    (case c_p_is_possible => k_is)
    (case k_p_is_possible => k_is)
    (case d_p_is_possible => rfl)
    (case a_p_next_one => k_is)
    (case l_p_next_one => k_is)
    (case c_p_next_one => k_is)
    (case k_p_next_one => k_is)
    (case d_p_next_one => rfl)
    (case a_p_rows_left => k_is)
    (case l_p_rows_left => k_is)
    (case c_p_rows_left => k_is)
    (case k_p_rows_left => k_is)
    (case d_p_rows_left => rfl)
    (case a_l_long_right => k_is)
    (case l_l_long_right => k_is)
    (case c_l_long_right => k_is)
    (case k_l_long_right => k_is)
    (case d_l_long_right => rfl)
    (case a_l_fills => k_is)
    (case l_l_fills => k_is)
    (case c_l_fills => k_is)
    (case k_l_fills => k_is)
    (case d_l_fills => rfl)
    (case a_l_grown_right => k_is)
    (case l_l_grown_right => k_is)
    (case c_l_grown_right => k_is)
    (case k_l_grown_right => k_is)
    (case d_l_grown_right => rfl)
    (case a_l_right => k_is)
    (case l_l_right => k_is)
    (case c_l_right => k_is)
    (case k_l_right => k_is)
    (case d_l_right => rfl)
    (case a_l_well => k_is)
    (case l_l_well => k_is)
    (case c_l_well => k_is)
    (case k_l_well => k_is)
    (case d_l_well => rfl)
    (case a_p_law => k_is)
    (case l_p_law => k_is)
    (case c_p_law => k_is)
    (case k_p_law => k_is)
    (case d_p_law => rfl)
    (case z_abs => k_is)
    (case z_all => k_is)
    (case z_any => k_is)
    (case z_bool => k_is)
    (case z_enumerate => k_is)
    (case z_int => k_is)
    (case z_isinstance => k_is)
    (case z_len => k_is)
    (case z_list => k_is)
    (case z_max => k_is)
    (case z_min => k_is)
    (case z_range => k_is)
    (case z_repr => k_is)
    (case z_sorted => k_is)
    (case z_tuple => k_is)
    (case w_LEAST_PLACES => k_is)
    (case r_LEAST_PLACES => exact (by first | exact rfl | exact ⟨_, rfl⟩))
    (case w_MOST_BLOCK => k_is)
    (case r_MOST_BLOCK => exact (by first | exact rfl | exact ⟨_, rfl⟩))
    (case w_MOST_PLACES => k_is)
    (case r_MOST_PLACES => exact (by first | exact rfl | exact ⟨_, rfl⟩))
    (case w_MOST_ROWS => k_is)
    (case r_MOST_ROWS => exact (by first | exact rfl | exact ⟨_, rfl⟩))
