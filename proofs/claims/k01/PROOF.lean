import PyProof.Rows.All
import Wide.All
import OpenK.AllK
import Wide.FinOn
import KE.KStateDown
import Lean
import HandS.Base
import HandS.Call
import HandS.Ends
import HandS.More
import HandS.Words
import HandS.ForMost
import HandS.Walk
import HandS.TupAny
import HandS.TryOnly
import HandS.Wide
import HandS.WideBits
import HandS.Defaults
import HandS.ExcOwn
import HandS.WordsExc
import HandS.Deep
import HandS.Conv
import HandS.IsInst
import HandS.Style
import HandS.Flow
import KE.KExcSuper
import KE.KSuper
import HandS.ExcField
import HandS.ExcIs
import KE.KExcIs
import HandS.HeadEnd
import KE.KEqNest
import KE.DataEq
import HandS.DictEq
import HandS.Text
import PyProof.ReprRoads
import KE.GoesEnum
import PyProof.LongRange
import HandS.Property
import HandS.MakeKwOnly
import HandS.Small
import HandS.OwnEq
import HandS.DeepEq
import HandS.SetFor
import HandS.Strs
import HandS.ExcValue
import HandS.SortInts
import HandS.Head0
import HandS.Head1
import HandS.Head2
import HandS.HeadHook1
import HandS.HeadHook2
import PySem.Challenge.RW_reissue_k01_errors_made
set_option Elab.async false
set_option linter.all false
set_option maxRecDepth 100000
/-! A small language of own: data, syntax, the reckoning. -/
namespace Mi
open PySem L2

/-! ### data -/
/-- pure data: nothing in it is changed any more; scr: the law's script; obj: a made instance (class, fields in the class's order) -/
inductive P where
  | non | bl (b : Bool) | int (i : Int) | str (x : Str)
  | tup (xs : List P) | lst (xs : List P)
  | dK (kvs : List (Key × P))
  | obj (c : Nat) (fs : List P)
  | scr (ns : List Int)
  deriving Inhabited
/-- a value: pure, a cell of the store, or a tuple that holds cells -/
inductive D where
  | p (x : P) | ref (n : Nat) | tup (xs : List D)
  deriving Inhabited
inductive Cell where
  | dead
  | lst (xs : List D)
  | dK (kvs : List (Key × D))
  | ins (c : Nat) (fs : List (Str × D))
  | xd (f : Str) (v : D)
  | xc (c : Nat) (m : Option Nat)
  deriving Inhabited
abbrev Sto := List Cell
abbrev Env := List (Option D)

/-- an answer: none, a value, an exception (its class, its field) -/
inductive R (α : Type) where
  | stuck
  | ok (a : α) (M : Sto)
  | exc (c : Nat) (v : D) (M : Sto)
def R.bind {α β : Type} (r : R α) (k : α → Sto → R β) : R β := match r with
  | .stuck => .stuck
  | .ok a M => k a M
  | .exc c v M => .exc c v M
@[simp] theorem R.bind_ok {α β : Type} (a : α) (M : Sto) (k : α → Sto → R β) : (R.ok a M).bind k = k a M := rfl
@[simp] theorem R.bind_stuck {α β : Type} (k : α → Sto → R β) : (R.stuck : R α).bind k = .stuck := rfl
@[simp] theorem R.bind_exc {α β : Type} (c : Nat) (v : D) (M : Sto) (k : α → Sto → R β) : (R.exc c v M).bind k = .exc c v M := rfl
theorem R.bind_assoc {α β γ : Type} (r : R α) (f : α → Sto → R β) (k : β → Sto → R γ) : (r.bind f).bind k = r.bind fun x M => (f x M).bind k := by cases r <;> rfl
/-- a statement's answer -/
inductive RS where
  | stuck
  | nx (ρ : Env) (M : Sto)
  | rt (d : D) (M : Sto)
  | bk (ρ : Env) (M : Sto)
  | ct (ρ : Env) (M : Sto)
  | exc (c : Nat) (v : D) (ρ : Env) (M : Sto)

/-! ### syntax -/
inductive BOp | add | addM | sub | mul | fdiv | mod | pow | rep | repM
  deriving DecidableEq
inductive COp | eq | ne | lt | le | gt | ge | isn | isnn | inn | nin
  deriving DecidableEq
/-- built-in functions -/
inductive Bi | len | int | max2 | min2 | maxL | minL | sum | abs | list | listM | tuple | str | repr
  deriving DecidableEq
/-- types asked by isinstance -/
inductive Ty | int | bool | str | list | tuple | dict | own (c : Nat)
  deriving DecidableEq
/-- methods of built-in types -/
inductive Mt | append | pop0 | pop1 | bits | dget1 | dget2 | dpop | popI | clear | insert
  deriving DecidableEq
/-- how a call is made -/
inductive Md | pure | own | mut | full | bor | bow
  deriving DecidableEq
/-- what is walked -/
inductive It | seq | seqM | rng1 | rng2 | rngL | enum | enumT | str
  deriving DecidableEq
inductive Tg | one (i : Nat) | many (is : List Nat)
  deriving DecidableEq

inductive ME where
  | c (x : P)
  | v (i : Nat)
  | g (x : Str) (a : P)
  | bin (op : BOp) (a b : ME)
  | neg (a : ME)
  | not (a : ME)
  | and (a b : ME)
  | or (a b : ME)
  | cmp (op : COp) (a b : ME)
  | chain (o1 o2 : COp) (a b c : ME)
  | ite (t a b : ME)
  | tup (es : List ME)
  | lst (m : Bool) (es : List ME)
  | dnew
  | ix (a i : ME)
  | sl (a : ME) (lo hi : Option ME)
  | rev (a : ME)
  | fld (a : ME) (f : Str)
  | isi (a : ME) (t : Ty)
  | call (f : Nat) (m : Md) (es : List ME) (dfl : List P)
  | meth (c : Nat) (nm : Str) (f : Nat) (m : Md) (a : ME) (es : List ME) (dfl : List P)
  | make (c : Nat) (f : Nat) (m : Md) (es : List ME) (dfl : List P)
  | bi (b : Bi) (es : List ME)
  | mt (b : Mt) (a : ME) (es : List ME)
  | lrng1 (m : Bool) (a : ME)
  | lrng2 (m : Bool) (a b : ME)
  | comp (m : Bool) (t : Tg) (k : It) (es : List ME) (cond : Option ME) (e : ME)
  | prop (c : Nat) (nm : Str) (f : Nat) (a : ME)
  | ocmp (op : COp) (fs : List (Nat × Nat)) (a b : ME)
  | slm (a : ME) (lo hi : Option ME)
  | sset (a : ME)
  | dct0
  | dsp (es : List ME)
  | frz (a : ME)
  | isb (k : Bool) (f : Nat) (es : List ME) (dfl : List P)
  | isS (a : ME)
  | revM (a : ME)
  | srtI (a : ME)
  | xmk (c : Nat) (kw : Bool) (es : List ME)
  | isVE (a : ME)
  | makeK (c : Nat) (f : Nat) (m : Md) (es kes : List ME) (src : List (Sum P Nat))
  deriving Inhabited
inductive MS where
  | ex (e : ME)
  | asg (t : Tg) (e : ME)
  | par (is : List Nat) (es : List ME)
  | sub (o i e : ME)
  | qs (x : Nat) (o i a b : ME)
  | qs2 (o i u j a b : ME)
  | setf (o : ME) (f : Str) (e : ME)
  | aug (i : Nat) (e : ME)
  | ifs (t : ME) (a b : List MS)
  | for_ (t : Tg) (k : It) (es : List ME) (b : List MS)
  | whl (t : ME) (b : List MS)
  | ret (e : Option ME)
  | pass | brk | cont
  | fz (i : Nat)
  | fzf (i : Nat) (f : Str)
  | rais (c : Nat) (e : ME)
  | rais0 (c : Nat)
  | augf (o : ME) (f : Str) (e : ME)
  | tryx (b : List MS) (k n x : Nat)
  | never
  deriving Inhabited

/-! ### reading data -/
def toP : D → Option P
  | .p x => some x
  | _ => none
@[simp] theorem toP_p (x : P) : toP (.p x) = some x := rfl
def toPs : List D → Option (List P)
  | [] => some []
  | .p x :: r => (toPs r).map (x :: ·)
  | _ :: _ => none
@[simp] theorem toPs_map (xs : List P) : toPs (xs.map D.p) = some xs := by
  induction xs with
  | nil => rfl
  | cons x r ih => simp [toPs, ih]
theorem toPs_eq : ∀ {ds : List D} {xs : List P}, toPs ds = some xs → ds = xs.map D.p
  | [], _, h => by cases h; rfl
  | .p x :: r, xs, h => by
    simp only [toPs, Option.map_eq_some_iff] at h
    obtain ⟨ys, e, rfl⟩ := h
    rw [toPs_eq e]; rfl
  | .ref _ :: _, _, h => by cases h
  | .tup _ :: _, _, h => by cases h
/-- all or none -/
def mapO {α β : Type} (f : α → Option β) : List α → Option (List β)
  | [] => some []
  | x :: r => match f x with
    | none => none
    | some y => (mapO f r).map (y :: ·)
/-- a value as pure data; cells below lo are not read -/
def rd (cf : Nat → List Str) (lo : Nat) (M : Sto) : Nat → D → Option P
  | 0, d => toP d
  | k + 1, d => match d with
    | .p x => some x
    | .ref n => if n < lo then none else match M[n]? with
      | some (.lst ds) => (mapO (rd cf lo M k) ds).map P.lst
      | some (.dK kvs) => (mapO (fun q : Key × D => (rd cf lo M k q.2).map fun x => (q.1, x)) kvs).map P.dK
      | some (.ins c fs) => if fs.map (·.1) = cf c then (mapO (fun q : Str × D => rd cf lo M k q.2) fs).map fun xs => P.obj c xs else none
      | _ => none
    | .tup ds => (mapO (rd cf lo M k) ds).map P.tup
@[simp] theorem rd_p (cf : Nat → List Str) (lo : Nat) (M : Sto) (k : Nat) (x : P) : rd cf lo M k (.p x) = some x := by cases k <;> rfl
/-- a value as pure data; no cell is left out, instances are not read -/
def rdb (M : Sto) : Nat → D → Option P
  | 0, d => toP d
  | k + 1, d => match d with
    | .p x => some x
    | .ref n => match M[n]? with
      | some (.lst ds) => (mapO (rdb M k) ds).map P.lst
      | some (.dK kvs) => (mapO (fun q : Key × D => (rdb M k q.2).map fun x => (q.1, x)) kvs).map P.dK
      | _ => none
    | .tup ds => (mapO (rdb M k) ds).map P.tup
@[simp] theorem rdb_p (M : Sto) (k : Nat) (x : P) : rdb M k (.p x) = some x := by cases k <;> rfl
/-- nothing but pure data in it -/
def Cell.flat : Cell → Bool
  | .dead => false
  | .lst ds => (toPs ds).isSome
  | .dK kvs => (toPs (kvs.map (·.2))).isSome
  | .ins _ fs => (toPs (fs.map (·.2))).isSome
  | .xd _ _ => false
  | .xc _ _ => false

/-! ### equality of data -/
mutual
def P.eqv : P → P → Bool
  | .non, .non => true
  | .bl a, .bl b => a == b
  | .bl a, .int j => (if a then 1 else 0) == j
  | .int i, .bl b => i == (if b then 1 else 0)
  | .int i, .int j => i == j
  | .str x, .str y => x == y
  | .lst xs, .lst ys => P.eqvs xs ys
  | .tup xs, .tup ys => P.eqvs xs ys
  | _, _ => false
def P.eqvs : List P → List P → Bool
  | [], [] => true
  | x :: xs, y :: ys => P.eqv x y && P.eqvs xs ys
  | _, _ => false
end
mutual
def P.py : P → PyData
  | .non => .none
  | .bl b => .bool b
  | .int i => .int i
  | .str x => .str x
  | .tup xs => .tuple (P.pys xs)
  | .lst xs => .list (P.pys xs)
  | .dK _ => .none
  | .obj _ _ => .none
  | .scr _ => .none
def P.pys : List P → List PyData
  | [] => []
  | x :: r => P.py x :: P.pys r
end
/-- a key's text -/
def keyPy : Key → PyData
  | .inl i => .int i
  | .inr x => .str x
mutual
/-- dicts too -/
def P.pyw : P → PyData
  | .non => .none
  | .bl b => .bool b
  | .int i => .int i
  | .str x => .str x
  | .tup xs => .tuple (P.pyws xs)
  | .lst xs => .list (P.pyws xs)
  | .dK kvs => .dict (P.pywk kvs)
  | .obj _ _ => .none
  | .scr _ => .none
def P.pyws : List P → List PyData
  | [] => []
  | x :: r => P.pyw x :: P.pyws r
def P.pywk : List (Key × P) → List (PyData × PyData)
  | [] => []
  | (k, x) :: r => (keyPy k, P.pyw x) :: P.pywk r
end
/-- no instance, no script within; not deeper than n -/
def P.shw : Nat → P → Bool
  | _, .non => true
  | _, .bl _ => true
  | _, .int _ => true
  | _, .str _ => true
  | n + 1, .tup xs => xs.all (P.shw n)
  | n + 1, .lst xs => xs.all (P.shw n)
  | n + 1, .dK kvs => kvs.all fun q => P.shw n q.2
  | _, _ => false
/-- no dict, no instance, no script within; not deeper than n -/
def P.sh : Nat → P → Bool
  | _, .non => true
  | _, .bl _ => true
  | _, .int _ => true
  | _, .str _ => true
  | n + 1, .tup xs => xs.all (P.sh n)
  | n + 1, .lst xs => xs.all (P.sh n)
  | _, _ => false
def LIM : Nat := 1000000
def SH : Nat := 50
def FU : Nat := 8
def mulOk (i j : Int) : Bool := decide (i.natAbs < 2 ^ 64) || decide (j.natAbs < 2 ^ 64) || decide (i.natAbs < 2 ^ 100000 ∧ j.natAbs < 2 ^ 100000)
def divOk (j : Int) : Bool := decide (0 < j) && decide (j.natAbs < 2 ^ 9000)
def powOk (i j : Int) : Bool := decide (0 ≤ j ∧ (PySem.Builtin.Int.intBits i : Int) * j ≤ 2 ^ 27)
/-- the items of a list -/
def lstD (M : Sto) : D → Option (List D)
  | .p (.lst xs) => some (xs.map D.p)
  | .ref n => match M[n]? with
    | some (.lst ds) => some ds
    | _ => none
  | _ => none
def newL (m : Bool) (ds : List D) (M : Sto) : R D := match m with
  | true => .ok (.ref M.length) (M ++ [.lst ds])
  | false => match toPs ds with
    | some xs => .ok (.p (.lst xs)) M
    | none => .stuck
def catL (m : Bool) (x y : D) (M : Sto) : R D := match lstD M x, lstD M y with
  | some xs, some ys => if xs.length + ys.length ≤ LIM then newL m (xs ++ ys) M else .stuck
  | _, _ => .stuck
def repL (m : Bool) (x y : D) (M : Sto) : R D := match lstD M x, y with
  | some xs, .p (.int k) => if k ≤ 1000000 ∧ -1000000 ≤ k ∧ xs.length * k.toNat ≤ LIM then newL m (List.replicate k.toNat xs).flatten M else .stuck
  | _, _ => .stuck
def binop (op : BOp) (x y : D) (M : Sto) : R D := match op with
  | .add => match x, y with
    | .p (.int i), .p (.int j) => .ok (.p (.int (i + j))) M
    | .p (.tup xs), .p (.tup ys) => if xs.length + ys.length ≤ LIM then .ok (.p (.tup (xs ++ ys))) M else .stuck
    | .p (.str x), .p (.str y) => if x.length + y.length ≤ LIM then .ok (.p (.str (x ++ y))) M else .stuck
    | x, y => catL false x y M
  | .addM => catL true x y M
  | .sub => match x, y with
    | .p (.int i), .p (.int j) => .ok (.p (.int (i - j))) M
    | _, _ => .stuck
  | .mul => match x, y with
    | .p (.int i), .p (.int j) => if mulOk i j = true then .ok (.p (.int (i * j))) M else .stuck
    | _, _ => .stuck
  | .fdiv => match x, y with
    | .p (.int i), .p (.int j) => if divOk j = true then .ok (.p (.int (i / j))) M else .stuck
    | _, _ => .stuck
  | .mod => match x, y with
    | .p (.int i), .p (.int j) => if 0 < j then .ok (.p (.int (i % j))) M else .stuck
    | _, _ => .stuck
  | .pow => match x, y with
    | .p (.int i), .p (.int j) => if powOk i j = true then .ok (.p (.int (i ^ j.toNat))) M else .stuck
    | _, _ => .stuck
  | .rep => repL false x y M
  | .repM => repL true x y M
def keyOf : P → Option Key
  | .int i => some (.inl i)
  | .str x => some (.inr x)
  | _ => none
def look {α : Type} (kvs : List (Key × α)) (k : Key) : Option α := (kvs.find? fun kv => decide (kv.1 = k)).map (·.2)
def put {α : Type} (k : Key) (v : α) (kvs : List (Key × α)) : List (Key × α) :=
  if (kvs.any fun kv => decide (kv.1 = k)) = true then kvs.map (fun kv => if kv.1 = k then (kv.1, v) else kv) else kvs ++ [(k, v)]
def drp {α : Type} (k : Key) (kvs : List (Key × α)) : List (Key × α) := kvs.filter fun kv => decide (kv.1 ≠ k)
def dctD (M : Sto) : D → Option (List (Key × D))
  | .p (.dK kvs) => some (kvs.map fun q => (q.1, D.p q.2))
  | .ref n => match M[n]? with
    | some (.dK kvs) => some kvs
    | _ => none
  | _ => none
/-- two tuples of ints by order -/
def intsOf : List P → Option (List Int)
  | [] => some []
  | .int i :: r => (intsOf r).map (i :: ·)
  | _ :: _ => none
/-- kinds: 0 an atom, 1 a tuple, 2 a list, 3 a dict, 4 what is not looked into -/
def P.kd : P → Nat
  | .non => 0
  | .bl _ => 0
  | .int _ => 0
  | .str _ => 0
  | .tup _ => 1
  | .lst _ => 2
  | .dK _ => 3
  | .obj _ _ => 4
  | .scr _ => 4
/-- pairwise, each known -/
def allB (f : P → P → Option Bool) : List P → List P → Option Bool
  | x :: xs, y :: ys => match f x y, allB f xs ys with
    | some a, some b => some (a && b)
    | _, _ => none
  | _, _ => some true
/-- equality where dicts and instances may stand within, as long as they meet no other of their kind -/
def P.eqo : Nat → P → P → Option Bool
  | 0, a, b => if a.kd = 0 ∧ b.kd = 0 then some (P.eqv a b) else if a.kd ≠ b.kd ∧ a.kd ≠ 4 ∧ b.kd ≠ 4 then some false else none
  | n + 1, a, b => match a, b with
    | .lst xs, .lst ys => if xs.length = ys.length then allB (P.eqo n) xs ys else some false
    | .tup xs, .tup ys => match allB (P.eqo n) xs ys with
      | some e => some (e && decide (xs.length = ys.length))
      | none => none
    | a, b => if a.kd = 0 ∧ b.kd = 0 then some (P.eqv a b) else if a.kd ≠ b.kd ∧ a.kd ≠ 4 ∧ b.kd ≠ 4 then some false else none
/-- two lists, two tuples -/
def P.eqt (a b : P) : Option Bool := match a, b with
  | .lst _, .lst _ => P.eqo SH a b
  | .tup _, .tup _ => P.eqo SH a b
  | _, _ => none
def eqD (cf : Nat → List Str) (x y : D) (M : Sto) : Option Bool := match rd cf 0 M FU x, rd cf 0 M FU y with
  | some a, some b => if P.sh SH a && P.sh SH b then some (P.eqv a b) else P.eqt a b
  | _, _ => none
def inD (cf : Nat → List Str) (x y : D) (M : Sto) : Option Bool := match dctD M y with
  | some kvs => match x with
    | .p a => (keyOf a).map fun k => (look kvs k).isSome
    | _ => none
  | none => match rd cf 0 M FU x, rd cf 0 M FU y with
    | some a, some (.lst ys) => if P.sh SH a && ys.all (P.sh SH) then some (ys.any fun z => P.eqv z a) else none
    | some a, some (.tup ys) => if P.sh SH a && ys.all (P.sh SH) then some (ys.any fun z => P.eqv z a) else none
    | some (.str c), some (.str z) => match c.cps with
      | ⟨[k]⟩ => some (decide (k ∈ z.cps.toList))
      | _ => none
    | _, _ => none
def cmpI (f : Int → Int → Bool) (x y : D) : Option Bool := match x, y with
  | .p (.int i), .p (.int j) => some (f i j)
  | _, _ => none
def isNon : D → Bool
  | .p .non => true
  | _ => false
/-- is True, is False -/
def isBl : D → Bool → Option Bool
  | .p (.bl a), b => some (a == b)
  | _, _ => none
def cmpop (cf : Nat → List Str) (op : COp) (x y : D) (M : Sto) : Option Bool := match op with
  | .eq => eqD cf x y M
  | .ne => (eqD cf x y M).map (!·)
  | .lt => match x, y with
    | .p (.tup xs), .p (.tup ys) => match intsOf xs, intsOf ys with
      | some ns, some ms => some (HT.lexLt ns ms)
      | _, _ => none
    | x, y => cmpI (fun i j => decide (i < j)) x y
  | .le => cmpI (fun i j => decide (i ≤ j)) x y
  | .gt => cmpI (fun i j => decide (j < i)) x y
  | .ge => cmpI (fun i j => decide (j ≤ i)) x y
  | .isn => match y with
    | .p .non => some (isNon x)
    | .p (.bl b) => isBl x b
    | _ => none
  | .isnn => match y with
    | .p .non => some (!isNon x)
    | .p (.bl b) => (isBl x b).map (!·)
    | _ => none
  | .inn => inD cf x y M
  | .nin => (inD cf x y M).map (!·)
def lift (b : Option Bool) (M : Sto) : R D := match b with
  | some b => .ok (.p (.bl b)) M
  | none => .stuck
/-- truth -/
def tru (M : Sto) : D → Option Bool
  | .p .non => some false
  | .p (.bl b) => some b
  | .p (.int i) => some (i != 0)
  | .p (.lst xs) => some (!xs.isEmpty)
  | .p (.tup xs) => some (!xs.isEmpty)
  | .ref n => match M[n]? with
    | some (.lst ds) => some (!ds.isEmpty)
    | _ => none
  | _ => none
def truR (d : D) (M : Sto) : R Bool := match tru M d with
  | some b => .ok b M
  | none => .stuck
def opt (o : Option D) (M : Sto) : R D := match o with
  | some d => .ok d M
  | none => .stuck
/-- a place of a list, a tuple, the script, a dict -/
def ixD (x y : D) (M : Sto) : Option D := match x, y with
  | .p (.tup xs), .p (.int i) => (atI xs i).map D.p
  | .tup ds, .p (.int i) => atI ds i
  | .p (.scr ns), .p (.int i) => (atI ns i).map fun n => .p (.int n)
  | x, .p k => match lstD M x, k with
    | some ds, .int i => atI ds i
    | _, _ => match dctD M x, keyOf k with
      | some kvs, some k => look kvs k
      | _, _ => none
  | _, _ => none
def cut {α : Type} (xs : List α) (lo hi : Option Int) : List α := (xs.drop (HT.sIx xs.length 0 lo)).take (HT.sIx xs.length xs.length hi - HT.sIx xs.length 0 lo)
def slD (x : D) (lo hi : Option Int) (M : Sto) : Option D := match x with
  | .p (.scr ns) => some (.p (.lst ((cut ns lo hi).map P.int)))
  | .p (.tup xs) => some (.p (.tup (cut xs lo hi)))
  | x => match lstD M x with
    | some ds => (toPs (cut ds lo hi)).map fun xs => .p (.lst xs)
    | none => none
/-- a slice as a new cell -/
def slM (x : D) (lo hi : Option Int) (M : Sto) : R D := match lstD M x with
  | some ds => newL true (cut ds lo hi) M
  | none => .stuck
def revD (x : D) (M : Sto) : Option D := match lstD M x with
  | some ds => (toPs ds).map fun xs => .p (.lst xs.reverse)
  | none => none
/-- a list turned round, as a new cell -/
def revM (x : D) (M : Sto) : R D := match lstD M x with
  | some ds => newL true ds.reverse M
  | none => .stuck
/-- an exception of class c is one of class k -/
def xsub (c k : Nat) : Bool := k == 10 || c == k
/-- the kept exception has its dict -/
def xcOk (m : Option Nat) (M : Sto) : Bool := match m with
  | none => true
  | some k => match M[k]? with
    | some (.xd _ _) => true
    | _ => false
def fldOf (cf : Nat → List Str) (x : D) (f : Str) (M : Sto) : Option D := match x with
  | .p (.obj c fs) => (((cf c).zip fs).lookup f).map D.p
  | .ref n => match M[n]? with
    | some (.ins _ fs) => fs.lookup f
    | some (.xc c (some k)) => match M[k]? with
      | some (.xd f' v) => if f' = f ∧ cf c = [f] then some v else none
      | _ => none
    | _ => none
  | _ => none
def isTy (x : D) (t : Ty) (M : Sto) : Option Bool := match x with
  | .p .non => some false
  | .p (.bl _) => some (match t with | .int => true | .bool => true | _ => false)
  | .p (.int _) => some (match t with | .int => true | _ => false)
  | .p (.str _) => some (match t with | .str => true | _ => false)
  | .p (.tup _) => some (match t with | .tuple => true | _ => false)
  | .tup _ => some (match t with | .tuple => true | _ => false)
  | .p (.lst _) => some (match t with | .list => true | _ => false)
  | .p (.dK _) => some (match t with | .dict => true | _ => false)
  | .p (.obj c _) => some (match t with | .own c' => decide (c = c') | _ => false)
  | .p (.scr _) => none
  | .ref n => match M[n]? with
    | some (.lst _) => some (match t with | .list => true | _ => false)
    | some (.dK _) => some (match t with | .dict => true | _ => false)
    | some (.ins c _) => some (match t with | .own c' => decide (c = c') | _ => false)
    | some (.xc c m) => if xcOk m M = true then some (match t with | .own c' => xsub c c' | _ => false) else none
    | _ => none
/-- isinstance(x, ValueError), of an own exception -/
def isVal : D → Sto → Option Bool
  | .ref n, M => match M[n]? with
    | some (.xc _ m) => if xcOk m M = true then some true else none
    | _ => none
  | _, _ => none
/-- an exception of an own class, made -/
def xmkR (cf : Nat → List Str) (c : Nat) (ds : List D) (M : Sto) : R D := match cf c, ds with
  | [f], [v] => .ok (.ref (M.length + 1)) (M ++ [.xd f v] ++ [.xc c (some M.length)])
  | [f], [] => .ok (.ref (M.length + 1)) (M ++ [.xd f (.p .non)] ++ [.xc c (some M.length)])
  | [], [] => .ok (.ref M.length) (M ++ [.xc c none])
  | _, _ => .stuck
/-- isinstance(x, (int, str)), of atoms -/
def isIS : D → Option Bool
  | .p .non => some false
  | .p (.bl _) => some true
  | .p (.int _) => some true
  | .p (.str _) => some true
  | _ => none
def allInts : List D → Option (List Int)
  | [] => some []
  | .p (.int i) :: r => (allInts r).map (i :: ·)
  | _ :: _ => none
@[simp] theorem allInts_map (ns : List Int) : allInts (ns.map fun n => D.p (.int n)) = some ns := by
  induction ns with
  | nil => rfl
  | cons n r ih => simp [allInts, ih]
def maxI : List Int → Int
  | [] => 0
  | [x] => x
  | x :: y :: r => max x (maxI (y :: r))
def minI : List Int → Int
  | [] => 0
  | [x] => x
  | x :: y :: r => min x (minI (y :: r))
/-- the text of data -/
def isD0 : D → Bool
  | .p (.dK []) => true
  | _ => false
def reprD (x : D) (M : Sto) : Option Str := match rd (fun _ => []) 0 M FU x with
  | some a => if P.sh SH a = true ∧ a.py.showable = true ∧ a.py.shown.length ≤ LIM then some a.py.shown else if isD0 x = true then some (PyData.dict []).shown else if P.shw SH a = true ∧ a.pyw.showable = true ∧ a.pyw.shown.length ≤ LIM then some a.pyw.shown else none
  | none => none
def bfn (b : Bi) (ds : List D) (M : Sto) : R D := match b, ds with
  | .len, [x] => match x with
    | .p (.tup xs) => .ok (.p (.int xs.length)) M
    | .tup xs => .ok (.p (.int xs.length)) M
    | .p (.scr ns) => .ok (.p (.int ns.length)) M
    | x => match lstD M x with
      | some ds => .ok (.p (.int ds.length)) M
      | none => match dctD M x with
        | some kvs => .ok (.p (.int kvs.length)) M
        | none => .stuck
  | .int, [.p (.int i)] => .ok (.p (.int i)) M
  | .int, [.p (.bl b)] => .ok (.p (.int (if b then 1 else 0))) M
  | .max2, [.p (.int i), .p (.int j)] => .ok (.p (.int (if j > i then j else i))) M
  | .min2, [.p (.int i), .p (.int j)] => .ok (.p (.int (if j < i then j else i))) M
  | .abs, [.p (.int i)] => .ok (.p (.int (if i < 0 then -i else i))) M
  | .maxL, [x] => match (lstD M x).bind allInts with
    | some ns => if ns ≠ [] then .ok (.p (.int (maxI ns))) M else .stuck
    | none => .stuck
  | .minL, [x] => match (lstD M x).bind allInts with
    | some ns => if ns ≠ [] then .ok (.p (.int (minI ns))) M else .stuck
    | none => .stuck
  | .sum, [x] => match (lstD M x).bind allInts with
    | some ns => .ok (.p (.int ns.sum)) M
    | none => .stuck
  | .list, [x] => match x with
    | .p (.tup xs) => .ok (.p (.lst xs)) M
    | x => match (lstD M x).bind toPs with
      | some xs => .ok (.p (.lst xs)) M
      | none => .stuck
  | .listM, [x] => match x with
    | .p (.tup xs) => newL true (xs.map D.p) M
    | x => match lstD M x with
      | some ds => newL true ds M
      | none => .stuck
  | .tuple, [x] => match x with
    | .p (.tup xs) => .ok (.p (.tup xs)) M
    | x => match (lstD M x).bind toPs with
      | some xs => .ok (.p (.tup xs)) M
      | none => .stuck
  | .repr, [x] => match reprD x M with
    | some t => .ok (.p (.str t)) M
    | none => .stuck
  | .str, [.p (.int i)] => if i.natAbs.log2 < 1920 then .ok (.p (.str (toString i))) M else .stuck
  | _, _ => .stuck
/-- {k: v, ..}: the pairs, flat -/
def prs : List D → Option (List (Key × D))
  | [] => some []
  | .p a :: v :: r => match keyOf a, prs r with
    | some k, some ks => some ((k, v) :: ks)
    | _, _ => none
  | _ => none
def nodupK : List (Key × D) → Bool
  | [] => true
  | q :: r => !(r.any fun z => decide (z.1 = q.1)) && nodupK r
/-- the pairs laid into the dict that stands at n -/
def dspR (n : Nat) (ds : List D) (M : Sto) : R D := match prs ds, M[n]? with
  | some kvs, some (.dK []) => if nodupK kvs = true ∧ kvs.length ≤ 15 then .ok (.ref n) (M.set n (.dK kvs)) else .stuck
  | _, _ => .stuck
/-- a cell turned to data -/
def frzD (d : D) (M : Sto) : R D := match d with
  | .ref n => match M[n]? with
    | some (.lst ds) => match toPs ds with
      | some xs => .ok (.p (.lst xs)) (M.set n .dead)
      | none => .stuck
    | some (.dK kvs) => match toPs (kvs.map (·.2)) with
      | some xs => .ok (.p (.dK ((kvs.map (·.1)).zip xs))) (M.set n .dead)
      | none => .stuck
    | _ => .stuck
  | _ => .stuck
/-- ints by order, each once -/
def insS (k : Int) : List Int → List Int
  | [] => [k]
  | x :: r => if k < x then k :: x :: r else if k = x then x :: r else x :: insS k r
def sdd (ns : List Int) : List Int := ns.foldr insS []
/-- sorted(set(x)) -/
def ssetR (x : D) (M : Sto) : R D := match (lstD M x).bind allInts with
  | some ns => if ns.length < 64 then .ok (.p (.lst ((sdd ns).map P.int))) M else .stuck
  | none => .stuck
/-- ints by order, all of them -/
def insI (k : Int) : List Int → List Int
  | [] => [k]
  | x :: r => if k ≤ x then k :: x :: r else x :: insI k r
def isrt (ns : List Int) : List Int := ns.foldr insI []
/-- sorted(x), ints -/
def srtR (x : D) (M : Sto) : R D := match (lstD M x).bind allInts with
  | some ns => .ok (.p (.lst ((isrt ns).map P.int))) M
  | none => .stuck
def bitLen (i : Int) : Int := (Builtin.Int.intBits i : Nat)
def mAppend (x : D) (ds : List D) (M : Sto) : R D := match x, ds with
  | .ref n, [y] => match M[n]? with
    | some (.lst xs) => if xs.length < LIM then .ok (.p .non) (M.set n (.lst (xs ++ [y]))) else .stuck
    | _ => .stuck
  | _, _ => .stuck
def mPop0 (x : D) (ds : List D) (M : Sto) : R D := match x, ds with
  | .ref n, [] => match M[n]? with
    | some (.lst xs) => match xs.getLast? with
      | some y => .ok y (M.set n (.lst xs.dropLast))
      | none => .stuck
    | _ => .stuck
  | _, _ => .stuck
def mPop1 (x : D) (ds : List D) (M : Sto) : R D := match x, ds with
  | .ref n, [.p (.int i)] => match M[n]? with
    | some (.lst (y :: xs)) => if i = 0 then .ok y (M.set n (.lst xs)) else .stuck
    | _ => .stuck
  | _, _ => .stuck
def mPopI (x : D) (ds : List D) (M : Sto) : R D := match x, ds with
  | .ref n, [.p (.int i)] => match M[n]? with
    | some (.lst xs) => match ixN xs.length i with
      | some j => match xs[j]? with
        | some y => if xs.length ≤ LIM then .ok y (M.set n (.lst (xs.eraseIdx j))) else .stuck
        | none => .stuck
      | none => .stuck
    | _ => .stuck
  | _, _ => .stuck
def mClear (x : D) (ds : List D) (M : Sto) : R D := match x, ds with
  | .ref n, [] => match M[n]? with
    | some (.lst _) => .ok (.p .non) (M.set n (.lst []))
    | _ => .stuck
  | _, _ => .stuck
def mInsert (x : D) (ds : List D) (M : Sto) : R D := match x, ds with
  | .ref n, [.p (.int i), y] => match M[n]? with
    | some (.lst xs) => if xs.length < LIM ∧ 0 ≤ i ∧ i ≤ xs.length then .ok (.p .non) (M.set n (.lst (xs.take i.toNat ++ y :: xs.drop i.toNat))) else .stuck
    | _ => .stuck
  | _, _ => .stuck
def mDpop (x : D) (ds : List D) (M : Sto) : R D := match x, ds with
  | .ref n, [.p k] => match M[n]?, keyOf k with
    | some (.dK kvs), some k => match look kvs k with
      | some y => .ok y (M.set n (.dK (drp k kvs)))
      | none => .stuck
    | _, _ => .stuck
  | _, _ => .stuck
def mBits (x : D) (ds : List D) (M : Sto) : R D := match x, ds with
  | .p (.int i), [] => .ok (.p (.int (bitLen i))) M
  | _, _ => .stuck
def mDget1 (x : D) (ds : List D) (M : Sto) : R D := match ds with
  | [.p k] => match dctD M x, keyOf k with
    | some kvs, some k => .ok ((look kvs k).getD (.p .non)) M
    | _, _ => .stuck
  | _ => .stuck
def mDget2 (x : D) (ds : List D) (M : Sto) : R D := match ds with
  | [.p k, y] => match dctD M x, keyOf k with
    | some kvs, some k => .ok ((look kvs k).getD y) M
    | _, _ => .stuck
  | _ => .stuck
def mtd (b : Mt) : D → List D → Sto → R D := match b with
  | .append => mAppend | .pop0 => mPop0 | .pop1 => mPop1 | .bits => mBits | .dget1 => mDget1 | .dget2 => mDget2 | .dpop => mDpop | .popI => mPopI | .clear => mClear | .insert => mInsert
/-- the receiver is of the method's type -/
def mtTy (b : Mt) (x : D) (M : Sto) : Bool := match b with
  | .bits => match x with
    | .p (.int _) => true
    | _ => false
  | .append => (lstD M x).isSome
  | .pop0 => (lstD M x).isSome
  | .pop1 => (lstD M x).isSome
  | .dget1 => (dctD M x).isSome
  | .dget2 => (dctD M x).isSome
  | .dpop => (dctD M x).isSome
  | .popI => (lstD M x).isSome
  | .clear => (lstD M x).isSome
  | .insert => (lstD M x).isSome
/-- the items that are walked -/
def itSeq : D → Option (List D)
  | .p (.lst xs) => some (xs.map D.p)
  | .p (.tup xs) => some (xs.map D.p)
  | .p (.scr ns) => some (ns.map fun n => .p (.int n))
  | .tup ds => some ds
  | .p (.str x) => if x.cps.size ≤ LIM then some (x.cps.toList.map fun c => .p (.str ⟨#[c]⟩)) else none
  | _ => none
def itR1 : D → Option (List D)
  | .p (.int n) => if n ≤ 1000000 ∧ -1000000 ≤ n then some ((List.range n.toNat).map fun i => .p (.int (i : Nat))) else none
  | _ => none
def itR2 (x y : D) : Option (List D) := match x, y with
  | .p (.int a), .p (.int b) => if -1000000 ≤ a ∧ a ≤ 1000000 ∧ -1000000 ≤ b ∧ b ≤ 1000000 then some ((List.range (b - a).toNat).map fun i => .p (.int (a + (i : Nat)))) else none
  | _, _ => none
/-- numbers of any size -/
def itRL (x y : D) : Option (List D) := match x, y with
  | .p (.int a), .p (.int b) => if b - a ≤ 1000000 then some ((List.range (b - a).toNat).map fun i => .p (.int (a + (i : Nat)))) else none
  | _, _ => none
def enumP (xs : List P) : List D := (List.range xs.length).map fun i => .p (.tup [.int (i : Nat), xs.getD i .non])
def itEn : D → Option (List D)
  | .p (.lst xs) => some (enumP xs)
  | .p (.tup xs) => some (enumP xs)
  | _ => none
def itEnT : D → Option (List D)
  | .p (.tup xs) => some (enumP xs)
  | _ => none
/-- the list of a ref -/
def itM (x : D) (M : Sto) : Option (List D) := match x with
  | .ref n => match M[n]? with
    | some (.lst ds) => some ds
    | _ => none
  | .p (.lst xs) => some (xs.map D.p)
  | _ => none
def items (k : It) (ds : List D) (M : Sto) : Option (List D) := match ds with
  | [x] => match k with
    | .seq => itSeq x
    | .seqM => itM x M
    | .rng1 => itR1 x
    | .enum => itEn x
    | .enumT => itEnT x
    | _ => none
  | [x, y] => match k with
    | .rng2 => itR2 x y
    | .rngL => itRL x y
    | _ => none
  | _ => none
/-- the cell whose list is walked -/
def wat (k : It) (ds : List D) : Option Nat := match k with
  | .seqM => match ds with
    | [.ref n] => some n
    | _ => none
  | _ => none
/-- the items as they stand now -/
def live (w : Option Nat) (its : List D) (M : Sto) : Option (List D) := match w with
  | none => some its
  | some n => match M[n]? with
    | some (.lst ds) => if ds.length = its.length then some ds else none
    | _ => none
def setAll : List Nat → List D → Env → Option Env
  | [], [], ρ => some ρ
  | i :: is, d :: ds, ρ => setAll is ds (ρ.set i (some d))
  | _, _, _ => none
def bindT (t : Tg) (d : D) (ρ : Env) : Option Env := match t with
  | .one i => some (ρ.set i (some d))
  | .many is => match d with
    | .p (.tup xs) => setAll is (xs.map D.p) ρ
    | .tup ds => setAll is ds ρ
    | .p (.lst xs) => setAll is (xs.map D.p) ρ
    | _ => none
abbrev Fn := List D → Sto → R D
/-- atoms alone -/
def atomL (ds : List D) : Bool := ds.all fun d => match d with
  | .p x => decide (x.kd = 0)
  | _ => false
def callF (md : Md) (f : Fn) (ds : List D) (M : Sto) : R D := match md with
  | .pure => match toPs ds with
    | none => .stuck
    | some _ => match f ds [] with
      | .ok (.p x) [] => .ok (.p x) M
      | .exc c (.p x) [] => .exc c (.p x) M
      | _ => .stuck
  | .own => match toPs ds with
    | none => .stuck
    | some _ => match f ds [] with
      | .ok (.ref 0) [c] => if c.flat = true then .ok (.ref M.length) (M ++ [c]) else .stuck
      | .exc c (.p x) [] => .exc c (.p x) M
      | .ok (.p x) [] => .ok (.p x) M
      | _ => .stuck
  | .mut => match ds with
    | .ref n :: r => match M[n]?, toPs r with
      | some c, some _ => if c.flat = true then match f (.ref 0 :: r) [c] with
          | .ok (.p x) [c'] => if c'.flat = true then .ok (.p x) (M.set n c') else .stuck
          | .exc c (.p x) [c'] => if c'.flat = true then .exc c (.p x) (M.set n c') else .stuck
          | _ => .stuck
        else .stuck
      | _, _ => .stuck
    | _ => .stuck
  | .full => f ds M
  | .bor => match mapO (rdb M FU) ds with
    | none => .stuck
    | some xs => match f (xs.map D.p) [] with
      | .ok (.p x) [] => if x.kd = 0 then .ok (.p x) M else .stuck
      | _ => .stuck
  | .bow => match mapO (rdb M FU) ds with
    | none => .stuck
    | some xs => match f (xs.map D.p) [] with
      | .ok (.p x) [] => if x.kd = 0 then .ok (.p x) M else .stuck
      | .ok (.ref 0) [.lst es] => if atomL es = true then .ok (.ref M.length) (M ++ [.lst es]) else .stuck
      | _ => .stuck
/-- a call that is lent what stands in cells; only whether it answers None is looked at -/
def isbR (k : Bool) (f : Fn) (ds : List D) (M : Sto) : R D := match mapO (rdb M FU) ds with
  | none => .stuck
  | some xs => match f (xs.map D.p) [] with
    | .ok (.p x) [] => .ok (.p (.bl (if k = true then !isNon (.p x) else isNon (.p x)))) M
    | _ => .stuck
/-- what stands for the parameters behind the positional ones: a default, or a keyword's value by its number -/
def lefts : List (Sum P Nat) → List P
  | [] => []
  | .inl x :: r => x :: lefts r
  | .inr _ :: r => lefts r
def pick {α : Type} : List (Sum P Nat) → List α → List α → List α
  | [], _, _ => []
  | .inl _ :: r, mv, ws => mv.take 1 ++ pick r (mv.drop 1) ws
  | .inr j :: r, mv, ws => (ws[j]?).toList ++ pick r mv ws
@[simp] theorem lefts_nil : lefts [] = [] := rfl
@[simp] theorem lefts_inl (x : P) (r : List (Sum P Nat)) : lefts (.inl x :: r) = x :: lefts r := rfl
@[simp] theorem lefts_inr (j : Nat) (r : List (Sum P Nat)) : lefts (.inr j :: r) = lefts r := rfl
@[simp] theorem pick_nil {α : Type} (mv ws : List α) : pick [] mv ws = [] := rfl
@[simp] theorem pick_inl {α : Type} (x : P) (r : List (Sum P Nat)) (m : α) (mv ws : List α) : pick (.inl x :: r) (m :: mv) ws = m :: pick r mv ws := rfl
@[simp] theorem pick_inr {α : Type} (j : Nat) (r : List (Sum P Nat)) (mv ws : List α) : pick (.inr j :: r) mv ws = (ws[j]?).toList ++ pick r mv ws := rfl
def srcB (src : List (Sum P Nat)) (m : Nat) : Bool := match src with
  | [] => true
  | .inl _ :: r => srcB r m
  | .inr j :: r => decide (j < m) && srcB r m
theorem pick_len {α : Type} (ws : List α) : ∀ {src : List (Sum P Nat)} {mv : List α}, srcB src ws.length = true → mv.length = (lefts src).length → (pick src mv ws).length = src.length
  | [], mv, _, _ => rfl
  | .inl x :: r, [], _, h => by simp at h
  | .inl x :: r, m :: mv, hb, h => by
    have := pick_len ws (src := r) (mv := mv) hb (by simpa using h)
    simp [this]
  | .inr j :: r, mv, hb, h => by
    unfold srcB at hb
    simp only [Bool.and_eq_true, decide_eq_true_eq] at hb
    have := pick_len ws (src := r) (mv := mv) hb.2 h
    simp [this, hb.1]
/-- a new instance -/
def makeF (cf : Nat → List Str) (c : Nat) (md : Md) (f : Fn) (ds : List D) (M : Sto) : R D := match md with
  | .pure => match toPs ds with
    | none => .stuck
    | some _ => match f (.ref 0 :: ds) [.ins c []] with
      | .ok (.p .non) [.ins c' fs] => match toPs (fs.map (·.2)) with
        | some xs => if fs.map (·.1) = cf c' then .ok (.p (.obj c' xs)) M else .stuck
        | none => .stuck
      | .exc c (.p x) [_] => .exc c (.p x) M
      | _ => .stuck
  | .full => (f (.ref M.length :: ds) (M ++ [.ins c []])).bind fun v M' => match v with
    | .p .non => .ok (.ref M.length) M'
    | _ => .stuck
  | _ => .stuck
/-- an instance of the class, without a field of that name -/
def isIns (cf : Nat → List Str) (c : Nat) (nm : Str) (x : D) (M : Sto) : Bool := match x with
  | .p (.obj c' _) => decide (c' = c) && decide (nm ∉ cf c)
  | .ref n => match M[n]? with
    | some (.ins c' fs) => decide (c' = c) && decide (nm ∉ fs.map (·.1))
    | _ => false
  | _ => false
structure Cg where
  cf : Nat → List Str
  Φ : Nat → Fn
def tgs : Tg → List Nat
  | .one i => [i]
  | .many is => is
def wipeE (ρ : Env) : List Nat → Env
  | [] => ρ
  | v :: vs => (wipeE ρ vs).set v none
def intO : Option D → Option (Option Int)
  | none => some none
  | some (.p (.int i)) => some (some i)
  | some _ => none
/-! ### expressions -/
/-- an exception within is not followed -/
def R.noex {α : Type} : R α → R α
  | .exc _ _ _ => .stuck
  | r => r
@[simp] theorem R.noex_ok {α : Type} (a : α) (M : Sto) : (R.ok a M).noex = .ok a M := rfl
@[simp] theorem R.noex_stuck {α : Type} : (R.stuck : R α).noex = .stuck := rfl
def compL (f : D → Sto → R (Option D)) : List D → List D → Sto → R (List D)
  | [], acc, M => .ok acc M
  | d :: r, acc, M => (f d M).noex.bind fun y M => match y with
    | some y => compL f r (acc ++ [y]) M
    | none => compL f r acc M
/-- r turns are left -/
def compW (w : Option Nat) (its : List D) (f : D → Sto → R (Option D)) : Nat → List D → Sto → R (List D)
  | 0, acc, M => match live w its M with
    | some _ => .ok acc M
    | none => .stuck
  | r + 1, acc, M => match (live w its M).bind fun ds => ds[its.length - (r + 1)]? with
    | some d => (f d M).noex.bind fun y M => match y with
      | some y => compW w its f r (acc ++ [y]) M
      | none => compW w its f r acc M
    | none => .stuck
def compK (w : Option Nat) (f : D → Sto → R (Option D)) (its : List D) (M : Sto) : R (List D) := match w with
  | none => compL f its [] M
  | some n => compW (some n) its f its.length [] M
/-- the class of a made instance -/
def ocls : D → Option Nat
  | .p (.obj c _) => some c
  | _ => none
def oneg (op : COp) (b : Bool) : Bool := match op with
  | .ne => !b
  | _ => b
/-- a def answers True -/
def isTr : R D → Bool
  | .ok (.p (.bl true)) _ => true
  | _ => false
def eqWs (f : P → P → Bool) : List P → List P → Bool
  | x :: xs, y :: ys => f x y && eqWs f xs ys
  | _, _ => true
def eqWa (a b : P) : Bool := decide (a.kd = 0) && (decide (b.kd = 0) && P.eqv a b)
/-- equality of data in which instances may stand that answer == by a def: known to be true -/
def eqW (g : Cg) (fs : List (Nat × Nat)) : Nat → P → P → Bool
  | 0, a, b => eqWa a b
  | n + 1, a, b => match a, b with
    | .lst xs, .lst ys => decide (xs.length = ys.length) && eqWs (eqW g fs n) xs ys
    | .tup xs, .tup ys => decide (xs.length = ys.length) && eqWs (eqW g fs n) xs ys
    | .dK [], .dK [] => true
    | .obj c xs, .obj c' ys => match fs.lookup c with
        | some f => isTr (callF .pure (g.Φ f) [.p (.obj c xs), .p (.obj c' ys)] [])
        | none => false
    | a, b => eqWa a b
/-- no instance, no atom -/
def eqX (g : Cg) (fs : List (Nat × Nat)) (x y : D) (M : Sto) : Bool := match rd g.cf 0 M FU x, rd g.cf 0 M FU y with
  | some a, some b => decide (a.kd ≠ 0) && (decide (a.kd ≠ 4) && eqW g fs FU a b)
  | _, _ => false
/-- data that is no instance -/
def offK : D → Bool
  | .p x => decide (x.kd < 4)
  | _ => false
/-- a comparison that an own class may answer -/
def ocmpR (g : Cg) (op : COp) (fs : List (Nat × Nat)) (x y : D) (M : Sto) : R D := match ocls x with
  | some c => match fs.lookup c with
    | some f => match callF .pure (g.Φ f) [x, y] M with
      | .ok (.p (.bl b)) M' => .ok (.p (.bl (oneg op b))) M'
      | _ => .stuck
    | none => .stuck
  | none => match ocls y with
    | some c => if op = .eq ∧ offK x = true then match fs.lookup c with
      | some f => match callF .pure (g.Φ f) [y, x] M with
        | .ok (.p (.bl b)) M' => .ok (.p (.bl b)) M'
        | _ => .stuck
      | none => .stuck
      else .stuck
    | none => match cmpop g.cf op x y M with
      | some b => .ok (.p (.bl b)) M
      | none => if (op = .eq ∨ op = .ne) ∧ eqX g fs x y M = true then .ok (.p (.bl (oneg op true))) M else .stuck
/-- a property -/
def propR (g : Cg) (c : Nat) (nm : Str) (f : Nat) (x : D) (M : Sto) : R D := if isIns g.cf c nm x M = true then (callF .pure (g.Φ f) [x] M).noex else .stuck
abbrev VT := R D × R Bool
def asV (r : R D) : VT := (r, r.bind fun x M => truR x M)
mutual
def evB (g : Cg) : ME → Env → Sto → VT
  | .c x, _, M => asV (.ok (.p x) M)
  | .v i, ρ, M => asV (match ρ[i]? with
    | some (some d) => .ok d M
    | _ => .stuck)
  | .g _ a, _, M => asV (.ok (.p a) M)
  | .bin op a b, ρ, M => asV (((evB g a ρ M).1).bind fun x M => ((evB g b ρ M).1).bind fun y M => binop op x y M)
  | .neg a, ρ, M => asV (((evB g a ρ M).1).bind fun x M => match x with
    | .p (.int i) => .ok (.p (.int (-i))) M
    | _ => .stuck)
  | .not a, ρ, M => (((evB g a ρ M).1).bind fun x M => (truR x M).bind fun b M => .ok (.p (.bl (!b))) M,
    ((evB g a ρ M).2.bind fun b M => .ok (!b) M))
  | .and a b, ρ, M => (((evB g a ρ M).1).bind fun x M => (truR x M).bind fun k M => match k with
    | true => (evB g b ρ M).1
    | false => .ok x M,
    ((evB g a ρ M).2.bind fun k M => match k with
    | true => (evB g b ρ M).2
    | false => .ok false M))
  | .or a b, ρ, M => (((evB g a ρ M).1).bind fun x M => (truR x M).bind fun k M => match k with
    | true => .ok x M
    | false => (evB g b ρ M).1,
    ((evB g a ρ M).2.bind fun k M => match k with
    | true => .ok true M
    | false => (evB g b ρ M).2))
  | .cmp op a b, ρ, M => asV (((evB g a ρ M).1).bind fun x M => ((evB g b ρ M).1).bind fun y M => lift (cmpop g.cf op x y M) M)
  | .chain o1 o2 a b c, ρ, M => asV (((evB g a ρ M).1).bind fun x M => ((evB g b ρ M).1).bind fun y M => match cmpop g.cf o1 x y M with
    | some true => ((evB g c ρ M).1).bind fun z M => lift (cmpop g.cf o2 y z M) M
    | some false => .ok (.p (.bl false)) M
    | none => .stuck)
  | .ite t a b, ρ, M => asV (((evB g t ρ M).2).bind fun k M => match k with
    | true => (evB g a ρ M).1
    | false => (evB g b ρ M).1)
  | .tup es, ρ, M => asV ((evs g es ρ M).bind fun ds M => match toPs ds with
    | some xs => .ok (.p (.tup xs)) M
    | none => .ok (.tup ds) M)
  | .lst m es, ρ, M => asV ((evs g es ρ M).bind fun ds M => newL m ds M)
  | .dnew, _, M => asV (.ok (.ref M.length) (M ++ [.dK []]))
  | .ix a i, ρ, M => asV (((evB g a ρ M).1).bind fun x M => ((evB g i ρ M).1).bind fun y M => opt (ixD x y M) M)
  | .sl a lo hi, ρ, M => asV (((evB g a ρ M).1).bind fun x M => (evO g lo ρ M).bind fun l M => match intO l with
    | none => .stuck
    | some l => (evO g hi ρ M).bind fun h M => match intO h with
      | none => .stuck
      | some h => opt (slD x l h M) M)
  | .rev a, ρ, M => asV (((evB g a ρ M).1).bind fun x M => opt (revD x M) M)
  | .fld a f, ρ, M => asV (((evB g a ρ M).1).bind fun x M => opt (fldOf g.cf x f M) M)
  | .isi a t, ρ, M => asV (((evB g a ρ M).1).bind fun x M => lift (isTy x t M) M)
  | .call f m es dfl, ρ, M => asV ((evs g es ρ M).bind fun ds M => callF m (g.Φ f) (ds ++ dfl.map D.p) M)
  | .meth c nm f m a es dfl, ρ, M => asV (((evB g a ρ M).1).bind fun x M => if isIns g.cf c nm x M = true then (evs g es ρ M).bind fun ds M => callF m (g.Φ f) (x :: (ds ++ dfl.map D.p)) M else .stuck)
  | .make c f m es dfl, ρ, M => asV ((evs g es ρ M).bind fun ds M => makeF g.cf c m (g.Φ f) (ds ++ dfl.map D.p) M)
  | .bi b es, ρ, M => asV ((evs g es ρ M).bind fun ds M => bfn b ds M)
  | .mt b a es, ρ, M => asV (((evB g a ρ M).1).bind fun x M => if mtTy b x M = true then (evs g es ρ M).bind fun ds M => mtd b x ds M else .stuck)
  | .lrng1 m a, ρ, M => asV ((evB g a ρ M).1.bind fun x M => match items .rng1 [x] M with
    | some its => newL m its M
    | none => .stuck)
  | .lrng2 m a b, ρ, M => asV ((evB g a ρ M).1.bind fun x M => (evB g b ρ M).1.bind fun y M => match items .rng2 [x, y] M with
    | some its => newL m its M
    | none => .stuck)
  | .comp m t k es cond e, ρ, M => asV ((evs g es ρ M).bind fun ds M => match items k ds M with
    | some its => (compK (wat k ds) (fun d M => match bindT t d (wipeE ρ (tgs t)) with
        | none => .stuck
        | some ρ' => (evTO g cond ρ' M).bind fun b M => match b with
          | true => ((evB g e ρ' M).1).bind fun y M => .ok (some y) M
          | false => .ok none M) its M).bind fun acc M => newL m acc M
    | none => .stuck)
  | .prop c nm f a, ρ, M => asV (((evB g a ρ M).1).bind fun x M => propR g c nm f x M)
  | .slm a lo hi, ρ, M => asV (((evB g a ρ M).1).bind fun x M => (evO g lo ρ M).bind fun l M => match intO l with
    | none => .stuck
    | some l => (evO g hi ρ M).bind fun h M => match intO h with
      | none => .stuck
      | some h => slM x l h M)
  | .sset a, ρ, M => asV (((evB g a ρ M).1).bind fun x M => ssetR x M)
  | .makeK c f m es kes src, ρ, M => asV ((evs g es ρ M).bind fun ds M => (evs g kes ρ M).bind fun zs M => makeF g.cf c m (g.Φ f) (ds ++ pick src ((lefts src).map D.p) zs) M)
  | .xmk c kw es, ρ, M => asV ((evs g es ρ M).bind fun ds M => xmkR g.cf c ds M)
  | .isVE a, ρ, M => asV (((evB g a ρ M).1).bind fun x M => lift (isVal x M) M)
  | .srtI a, ρ, M => asV (((evB g a ρ M).1).bind fun x M => srtR x M)
  | .dct0, _, M => asV (.ok (.p (.dK [])) M)
  | .dsp es, ρ, M => asV ((evs g es ρ (M ++ [.dK []])).bind fun ds M' => dspR M.length ds M')
  | .frz a, ρ, M => asV (((evB g a ρ M).1).bind fun x M => frzD x M)
  | .isb k f es dfl, ρ, M => asV ((evs g es ρ M).bind fun ds M => isbR k (g.Φ f) (ds ++ dfl.map D.p) M)
  | .isS a, ρ, M => asV (((evB g a ρ M).1).bind fun x M => lift (isIS x) M)
  | .revM a, ρ, M => asV (((evB g a ρ M).1).bind fun x M => revM x M)
  | .ocmp op fs a b, ρ, M => asV (((evB g a ρ M).1).bind fun x M => ((evB g b ρ M).1).bind fun y M => ocmpR g op fs x y M)
def evs (g : Cg) : List ME → Env → Sto → R (List D)
  | [], _, M => .ok [] M
  | e :: r, ρ, M => ((evB g e ρ M).1).bind fun x M => (evs g r ρ M).bind fun xs M => .ok (x :: xs) M
def evO (g : Cg) : Option ME → Env → Sto → R (Option D)
  | none, _, M => .ok none M
  | some e, ρ, M => ((evB g e ρ M).1).bind fun x M => .ok (some x) M
def evTO (g : Cg) : Option ME → Env → Sto → R Bool
  | none, _, M => .ok true M
  | some e, ρ, M => (evB g e ρ M).2
end
def ev (g : Cg) (e : ME) (ρ : Env) (M : Sto) : R D := (evB g e ρ M).1
def evT (g : Cg) (e : ME) (ρ : Env) (M : Sto) : R Bool := (evB g e ρ M).2
section
variable (g : Cg) (ρ : Env) (M : Sto)
@[simp] theorem ev_c (x : P) : ev g (.c x) ρ M = (.ok (.p x) M) := rfl
@[simp] theorem evT_c (x : P) : evT g (.c x) ρ M = (ev g (.c x) ρ M).bind fun x M => truR x M := rfl
@[simp] theorem ev_v (i : Nat) : ev g (.v i) ρ M = (match ρ[i]? with
    | some (some d) => .ok d M
    | _ => .stuck) := rfl
@[simp] theorem evT_v (i : Nat) : evT g (.v i) ρ M = (ev g (.v i) ρ M).bind fun x M => truR x M := rfl
@[simp] theorem ev_g (x : Str) (a : P) : ev g (.g x a) ρ M = (.ok (.p a) M) := rfl
@[simp] theorem evT_g (x : Str) (a : P) : evT g (.g x a) ρ M = (ev g (.g x a) ρ M).bind fun x M => truR x M := rfl
@[simp] theorem ev_bin (op : BOp) (a b : ME) : ev g (.bin op a b) ρ M = ((ev g a ρ M).bind fun x M => (ev g b ρ M).bind fun y M => binop op x y M) := rfl
@[simp] theorem evT_bin (op : BOp) (a b : ME) : evT g (.bin op a b) ρ M = (ev g (.bin op a b) ρ M).bind fun x M => truR x M := rfl
@[simp] theorem ev_neg (a : ME) : ev g (.neg a) ρ M = ((ev g a ρ M).bind fun x M => match x with
    | .p (.int i) => .ok (.p (.int (-i))) M
    | _ => .stuck) := rfl
@[simp] theorem evT_neg (a : ME) : evT g (.neg a) ρ M = (ev g (.neg a) ρ M).bind fun x M => truR x M := rfl
@[simp] theorem ev_not (a : ME) : ev g (.not a) ρ M = ((ev g a ρ M).bind fun x M => (truR x M).bind fun b M => .ok (.p (.bl (!b))) M) := rfl
@[simp] theorem ev_and (a b : ME) : ev g (.and a b) ρ M = ((ev g a ρ M).bind fun x M => (truR x M).bind fun k M => match k with
    | true => ev g b ρ M
    | false => .ok x M) := rfl
@[simp] theorem ev_or (a b : ME) : ev g (.or a b) ρ M = ((ev g a ρ M).bind fun x M => (truR x M).bind fun k M => match k with
    | true => .ok x M
    | false => ev g b ρ M) := rfl
@[simp] theorem ev_cmp (op : COp) (a b : ME) : ev g (.cmp op a b) ρ M = ((ev g a ρ M).bind fun x M => (ev g b ρ M).bind fun y M => lift (cmpop g.cf op x y M) M) := rfl
@[simp] theorem evT_cmp (op : COp) (a b : ME) : evT g (.cmp op a b) ρ M = (ev g (.cmp op a b) ρ M).bind fun x M => truR x M := rfl
@[simp] theorem ev_chain (o1 o2 : COp) (a b c : ME) : ev g (.chain o1 o2 a b c) ρ M = ((ev g a ρ M).bind fun x M => (ev g b ρ M).bind fun y M => match cmpop g.cf o1 x y M with
    | some true => (ev g c ρ M).bind fun z M => lift (cmpop g.cf o2 y z M) M
    | some false => .ok (.p (.bl false)) M
    | none => .stuck) := rfl
@[simp] theorem evT_chain (o1 o2 : COp) (a b c : ME) : evT g (.chain o1 o2 a b c) ρ M = (ev g (.chain o1 o2 a b c) ρ M).bind fun x M => truR x M := rfl
@[simp] theorem ev_ite (t a b : ME) : ev g (.ite t a b) ρ M = ((evT g t ρ M).bind fun k M => match k with
    | true => ev g a ρ M
    | false => ev g b ρ M) := rfl
@[simp] theorem evT_ite (t a b : ME) : evT g (.ite t a b) ρ M = (ev g (.ite t a b) ρ M).bind fun x M => truR x M := rfl
@[simp] theorem ev_tup (es : List ME) : ev g (.tup es) ρ M = ((evs g es ρ M).bind fun ds M => match toPs ds with
    | some xs => .ok (.p (.tup xs)) M
    | none => .ok (.tup ds) M) := rfl
@[simp] theorem evT_tup (es : List ME) : evT g (.tup es) ρ M = (ev g (.tup es) ρ M).bind fun x M => truR x M := rfl
@[simp] theorem ev_lst (m : Bool) (es : List ME) : ev g (.lst m es) ρ M = ((evs g es ρ M).bind fun ds M => newL m ds M) := rfl
@[simp] theorem evT_lst (m : Bool) (es : List ME) : evT g (.lst m es) ρ M = (ev g (.lst m es) ρ M).bind fun x M => truR x M := rfl
@[simp] theorem ev_makeK (c f : Nat) (m : Md) (es kes : List ME) (src : List (Sum P Nat)) : ev g (.makeK c f m es kes src) ρ M = ((evs g es ρ M).bind fun ds M => (evs g kes ρ M).bind fun zs M => makeF g.cf c m (g.Φ f) (ds ++ pick src ((lefts src).map D.p) zs) M) := rfl
@[simp] theorem evT_makeK (c f : Nat) (m : Md) (es kes : List ME) (src : List (Sum P Nat)) : evT g (.makeK c f m es kes src) ρ M = (ev g (.makeK c f m es kes src) ρ M).bind fun x M => truR x M := rfl
@[simp] theorem ev_xmk (c : Nat) (kw : Bool) (es : List ME) : ev g (.xmk c kw es) ρ M = ((evs g es ρ M).bind fun ds M => xmkR g.cf c ds M) := rfl
@[simp] theorem evT_xmk (c : Nat) (kw : Bool) (es : List ME) : evT g (.xmk c kw es) ρ M = (ev g (.xmk c kw es) ρ M).bind fun x M => truR x M := rfl
@[simp] theorem ev_isVE (a : ME) : ev g (.isVE a) ρ M = ((ev g a ρ M).bind fun x M => lift (isVal x M) M) := rfl
@[simp] theorem evT_isVE (a : ME) : evT g (.isVE a) ρ M = (ev g (.isVE a) ρ M).bind fun x M => truR x M := rfl
@[simp] theorem ev_srtI (a : ME) : ev g (.srtI a) ρ M = ((ev g a ρ M).bind fun x M => srtR x M) := rfl
@[simp] theorem evT_srtI (a : ME) : evT g (.srtI a) ρ M = (ev g (.srtI a) ρ M).bind fun x M => truR x M := rfl
@[simp] theorem ev_sset (a : ME) : ev g (.sset a) ρ M = ((ev g a ρ M).bind fun x M => ssetR x M) := rfl
@[simp] theorem evT_sset (a : ME) : evT g (.sset a) ρ M = (ev g (.sset a) ρ M).bind fun x M => truR x M := rfl
@[simp] theorem ev_dct0  : ev g (.dct0) ρ M = (.ok (.p (.dK [])) M) := rfl
@[simp] theorem evT_dct0  : evT g (.dct0) ρ M = (ev g (.dct0) ρ M).bind fun x M => truR x M := rfl
@[simp] theorem ev_frz (a : ME) : ev g (.frz a) ρ M = ((ev g a ρ M).bind fun x M => frzD x M) := rfl
@[simp] theorem evT_frz (a : ME) : evT g (.frz a) ρ M = (ev g (.frz a) ρ M).bind fun x M => truR x M := rfl
@[simp] theorem ev_isb (k : Bool) (f : Nat) (es : List ME) (dfl : List P) : ev g (.isb k f es dfl) ρ M = ((evs g es ρ M).bind fun ds M => isbR k (g.Φ f) (ds ++ dfl.map D.p) M) := rfl
@[simp] theorem evT_isb (k : Bool) (f : Nat) (es : List ME) (dfl : List P) : evT g (.isb k f es dfl) ρ M = (ev g (.isb k f es dfl) ρ M).bind fun x M => truR x M := rfl
@[simp] theorem ev_dsp (es : List ME) : ev g (.dsp es) ρ M = ((evs g es ρ (M ++ [.dK []])).bind fun ds M' => dspR M.length ds M') := rfl
@[simp] theorem evT_dsp (es : List ME) : evT g (.dsp es) ρ M = (ev g (.dsp es) ρ M).bind fun x M => truR x M := rfl
@[simp] theorem ev_dnew  : ev g (.dnew) ρ M = (.ok (.ref M.length) (M ++ [.dK []])) := rfl
@[simp] theorem evT_dnew  : evT g (.dnew) ρ M = (ev g (.dnew) ρ M).bind fun x M => truR x M := rfl
@[simp] theorem ev_ix (a i : ME) : ev g (.ix a i) ρ M = ((ev g a ρ M).bind fun x M => (ev g i ρ M).bind fun y M => opt (ixD x y M) M) := rfl
@[simp] theorem evT_ix (a i : ME) : evT g (.ix a i) ρ M = (ev g (.ix a i) ρ M).bind fun x M => truR x M := rfl
@[simp] theorem ev_sl (a : ME) (lo hi : Option ME) : ev g (.sl a lo hi) ρ M = ((ev g a ρ M).bind fun x M => (evO g lo ρ M).bind fun l M => match intO l with
    | none => .stuck
    | some l => (evO g hi ρ M).bind fun h M => match intO h with
      | none => .stuck
      | some h => opt (slD x l h M) M) := rfl
@[simp] theorem evT_sl (a : ME) (lo hi : Option ME) : evT g (.sl a lo hi) ρ M = (ev g (.sl a lo hi) ρ M).bind fun x M => truR x M := rfl
@[simp] theorem ev_rev (a : ME) : ev g (.rev a) ρ M = ((ev g a ρ M).bind fun x M => opt (revD x M) M) := rfl
@[simp] theorem evT_rev (a : ME) : evT g (.rev a) ρ M = (ev g (.rev a) ρ M).bind fun x M => truR x M := rfl
@[simp] theorem ev_fld (a : ME) (f : Str) : ev g (.fld a f) ρ M = ((ev g a ρ M).bind fun x M => opt (fldOf g.cf x f M) M) := rfl
@[simp] theorem evT_fld (a : ME) (f : Str) : evT g (.fld a f) ρ M = (ev g (.fld a f) ρ M).bind fun x M => truR x M := rfl
@[simp] theorem ev_revM (a : ME) : ev g (.revM a) ρ M = ((ev g a ρ M).bind fun x M => revM x M) := rfl
@[simp] theorem evT_revM (a : ME) : evT g (.revM a) ρ M = (ev g (.revM a) ρ M).bind fun x M => truR x M := rfl
@[simp] theorem ev_isS (a : ME) : ev g (.isS a) ρ M = ((ev g a ρ M).bind fun x M => lift (isIS x) M) := rfl
@[simp] theorem evT_isS (a : ME) : evT g (.isS a) ρ M = (ev g (.isS a) ρ M).bind fun x M => truR x M := rfl
@[simp] theorem ev_isi (a : ME) (t : Ty) : ev g (.isi a t) ρ M = ((ev g a ρ M).bind fun x M => lift (isTy x t M) M) := rfl
@[simp] theorem evT_isi (a : ME) (t : Ty) : evT g (.isi a t) ρ M = (ev g (.isi a t) ρ M).bind fun x M => truR x M := rfl
@[simp] theorem ev_call (f : Nat) (m : Md) (es : List ME) (dfl : List P) : ev g (.call f m es dfl) ρ M = ((evs g es ρ M).bind fun ds M => callF m (g.Φ f) (ds ++ dfl.map D.p) M) := rfl
@[simp] theorem evT_call (f : Nat) (m : Md) (es : List ME) (dfl : List P) : evT g (.call f m es dfl) ρ M = (ev g (.call f m es dfl) ρ M).bind fun x M => truR x M := rfl
@[simp] theorem ev_meth (c : Nat) (nm : Str) (f : Nat) (m : Md) (a : ME) (es : List ME) (dfl : List P) : ev g (.meth c nm f m a es dfl) ρ M = ((ev g a ρ M).bind fun x M => if isIns g.cf c nm x M = true then (evs g es ρ M).bind fun ds M => callF m (g.Φ f) (x :: (ds ++ dfl.map D.p)) M else .stuck) := rfl
@[simp] theorem evT_meth (c : Nat) (nm : Str) (f : Nat) (m : Md) (a : ME) (es : List ME) (dfl : List P) : evT g (.meth c nm f m a es dfl) ρ M = (ev g (.meth c nm f m a es dfl) ρ M).bind fun x M => truR x M := rfl
@[simp] theorem ev_make (c f : Nat) (m : Md) (es : List ME) (dfl : List P) : ev g (.make c f m es dfl) ρ M = ((evs g es ρ M).bind fun ds M => makeF g.cf c m (g.Φ f) (ds ++ dfl.map D.p) M) := rfl
@[simp] theorem evT_make (c f : Nat) (m : Md) (es : List ME) (dfl : List P) : evT g (.make c f m es dfl) ρ M = (ev g (.make c f m es dfl) ρ M).bind fun x M => truR x M := rfl
@[simp] theorem ev_bi (b : Bi) (es : List ME) : ev g (.bi b es) ρ M = ((evs g es ρ M).bind fun ds M => bfn b ds M) := rfl
@[simp] theorem evT_bi (b : Bi) (es : List ME) : evT g (.bi b es) ρ M = (ev g (.bi b es) ρ M).bind fun x M => truR x M := rfl
@[simp] theorem ev_mt (b : Mt) (a : ME) (es : List ME) : ev g (.mt b a es) ρ M = ((ev g a ρ M).bind fun x M => if mtTy b x M = true then (evs g es ρ M).bind fun ds M => mtd b x ds M else .stuck) := rfl
@[simp] theorem evT_mt (b : Mt) (a : ME) (es : List ME) : evT g (.mt b a es) ρ M = (ev g (.mt b a es) ρ M).bind fun x M => truR x M := rfl
@[simp] theorem ev_lrng1 (m : Bool) (a : ME) : ev g (.lrng1 m a) ρ M = ((ev g a ρ M).bind fun x M => match items .rng1 [x] M with
    | some its => newL m its M
    | none => .stuck) := rfl
@[simp] theorem evT_lrng1 (m : Bool) (a : ME) : evT g (.lrng1 m a) ρ M = (ev g (.lrng1 m a) ρ M).bind fun x M => truR x M := rfl
@[simp] theorem ev_lrng2 (m : Bool) (a b : ME) : ev g (.lrng2 m a b) ρ M = ((ev g a ρ M).bind fun x M => (ev g b ρ M).bind fun y M => match items .rng2 [x, y] M with
    | some its => newL m its M
    | none => .stuck) := rfl
@[simp] theorem evT_lrng2 (m : Bool) (a b : ME) : evT g (.lrng2 m a b) ρ M = (ev g (.lrng2 m a b) ρ M).bind fun x M => truR x M := rfl
theorem ev_comp (m : Bool) (t : Tg) (k : It) (es : List ME) (cond : Option ME) (e : ME) : ev g (.comp m t k es cond e) ρ M = ((evs g es ρ M).bind fun ds M => match items k ds M with
    | some its => (compK (wat k ds) (fun d M => match bindT t d (wipeE ρ (tgs t)) with
        | none => .stuck
        | some ρ' => (evTO g cond ρ' M).bind fun b M => match b with
          | true => (ev g e ρ' M).bind fun y M => .ok (some y) M
          | false => .ok none M) its M).bind fun acc M => newL m acc M
    | none => .stuck) := rfl
@[simp] theorem evT_comp (m : Bool) (t : Tg) (k : It) (es : List ME) (cond : Option ME) (e : ME) : evT g (.comp m t k es cond e) ρ M = (ev g (.comp m t k es cond e) ρ M).bind fun x M => truR x M := rfl
@[simp] theorem ev_prop (c : Nat) (nm : Str) (f : Nat) (a : ME) : ev g (.prop c nm f a) ρ M = ((ev g a ρ M).bind fun x M => propR g c nm f x M) := rfl
@[simp] theorem evT_prop (c : Nat) (nm : Str) (f : Nat) (a : ME) : evT g (.prop c nm f a) ρ M = (ev g (.prop c nm f a) ρ M).bind fun x M => truR x M := rfl
@[simp] theorem ev_slm (a : ME) (lo hi : Option ME) : ev g (.slm a lo hi) ρ M = ((ev g a ρ M).bind fun x M => (evO g lo ρ M).bind fun l M => match intO l with
    | none => .stuck
    | some l => (evO g hi ρ M).bind fun h M => match intO h with
      | none => .stuck
      | some h => slM x l h M) := rfl
@[simp] theorem evT_slm (a : ME) (lo hi : Option ME) : evT g (.slm a lo hi) ρ M = (ev g (.slm a lo hi) ρ M).bind fun x M => truR x M := rfl
@[simp] theorem ev_ocmp (op : COp) (fs : List (Nat × Nat)) (a b : ME) : ev g (.ocmp op fs a b) ρ M = ((ev g a ρ M).bind fun x M => (ev g b ρ M).bind fun y M => ocmpR g op fs x y M) := rfl
@[simp] theorem evT_ocmp (op : COp) (fs : List (Nat × Nat)) (a b : ME) : evT g (.ocmp op fs a b) ρ M = (ev g (.ocmp op fs a b) ρ M).bind fun x M => truR x M := rfl
@[simp] theorem evT_not (a : ME) : evT g (.not a) ρ M = (evT g a ρ M).bind fun b M => .ok (!b) M := rfl
@[simp] theorem evT_and (a b : ME) : evT g (.and a b) ρ M = (evT g a ρ M).bind fun k M => match k with
    | true => evT g b ρ M
    | false => .ok false M := rfl
@[simp] theorem evT_or (a b : ME) : evT g (.or a b) ρ M = (evT g a ρ M).bind fun k M => match k with
    | true => .ok true M
    | false => evT g b ρ M := rfl
@[simp] theorem evs_nil : evs g [] ρ M = .ok [] M := rfl
@[simp] theorem evs_cons (e : ME) (r : List ME) : evs g (e :: r) ρ M = (ev g e ρ M).bind fun x M => (evs g r ρ M).bind fun xs M => .ok (x :: xs) M := rfl
@[simp] theorem evO_none : evO g none ρ M = .ok none M := rfl
@[simp] theorem evO_some (e : ME) : evO g (some e) ρ M = (ev g e ρ M).bind fun x M => .ok (some x) M := rfl
@[simp] theorem evTO_none : evTO g none ρ M = .ok true M := rfl
@[simp] theorem evTO_some (e : ME) : evTO g (some e) ρ M = evT g e ρ M := rfl
end

/-! ### statements -/
def forL (t : Tg) (body : Env → Sto → RS) : List D → Env → Sto → RS
  | [], ρ, M => .nx ρ M
  | d :: r, ρ, M => match bindT t d ρ with
    | none => .stuck
    | some ρ' => match body ρ' M with
      | .nx ρ M => forL t body r ρ M
      | .ct ρ M => forL t body r ρ M
      | .bk ρ M => .nx ρ M
      | .rt d M => .rt d M
      | .exc c v ρ M => .exc c v ρ M
      | .stuck => .stuck
/-- r turns are left -/
def forW (w : Option Nat) (its : List D) (t : Tg) (body : Env → Sto → RS) : Nat → Env → Sto → RS
  | 0, ρ, M => match live w its M with
    | some _ => .nx ρ M
    | none => .stuck
  | r + 1, ρ, M => match (live w its M).bind fun ds => ds[its.length - (r + 1)]? with
    | none => .stuck
    | some d => match bindT t d ρ with
      | none => .stuck
      | some ρ' => match body ρ' M with
        | .nx ρ M => forW w its t body r ρ M
        | .ct ρ M => forW w its t body r ρ M
        | .bk ρ M => .nx ρ M
        | .rt d M => .rt d M
        | .exc c v ρ M => .exc c v ρ M
        | .stuck => .stuck
def forK (w : Option Nat) (t : Tg) (body : Env → Sto → RS) (its : List D) (ρ : Env) (M : Sto) : RS := match w with
  | none => forL t body its ρ M
  | some n => forW (some n) its t body its.length ρ M
def whileL (test : Env → Sto → R Bool) (body : Env → Sto → RS) : Nat → Env → Sto → RS
  | 0, _, _ => .stuck
  | k + 1, ρ, M => match test ρ M with
    | .stuck => .stuck
    | .exc c v M => .exc c v ρ M
    | .ok false M => .nx ρ M
    | .ok true M => match body ρ M with
      | .nx ρ M => whileL test body k ρ M
      | .ct ρ M => whileL test body k ρ M
      | .bk ρ M => .nx ρ M
      | .rt d M => .rt d M
      | .exc c v ρ M => .exc c v ρ M
      | .stuck => .stuck
def WF : Nat := 2000000
def RS.bind (r : RS) (k : Env → Sto → RS) : RS := match r with
  | .nx ρ M => k ρ M
  | r => r
@[simp] theorem RS.bind_nx (ρ : Env) (M : Sto) (k : Env → Sto → RS) : (RS.nx ρ M).bind k = k ρ M := rfl
@[simp] theorem RS.bind_rt (d : D) (M : Sto) (k : Env → Sto → RS) : (RS.rt d M).bind k = .rt d M := rfl
@[simp] theorem RS.bind_bk (ρ : Env) (M : Sto) (k : Env → Sto → RS) : (RS.bk ρ M).bind k = .bk ρ M := rfl
@[simp] theorem RS.bind_ct (ρ : Env) (M : Sto) (k : Env → Sto → RS) : (RS.ct ρ M).bind k = .ct ρ M := rfl
@[simp] theorem RS.bind_exc (c : Nat) (v : D) (ρ : Env) (M : Sto) (k : Env → Sto → RS) : (RS.exc c v ρ M).bind k = .exc c v ρ M := rfl
@[simp] theorem RS.bind_stuck (k : Env → Sto → RS) : RS.stuck.bind k = .stuck := rfl
/-- an expression within a statement -/
def R.th {α : Type} (r : R α) (ρ : Env) (k : α → Sto → RS) : RS := match r with
  | .stuck => .stuck
  | .ok a M => k a M
  | .exc c v M => .exc c v ρ M
@[simp] theorem R.th_ok {α : Type} (a : α) (M : Sto) (ρ : Env) (k : α → Sto → RS) : (R.ok a M).th ρ k = k a M := rfl
@[simp] theorem R.th_stuck {α : Type} (ρ : Env) (k : α → Sto → RS) : (R.stuck : R α).th ρ k = .stuck := rfl
@[simp] theorem R.th_exc {α : Type} (c : Nat) (v : D) (M : Sto) (ρ : Env) (k : α → Sto → RS) : (R.exc c v M : R α).th ρ k = .exc c v ρ M := rfl
def optE (o : Option Env) (M : Sto) : RS := match o with
  | some ρ => .nx ρ M
  | none => .stuck
/-- o[i] = d -/
def setIx (o i d : D) (M : Sto) : Option Sto := match o, i with
  | .ref n, .p k => match M[n]? with
    | some (.lst xs) => match k with
      | .int i => (ixN xs.length i).map fun j => M.set n (.lst (xs.set j d))
      | _ => none
    | some (.dK kvs) => match keyOf k with
      | some k => if kvs.length < LIM then some (M.set n (.dK (put k d kvs))) else none
      | none => none
    | _ => none
  | _, _ => none
def putA (f : Str) (v : D) : List (Str × D) → List (Str × D)
  | [] => [(f, v)]
  | q :: r => if q.1 = f then (q.1, v) :: r else q :: putA f v r
def setF (o : D) (f : Str) (d : D) (M : Sto) : Option Sto := match o with
  | .ref n => match M[n]? with
    | some (.ins c fs) => if fs.length < 900 then some (M.set n (.ins c (putA f d fs))) else none
    | _ => none
  | _ => none
/-- the number in a field, and its instance's class -/
def augG (x : D) (f : Str) (M : Sto) : Option (Nat × Int) := match x with
  | .ref n => match M[n]? with
    | some (.ins c fs) => match fs.lookup f with
      | some (.p (.int a)) => some (c, a)
      | _ => none
    | _ => none
  | _ => none
def augP (x : D) (f : Str) (q : Nat × Int) (y : D) (M : Sto) : Option Sto := match x, y with
  | .ref n, .p (.int b) => match M[n]? with
    | some (.ins c fs) => if c = q.1 ∧ fs.length < 900 then some (M.set n (.ins c (putA f (.p (.int (q.2 + b))) fs))) else none
    | _ => none
  | _, _ => none
def stoE (o : Option Sto) (ρ : Env) : RS := match o with
  | some M => .nx ρ M
  | none => .stuck
def augD (x y : D) (M : Sto) : R D := match x with
  | .p (.int a) => match y with
    | .p (.int b) => .ok (.p (.int (a + b))) M
    | _ => .stuck
  | .ref n => match M[n]? with
    | some (.lst xs) => match lstD M y with
      | some ys => if xs.length + ys.length ≤ LIM then .ok (.ref n) (M.set n (.lst (xs ++ ys))) else .stuck
      | none => .stuck
    | _ => .stuck
  | _ => .stuck
def two : D → Option (D × D)
  | .tup [a, b] => some (a, b)
  | .p (.tup [a, b]) => some (.p a, .p b)
  | _ => none
/-- an exception of class k is kept in x -/
def catchX (g : Cg) (k n x : Nat) (r : RS) : RS := match r with
  | .exc c v ρ M => if xsub c k = true then if n < ρ.length ∧ x < ρ.length ∧ n ≠ x then match g.cf c with
      | [f] => .nx (((ρ.set n (some (.ref (M.length + 1)))).set x (some (.ref (M.length + 1)))).set n none) (M ++ [.xd f v] ++ [.xc c (some M.length)])
      | [] => .nx (((ρ.set n (some (.ref M.length))).set x (some (.ref M.length))).set n none) (M ++ [.xc c none])
      | _ => .stuck
      else .stuck
    else .stuck
  | r => r
mutual
def ex (g : Cg) : MS → Env → Sto → RS
  | .ex e, ρ, M => (ev g e ρ M).th ρ fun _ M => .nx ρ M
  | .asg t e, ρ, M => (ev g e ρ M).th ρ fun d M => optE (bindT t d ρ) M
  | .par is es, ρ, M => (evs g es ρ M).th ρ fun ds M => optE (setAll is ds ρ) M
  | .sub o i e, ρ, M => (ev g e ρ M).th ρ fun d M => (ev g o ρ M).th ρ fun x M => (ev g i ρ M).th ρ fun y M => stoE (setIx x y d M) ρ
  | .qs x o i a b, ρ, M => (ev g (.tup [a, b]) ρ M).th ρ fun d M => match two d with
    | some (da, db) => (ev g o (ρ.set x (some da)) M).th (ρ.set x (some da)) fun u M => (ev g i (ρ.set x (some da)) M).th (ρ.set x (some da)) fun y M => stoE (setIx u y db M) (ρ.set x (some da))
    | none => .stuck
  | .qs2 o i u j a b, ρ, M => (ev g (.tup [a, b]) ρ M).th ρ fun d M => match two d with
    | some (da, db) => (ev g o ρ M).th ρ fun x M => (ev g i ρ M).th ρ fun y M => (stoE (setIx x y da M) ρ).bind fun ρ M => (ev g u ρ M).th ρ fun x M => (ev g j ρ M).th ρ fun y M => stoE (setIx x y db M) ρ
    | none => .stuck
  | .setf o f e, ρ, M => (ev g e ρ M).th ρ fun d M => (ev g o ρ M).th ρ fun x M => stoE (setF x f d M) ρ
  | .aug i e, ρ, M => match ρ[i]? with
    | some (some x) => (ev g e ρ M).th ρ fun y M => (augD x y M).th ρ fun z M => .nx (ρ.set i (some z)) M
    | _ => .stuck
  | .ifs t a b, ρ, M => (evT g t ρ M).th ρ fun k M => match k with
    | true => exs g a ρ M
    | false => exs g b ρ M
  | .for_ t k es b, ρ, M => (evs g es ρ M).th ρ fun ds M => match items k ds M with
    | some its => forK (wat k ds) t (fun ρ M => exs g b ρ M) its ρ M
    | none => .stuck
  | .whl t b, ρ, M => whileL (fun ρ M => evT g t ρ M) (fun ρ M => exs g b ρ M) WF ρ M
  | .ret none, _, M => .rt (.p .non) M
  | .ret (some e), ρ, M => (ev g e ρ M).th ρ fun d M => .rt d M
  | .pass, ρ, M => .nx ρ M
  | .brk, ρ, M => .bk ρ M
  | .cont, ρ, M => .ct ρ M
  | .fz i, ρ, M => match ρ[i]? with
    | some (some (.ref n)) => match M[n]? with
      | some (.lst ds) => match toPs ds with
        | some xs => .nx (ρ.set i (some (.p (.lst xs)))) (M.set n .dead)
        | none => .stuck
      | some (.dK kvs) => match toPs (kvs.map (·.2)) with
        | some xs => .nx (ρ.set i (some (.p (.dK ((kvs.map (·.1)).zip xs))))) (M.set n .dead)
        | none => .stuck
      | _ => .stuck
    | _ => .stuck
  | .fzf i f, ρ, M => match ρ[i]? with
    | some (some (.ref n)) => match M[n]? with
      | some (.ins c fs) => match fs.lookup f with
        | some (.ref m) => match M[m]? with
          | some (.lst ds) => match toPs ds with
            | some xs => .nx ρ ((M.set n (.ins c (putA f (.p (.lst xs)) fs))).set m .dead)
            | none => .stuck
          | _ => .stuck
        | _ => .stuck
      | _ => .stuck
    | _ => .stuck
  | .rais c e, ρ, M => (ev g e ρ M).th ρ fun d M => .exc c d ρ M
  | .rais0 c, ρ, M => .exc c (.p .non) ρ M
  | .augf o f e, ρ, M => (ev g o ρ M).th ρ fun x M => match augG x f M with
    | none => .stuck
    | some q => (ev g e ρ M).th ρ fun y M => stoE (augP x f q y M) ρ
  | .tryx b k n x, ρ, M => catchX g k n x (exs g b ρ M)
  | .never, _, _ => .stuck
def exs (g : Cg) : List MS → Env → Sto → RS
  | [], ρ, M => .nx ρ M
  | s :: r, ρ, M => (ex g s ρ M).bind fun ρ M => exs g r ρ M
end
/-- how a def hands its answer out -/
def fin (cf : Nat → List Str) (md : Md) (M : Sto) (v : D) (M' : Sto) : Option (D × Sto) := match md with
  | .pure => if M = [] then (rd cf 0 M' FU v).map fun x => (.p x, []) else none
  | .own => if M = [] then match v with
      | .ref n => match M'[n]? with
        | some c => if c.flat = true then some (.ref 0, [c]) else none
        | none => none
      | .p x => some (.p x, [])
      | _ => none
    else none
  | .mut => if M.length = 1 then match M'[0]? with
      | some c => if c.flat = true then (rd cf 1 M' FU v).map fun x => (.p x, [c]) else none
      | none => none
    else none
  | .full => some (v, M')
  | .bor => none
  | .bow => none
/-- .. of an exception -/
def xmd : Md → Md
  | .own => .pure
  | m => m
/-- a def: how it is called, its number of names, of parameters, its body -/
structure Fd where
  md : Md
  n : Nat
  ps : Nat
  body : List MS
def startE (n : Nat) (ds : List D) : Env := ds.map some ++ List.replicate (n - ds.length) none
def outO (o : Option (D × Sto)) : R D := match o with
  | some (d, M) => .ok d M
  | none => .stuck
def outX (c : Nat) (o : Option (D × Sto)) : R D := match o with
  | some (d, M) => .exc c d M
  | none => .stuck
def run (g : Cg) (d : Fd) : Fn := fun ds M => if ds.length = d.ps then match exs g d.body (startE d.n ds) M with
    | .nx _ M' => outO (fin g.cf d.md M (.p .non) M')
    | .rt v M' => outO (fin g.cf d.md M v M')
    | .exc c v _ M' => outX c (fin g.cf (xmd d.md) M v M')
    | _ => .stuck
  else .stuck
end Mi

set_option maxRecDepth 100000
set_option maxHeartbeats 4000000
/-! An own exception whose __init__ says super().__init__(x); self.x = x: made. -/
namespace PySem
namespace OwnX
open PySem.W PySem.Calls PyProof.Rows PySem.HandSPX
def FN : List Str := ["value", "name", "number"]
def iA (f : Str) (p1 p2 p3 : Pos) : Arguments := { posonlyargs := [], args := [{ arg := "self", annotation := none, pos := p1 }, { arg := f, annotation := none, pos := p2 }], vararg := none, kwonlyargs := [], kw_defaults := [], kwarg := none, defaults := [.Constant .none 0 p3] }
def iB (f : Str) (a1 a2 a3 a4 a5 a6 a7 a8 a9 b1 : Pos) : List Stmt := [.Expr (.Call (.Attribute (.Call (.Name "super" a1) [] [] a2) "__init__" a3) [.Name f a4] [] a5) a6, .Assign [.Attribute (.Name "self" a7) f a8] (.Name f a9) b1]
def iS (f : Str) : Scope := { kind := .function, names := [(PySem.Str.ofString "self", .local), (f, .local), (PySem.Str.ofString "__class__", .free), (PySem.Str.ofString "super", .globalImplicit)], isGenerator := false, isCoroutine := false, more := [] }
/-- what the written part says of the class, at C, and of its __init__, at fI -/
structure XTxt (K : Frag) (prog : Program) (C fI : Addr) (q f : Str) : Prop where
  fn_ : f ∈ FN
  cls : ∃ nm q N bs bm sn sub ab col dd k0 k1 k2 k3 k5, K.lookup C = some (excClassObj nm q C N bs bm true sn sub ab col dd k0 k1 k2 k3 k5 "ValueError.__new__") ∧ refsVE bm = true ∧ alongIn K "__init__" bm = some (some (.builtin "ValueError.__init__"))
  sa : findIn K (.ref C) "__setattr__" = some (some (.builtin "object.__setattr__"))
  ga : findIn K (.ref C) "__getattribute__" = some (some (.builtin "BaseException.__getattribute__"))
  gg : findIn K (.ref C) "__getattr__" = some none
  noN : findIn K (.ref C) f = some none
  iC : findIn K (.ref C) "__init__" = some (some (.ref fI))
  tC : typeIn K (.ref fI) = some (.type "function")
  kC : keepIn K (.ref C) = true
  exC : subIn K (.ref C) (.type "BaseException") = some true
  veC : subIn K (.ref C) (.type "ValueError") = some true
  meC : mroIn K C (.ref C) = some true
  tyC : typeIn K (.ref C) = some (.type "type")
  hdC : hasDictIn K C = true
  opq : nsIn K cStatics "thirdparty.any" = some none
  sup : nsIn K mainGlobals "super" = some none
  top : (prog.main.scope.names.lookup ("super" : Str)).isSome = false
  fn : ∃ (oc : Value) (od : Option Addr) (doc pm : Value) (an : Option Addr) (cda : Addr) (ct : Value) (osl : Array (Option Value)) (T : Addr) (oT : Obj) (n : Nat) (cc : Addr) (cl : Value) (cld : Option Addr) (csl : Array (Option Value)) (ccl : Value) (cdd : Option Addr) (vs : Array Value) (ccs : Array (Option Value)) (file : Str) (tf : Tok) (p1 p2 p3 a1 a2 a3 a4 a5 a6 a7 a8 a9 b1 : Pos),
    K.lookup fI = some ⟨oc, od, .func (ksFn "__init__" q (iA f p1 p2 p3) (iB f a1 a2 a3 a4 a5 a6 a7 a8 a9 b1) (iS f) (.ref T) .none doc pm an (.ref cda) ct cc), osl⟩ ∧ codeIn K (.ref cda) q = true ∧
    K.lookup T = some oT ∧ oT.data = .seq #[.none] n ∧ K.lookup cc = some ⟨cl, cld, .cell (some (.ref C)), csl⟩ ∧ K.lookup cda = some ⟨ccl, cdd, .fields vs, ccs⟩ ∧ vs[2]? = some (.str file tf) ∧ ((prog.main.file : Str) == file) = true ∧ (a3.endLine == a5.line) = true
theorem one_size (v : Value) : [v].length ≤ sizeLine := by
  rw [sizeLine_eq]
  exact (by decide : 1 ≤ 16777216)
/-- what __init__ leaves of a fresh exception at x -/
structure InitEnd (h h' : Heap) (x C dx t1 : Addr) (f : Str) (v : Value) : Prop where
  keep : ∀ b o, b ≠ x → h.get? b = some o → h'.get? b = some o
  obj : h'.get? x = some { cls := .ref C, dict := some dx, data := .fields #[.ref t1, .none, .none, .none, .bool false, .none] }
  dbig : h.objs.size ≤ dx
  dne : dx ≠ x
  ns : h'.Ns1 dx (fun y => if y = f then some v else none)
section
variable {prog : Program} {w : World} {A : Around} {E : Value → Shared → Prop} {R : Result → Shared → Prop} {s : Shared} {K : Frag} {mg : Str → Option Value} {C fI : Addr} {q f : Str}
theorem call_mw {u e t0 : Addr} {rest : List Value} {Q : Value → Shared → Prop} {h : Heap} {g : Array GenState} {d : Drawn} {t : Nat} {os : OsState}
    (hC : ∃ nm q N bs bm sn sub ab col dd k0 k1 k2 k3 k5, h.get? C = some (excClassObj nm q C N bs bm true sn sub ab col dd k0 k1 k2 k3 k5 "ValueError.__new__")) (he : h.get? e = some (excO C t0)) (hu : h.get? u = some (kxs_mw "ValueError.__init__" e)) (hrest : rest.length ≤ sizeLine)
    (hq : ∀ h' t1, (∀ b o, b ≠ e → h.get? b = some o → h'.get? b = some o) → h.objs.size ≤ h'.objs.size → h'.get? e = some (excO C t1) → Q .none ⟨h', g, d, t, os⟩) :
    wpAny (model prog w) A (call (.ref u) rest) Q E ⟨h, g, d, t, os⟩ := by
  obtain ⟨nm, q, N, bs, bm, sn, sub, ab, col, dd, k0, k1, k2, k3, k5, hC⟩ := hC
  have VE := F.excBase_ValueError
  apply wpAny_call
  apply codeAny_of_tree
  change wpAny _ A.in1 (callAny (.ref u) ⟨rest, []⟩) _ _ _
  unfold callAny
  apply wpAny_bind
  apply wpAny_load hu
  dsimp only
  repeat rw [if_pos (by decide)]
  apply wpAny_bind
  refine check_bound_init (oe := excO C t0) VE.toExcCallFacts hC he (by rfl) ?_
  unfold again
  apply wpAny_pure
  constructor
  · exact plainId_quiet VE.init.plain _
  apply codeAny_builtin VE.initEntry
  refine exc_init_tree (cls := .ref C) (t0 := t0) (dv := none) (c2 := .none) (c3 := .none) (b4 := .bool false) he hrest fun h' k e' t' => ?_
  exact hq h' h.objs.size k (Nat.le_of_lt (Heap.lt_size t')) e'
theorem super_tree {o : Expr} {x : Str} {ap pos : Pos} {f0 : Str} {p0 : Pos} {env : PySem.Env} (hl : (ap.endLine == pos.line) = true) : eval (.Call (.Attribute o x ap) [.Name f0 p0] [] pos) env = (do
      let ov ← attributeBase o x env (eval o env)
      standAt ap.atName
      let (f, first) ← holding [ov] (getMethod ov x (do return (← importBound o env).getD true))
      callWith pos f first (backTo pos (starEach [.Name f0 p0] env)) []) := by
  have hf : methodCallForm ([Expr.Name f0 p0].length + ([] : List Keyword).length) (backTo pos (starEach [.Name f0 p0] env)) (backToKw pos (keywordEach [] env)) = true := rfl
  rw [arm_eval_Call]
  unfold methodCall calleeOf methodCallPos
  simp only [hf, hl, if_true, Bool.not_true, Bool.or_true, pure_bind]
  rfl
/-- how the arguments of __init__ bind -/
def XBnd (K : Frag) (s : Shared) (f : Str) (args : Args) (x : Addr) (v : Value) : Prop := ∀ (q : Str) (T : Addr) (oT : Obj) (n : Nat) (doc pm : Value) (an : Option Addr) (cda : Addr) (ct : Value) (cc : Addr) (p1 p2 p3 a1 a2 a3 a4 a5 a6 a7 a8 a9 b1 : Pos),
  K.lookup T = some oT → oT.data = .seq #[.none] n → BindsTo s (ksFn "__init__" q (iA f p1 p2 p3) (iB f a1 a2 a3 a4 a5 a6 a7 a8 a9 b1) (iS f) (.ref T) .none doc pm an (.ref cda) ct cc) args [("self", .ref x), (f, v)]
theorem xbnd_of (hfn : f ∈ FN) (X : K.In s.heap) {args : Args} {x : Addr} {v : Value} (e1 : ∀ (q : Str) (TT : Addr) (doc pm : Value) (an : Option Addr) (cda : Addr) (ct : Value) (cc : Addr) (p1 p2 p3 a1 a2 a3 a4 a5 a6 a7 a8 a9 b1 : Pos), ∃ k, bindArgs (ksFn "__init__" q (iA f p1 p2 p3) (iB f a1 a2 a3 a4 a5 a6 a7 a8 a9 b1) (iS f) (.ref TT) .none doc pm an (.ref cda) ct cc) args = seqItems? (.ref TT) >>= k ∧ k (some #[.none]) = pure [(("self" : Str), .ref x), (f, v)]) : XBnd K s f args x v := by
  intro q TT oT n doc pm an cda ct cc p1 p2 p3 a1 a2 a3 a4 a5 a6 a7 a8 a9 b1 hT hTd
  refine L2.BindsTo.of_looks fun M => ?_
  obtain ⟨k, e1, e2⟩ := e1 q TT doc pm an cda ct cc p1 p2 p3 a1 a2 a3 a4 a5 a6 a7 a8 a9 b1
  rw [e1]
  exact L2.looks_items (its := #[.none]) X hT hTd (.of_pure e2)
theorem xbnd1 (hfn : f ∈ FN) (X : K.In s.heap) {x : Addr} {v : Value} : XBnd K s f ⟨[.ref x, v], []⟩ x v := xbnd_of hfn X fun q TT doc pm an cda ct cc p1 p2 p3 a1 a2 a3 a4 a5 a6 a7 a8 a9 b1 => by
  simp only [FN, List.mem_cons, List.not_mem_nil, or_false] at hfn
  rcases hfn with rfl | rfl | rfl <;> exact ⟨_, rfl, rfl⟩
theorem xbndK (hfn : f ∈ FN) (X : K.In s.heap) {x : Addr} {v : Value} : XBnd K s f ⟨[.ref x], [(f, v)]⟩ x v := xbnd_of hfn X fun q TT doc pm an cda ct cc p1 p2 p3 a1 a2 a3 a4 a5 a6 a7 a8 a9 b1 => by
  simp only [FN, List.mem_cons, List.not_mem_nil, or_false] at hfn
  rcases hfn with rfl | rfl | rfl <;> exact ⟨_, rfl, rfl⟩
theorem xbnd0 (hfn : f ∈ FN) (X : K.In s.heap) {x : Addr} : XBnd K s f ⟨[.ref x], []⟩ x .none := xbnd_of hfn X fun q TT doc pm an cda ct cc p1 p2 p3 a1 a2 a3 a4 a5 a6 a7 a8 a9 b1 => by
  simp only [FN, List.mem_cons, List.not_mem_nil, or_false] at hfn
  rcases hfn with rfl | rfl | rfl <;> exact ⟨_, rfl, rfl⟩
theorem own_initB (T : XTxt K prog C fI q f) {x t0 : Addr} {v : Value} {args : Args} (X : K.In s.heap) (Md : L2.Mod K mg s.heap) (hx : s.heap.get? x = some (excO C t0)) (hnx : K.lookup x = none) (hroom : A.depth < recursionLimit) (hB : XBnd K s f args x v)
    (hq : ∀ h' tk dx t1, InitEnd s.heap h' x C dx t1 f v → R (.ok (.ret .none)) { s with heap := h', toks := tk }) :
    codeAny (model prog w) A (.call (.ref fI) args) R s := by
  obtain ⟨oc, od, doc, pm, an, cda, ct, osl, TT, oT, n, cc, cl, cld, csl, ccl, cdd, vs, ccs, file, tf, p1, p2, p3, a1, a2, a3, a4, a5, a6, a7, a8, a9, b1, ho, hcd, hT, hTd, hcc, hcda, hvs, hfile, hline⟩ := T.fn
  obtain ⟨nm, qq, N, bs, bm, sn, sub, ab, col, dd, k0, k1, k2, k3, k5, hC, hbm, hal⟩ := T.cls
  have hcl : clsIn K C = some { name := nm, bases := bs, mro := .ref C :: bm, ns := N, qualname := qq, hasDict := true, slotNames := sn, subclasses := sub, abstract := ab, collection := col, hasDel := false } := by unfold clsIn; rw [hC] <;> rfl
  have hfn := T.fn_
  have hbind : BindsTo s (ksFn "__init__" q (iA f p1 p2 p3) (iB f a1 a2 a3 a4 a5 a6 a7 a8 a9 b1) (iS f) (.ref TT) .none doc pm an (.ref cda) ct cc) args [("self", .ref x), (f, v)] := hB q TT oT n doc pm an cda ct cc p1 p2 p3 a1 a2 a3 a4 a5 a6 a7 a8 a9 b1 hT hTd
  have l0 : (iS f).names.lookup ("self" : Str) = some .local := rfl
  have l1 : (iS f).names.lookup f = some .local := by
    simp only [FN, List.mem_cons, List.not_mem_nil, or_false] at hfn
    rcases hfn with rfl | rfl | rfl <;> rfl
  have l2 : (iS f).names.lookup ("super" : Str) = some .globalImplicit := by
    simp only [FN, List.mem_cons, List.not_mem_nil, or_false] at hfn
    rcases hfn with rfl | rfl | rfl <;> rfl
  have l3 : (iS f).names.lookup ("__class__" : Str) = some .free := by
    simp only [FN, List.mem_cons, List.not_mem_nil, or_false] at hfn
    rcases hfn with rfl | rfl | rfl <;> rfl
  have ldb : (f == ("__debug__" : Str)) = false := by
    simp only [FN, List.mem_cons, List.not_mem_nil, or_false] at hfn
    rcases hfn with rfl | rfl | rfl <;> rfl
  have bs : ([(("self" : Str), Value.ref x), (f, v)].reverse.lookup ("self" : Str)) = some (.ref x) := by
    simp only [FN, List.mem_cons, List.not_mem_nil, or_false] at hfn
    rcases hfn with rfl | rfl | rfl <;> rfl
  have bf : ([(("self" : Str), Value.ref x), (f, v)].reverse.lookup f) = some v := by
    simp only [FN, List.mem_cons, List.not_mem_nil, or_false] at hfn
    rcases hfn with rfl | rfl | rfl <;> rfl
  refine ks_codeAny_call_defAt (fd := ksFn "__init__" q (iA f p1 p2 p3) (iB f a1 a2 a3 a4 a5 a6 a7 a8 a9 b1) (iS f) (.ref TT) .none doc pm an (.ref cda) ct cc) (body := iB f a1 a2 a3 a4 a5 a6 a7 a8 a9 b1) hroom (X _ _ ho) rfl Md.nolimit (codeRec_of X hcd) rfl hbind (fun y hy => ?_) (fun y hy => ?_) (fun h₁ hn k => ?_) rfl rfl rfl
  · have hy : y ∈ (iS f).names := hy
    simp only [iS, List.mem_cons, List.not_mem_nil, or_false] at hy
    rcases hy with rfl | rfl | rfl | rfl <;> intro z <;> cases z
  · simp only [List.mem_cons, List.not_mem_nil, or_false] at hy
    rcases hy with rfl | rfl
    · exact l0
    · exact l1
  have X₁ : K.In h₁ := X.keeps k
  have hx₁ := k _ _ hx
  have hxL : x ≠ s.heap.objs.size := Nat.ne_of_lt (Heap.lt_size hx)
  obtain ⟨hp, g, d, t, os⟩ := s
  dsimp only at hx k hn hxL ⊢
  -- super().__init__(f)
  show _root_.PySem.wpAt (model prog w) _ (.func (iB f a1 a2 a3 a4 a5 a6 a7 a8 a9 b1) (ksEnv q (iS f) hp.objs.size fI (.ref cda) cc)) (execs (iB f a1 a2 a3 a4 a5 a6 a7 a8 a9 b1) (ksEnv q (iS f) hp.objs.size fI (.ref cda) cc)) _ _ _
  refine ks_wpAt_execs_cons (ks_wpAt_Expr_any (ks_wpAt_MethodCall ?_ (super_tree hline)) rfl (by rfl))
  refine ks_wpAt_super_base (env := ksEnv q (iS f) hp.objs.size fI (.ref cda) cc) l2 l3 rfl rfl (X₁ _ _ ho) rfl rfl rfl (X₁ _ _ hcda) rfl hvs hfile T.top ?_
  obtain ⟨mb, hb1, hb2⟩ := Md.blt
  refine ks_loadName_global rfl l2 (loadGlobal_builtin (env := ksEnv q (iS f) hp.objs.size fI (.ref cda) cc) (Md.glob.keeps k) (mg_none_of X Md.glob T.sup) (hb1.keeps k) ((hb2 _ (by decide +kernel)).trans (show bootBuiltins "super" = some (.type "super") by decide +kernel)) ⟨rfl, ?_⟩)
  refine wpAny_loadName_free rfl l3 rfl ⟨_, X₁ _ _ hcc, rfl⟩ ?_
  refine wpAny_loadName_local rfl l0 hn bs ?_
  have hC₁ := X₁ _ _ hC
  refine ks_wpAny_isType_cls hC₁ rfl ⟨rfl, ?_⟩
  refine ks_wpAny_call_super hC₁ rfl hx₁ rfl (fun c e => by cases e) (looks_mroIn X₁ T.meC) (fun h₂ hso k₂ => ?_)
  -- .__init__
  have X₂ : K.In h₂ := X₁.keeps k₂
  have hx₂ := k₂ _ _ hx₁
  have hT₂ : Looks (model prog w) h₂ (typeOf (.ref x)) (.ref C) := fun A Q E s k q => wpAny_typeOf_ref (k _ _ hx₂) q
  have hI : Looks (model prog w) h₂ (isInstance (.ref x) (.type "ValueError")) true := hT₂.andThen (looks_subIn X₂ T.veC)
  have hxC : x ≠ C := fun z => by rw [z, hC] at hnx; cases hnx
  refine kxs_getMethod kxs_ValueError hso (looks_opaque X₂ T.opq) (l₀ := .ref C :: bm) (l := bm) ?_ (by simp [List.dropWhile_cons]) X₂ hal hI hxC rfl ?_
  · exact fun A Q E s k q => wpAny_bind ((looks_clsIn X₂ hcl) A _ E s k (wpAny_pure q))
  have hu : (h₂.push (kxs_mw "ValueError.__init__" x)).get? h₂.objs.size = some (kxs_mw "ValueError.__init__" x) := Heap.get?_push_size h₂ rfl
  have k₃ : ∀ b o, h₂.get? b = some o → (h₂.push (kxs_mw "ValueError.__init__" x)).get? b = some o := fun b o e => Heap.get?_push_of_some _ e
  generalize hh3 : h₂.push (kxs_mw "ValueError.__init__" x) = h₃ at *
  have ns₃ : h₃.Ns hp.objs.size (fun y => [(("self" : Str), Value.ref x), (f, v)].reverse.lookup y) := (hn.keeps k₂).keeps k₃
  have he : starEach [.Name f a4] (ksEnv q (iS f) hp.objs.size fI (.ref cda) cc) = (false, eval (.Name f a4) (ksEnv q (iS f) hp.objs.size fI (.ref cda) cc)) :: starEach [] (ksEnv q (iS f) hp.objs.size fI (.ref cda) cc) := rfl
  show wpAny _ _ (callWith a5 (.ref h₂.objs.size) [] (backTo a5 (starEach [.Name f a4] (ksEnv q (iS f) hp.objs.size fI (.ref cda) cc))) []) _ _ _
  rw [he]
  refine kxs_callWith (i := "ValueError.__init__") (x := x) rfl (evalArgs_plain ?_)
  show wpAny _ _ (spliced (backTo a5 (starEach [.Name f a4] (ksEnv q (iS f) hp.objs.size fI (.ref cda) cc)))) _ _ _
  refine spliced_more (wpAny_Name (wpAny_loadName_local rfl l1 ns₃ bf (spliced_none ⟨hu, ?_⟩)) ldb)
  have hC₃ := k₃ _ _ (k₂ _ _ hC₁)
  have hx₃ := k₃ _ _ hx₂
  refine call_mw ⟨_, _, _, _, _, _, _, _, _, _, _, _, _, _, _, hC₃⟩ hx₃ hu (one_size v) fun h₄ t1 k₄ sz₄ hx₄ => ?_
  -- self.f = f
  have kx : ∀ b o, b ≠ x → hp.get? b = some o → h₄.get? b = some o := fun b o hb e => k₄ b o hb (k₃ _ _ (k₂ _ _ (k _ _ e)))
  have X₄ : K.In h₄ := fun b o e => kx b o (fun z => by rw [z, hnx] at e; cases e) (X b o e)
  have ns₄ : h₄.Ns hp.objs.size (fun y => [(("self" : Str), Value.ref x), (f, v)].reverse.lookup y) := ns₃.at fun o e => k₄ _ o (Ne.symm hxL) e
  show _root_.PySem.wpAt (model prog w) _ _ (execs [.Assign [.Attribute (.Name "self" a7) f a8] (.Name f a9) b1] (ksEnv q (iS f) hp.objs.size fI (.ref cda) cc)) _ _ _
  refine ks_wpAt_execs_cons (ks_wpAt_Assign_Attr (wpAt_of_wpAny (wpAny_Name (wpAny_loadName_local rfl l1 ns₄ bf ?_) ldb)) (by rfl))
  refine wpAny_Name (wpAny_loadName_local rfl l0 ns₄ bs ?_) (by decide)
  refine set_plain X₄ (ox := excO C t1) (od := none) ⟨hx₄, rfl, rfl, trivial⟩ T.sa ?_
  refine exc_osa X₄ hx₄ hcl (show refsVE (.ref C :: bm) = true from hbm) rfl T.noN (fun h₅ tk₅ dx k₅ dn dne hx₅ hn₅ => ?_)
  have z : hp.objs.size < h₁.objs.size := hn.lt
  have z2 : h₁.objs.size ≤ h₂.objs.size := by
    obtain ⟨o, e⟩ : ∃ o, h₂.get? h₁.objs.size = some o := ⟨_, hso⟩
    exact Nat.le_of_lt (Heap.lt_size e)
  have z3 : h₂.objs.size ≤ h₃.objs.size := Nat.le_of_lt (Heap.lt_size hu)
  refine wpAt_of_wpAny (wpAny_execs_nil ?_)
  exact hq h₅ tk₅ dx t1 ⟨fun b o hb e => k₅ b o hb (kx b o hb e), hx₅, Nat.le_trans (Nat.le_trans (Nat.le_trans (Nat.le_of_lt z) z2) (Nat.le_trans z3 sz₄)) dn, dne, hn₅⟩
theorem own_init (T : XTxt K prog C fI q f) {x t0 : Addr} {v : Value} (X : K.In s.heap) (Md : L2.Mod K mg s.heap) (hx : s.heap.get? x = some (excO C t0)) (hnx : K.lookup x = none) (hroom : A.depth < recursionLimit)
    (hq : ∀ h' tk dx t1, InitEnd s.heap h' x C dx t1 f v → R (.ok (.ret .none)) { s with heap := h', toks := tk }) :
    codeAny (model prog w) A (.call (.ref fI) ⟨[.ref x, v], []⟩) R s := own_initB T X Md hx hnx hroom (xbnd1 T.fn_ X) hq
end
end OwnX
end PySem

set_option maxRecDepth 100000
set_option maxHeartbeats 4000000
/-! .. made by a call; raised; caught and kept. -/
namespace PySem
namespace OwnX
open PySem.W PySem.Calls PyProof.Rows PySem.HandSPX
/-- a made one -/
structure OwnMade (h h' : Heap) (e C d : Addr) (f : Str) (v : Value) : Prop where
  keep : ∀ b o, h.get? b = some o → h'.get? b = some o
  new : h.objs.size ≤ e
  obj : ∃ oe vs, h'.get? e = some oe ∧ oe.cls = .ref C ∧ oe.dict = some d ∧ oe.data = .fields vs ∧ vs[1]? = some .none
  dbig : h.objs.size ≤ d
  dne : d ≠ e
  ns : h'.Ns1 d (fun y => if y = f then some v else none)
section
variable {prog : Program} {w : World} {A : Around} {E : Value → Shared → Prop} {R : Result → Shared → Prop} {s : Shared} {K : Frag} {mg : Str → Option Value} {C fI : Addr} {q f : Str}
theorem Mod.up {base h h' : Heap} (M : L2.Mod K mg h) (k : ∀ b o, h.get? b = some o → h'.get? b = some o) : L2.Mod K mg h' := by
  obtain ⟨mb, h1, h2⟩ := M.blt
  exact ⟨M.kin.keeps k, M.glob.keeps k, ⟨mb, h1.keeps k, h2⟩, M.nolimit.keeps k⟩
theorem own_made (T : XTxt K prog C fI q f) {v : Value} (X : K.In s.heap) (Md : L2.Mod K mg s.heap) (hroom : A.depth + 1 < recursionLimit)
    (hq : ∀ h' tk e d, OwnMade s.heap h' e C d f v → R (.ok (.ret (.ref e))) { s with heap := h', toks := tk }) :
    codeAny (model prog w) A (.call (.ref C) ⟨[v], []⟩) R s := by
  obtain ⟨nm, qq, N, bs, bm, sn, sub, ab, col, dd, k0, k1, k2, k3, k5, hC, hbm, _⟩ := T.cls
  obtain ⟨hp, g, dr, tk, os⟩ := s
  have k : ∀ b o, hp.get? b = some o → ((hp.push (kdv_tup [v])).push (excO C hp.objs.size)).get? b = some o := fun b o e => Heap.get?_push_of_some _ (Heap.get?_push_of_some _ e)
  have hget : ((hp.push (kdv_tup [v])).push (excO C hp.objs.size)).get? (hp.objs.size + 1) = some (excO C hp.objs.size) := by heap_get
  have hnx : K.lookup (hp.objs.size + 1) = none := by
    cases e : K.lookup (hp.objs.size + 1) with
    | none => rfl
    | some o =>
      have z : hp.get? (hp.objs.size + 1) = some o := X _ _ e
      exact absurd (Nat.lt_of_succ_lt (Heap.lt_size z)) (Nat.lt_irrefl _)
  refine call_own F.excBase_ValueError (fun X => refsVE_contains X bm hbm) (X _ _ hC) (looks_findIn X T.iC) (fun self => bind_fn X self T.tC) (one_size v) ?_
  refine own_init (mg := mg) (s := ⟨(hp.push (kdv_tup [v])).push (excO C hp.objs.size), g, dr, tk, os⟩) T (X.keeps k) (Mod.up (base := hp) Md k) hget hnx ?_ fun h' tk' dx t1 ⟨k', hx, dn, dne, hns⟩ => ?_
  · show A.depth + 1 < recursionLimit
    exact hroom
  · have old : ∀ b o, hp.get? b = some o → h'.get? b = some o := fun b o e => k' b o (Nat.ne_of_lt (Nat.lt_succ_of_lt (Heap.lt_size e))) (k b o e)
    have z : hp.objs.size + 1 + 1 ≤ dx := by
      first
        | (simpa only [Heap.size_push] using dn)
        | exact dn
        | (have q := dn; rw [Heap.size_push, Heap.size_push] at q; exact q)
    exact ⟨rfl, hq h' tk' (hp.objs.size + 1) dx ⟨old, Nat.le_succ _, ⟨_, _, hx, rfl, rfl, rfl, rfl⟩, Nat.le_trans (Nat.le_trans (Nat.le_succ _) (Nat.le_succ _)) z, dne, hns⟩⟩
end
end OwnX
end PySem
namespace L2
open PySem PySem.Spec PyProof.Rows
theorem relO_own {f0 : Str} {v : V} {v' : Value} (r : RelV v v') (f : Str) : RelO (List.lookup f [(f0, v)]) (if f = f0 then some v' else none) := by
  by_cases hw : f = f0
  · subst hw
    rw [if_pos rfl]
    have q : List.lookup f [(f, v)] = some v := by simp [List.lookup]
    rw [q]
    exact r
  · rw [if_neg hw]
    have qw : (f == f0) = false := by simpa using hw
    have q2 : List.lookup f [(f0, v)] = none := by simp [List.lookup, qw]
    rw [q2]
    trivial
section
variable {X : Cx} {C fI : Addr} {x q f : Str}
def tMkOwn (C : Addr) (f : Str) (ta : TA) : St → Hp → XK → Prop := fun σ H Q => ta σ H fun vs H1 => ∃ v, vs = [v] ∧ ∀ d, H1 d = none → Q (.ref C) (some d) (upd H1 d (.xd [(f, v)]))
theorem pmk_ownX {a : Expr} {ta : TA} {p pos : Pos} {k : Nat} (T : PySem.OwnX.XTxt X.K X.prog C fI q f) (hr : Room k X.A) (gC : X.mg x = some (.ref C)) (hdb : (x == ("__debug__" : Str)) = false) (ha : PA X [a] ta) (hg : Gl X x)
    (he : starEach (a :: []) X.env = (false, eval a X.env) :: starEach [] X.env := by rfl) (hpl : (backTo pos (starEach [] X.env)).any (·.1) = false := by rfl) :
    PMk X (.Call (.Name x p) [a] [] pos) (tMkOwn C f ta) := by
  intro pins s σ H Q I h
  refine wpAny_Call_Name_kw (ld_glob I hg gC ?_ hdb)
  refine PySem.W.callWith_K (h₀ := X.base) I.ok.mod.kin T.kC (thn (ha.run pos pins s σ H _ I h) fun us s1 hh => ?_) he hpl
  obtain ⟨vs, H1, I1, r1, v, ev, q1⟩ := hh
  subst ev
  refine ⟨I1.kIn, ?_⟩
  cases r1 with
  | cons rv rn =>
    rename_i v' us'
    cases rn
    show wpAny _ _ (call (.ref C) [v']) _ _ _
    have hmod : Mod X.K X.mg s1.heap := PySem.OwnX.Mod.up (base := s1.heap) I1.ok.mod I1.bk
    obtain ⟨hp, g, dr, tk, os⟩ := s1
    refine wpAny_call (PySem.OwnX.own_made (mg := X.mg) T I1.kIn hmod (by have := hr.dp; omega) fun h' tk' e d M => ?_)
    show MkP X pins σ Q (.ref e) ⟨h', g, dr, tk', os⟩
    obtain ⟨oe, fv, hoe, hc, hd, hdat, h1⟩ := M.obj
    have hns := M.ns
    obtain ⟨G', g1, g2⟩ := restrict h' fun b => decide (b ≠ e)
    have gk : ∀ b, b ≠ e → G'.get? b = h'.get? b := fun b hb => g1 b (decide_eq_true hb)
    have ge : G'.get? e = none := g2 e (by simp)
    have old : ∀ b o, hp.get? b = some o → G'.get? b = some o := fun b o q => (gk b (Nat.ne_of_lt (Nat.lt_of_lt_of_le (Heap.lt_size q) M.new))).trans (M.keep b o q)
    have ob : ObjOk X.prog X.w (upd H1 d (.xd [(f, v)])) G' d (.xd [(f, v)]) :=
      ⟨_, hns.at (fun o q => (gk d M.dne).trans q), fun f => relO_own rv f⟩
    have J : Inv X pins σ (upd H1 d (.xd [(f, v)])) ⟨G', g, dr, tk', os⟩ := I1.laid (t' := tk') old M.dbig ob
    refine ⟨e, oe, fv, ⟨G', g, dr, tk', os⟩, _, .ref C, some d, rfl, J, fun b o q => ?_, ge, hoe, ⟨hc, hd⟩, hdat, h1, ?_, rfl, I1.bare, raises_own T.exC T.tyC, q1 d (I1.hok.fresh M.dbig)⟩
    · by_cases hb : b = e
      · have q' : G'.get? b = some o := q
        rw [hb, ge] at q'; cases q'
      · exact (gk b hb).symm.trans q
    · rw [upd_ne (Ne.symm M.dne)]
      exact I1.hok.fresh M.new
end
end L2

set_option maxRecDepth 100000
set_option maxHeartbeats 4000000
/-! An exception that is caught and kept as a value. -/
namespace L2
open PySem PySem.Spec PyProof.Rows
/-- an exception at a, of this class, with this dict -/
def exK (a : Addr) (cls : Value) (d : Option Addr) : HO := .ext fun h => ∃ (oe : Obj) (vs : Array Value), h.get? a = some oe ∧ Zc cls d oe ∧ oe.data = .fields vs
section
variable {X : Cx} {pins : List (Addr × Obj)} {σ : St} {H : Hp} {s : Shared}
theorem HOk.same {P : Program} {w : World} {h : Heap} {a : Addr} {o : HO} (x : HOk P w H h) (hn : H a = none) (new : ObjOk P w (upd H a o) h a o) : HOk P w (upd H a o) h := fun b u e => by
  by_cases hb : b = a
  · subst hb
    rw [upd_same] at e
    cases e
    exact new
  · rw [upd_ne hb] at e
    exact (x b u e).stay (fun c v _ q => q) (fun c q => by rw [upd_ne (ne_of_none q hn)]; exact q) fun c xs q => by rw [upd_ne (ne_of_none q hn)]; exact q
theorem Inv.track {a : Addr} {oe : Obj} {vs : Array Value} {cls : Value} {d : Option Addr} (I : Inv X ((a, oe) :: pins) σ H s) (h0 : X.s_0.heap.get? a = none) (hz : Zc cls d oe) (hd : oe.data = .fields vs) (hp : ∀ p ∈ X.pn ++ pins, p.1 ≠ a) : Inv X pins σ (upd H a (exK a cls d)) s := by
  obtain ⟨ha, hn, nL, nF, _⟩ := I.pin (a, oe) (List.mem_append_right _ List.mem_cons_self)
  have hn : H a = none := hn
  have ha : s.heap.get? a = some oe := ha
  refine ⟨I.ok, I.os, I.bare, ⟨I.base.keep, I.base.slot, fun b o e n hx => ?_, I.base.there, fun b xs e => ?_, fun b o u e => ?_, fun b ps e => ?_⟩, I.loc, I.cell, ?_, fun x c e => ?_, fun p hpp => ?_, I.hok.same hn ⟨⟨oe, vs, ha, hz, hd⟩, ⟨oe, ha⟩, fun h1 h2 ⟨oe, vs, e, z, d⟩ k => ⟨oe, vs, k _ e, z, d⟩⟩, I.len⟩
  · rw [upd_ne (fun z => by rw [z, h0] at e; cases e)]
    exact I.base.free b o e n hx
  · have := I.base.tups b xs e
    rw [upd_ne (ne_of_none this hn)]; exact this
  · have := I.base.frzs b o u e
    rw [upd_ne (ne_of_none this hn)]; exact this
  · obtain ⟨more, this⟩ := I.base.tbls b ps e
    exact ⟨more, by rw [upd_ne (ne_of_none this hn)]; exact this⟩
  · rw [upd_ne (Ne.symm nL)]; exact I.free
  · have hc := I.freeC x c e
    rw [upd_ne]
    · exact hc
    · intro z
      obtain ⟨v, o, ho, hv⟩ := I.cell x c e
      rw [z, ha] at ho
      cases ho
      rw [hd] at hv
      cases hv
  · have hm : p ∈ X.pn ++ (a, oe) :: pins := by
      rcases List.mem_append.mp hpp with z | z
      · exact List.mem_append_left _ z
      · exact List.mem_append_right _ (List.mem_cons_of_mem _ z)
    obtain ⟨e1, e2, e3⟩ := I.pin p hm
    exact ⟨e1, by rw [upd_ne (hp p hpp)]; exact e2, e3⟩
theorem Inv.unsuiteK {a : Addr} {q : Addr × Obj} {pn' : List (Addr × Obj)} (I : Inv (X.suite a (q :: (X.pn ++ pins))) pn' σ H s) (ok : X.Ok) : Inv X (q :: pins) σ H s :=
  ⟨ok, I.os, I.bare, I.base, I.loc, I.cell, I.free, I.freeC, fun p hp => I.pin p (List.mem_append_left _ (by
    rcases List.mem_append.mp hp with z | z
    · exact List.mem_cons_of_mem _ (List.mem_append_left _ z)
    · rcases List.mem_cons.mp z with z | z
      · exact z ▸ List.mem_cons_self
      · exact List.mem_cons_of_mem _ (List.mem_append_right _ z))), I.hok, I.len⟩
end
/-- an exception that reached this frame's clause: younger than the frame, no frame, pinned by nobody -/
structure Born (X : Cx) (pins : List (Addr × Obj)) (a : Addr) : Prop where
  n0 : X.s_0.heap.get? a = none
  pn : ∀ p ∈ X.pn ++ pins, p.1 ≠ a
  nl : a ≠ X.env.locals
  nf : a ∉ X.fs
/-- the def's own frame stands on top -/
structure Top1 (X : Cx) : Prop where
  stk : X.stack = X.env :: X.outer
  frm : X.env.frame = some X.env.locals
  nex : X.ex = []
section
variable {X : Cx} {pins : List (Addr × Obj)} {σ : St} {H : Hp} {B h : Heap} {a : Addr} {cls c : Value} {d : Option Addr} {D : Ends} {x n : Str} {i : Nat} {b₀ : Stmt} {suite body : List Stmt} {np pos pos' : Pos} {tb : WX → TS} {ts : Addr → Value → Option Addr → TS}
theorem Born.of {sI : Shared} (T : Top1 X) (J : Inv X pins σ H sI) (old : ∀ b o, sI.heap.get? b = some o → b ∉ frs X.stack → B.get? b = some o) (fl : HandSPX.FlyingZ B (X.env :: X.outer) a (Zc cls d) h) : Born X pins a := by
  have out : a ∉ frs X.stack := by
    rw [T.stk]
    intro hm
    obtain ⟨oe, vs, e1, -, e2⟩ := fl.there
    obtain ⟨-, o, e3, no⟩ := fl.2.2.1.mem hm
    exact no vs ((Option.some.inj (e1.symm.trans e3)) ▸ e2)
  have gone : ∀ o, sI.heap.get? a ≠ some o := fun o e => nomatch fl.2.1.symm.trans (old a o e out)
  constructor
  · rcases e : X.s_0.heap.get? a with _ | o
    · rfl
    · exact ((J.base.there a o e (by simp [T.nex])).elim fun o' e' => gone o' e').elim
  · exact fun p hp z => gone p.2 (z ▸ (J.pin p hp).1)
  · exact fun z => out (List.mem_filterMap.mpr ⟨X.env, by simp [T.stk], by simp [T.frm, z]⟩)
  · exact fun hm => out ((List.mem_filterMap.mp hm).elim fun e he => List.mem_filterMap.mpr ⟨e, by simp [T.stk, he.1], he.2⟩)
/-- the ends of a kept exception's suite -/
def keepEnds (i : Nat) (a : Addr) (cls : Value) (d : Option Addr) (D : Ends) : Ends :=
  { nx := fun σ' H' => H' a = none → D.nx (σ'.set i none) (upd H' a (exK a cls d)), rt := fun _ _ => False, bk := fun _ _ => False, ct := fun _ _ => False }
/-- every exception of the body is of the class c; its suite ends by itself, and it is kept -/
def wKeep (K : PySem.W.Frag) (c : Value) (i : Nat) (ts : Addr → Value → Option Addr → TS) (D : Ends) : WX := fun cls d σ H =>
  PySem.W.exmOne K cls c = some true ∧ ∀ a, H a = none → ts a cls d (keepEnds i a cls d D) (σ.set i (some (.ref a))) H
/-- the suite, run while the exception is held; behind it the name is gone and the exception tracked -/
theorem suite_keep {oe : Obj} {vs : Array Value} {s : Shared} (hN : X.N.Nodup) (hi : X.N[i]? = some n) (hl : X.env.kindOf n = some .local) (bn : Born X pins a) (na : H a = none) (J : Inv X pins σ H s) (e1 : s.heap.get? a = some oe) (e2 : Zc cls d oe) (e3 : oe.data = .fields vs)
    (hsu : PSs (X.suite a ((a, oe) :: (X.pn ++ pins))) (b₀ :: suite) (ts a cls d)) (want : ts a cls d (keepEnds i a cls d D) (σ.set i (some (.ref a))) H) :
    wpAny (model X.prog X.w) (X.A.mark (some (.ref a))) (storeName X.env n (.ref a)) (fun _ s2 => wpAny (model X.prog X.w) (X.A.mark (some (.ref a))) (execs (b₀ :: suite) X.env) (fun f s3 => wpAny (model X.prog X.w) X.A (do bindName X.env n .none; unbindBehindTheSuite X.env n pos') (fun _ s4 => SP X pins D f s4) X.xe s3) (fun _ _ => False) s2) (fun _ _ => False) s := by
  have S := J.suite e1 e3 na bn.nl bn.nf
  refine store_ok (X := X.suite a ((a, oe) :: (X.pn ++ pins))) (v := V.ref a) S hN hi (.inl hl) rfl (fun s2 S2 => wpAny_mono (hsu.run [] s2 _ H _ S2 want) (fun f s3 q => ?_) fun _ _ no => no) (.inr hl)
  match f, q with
  | .next, ⟨σ3, H3, S3, q3⟩ =>
    have free : H3 a = none := (S3.pin (a, oe) (by simp)).2.1
    exact gone_ok (S3.unsuiteK J.ok) hN hi hl fun s4 J4 => ⟨σ3.set i none, _, J4.track bn.n0 e2 e3 bn.pn, q3 free⟩
  | .brk, ⟨_, _, _, no⟩ => exact no.elim
  | .cont, ⟨_, _, _, no⟩ => exact no.elim
  | .ret _, ⟨_, _, _, _, _, no⟩ => exact no.elim
/-- a clause that catches -/
theorem clause_keep {s : Shared} (T : Top1 X) (hN : X.N.Nodup) (hi : X.N[i]? = some n) (hl : X.env.kindOf n = some .local) (hc : Names X x c) (bn : Born X pins a) (na : H a = none) (fl : HandSPX.FlyingZ B (X.env :: X.outer) a (Zc cls d) s.heap)
    (there : ∀ h', HandSPX.FlyingZ B (X.env :: X.outer) a (Zc cls d) h' → s.heap.UpToSlots h' → Inv X pins σ H { s with heap := h' }) (here : Inv X pins σ H s) (hsu : ∀ (oe : Obj), Zc cls d oe → (∃ vs, oe.data = .fields vs) → PSs (X.suite a ((a, oe) :: (X.pn ++ pins))) (b₀ :: suite) (ts a cls d))
    (want : wKeep X.K c i ts D cls d σ H) : wpAny (model X.prog X.w) X.A (handleBy (.ref a) X.env [.ExceptHandler (some (.Name x np)) (some n) (b₀ :: suite) pos']) (SP X pins D) X.xe s := by
  obtain ⟨oe, vs, e1, e2, e3⟩ := fl.there
  have S := here.suite e1 e3 na bn.nl bn.nf
  have asked : PySem.W.Looks (model X.prog X.w) s.heap (typeOf (.ref a)) cls := fun _ _ _ _ k q => wpAny_typeOf_ref (k _ _ e1) (e2.1.symm ▸ q)
  refine wpAny_handleBy_cons (codeAny_handlers_test ?_) nofun
  have test : wpAny (model X.prog X.w) (X.A.mark (some (.ref a))) (eval (.Name x np) X.env) (fun v s' => v = c ∧ s' = s) (fun _ _ => False) s := by
    obtain ⟨g1, g2, g3 | ⟨g3, g4, g5⟩⟩ := hc
    · exact ld_glob (X := X.suite a _) S g1 g3 ⟨rfl, rfl⟩ g2
    · exact ld_blt (X := X.suite a _) S g1 g3 g4 ⟨rfl, rfl⟩ g5 g2
  refine wpAny_mono test (fun v s' z => ?_) fun _ _ no => no.elim
  obtain ⟨rfl, rfl⟩ := z
  refine (PySem.W.exm_one here.kIn asked want.1).here ?_
  refine codeAny_handlers_suite_as (HandSPX.lands_againZ fl fun h2 fl2 up2 => ?_)
  obtain ⟨oe2, vs2, q1, q2, q3⟩ := fl2.there
  have := suite_keep (pos' := pos') (D := D) (s := { s' with heap := h2 }) hN hi hl bn na (there h2 fl2 up2) q1 q2 q3 (hsu oe2 q2 ⟨_, q3⟩) (want.2 a na)
  exact wpAny_mono this (fun _ s2 r => wpAny_mono r (fun _ _ z => z) fun _ _ no => no.elim) fun _ _ no => no.elim
theorem ps_try_keep (T : Top1 X) (hN : X.N.Nodup) (hi : X.N[i]? = some n) (hl : X.env.kindOf n = some .local) (hc : Names X x c)
    (hb : ∀ (W : WX) (pn : List (Addr × Obj)) (xe : Value → Shared → Prop), Takes (X.tr pn xe) W → PassesOwn (model X.prog X.w) X.A X.env xe → PSs (X.tr pn xe) body (tb W))
    (hsu : ∀ (a : Addr) (oe : Obj) (cls : Value) (d : Option Addr) (pn : List (Addr × Obj)), Zc cls d oe → (∃ vs, oe.data = .fields vs) → PSs (X.suite a ((a, oe) :: pn)) (b₀ :: suite) (ts a cls d)) :
    PS X (.Try body [.ExceptHandler (some (.Name x np)) (some n) (b₀ :: suite) pos'] [] [] pos) (fun D σ H => tb (wKeep X.K c i ts D) D σ H) := by
  constructor
  intro pins s σ H D I want
  have ok := I.ok
  refine wpAny_Try_except (wpAny_mono ((hb (wKeep X.K c i ts D) (X.pn ++ pins) _ ?air PassesOwn.looking).run [] s σ H D (I.toTry _) want) (fun f s1 r => ?ends) fun _ _ z => z)
  case ends =>
    match f, r with
    | .next, ⟨σ1, H1, J, q⟩ => exact wpAny_execs_nil ⟨σ1, H1, J.ofTry ok, q⟩
    | .brk, ⟨σ1, H1, J, q⟩ => exact ⟨σ1, H1, J.ofTry ok, q⟩
    | .cont, ⟨σ1, H1, J, q⟩ => exact ⟨σ1, H1, J.ofTry ok, q⟩
    | .ret _, ⟨v, σ1, H1, J, e, q⟩ => exact ⟨v, σ1, H1, J.ofTry ok, e, q⟩
  case air =>
    rintro u s1 ⟨a, B, sI, pins1, σ1, H1, cls, d, rfl, J1, old, up, sky, na, eos, bare, want1⟩
    have J := J1.ofTry (pins := pins) ok
    refine Sky.land Zc.steady (by rw [ok.frames, T.stk]) T.frm (T.stk ▸ sky) fun h2 fl2 up2 => ?_
    have land : ∀ h', HandSPX.FlyingZ B (X.env :: X.outer) a (Zc cls d) h' → sI.heap.UpToSlots h' → Inv X pins σ1 H1 { s1 with heap := h' } := fun h' fl u => J.landed old fl.1 u eos bare
    exact clause_keep T hN hi hl hc (Born.of T J old fl2) na fl2 (fun h' fl u => land h' fl ((up.trans up2).trans u)) (land h2 fl2 (up.trans up2)) (fun oe => hsu a oe cls d _) want1
end
/-! ### asked, its field read -/
section
variable {X : Cx}
/-- the kept exception, as isinstance sees it -/
theorem exK_inst {pins : List (Addr × Obj)} {σ : St} {H : Hp} {s : Shared} {a D : Addr} {d : Option Addr} (I : Inv X pins σ H s) (h1 : H a = some (exK a (.ref D) d)) (h2 : ∀ dd, d = some dd → ∃ fs, H dd = some (.xd fs)) : ∃ oe od, PySem.W.InstAt s.heap a oe D od := by
  obtain ⟨⟨oe, vs, ha, hz, hd⟩, _⟩ := I.hok a _ h1
  cases d with
  | none => exact ⟨oe, none, ha, hz.1, by unfold PySem.W.notCls; rw [hd] <;> rfl, by rw [hz.2]; trivial⟩
  | some dd =>
    obtain ⟨fs, e⟩ := h2 dd rfl
    obtain ⟨mA, hns, hr⟩ := I.hok dd _ e
    obtain ⟨od, ho, hl⟩ := lookIn_ns hns
    exact ⟨oe, some od, ha, hz.1, by unfold PySem.W.notCls; rw [hd] <;> rfl, by rw [hz.2]; exact ho⟩
theorem call_isX {a D : Addr} {d : Option Addr} {pins : List (Addr × Obj)} {s : Shared} {σ : St} {H : Hp} {c : V} {cv : Value} {b : Bool} {us : List Value} {Q : VK} (C : ExcC X.K D) (I : Inv X pins σ H s) (r : Vals [.ref a, c] us) (h1 : H a = some (exK a (.ref D) d)) (h2 : ∀ dd, d = some dd → ∃ fs, H dd = some (.xd fs))
    (hcv : ∀ u, RelV c u → u = cv) (e : PySem.W.kitOne X.K (.ref D) cv = some b) (q : Q (.bl b) H) : wpAny (model X.prog X.w) X.A (call (.builtin "isinstance") us) (EP X pins σ Q) X.xe s := by
  cases r with
  | cons rx rr =>
    cases rr with
    | cons rt rr =>
      cases rr
      cases rx
      have ec := hcv _ rt
      subst ec
      obtain ⟨oe, od, J⟩ := exK_inst I h1 h2
      obtain ⟨cdD, hcD, _⟩ := PySem.W.any_some C.hd
      exact PySem.W.kia_one (PySem.W.kitx_exc (by rw [hcD]; rfl) C.hg C.hk C.hs C.ha C.hn C.ht C.hm) I.kIn J e (fun z => nomatch z) fun tk => ⟨.bl b, H, I.kept (t' := tk) fun _ _ z => z, rfl, q⟩
theorem xk_get {pins : List (Addr × Obj)} {σ : St} {H1 : Hp} {s1 : Shared} {a C dd : Addr} {fs : List (Str × V)} {v : V} {n : Str} {Q : VK} {expr : Bool} (I1 : Inv X pins σ H1 s1) (T : XfC X.K C) (hno : PySem.W.findIn X.K (.ref C) n = some none) (h1 : H1 a = some (exK a (.ref C) (some dd))) (ea : H1 dd = some (.xd fs)) (l : fs.lookup n = some v) (q : Q v H1) :
    wpAny (model X.prog X.w) X.A (getAttr (.ref a) n expr) (EP X pins σ Q) X.xe s1 := by
  obtain ⟨⟨oe, vs, ha, hz, hd⟩, _⟩ := I1.hok a _ h1
  have hx : ObjOk X.prog X.w H1 s1.heap dd (.xd fs) := I1.hok dd _ ea
  obtain ⟨mA, hns, hr⟩ := hx
  obtain ⟨od, ho, hl⟩ := lookIn_ns hns
  obtain ⟨u, hu, ru⟩ := RelO.some_of (v := v) (o := mA n) (by rw [← l]; exact hr n)
  have J : PySem.W.InstAt s1.heap a oe C (some od) := ⟨ha, hz.1, by unfold PySem.W.notCls; rw [hd] <;> rfl, by rw [hz.2]; exact ho⟩
  exact HandSPX.exc_get I1.kIn J T.ga T.gg T.exC (PySem.W.findObj_own T.hdC hno rfl (by rw [hl, hu])) (handed_of ru) ⟨v, H1, I1.tok _, ru, q⟩
end
end L2

set_option maxRecDepth 100000
set_option maxHeartbeats 4000000
/-! Promises of defs that are called while no repr is under way. -/
namespace L2
open PySem PySem.Spec PyProof.Rows
structure FnG (P : Program) (w : World) (K : PySem.W.Frag) (mg : Str → Option Value) (base : Heap) (CX : CXT) (k : Nat) (f : Addr) (fd : FuncData) (ps : List Str) (sp : Sp) : Prop where
  len : ∀ vs H Q E, sp vs H Q E → vs.length = ps.length
  run : ∀ (A : Around) (outer : List Env) (s : Shared) (H : Hp) (args : Args) (us : List Value) (vs : List V) (Q : VK) (E : XK), Room k A → A.guards = some [] → Env0 P w K mg base A outer s H → BindsTo s fd args (ps.zip us) → Vals vs us → sp vs H Q E →
    codeAny (model P w) A (.call (.ref f) args) (CR CX outer P w H s Q E) s
section
variable {P : Program} {w : World} {K : PySem.W.Frag} {mg mb : Str → Option Value} {base : Heap} {CX : CXT} {k : Nat} {f : Addr} {fd : FuncData} {N ps : List Str} {sp sp' : Sp}
theorem FnG.imp (F : FnG P w K mg base CX k f fd ps sp) (h : ∀ vs H Q E, sp' vs H Q E → sp vs H Q E) : FnG P w K mg base CX k f fd ps sp' where
  len vs H Q E q := F.len vs H Q E (h vs H Q E q)
  run A outer s H args us vs Q E r g e b v q := F.run A outer s H args us vs Q E r g e b v (h vs H Q E q)
/-- a def by its body -/
theorem FunD.okG {x qual : Str} {params : Arguments} {body : List Stmt} {scope : Scope} {dvs : List V} {kws : List (Str × V)} (F : FunD K x qual params body scope dvs kws f fd) (S : FnScope N ps scope) (len : ∀ vs H Q E, sp vs H Q E → vs.length = ps.length)
    (hbody : ∀ (cdv : Value) (A : Around) (outer : List Env) (s : Shared) (H : Hp) (vs : List V) (Q : VK) (E : XK), Room k (A.deeper (envOfC qual scope s.heap.objs.size f cdv)) → A.guards = some [] → sp vs H Q E →
      ∃ t, PSs (cxOf CX P w K mg base N qual scope f cdv A outer s H E) body t ∧ t { nx := fun _ H' => Q .non H', rt := Q } (start N vs) H) : FnG P w K mg base CX (k + 1) f fd ps sp := by
  obtain ⟨oc, od, dV, kV, doc, pm, an, cdv, ct, osl, rfl, lk, hcd, -, -⟩ := F.ex
  constructor
  · exact len
  intro A outer s H args us vs Q E room guard env bind vals want
  have old : ∀ b o, base.get? b = some o → s.heap.get? b = some o := fun b o e => (env.bs b o e).1
  have inK := env.mod.kin.keeps old
  apply codeAny_call_function room.depth (inK _ _ lk) rfl S.co S.gen rfl (PySem.W.codeRec_of inK hcd)
  apply bind
  apply wpAny_newFunctionEnv_cells S.kind
  · rintro ⟨n, v⟩ hy
    exact (S.par n (List.of_mem_zip hy).1).imp id fun q => ⟨q, PySem.W.cellsFrom_some _ _ _ (.inl q)⟩
  rintro _ rfl s1 inside
  obtain ⟨t, walk, q⟩ := hbody cdv A outer s H vs Q E (room.deeper _) guard want
  refine ⟨(env.mod.nolimit.keeps old).keeps inside.toInCall.keep, codeAny_func (wpAny_mono (walk.run [] s1 _ H _ (inv_start S room.hd env (len vs H Q E want) vals inside) q) (fun fl s2 r => ?_) fun _ _ z => z)⟩
  match fl, r with
  | .next, ⟨_, H2, J, q2⟩ => exact ⟨.non, H2, J.os, J.bare, J.base, J.hok, rfl, q2⟩
  | .ret _, ⟨v, _, H2, J, e2, q2⟩ => exact ⟨v, H2, J.os, J.bare, J.base, J.hok, e2, q2⟩
  | .brk, ⟨_, _, _, no⟩ => exact no.elim
  | .cont, ⟨_, _, _, no⟩ => exact no.elim
/-- the law's call, by such a promise -/
theorem law_callG {fa a : Addr} {x : Str} {s : Shared} {vs : List Value} {ns : List Int} (inK : K.In s.heap) (gl : s.heap.Ns mainGlobals mg) (bl : s.heap.Ns builtinsNs mb) (bb : ∀ x : Str, x ≠ "__name__" → mb x = bootBuiltins x) (lim : s.heap.NoLimit) (gens : s.gens = #[])
    (here : s.heap.get? a = some { cls := .type "list", data := .seq vs.toArray }) (whole : IntsAre vs ns) (size : ns.length ≤ sizeLine) (room : Room k callerA)
    (F : ∀ base : Heap, K.In base → base.Ns mainGlobals mg → FnG P w K mg base CX k fa fd [x] sp) (bind : ∀ (s : Shared) (u : Value), BindsTo s fd ⟨[u], []⟩ [(x, u)])
    (want : ∀ H : Hp, Only H → SqL K H a (ns.map V.int) → sp [.ref a] H (fun v _ => v = .bl true) fun _ _ _ => False) (calm : ∀ H e s', CX [] H s (fun _ _ _ => False) e s' → False) :
    codeAny (model P w) callerA (.call (.ref fa) ⟨[.ref a], []⟩) (fun r s' => r = .ok (.ret (.bool true)) ∧ OldK s.heap s'.heap ∧ s'.os = s.os ∧ AllBare s'.gens) s := by
  let FR : HO := .frz { cls := .type "list", data := .seq vs.toArray } (.lst (ns.map V.int))
  have main : ∀ H : Hp, (∀ b, H b = none ∨ (b = a ∧ K.lookup a = none ∧ H b = some FR)) → SqL K H a (ns.map V.int) →
      codeAny (model P w) callerA (.call (.ref fa) ⟨[.ref a], []⟩) (fun r s' => r = .ok (.ret (.bool true)) ∧ OldK s.heap s'.heap ∧ s'.os = s.os ∧ AllBare s'.gens) s := by
    intro H tell script
    have hok : HOk P w H s.heap := by
      intro b u e
      rcases tell b with z | ⟨rfl, -, z⟩
      · exact nomatch z.symm.trans e
      · obtain rfl := Option.some.inj (z.symm.trans e)
        exact ⟨here, by simpa using size, vs, _, vals_ints whole, here⟩
    have names : ∀ {b m}, s.heap.Ns b m → (hidT s.heap H).Ns b m := by
      rintro b m ⟨o, es, ep, e, dat, rest⟩
      refine ⟨o, es, ep, hidT_get e ?_, dat, rest⟩
      rcases tell b with z | ⟨rfl, -, -⟩
      · exact z
      · obtain rfl := Option.some.inj (here.symm.trans e)
        exact nomatch dat
    have hidK : K.In (hidT s.heap H) := fun b o e => hidT_get (inK b o e) (by
      rcases tell b with z | ⟨rfl, z, -⟩
      · exact z
      · exact nomatch z.symm.trans e)
    obtain ⟨mc, l1, l2⟩ := lim
    have env : Env0 P w K mg (hidT s.heap H) callerA [] s H :=
      { frames := rfl, mod := ⟨hidK, names gl, ⟨mb, names bl, bb⟩, ⟨mc, names l1, l2⟩⟩, bs := fun b o e => of_hidT e, bsz := Nat.le_of_eq (hidT_size _ _), funs := trivial, frf := (fun b z => (List.not_mem_nil (show b ∈ ([] : List Addr) from z)).elim), hok := hok, bare := .of_eq gens }
    have only : Only H := fun b => (tell b).imp id fun z => ⟨_, _, z.2.2⟩
    refine codeAny_mono ((F _ hidK (names gl)).run callerA [] s H _ [.ref a] [.ref a] _ _ room rfl env (bind s (.ref a)) (.cons rfl .nil) (want H only script)) fun r s' z => ?_
    match r, z with
    | .error e, z => exact (calm H e s' z).elim
    | .ok (.ret u), ⟨v, H', eos, bare, un, hok', rel, q⟩ =>
      obtain rfl : v = .bl true := q
      obtain rfl : u = Value.bool true := rel
      refine ⟨rfl, OldK.of_keep fun b o e => ?_, eos, bare⟩
      rcases tell b with z | ⟨rfl, -, z⟩
      · exact un.keep b o e z (fun y => (List.not_mem_nil (show b ∈ ([] : List Addr) from y)).elim) (by simp)
      · obtain rfl := Option.some.inj (here.symm.trans e)
        exact (hok' b _ (un.frzs b _ _ z)).1
  rcases hk : K.lookup a with _ | o
  · refine main (fun b => if b = a then some FR else none) (fun b => ?_) (.inl (.inr ⟨_, if_pos rfl⟩))
    by_cases z : b = a
    · exact .inr ⟨z, hk, if_pos z⟩
    · exact .inl (if_neg z)
  · obtain rfl := Option.some.inj (here.symm.trans (inK a o hk))
    exact main (fun _ => none) (fun _ => .inl rfl) (.inr ⟨_, vs.toArray, _, hk, rfl, rfl, rfl, by simpa [whole.length] using size, by simpa using vals_ints whole⟩)
end
/-- what the head asks for -/
theorem walk_ofG {l : PySem.W.OpenLaw} {n k : Nat} {q : Program} {loose : List Str} {XP : (Str → Option Value) → Heap → Prop} {YP : World → Heap → Prop} {d : DefRec} {CX : CXT} {x : Str} (most : l.most = some n) (size : n ≤ sizeLine) (plain : d.params.defaults = []) (room : Room k callerA)
    (F : ∀ (w : World) (mg : Str → Option Value) (fa : Addr) (h : Heap), YP w h → h.Ns mainGlobals mg → mg d.name = some (.ref fa) → ∃ (K : PySem.W.Frag) (fd : FuncData) (sp : Sp), K.In h ∧ (∀ (s : Shared) (u : Value), BindsTo s fd ⟨[u], []⟩ [(x, u)]) ∧
        (∀ (H : Hp) (a : Addr) (ns : List Int), ns.length ≤ n → Only H → SqL K H a (ns.map V.int) → sp [.ref a] H (fun v _ => v = .bl true) fun _ _ _ => False) ∧ ∀ base : Heap, K.In base → base.Ns mainGlobals mg → FnG l.prog w K mg base CX k fa fd [x] sp)
    (calm : ∀ (H : Hp) (s : Shared) (e : Value) (s' : Shared), CX [] H s (fun _ _ _ => False) e s' → False) : PySem.W.WalkO q loose XP YP l.row.toRowW d [] (fun f vs => PySem.call f vs) := by
  apply Att.attach_call most plain
  intro w s₀ s mg mb fa o pm cd doc a vs ns G Y _ _ _ nm obj whole len gens
  obtain ⟨K, fd, sp, inK, bind, want, promise⟩ := F w mg fa _ Y G.T.g nm
  exact law_callG inK G.T.g G.T.b G.T.builtins G.T.nolimit gens obj whole (Nat.le_trans len size) room promise bind (fun H => want H a ns len) fun H => calm H s
end L2

set_option maxRecDepth 100000
/-! How values, cells and slots stand in the abstract heap. -/
namespace Mi
open PySem L2

structure Gx where
  K : PySem.W.Frag
  ca : Nat → Addr
  cf : Nat → List Str
  nc : Nat → Bool
  xc : Nat → Bool

mutual
inductive RP (g : Gx) (F : Hp) : V → P → Prop
  | non : RP g F .non .non
  | bl (b : Bool) : RP g F (.bl b) (.bl b)
  | int (i : Int) : RP g F (.int i) (.int i)
  | str (x : Str) : RP g F (.str x) (.str x)
  | tup {a : Addr} {vs : List V} {xs : List P} : F a = some (.tup vs) → RPs g F vs xs → RP g F (.ref a) (.tup xs)
  | lst {a : Addr} {vs : List V} {xs : List P} : F a = some (.lst vs) → RPs g F vs xs → RP g F (.ref a) (.lst xs)
  | dK {a : Addr} {ws : List (Key × V)} {kvs : List (Key × P)} : F a = some (.dK ws) → ws.map (·.1) = kvs.map (·.1) → RPs g F (ws.map (·.2)) (kvs.map (·.2)) → RP g F (.ref a) (.dK kvs)
  | obj {a dx : Addr} {c : Nat} {ws : List (Str × V)} {xs : List P} : g.nc c = true → F a = some (.ins (g.ca c) dx ws) → ws.map (·.1) = g.cf c → RPs g F (ws.map (·.2)) xs → RP g F (.ref a) (.obj c xs)
  | scr {a : Addr} {ns : List Int} : SqL g.K F a (ns.map V.int) → RP g F (.ref a) (.scr ns)
inductive RPs (g : Gx) (F : Hp) : List V → List P → Prop
  | nil : RPs g F [] []
  | cons {v : V} {vs : List V} {x : P} {xs : List P} : RP g F v x → RPs g F vs xs → RPs g F (v :: vs) (x :: xs)
end
mutual
inductive RD (g : Gx) (F : Hp) (ι : List Addr) : V → D → Prop
  | p {v : V} {x : P} : RP g F v x → RD g F ι v (.p x)
  | ref {n : Nat} {a : Addr} : ι[n]? = some a → RD g F ι (.ref a) (.ref n)
  | tup {a : Addr} {vs : List V} {ds : List D} : F a = some (.tup vs) → RDs g F ι vs ds → RD g F ι (.ref a) (.tup ds)
inductive RDs (g : Gx) (F : Hp) (ι : List Addr) : List V → List D → Prop
  | nil : RDs g F ι [] []
  | cons {v : V} {vs : List V} {d : D} {ds : List D} : RD g F ι v d → RDs g F ι vs ds → RDs g F ι (v :: vs) (d :: ds)
end
def CellOk (g : Gx) (F : Hp) (ι : List Addr) (H : Hp) (a : Addr) : Cell → Prop
  | .dead => True
  | .lst ds => F a = none ∧ ∃ vs, H a = some (.lst vs) ∧ RDs g F ι vs ds
  | .dK kvs => F a = none ∧ ∃ ws : List (Key × V), H a = some (.dK ws) ∧ ws.map (·.1) = kvs.map (·.1) ∧ RDs g F ι (ws.map (·.2)) (kvs.map (·.2))
  | .ins c fs => F a = none ∧ g.nc c = true ∧ ∃ (dx : Addr) (ws : List (Str × V)), H a = some (.ins (g.ca c) dx ws) ∧ ws.map (·.1) = fs.map (·.1) ∧ RDs g F ι (ws.map (·.2)) (fs.map (·.2))
  | .xd f v => F a = none ∧ ∃ u, H a = some (.xd [(f, u)]) ∧ RD g F ι u v
  | .xc c m => F a = none ∧ g.xc c = true ∧ ∃ dd, H a = some (exK a (.ref (g.ca c)) dd) ∧ (match m with
    | none => dd = none ∧ g.cf c = []
    | some k => ∃ d, dd = some d ∧ ι[k]? = some d)
structure Rel (g : Gx) (F : Hp) (ι : List Addr) (M : Sto) (H : Hp) : Prop where
  sub : Same F H
  nd : ι.Nodup
  len : ι.length = M.length
  cells : ∀ (n : Nat) (a : Addr) (c : Cell), ι[n]? = some a → M[n]? = some c → CellOk g F ι H a c
  there : ∀ a ∈ ι, ∃ o, H a = some o
/-- what a step may change -/
structure Ext (F : Hp) (ι : List Addr) (H : Hp) (F' : Hp) (ι' : List Addr) (H' : Hp) : Prop where
  sub : Same F F'
  pre : ∃ more, ι' = ι ++ more
  frame : ∀ b o, H b = some o → b ∉ ι → H' b = some o
  new : ∀ a ∈ ι', a ∈ ι ∨ H a = none
  froz : ∀ b o, F' b = some o → F b = some o ∨ H b = none ∨ b ∈ ι
  keep : ∀ a ∈ ι, ∃ o, H' a = some o
structure RSl (g : Gx) (F : Hp) (ι : List Addr) (σ : St) (ρ : Env) : Prop where
  len : σ.length = ρ.length
  at_ : ∀ (i : Nat) (d : D), ρ[i]? = some (some d) → ∃ v, σ[i]? = some (some v) ∧ RD g F ι v d

/-! ### growing -/
mutual
theorem RP.mono {g : Gx} {F F' : Hp} (h : Same F F') : ∀ {v : V} {x : P}, RP g F v x → RP g F' v x
  | _, _, .non => .non
  | _, _, .bl b => .bl b
  | _, _, .int i => .int i
  | _, _, .str x => .str x
  | _, _, .tup e r => .tup (h _ _ e) (RPs.mono h r)
  | _, _, .lst e r => .lst (h _ _ e) (RPs.mono h r)
  | _, _, .dK e k r => .dK (h _ _ e) k (RPs.mono h r)
  | _, _, .obj hc e k r => .obj hc (h _ _ e) k (RPs.mono h r)
  | _, _, .scr e => .scr (h.seq e)
theorem RPs.mono {g : Gx} {F F' : Hp} (h : Same F F') : ∀ {vs : List V} {xs : List P}, RPs g F vs xs → RPs g F' vs xs
  | _, _, .nil => .nil
  | _, _, .cons r t => .cons (RP.mono h r) (RPs.mono h t)
end
theorem pre_get {ι ι' : List Addr} (h : ∃ more, ι' = ι ++ more) {n : Nat} {a : Addr} (e : ι[n]? = some a) : ι'[n]? = some a := by
  obtain ⟨m, rfl⟩ := h
  rw [List.getElem?_append_left (List.getElem?_eq_some_iff.mp e).1]
  exact e
mutual
theorem RD.mono {g : Gx} {F F' : Hp} {ι ι' : List Addr} (h : Same F F') (hp : ∃ more, ι' = ι ++ more) : ∀ {v : V} {d : D}, RD g F ι v d → RD g F' ι' v d
  | _, _, .p r => .p (r.mono h)
  | _, _, .ref e => .ref (pre_get hp e)
  | _, _, .tup e r => .tup (h _ _ e) (RDs.mono h hp r)
theorem RDs.mono {g : Gx} {F F' : Hp} {ι ι' : List Addr} (h : Same F F') (hp : ∃ more, ι' = ι ++ more) : ∀ {vs : List V} {ds : List D}, RDs g F ι vs ds → RDs g F' ι' vs ds
  | _, _, .nil => .nil
  | _, _, .cons r t => .cons (RD.mono h hp r) (RDs.mono h hp t)
end
section
variable {g : Gx} {F F' F1 F2 : Hp} {ι ι' ι1 ι2 : List Addr} {H H' H1 H2 : Hp} {M M' : Sto}
theorem Ext.refl (r : Rel g F ι M H) : Ext F ι H F ι H :=
  ⟨Same.refl F, ⟨[], by simp⟩, fun _ _ e _ => e, fun _ h => .inl h, fun _ _ e => .inl e, r.there⟩
theorem Ext.trans (a : Ext F ι H F1 ι1 H1) (b : Ext F1 ι1 H1 F2 ι2 H2) : Ext F ι H F2 ι2 H2 := by
  have hback : ∀ x, H1 x = none → H x = none ∨ x ∈ ι := fun x h => by
    cases e : H x with
    | none => exact .inl rfl
    | some o =>
      by_cases hx : x ∈ ι
      · exact .inr hx
      · rw [a.frame x o e hx] at h; cases h
  have hno : ∀ x, x ∈ ι → H1 x ≠ none := fun x hx h => by
    obtain ⟨o, e⟩ := a.keep x hx
    rw [e] at h; cases h
  have hsub : ∀ x, x ∈ ι → x ∈ ι1 := fun x hx => by
    obtain ⟨m, e⟩ := a.pre
    rw [e]; exact List.mem_append_left _ hx
  refine ⟨a.sub.trans b.sub, ?_, fun x o e hx => ?_, fun x hx => ?_, fun x o e => ?_, fun x hx => b.keep x (hsub x hx)⟩
  · obtain ⟨m, rfl⟩ := a.pre
    obtain ⟨m', rfl⟩ := b.pre
    exact ⟨m ++ m', by simp⟩
  · refine b.frame x o (a.frame x o e hx) fun h1 => ?_
    rcases a.new x h1 with h | h
    · exact hx h
    · rw [h] at e; cases e
  · rcases b.new x hx with h | h
    · exact a.new x h
    · rcases hback x h with q | q
      · exact .inr q
      · exact .inl q
  · rcases b.froz x o e with h | h | h
    · exact a.froz x o h
    · rcases hback x h with q | q
      · exact .inr (.inl q)
      · exact .inr (.inr q)
    · rcases a.new x h with q | q
      · exact .inr (.inr q)
      · exact .inr (.inl q)
theorem RD.ext {v : V} {d : D} (h : RD g F ι v d) (e : Ext F ι H F' ι' H') : RD g F' ι' v d := h.mono e.sub e.pre
theorem RDs.ext {v : List V} {d : List D} (h : RDs g F ι v d) (e : Ext F ι H F' ι' H') : RDs g F' ι' v d := h.mono e.sub e.pre
theorem RSl.ext {σ : St} {ρ : Env} (h : RSl g F ι σ ρ) (e : Ext F ι H F' ι' H') : RSl g F' ι' σ ρ :=
  ⟨h.len, fun i d q => let ⟨v, h1, h2⟩ := h.at_ i d q; ⟨v, h1, h2.ext e⟩⟩
theorem CellOk.mono {a : Addr} {c : Cell} (h : CellOk g F ι H a c) (hs : Same F F') (hp : ∃ more, ι' = ι ++ more) (hF : c ≠ .dead → F' a = none) (hH : H' a = H a) : CellOk g F' ι' H' a c := by
  cases c with
  | dead => trivial
  | lst ds =>
    obtain ⟨_, vs, e, r⟩ := h
    exact ⟨hF (fun z => nomatch z), vs, by rw [hH]; exact e, r.mono hs hp⟩
  | dK kvs =>
    obtain ⟨_, vs, e, k, r⟩ := h
    exact ⟨hF (fun z => nomatch z), vs, by rw [hH]; exact e, k, r.mono hs hp⟩
  | ins c fs =>
    obtain ⟨_, hc, dx, vs, e, k, r⟩ := h
    exact ⟨hF (fun z => nomatch z), hc, dx, vs, by rw [hH]; exact e, k, r.mono hs hp⟩
  | xd f v =>
    obtain ⟨_, u, e, r⟩ := h
    exact ⟨hF (fun z => nomatch z), u, by rw [hH]; exact e, r.mono hs hp⟩
  | xc c m =>
    obtain ⟨_, hc, dd, e, r⟩ := h
    refine ⟨hF (fun z => nomatch z), hc, dd, by rw [hH]; exact e, ?_⟩
    cases m with
    | none => exact r
    | some k =>
      obtain ⟨d, e1, e2⟩ := r
      exact ⟨d, e1, pre_get hp e2⟩
theorem CellOk.free {a : Addr} {c : Cell} (h : CellOk g F ι H a c) (hc : c ≠ .dead) : F a = none := by
  cases c with
  | dead => exact absurd rfl hc
  | lst ds => exact h.1
  | dK kvs => exact h.1
  | ins c fs => exact h.1
  | xd f v => exact h.1
  | xc c m => exact h.1
theorem nodup_get {ι : List Addr} (nd : ι.Nodup) {n m : Nat} {a : Addr} (h1 : ι[n]? = some a) (h2 : ι[m]? = some a) : n = m := by
  obtain ⟨l1, e1⟩ := List.getElem?_eq_some_iff.mp h1
  obtain ⟨l2, e2⟩ := List.getElem?_eq_some_iff.mp h2
  exact (List.getElem_inj nd).mp (e1.trans e2.symm)
/-- a new pure object -/
theorem Rel.laidF (r : Rel g F ι M H) {p : Addr} {o : HO} (hp : H p = none) : Rel g (upd F p o) ι M (upd H p o) ∧ Ext F ι H (upd F p o) ι (upd H p o) := by
  have hF : F p = none := r.sub.free hp
  have hι : p ∉ ι := fun hm => by
    obtain ⟨u, e⟩ := r.there p hm
    rw [e] at hp; cases hp
  have hs : Same F (upd F p o) := fun b u e => by rw [upd_ne (ne_of_none e hF)]; exact e
  refine ⟨⟨fun b u e => ?_, r.nd, r.len, fun n a c h1 h2 => ?_, fun a ha => ?_⟩, ⟨hs, ⟨[], by simp⟩, fun b u e _ => by rw [upd_ne (ne_of_none e hp)]; exact e, fun a h => .inl h, fun b u e => ?_, fun a ha => ?_⟩⟩
  · by_cases hb : b = p
    · subst hb; rw [upd_same] at e ⊢; exact e
    · rw [upd_ne hb] at e ⊢; exact r.sub b u e
  · have ha : a ≠ p := fun z => hι (by rw [← z]; exact List.mem_of_getElem? h1)
    exact (r.cells n a c h1 h2).mono hs ⟨[], by simp⟩ (fun hc => by rw [upd_ne ha]; exact (r.cells n a c h1 h2).free hc) (upd_ne ha)
  · obtain ⟨u, e⟩ := r.there a ha
    exact ⟨u, by rw [upd_ne (ne_of_none e hp)]; exact e⟩
  · by_cases hb : b = p
    · subst hb; exact .inr (.inl hp)
    · rw [upd_ne hb] at e; exact .inl e
  · obtain ⟨u, e⟩ := r.there a ha
    exact ⟨u, by rw [upd_ne (ne_of_none e hp)]; exact e⟩
/-- a new cell -/
theorem Rel.laidC (r : Rel g F ι M H) {p : Addr} {o : HO} {c : Cell} (hp : H p = none) (hc : ∀ H', H' p = some o → CellOk g F (ι ++ [p]) H' p c) : Rel g F (ι ++ [p]) (M ++ [c]) (upd H p o) ∧ Ext F ι H F (ι ++ [p]) (upd H p o) := by
  have hF : F p = none := r.sub.free hp
  have hι : p ∉ ι := fun hm => by
    obtain ⟨u, e⟩ := r.there p hm
    rw [e] at hp; cases hp
  refine ⟨⟨fun b u e => by rw [upd_ne (ne_of_none e hF)]; exact r.sub b u e, ?_, by simp [r.len], fun n a c' h1 h2 => ?_, fun a ha => ?_⟩, ⟨Same.refl F, ⟨[p], rfl⟩, fun b u e _ => by rw [upd_ne (ne_of_none e hp)]; exact e, fun a ha => ?_, fun b u e => .inl e, fun a ha => ?_⟩⟩
  · rw [List.nodup_append]
    exact ⟨r.nd, by simp, fun a ha b hb z => by simp at hb; subst hb; subst z; exact hι ha⟩
  · by_cases hn : n < ι.length
    · rw [List.getElem?_append_left hn] at h1
      rw [List.getElem?_append_left (by rw [← r.len]; exact hn)] at h2
      have ha : a ≠ p := fun z => hι (by rw [← z]; exact List.mem_of_getElem? h1)
      exact (r.cells n a c' h1 h2).mono (Same.refl F) ⟨[p], rfl⟩ (fun hd => (r.cells n a c' h1 h2).free hd) (upd_ne ha)
    · rw [List.getElem?_append_right (by omega)] at h1
      rw [List.getElem?_append_right (by rw [← r.len]; omega)] at h2
      have e1 : n - ι.length = 0 := by
        have := (List.getElem?_eq_some_iff.mp h1).1
        simp at this; omega
      rw [← r.len, e1] at h2
      rw [e1] at h1
      simp at h1 h2
      subst h1; subst h2
      exact hc _ upd_same
  · rcases List.mem_append.mp ha with h | h
    · obtain ⟨u, e⟩ := r.there a h
      exact ⟨u, by rw [upd_ne (ne_of_none e hp)]; exact e⟩
    · simp at h; subst h; exact ⟨o, upd_same⟩
  · rcases List.mem_append.mp ha with h | h
    · exact .inl h
    · simp at h; subst h; exact .inr hp
  · obtain ⟨u, e⟩ := r.there a ha
    exact ⟨u, by rw [upd_ne (ne_of_none e hp)]; exact e⟩
/-- a cell written -/
theorem Rel.write (r : Rel g F ι M H) {n : Nat} {a : Addr} {o : HO} {c c' : Cell} (h1 : ι[n]? = some a) (h2 : M[n]? = some c) (hd : c ≠ .dead) (hc : ∀ H', H' a = some o → CellOk g F ι H' a c') : Rel g F ι (M.set n c') (upd H a o) ∧ Ext F ι H F ι (upd H a o) := by
  have hF : F a = none := (r.cells n a c h1 h2).free hd
  refine ⟨⟨fun b u e => by rw [upd_ne (ne_of_none e hF)]; exact r.sub b u e, r.nd, by simp [r.len], fun m b c2 e1 e2 => ?_, fun b hb => ?_⟩, ⟨Same.refl F, ⟨[], by simp⟩, fun b u e hb => ?_, fun b hb => .inl hb, fun b u e => .inl e, fun b hb => ?_⟩⟩
  · by_cases hm : n = m
    · subst hm
      rw [h1] at e1; cases e1
      rw [List.getElem?_set_self (List.getElem?_eq_some_iff.mp h2).1] at e2
      cases e2
      exact hc _ upd_same
    · rw [List.getElem?_set_ne hm] at e2
      have hb : b ≠ a := fun z => hm (nodup_get r.nd h1 (z ▸ e1))
      exact (r.cells m b c2 e1 e2).mono (Same.refl F) ⟨[], by simp⟩ (fun q => (r.cells m b c2 e1 e2).free q) (upd_ne hb)
  · by_cases z : b = a
    · subst z; exact ⟨o, upd_same⟩
    · obtain ⟨u, e⟩ := r.there b hb
      exact ⟨u, by rw [upd_ne z]; exact e⟩
  · have z : b ≠ a := fun z => hb (z ▸ List.mem_of_getElem? h1)
    rw [upd_ne z]; exact e
  · by_cases z : b = a
    · subst z; exact ⟨o, upd_same⟩
    · obtain ⟨u, e⟩ := r.there b hb
      exact ⟨u, by rw [upd_ne z]; exact e⟩
end
/-! ### lists of values -/
section
variable {g : Gx} {F : Hp} {ι : List Addr}
theorem RPs.length {vs : List V} : ∀ {xs : List P}, RPs g F vs xs → vs.length = xs.length := by
  induction vs with
  | nil => intro xs h; cases h; rfl
  | cons v vs ih => intro xs h; cases h with | cons _ t => simp [ih t]
theorem RDs.length {vs : List V} : ∀ {xs : List D}, RDs g F ι vs xs → vs.length = xs.length := by
  induction vs with
  | nil => intro xs h; cases h; rfl
  | cons v vs ih => intro xs h; cases h with | cons _ t => simp [ih t]
theorem RPs.rds {vs : List V} : ∀ {xs : List P}, RPs g F vs xs → RDs g F ι vs (xs.map D.p) := by
  induction vs with
  | nil => intro xs h; cases h; exact .nil
  | cons v vs ih => intro xs h; cases h with | cons a t => exact .cons (.p a) (ih t)
theorem RDs.rps {vs : List V} : ∀ {xs : List P}, RDs g F ι vs (xs.map D.p) → RPs g F vs xs := by
  induction vs with
  | nil => intro xs h; cases xs with | nil => exact .nil | cons x r => cases h
  | cons v vs ih => intro xs h; cases xs with
    | nil => cases h
    | cons x r => cases h with | cons a t => cases a with | p a => exact .cons a (ih t)
theorem RDs.get {vs : List V} : ∀ {ds : List D} {i : Nat} {d : D}, RDs g F ι vs ds → ds[i]? = some d → ∃ v, vs[i]? = some v ∧ RD g F ι v d := by
  induction vs with
  | nil => intro ds i d h e; cases h; simp at e
  | cons v vs ih =>
    intro ds i d h e
    cases h with
    | cons a t =>
      cases i with
      | zero => simp at e; subst e; exact ⟨v, rfl, a⟩
      | succ i => exact ih (i := i) t (by simpa using e)
theorem RDs.append {vs ws : List V} {ds es : List D} (h : RDs g F ι vs ds) (k : RDs g F ι ws es) : RDs g F ι (vs ++ ws) (ds ++ es) := by
  induction vs generalizing ds with
  | nil => cases h; exact k
  | cons v vs ih => cases h with | cons a t => exact .cons a (ih t)
theorem RDs.set {vs : List V} {v : V} {d : D} (r : RD g F ι v d) : ∀ {ds : List D} {i : Nat}, RDs g F ι vs ds → RDs g F ι (vs.set i v) (ds.set i d) := by
  induction vs with
  | nil => intro ds i h; cases h; exact .nil
  | cons w vs ih =>
    intro ds i h
    cases h with
    | cons a t =>
      cases i with
      | zero => exact .cons r t
      | succ i => exact .cons a (ih t)
theorem RDs.drop {vs : List V} : ∀ {ds : List D} (n : Nat), RDs g F ι vs ds → RDs g F ι (vs.drop n) (ds.drop n) := by
  induction vs with
  | nil => intro ds n h; cases h; simp; exact .nil
  | cons w vs ih =>
    intro ds n h
    cases h with
    | cons a t =>
      cases n with
      | zero => exact .cons a t
      | succ n => exact ih n t
theorem RDs.take {vs : List V} : ∀ {ds : List D} (n : Nat), RDs g F ι vs ds → RDs g F ι (vs.take n) (ds.take n) := by
  induction vs with
  | nil => intro ds n h; cases h; simp; exact .nil
  | cons w vs ih =>
    intro ds n h
    cases h with
    | cons a t =>
      cases n with
      | zero => exact .nil
      | succ n => exact .cons a (ih n t)
theorem RDs.reverse {vs : List V} {ds : List D} (h : RDs g F ι vs ds) : RDs g F ι vs.reverse ds.reverse := by
  induction vs generalizing ds with
  | nil => cases h; exact .nil
  | cons v vs ih =>
    cases h with
    | cons a t =>
      simp only [List.reverse_cons]
      exact (ih t).append (.cons a .nil)
theorem RDs.rep {vs : List V} {ds : List D} (h : RDs g F ι vs ds) (k : Nat) : RDs g F ι (List.replicate k vs).flatten (List.replicate k ds).flatten := by
  induction k with
  | zero => exact .nil
  | succ k ih => simp only [List.replicate_succ, List.flatten_cons]; exact h.append ih
theorem RSl.set {σ : St} {ρ : Env} (h : RSl g F ι σ ρ) {i : Nat} {v : V} {d : D} (r : RD g F ι v d) : RSl g F ι (σ.set i (some v)) (ρ.set i (some d)) := by
  refine ⟨by simp [h.len], fun j e q => ?_⟩
  by_cases hij : i = j
  · subst hij
    have hl : i < ρ.length := by
      have := (List.getElem?_eq_some_iff.mp q).1
      simpa using this
    rw [List.getElem?_set_self hl] at q
    cases q
    exact ⟨v, by rw [List.getElem?_set_self (by rw [h.len]; exact hl)], r⟩
  · rw [List.getElem?_set_ne hij] at q ⊢
    exact h.at_ j e q
theorem RSl.setNone {σ : St} {ρ : Env} (h : RSl g F ι σ ρ) (i : Nat) : RSl g F ι (σ.set i none) (ρ.set i none) := by
  refine ⟨by simp [h.len], fun j e q => ?_⟩
  by_cases hij : i = j
  · subst hij
    have hl : i < ρ.length := by
      have := (List.getElem?_eq_some_iff.mp q).1
      simpa using this
    rw [List.getElem?_set_self hl] at q
    cases q
  · rw [List.getElem?_set_ne hij] at q ⊢
    exact h.at_ j e q
theorem RSl.wipe {σ : St} {ρ : Env} (h : RSl g F ι σ ρ) : ∀ vs : List Nat, RSl g F ι (L2.wipe σ vs) (wipeE ρ vs)
  | [] => h
  | v :: vs => (RSl.wipe h vs).setNone v
end
end Mi

set_option maxRecDepth 100000
set_option maxHeartbeats 2000000
/-! What an answer promises; operators by values. -/
namespace Mi
open PySem PySem.Spec L2

/-- an exception of ours: its class, its own dict with its one field -/
def XRep (g : Gx) (F : Hp) (ι : List Addr) (H0 H : Hp) (cls : Value) (dd : Option Addr) (c : Nat) (x : D) : Prop :=
  cls = .ref (g.ca c) ∧ g.xc c = true ∧ (∀ d, dd = some d → H0 d = none ∧ d ∉ ι ∧ F d = none) ∧ ((g.cf c = [] ∧ dd = none ∧ x = .p .non) ∨ ∃ d v f, dd = some d ∧ g.cf c = [f] ∧ H d = some (.xd [(f, v)]) ∧ RD g F ι v x)

abbrev Kt (α : Type) := α → Hp → List Addr → Sto → Hp → Prop
def Ok {α : Type} (g : Gx) (W : WX) (σ : St) (F : Hp) (ι : List Addr) (H : Hp) (r : R α) (k : Kt α) : Prop := match r with
  | .stuck => False
  | .ok a M' => ∀ F' ι' H', Ext F ι H F' ι' H' → Rel g F' ι' M' H' → k a F' ι' M' H'
  | .exc c x M' => ∀ F' ι' H' cls dd, Ext F ι H F' ι' H' → Rel g F' ι' M' H' → XRep g F' ι' H H' cls dd c x → W cls dd σ H'
theorem XRep.back {g : Gx} {F F1 F' : Hp} {ι ι1 ι' : List Addr} {H H1 H' : Hp} {cls : Value} {dd : Option Addr} {c : Nat} {x : D} (e : Ext F ι H F1 ι1 H1) (h : XRep g F' ι' H1 H' cls dd c x) : XRep g F' ι' H H' cls dd c x := by
  obtain ⟨h1, h0, h2, h3⟩ := h
  refine ⟨h1, h0, fun d hd => ⟨?_, (h2 d hd).2⟩, h3⟩
  have := (h2 d hd).1
  cases z : H d with
  | none => rfl
  | some o =>
    by_cases hm : d ∈ ι
    · obtain ⟨o', q⟩ := e.keep d hm
      rw [this] at q; cases q
    · rw [e.frame d o z hm] at this; cases this
section
variable {g : Gx} {W : WX} {σ : St} {F F1 : Hp} {ι ι1 : List Addr} {H H1 : Hp} {α β : Type}
theorem Ok.mono {r : R α} {k k' : Kt α} (h : Ok g W σ F ι H r k) (hk : ∀ a F' ι' M' H', Ext F ι H F' ι' H' → Rel g F' ι' M' H' → k a F' ι' M' H' → k' a F' ι' M' H') : Ok g W σ F ι H r k' := by
  cases r with
  | stuck => exact h
  | ok a M => exact fun F' ι' H' e q => hk a F' ι' M H' e q (h F' ι' H' e q)
  | exc c x M => exact h
theorem Ok.ext {r : R α} {k : Kt α} (h : Ok g W σ F ι H r k) (e : Ext F ι H F1 ι1 H1) : Ok g W σ F1 ι1 H1 r k := by
  cases r with
  | stuck => exact h
  | ok a M => exact fun F' ι' H' e' q => h F' ι' H' (e.trans e') q
  | exc c x M => exact fun F' ι' H' cls dd e' q xr => h F' ι' H' cls dd (e.trans e') q (xr.back e)
theorem Ok.bind {r : R α} {f : α → Sto → R β} {k : Kt β} (h : Ok g W σ F ι H (r.bind f) k) : Ok g W σ F ι H r (fun a F1 ι1 M1 H1 => Ext F ι H F1 ι1 H1 ∧ Rel g F1 ι1 M1 H1 ∧ Ok g W σ F1 ι1 H1 (f a M1) k) := by
  cases r with
  | stuck => exact h
  | ok a M => exact fun F' ι' H' e q => ⟨e, q, Ok.ext h e⟩
  | exc c x M => exact h
/-- an answer in hand -/
theorem Ok.here {a : α} {M : Sto} {k : Kt α} (h : Ok g W σ F ι H (.ok a M) k) (r : Rel g F ι M H) : k a F ι M H := h F ι H (Ext.refl r) r
end
def kE (g : Gx) (Q : VK) : Kt D := fun d F' ι' _ H' => ∀ v, RD g F' ι' v d → Q v H'
def kA (g : Gx) (Q : List V → Hp → Prop) : Kt (List D) := fun ds F' ι' _ H' => ∀ vs, RDs g F' ι' vs ds → Q vs H'
def kT (Q : Bool → Hp → Prop) : Kt Bool := fun b _ _ _ H' => Q b H'
/-- readings -/
def tE (g : Gx) (cg : Cg) (W : WX) (e : ME) : TE := fun σ H Q => ∃ F ι M ρ, Rel g F ι M H ∧ RSl g F ι σ ρ ∧ Ok g W σ F ι H (ev cg e ρ M) (kE g Q)
def tT (g : Gx) (cg : Cg) (W : WX) (e : ME) : TT := fun σ H Q => ∃ F ι M ρ, Rel g F ι M H ∧ RSl g F ι σ ρ ∧ Ok g W σ F ι H (evT cg e ρ M) (kT Q)
def tAs (g : Gx) (cg : Cg) (W : WX) (es : List ME) : TA := fun σ H Q => ∃ F ι M ρ, Rel g F ι M H ∧ RSl g F ι σ ρ ∧ Ok g W σ F ι H (evs cg es ρ M) (kA g Q)

/-! ### operators by values -/
def Wf : WX := fun _ _ _ _ => False
/-- a rule with two values -/
def rV2 (g : Gx) (f : D → D → Sto → R D) : R2 := fun x y H Q => ∃ F ι M dx dy, Rel g F ι M H ∧ RD g F ι x dx ∧ RD g F ι y dy ∧ Ok g Wf [] F ι H (f dx dy M) (kE g Q)
section
variable {g : Gx} {F : Hp} {ι : List Addr} {H : Hp} {M : Sto}
theorem lstD_ok (r : Rel g F ι M H) {x : V} {d : D} {ds : List D} (h : RD g F ι x d) (e : lstD M d = some ds) : ∃ a vs, x = .ref a ∧ H a = some (.lst vs) ∧ RDs g F ι vs ds := by
  cases h with
  | p h =>
    cases h with
    | lst ea rs =>
      cases e
      exact ⟨_, _, rfl, r.sub _ _ ea, rs.rds⟩
    | _ => cases e
  | @ref n a ea =>
    cases q : M[n]? with
    | none => simp only [lstD, q] at e; cases e
    | some c =>
      cases c with
      | lst ds' =>
        simp only [lstD, q] at e
        cases e
        obtain ⟨_, vs, e1, e2⟩ := r.cells n a _ ea q
        exact ⟨a, vs, rfl, e1, e2⟩
      | _ => simp only [lstD, q] at e; cases e
  | tup _ _ => cases e
theorem newL_ok {Q : VK} (r : Rel g F ι M H) {m : Bool} {ds : List D} {vs : List V} {p : Addr} (h : Ok g Wf [] F ι H (newL m ds M) (kE g Q)) (rs : RDs g F ι vs ds) (hp : H p = none) : Q (.ref p) (upd H p (.lst vs)) := by
  cases m with
  | true =>
    obtain ⟨r', e'⟩ := r.laidC (o := .lst vs) (c := .lst ds) hp fun H' q => ⟨r.sub.free hp, vs, q, rs.mono (Same.refl F) ⟨[p], rfl⟩⟩
    refine h F (ι ++ [p]) _ e' r' _ (.ref ?_)
    rw [← r.len]; simp
  | false =>
    cases e : toPs ds with
    | none => simp only [newL, e] at h; exact h.elim
    | some xs =>
      simp only [newL, e] at h
      obtain ⟨r', e'⟩ := r.laidF (o := .lst vs) hp
      refine h _ ι _ e' r' _ (.p (.lst upd_same ?_))
      rw [toPs_eq e] at rs
      exact rs.rps.mono e'.sub
end
def opB : BOp → Operator
  | .add => .Add | .addM => .Add | .sub => .Sub | .mul => .Mult | .fdiv => .FloorDiv | .mod => .Mod | .pow => .Pow | .rep => .Mult | .repM => .Mult
theorem LIM_le : LIM ≤ sizeLine := by decide
section
variable {X : Cx} {g : Gx}
theorem catL_op (m : Bool) : OpR X (binaryOp .Add) (rV2 g (catL m)) := by
  intro pins s σ H x y v u Q I rx ry h
  obtain ⟨F, ι, M, dx, dy, rel, r1, r2, ok⟩ := h
  unfold catL at ok
  split at ok
  · rename_i xs ys e1 e2
    split at ok
    · rename_i hl
      obtain ⟨a, vs, rfl, ea, ra⟩ := lstD_ok rel r1 e1
      obtain ⟨b, ws, rfl, eb, rb⟩ := lstD_ok rel r2 e2
      refine op_cat pins s σ H _ _ v u Q I rx ry ⟨a, b, vs, ws, rfl, rfl, ea, eb, ?_, fun p hp => newL_ok rel ok (ra.append rb) hp⟩
      have := LIM_le
      rw [ra.length, rb.length]; omega
    · exact ok.elim
  · exact ok.elim
theorem repL_op (m : Bool) : OpR X (binaryOp .Mult) (rV2 g (repL m)) := by
  intro pins s σ H x y v u Q I rx ry h
  obtain ⟨F, ι, M, dx, dy, rel, r1, r2, ok⟩ := h
  unfold repL at ok
  split at ok
  · rename_i xs k e1
    split at ok
    · rename_i hl
      obtain ⟨a, vs, rfl, ea, ra⟩ := lstD_ok rel r1 e1
      cases r2 with
      | p r2 =>
        cases r2
        refine op_rep pins s σ H _ _ v u Q I rx ry ⟨a, k, vs, rfl, rfl, ea, by omega, by omega, ?_, fun p hp => newL_ok rel ok (ra.rep _) hp⟩
        have := LIM_le
        rw [ra.length]; omega
    · exact ok.elim
  · exact ok.elim
/-- two ints, by an operator's rule -/
theorem int_op {f : Value → Value → Sem Value} {C : Int → Int → Prop} {gi : Int → Int → Int} (ho : OpR X f (rI C fun i j => .int (gi i j))) {b : D → D → Sto → R D}
    (hb : ∀ x y M, (∃ i j, x = .p (.int i) ∧ y = .p (.int j) ∧ C i j ∧ b x y M = .ok (.p (.int (gi i j))) M) ∨ b x y M = .stuck) : OpR X f (rV2 g b) := by
  intro pins s σ H x y v u Q I rx ry h
  obtain ⟨F, ι, M, dx, dy, rel, r1, r2, ok⟩ := h
  rcases hb dx dy M with ⟨i, j, rfl, rfl, c, e⟩ | e
  · rw [e] at ok
    cases r1 with
    | p r1 =>
      cases r1
      cases r2 with
      | p r2 =>
        cases r2
        exact ho pins s σ H _ _ v u Q I rx ry ⟨i, j, rfl, rfl, c, ok.here rel _ (.p (.int _))⟩
  · rw [e] at ok; exact ok.elim
theorem mulOk_op : OpR X (binaryOp .Mult) (rI (fun i j => mulOk i j = true) fun i j => .int (i * j)) := by
  intro pins s σ H x y v u Q I rx ry h
  obtain ⟨i, j, rfl, rfl, c, q⟩ := h
  simp only [mulOk, Bool.or_eq_true, decide_eq_true_eq] at c
  rcases c with (c | c) | c
  · exact op_mul pins s σ H _ _ v u Q I rx ry ⟨i, j, rfl, rfl, .inl ⟨by omega, by omega⟩, q⟩
  · exact op_mul pins s σ H _ _ v u Q I rx ry ⟨i, j, rfl, rfl, .inr ⟨by omega, by omega⟩, q⟩
  · refine op_mulW pins s σ H _ _ v u Q I rx ry ⟨i, j, rfl, rfl, ?_, q⟩
    exact wide_mul c.1 c.2 (by decide) (by decide) (by decide)
theorem divOk_op : OpR X (binaryOp .FloorDiv) (rI (fun _ j => divOk j = true) fun i j => .int (i / j)) := by
  intro pins s σ H x y v u Q I rx ry h
  obtain ⟨i, j, rfl, rfl, c, q⟩ := h
  simp only [divOk, Bool.and_eq_true, decide_eq_true_eq] at c
  exact op_fdivW pins s σ H _ _ v u Q I rx ry ⟨i, j, rfl, rfl, wide_div c.1 c.2 (by decide) (by decide), q⟩
theorem powOk_op : OpR X (binaryOp .Pow) (rI (fun i j => powOk i j = true) fun i j => .int (i ^ j.toNat)) := by
  intro pins s σ H x y v u Q I rx ry h
  obtain ⟨i, j, rfl, rfl, c, q⟩ := h
  simp only [powOk, decide_eq_true_eq] at c
  exact opI (C := fun i j => 0 ≤ j ∧ (PySem.Builtin.Int.intBits i : Int) * j ≤ 2 ^ 27) (g := fun i j => i ^ j.toNat) (fun _ _ _ _ _ _ _ hc q => PyProof.Rows.pow_int hc.1 hc.2 q) pins s σ H _ _ v u Q I rx ry ⟨i, j, rfl, rfl, c, q⟩
theorem bin_op (hK : X.K = g.K) (op : BOp) : OpR X (binaryOp (opB op)) (rV2 g (binop op)) := by
  cases op with
  | add =>
    intro pins s σ H x y v u Q I rx ry h
    obtain ⟨F, ι, M, dx, dy, rel, r1, r2, ok⟩ := h
    unfold binop at ok
    dsimp only at ok
    split at ok
    · rename_i i j
      cases r1 with
      | p r1 =>
        cases r1
        cases r2 with
        | p r2 =>
          cases r2
          exact op_add pins s σ H _ _ v u Q I rx ry ⟨i, j, rfl, rfl, ok.here rel _ (.p (.int _))⟩
    · rename_i xs ys
      split at ok
      · rename_i hl
        cases r1 with
        | p r1 =>
          cases r1 with
          | @tup a vs _ ea ra =>
            cases r2 with
            | p r2 =>
              cases r2 with
              | @tup b ws _ eb rb =>
                have hz := LIM_le
                refine op_catA pins s σ H _ _ v u Q I rx ry ⟨a, b, vs, ws, rfl, rfl, SqT.of (rel.sub _ _ ea), SqT.of (rel.sub _ _ eb), ?_, ?_, ?_, ?_⟩
                · rw [ra.length, rb.length]; omega
                · intro z
                  subst z
                  cases ra
                  exact ok.here rel _ (.p (.tup eb rb))
                · intro _ z
                  subst z
                  cases rb
                  exact ok.here rel _ (.p (by rw [List.append_nil]; exact .tup ea ra))
                · intro _ _ p hp
                  obtain ⟨rel', e'⟩ := rel.laidF (o := .tup (vs ++ ws)) hp
                  refine ok _ ι _ e' rel' _ (.p (.tup upd_same ?_))
                  have h1 := (ra.rds (ι := ι)).append (rb.rds (ι := ι))
                  rw [← List.map_append] at h1
                  exact h1.rps.mono e'.sub
      · exact ok.elim
    · rename_i i j
      split at ok
      · rename_i hl
        cases r1 with
        | p r1 =>
          cases r1
          cases r2 with
          | p r2 =>
            cases r2
            have hz := LIM_le
            exact op_add_str pins s σ H _ _ v u Q I rx ry ⟨i, j, rfl, rfl, by omega, ok.here rel _ (.p (.str _))⟩
      · exact ok.elim
    · exact catL_op (g := g) false pins s σ H x y v u Q I rx ry ⟨F, ι, M, dx, dy, rel, r1, r2, ok⟩
  | addM => exact catL_op true
  | sub =>
    refine int_op (C := fun _ _ => True) (gi := fun i j => i - j) ?_ fun x y M => ?_
    · intro pins s σ H x y v u Q I rx ry h
      obtain ⟨i, j, rfl, rfl, _, q⟩ := h
      exact op_sub pins s σ H _ _ v u Q I rx ry ⟨i, j, rfl, rfl, q⟩
    · unfold binop; dsimp only; split
      · exact .inl ⟨_, _, rfl, rfl, trivial, rfl⟩
      · exact .inr rfl
  | mul =>
    refine int_op mulOk_op fun x y M => ?_
    unfold binop; dsimp only; split
    · rename_i i j
      by_cases c : mulOk i j = true
      · exact .inl ⟨i, j, rfl, rfl, c, if_pos c⟩
      · exact .inr (if_neg c)
    · exact .inr rfl
  | fdiv =>
    refine int_op divOk_op fun x y M => ?_
    unfold binop; dsimp only; split
    · rename_i i j
      by_cases c : divOk j = true
      · exact .inl ⟨i, j, rfl, rfl, c, if_pos c⟩
      · exact .inr (if_neg c)
    · exact .inr rfl
  | mod =>
    refine int_op (op_mod (X := X)) fun x y M => ?_
    unfold binop; dsimp only; split
    · rename_i i j
      by_cases c : 0 < j
      · exact .inl ⟨i, j, rfl, rfl, c, if_pos c⟩
      · exact .inr (if_neg c)
    · exact .inr rfl
  | pow =>
    refine int_op powOk_op fun x y M => ?_
    unfold binop; dsimp only; split
    · rename_i i j
      by_cases c : powOk i j = true
      · exact .inl ⟨i, j, rfl, rfl, c, if_pos c⟩
      · exact .inr (if_neg c)
    · exact .inr rfl
  | rep => exact repL_op false
  | repM => exact repL_op true
end
end Mi

set_option maxRecDepth 100000
set_option maxHeartbeats 4000000
/-! A dict compared with what is none. -/
namespace MiEq
open PySem PySem.SeqAt PySem.Spec
open AutoSeq1 (wpAny_loadPart')
open MeetsSeq

section
variable {A : Around} {s : Shared}
/-- a dict object -/
def IsDc (h : Heap) (l : Addr) : Prop := ∃ o es ep, h.get? l = some o ∧ o.cls = .type "dict" ∧ o.data = .dict es ep
theorem IsDc.ty {l : Addr} (h : IsDc s.heap l) : s.TypeIs (.ref l) "dict" := let ⟨o, _, _, ho, hc, _⟩ := h; ⟨o, ho, hc⟩
/-- dict.__eq__ with another type -/
theorem dc_declines {l : Addr} {x : Value} {T : String} (hl : IsDc s.heap l) (hx : s.TypeIs x T) (hsub : isSubtype (.type T) (.type "dict") = pure false) {prog : Program} {w : World} {E : Value → Shared → Prop} (Q' : Value → Shared → Prop) (hq : Q' .notImplemented s) :
    wpAny (model prog w) A (call (.builtin "dict.__eq__") [.ref l, x]) Q' E s := by
  refine wpAny_call_entry PySem.F.slot_dict_eq hl.ty PySem.F.entry_dict_eq ?_ (PySem.F.args_dict_eq_2 _ _)
  show wpAny _ _ (Builtin.Dict.dictSlotArgs "__eq__" ⟨[.ref l, x], []⟩ >>= _) _ _ s
  refine wpAny_bind ?_
  unfold Builtin.Dict.dictSlotArgs
  refine wpAny_bind (wpAny_notOrdered_dict hl.ty ?_)
  show wpAny _ _ (pure (Value.ref l, x)) _ _ s
  refine wpAny_pure ?_
  refine wpAny_bind (wpAny_isInstance (T := T) hx hsub ?_)
  simp only [Bool.not_false, if_true]
  refine wpAny_bind (wpAny_rule ?_)
  exact wpAny_pure ⟨_, rfl, hq⟩
end
abbrev dcOb (dd : Option Addr) (es : Array DictEntry) (ep : Nat) (sl : Array (Option Value)) : Obj := { cls := .type "dict", dict := dd, data := .dict es ep, slots := sl }
theorem bl_declines (b : Bool) (l : Addr) (es : Array DictEntry) (ep : Nat) (dd : Option Addr) (sl : Array (Option Value)) :
    Meets (Builtin.«int.__eq__» ⟨[.bool b, .ref l], []⟩) (fun _ R s => s.heap.get? l = some (dcOb dd es ep sl) ∧ R (.ok (.ret .notImplemented)) s) :=
  .of_wp fun prog w A R s h => by obtain ⟨hp, g, d, tk, os⟩ := s; obtain ⟨hl, h⟩ := h; wp_walk using wpAny_loadPart' hl, wpAny_load hl; exact ⟨_, rfl, h⟩
theorem in_declines (b : Int) (u : Tok) (l : Addr) (es : Array DictEntry) (ep : Nat) (dd : Option Addr) (sl : Array (Option Value)) :
    Meets (Builtin.«int.__eq__» ⟨[.int b u, .ref l], []⟩) (fun _ R s => s.heap.get? l = some (dcOb dd es ep sl) ∧ R (.ok (.ret .notImplemented)) s) :=
  .of_wp fun prog w A R s h => by obtain ⟨hp, g, d, tk, os⟩ := s; obtain ⟨hl, h⟩ := h; wp_walk using wpAny_loadPart' hl, wpAny_load hl; exact ⟨_, rfl, h⟩
theorem st_declines (b : Str) (u : Tok) (l : Addr) (es : Array DictEntry) (ep : Nat) (dd : Option Addr) (sl : Array (Option Value)) :
    Meets (Builtin.«str.__eq__» ⟨[.str b u, .ref l], []⟩) (fun _ R s => s.heap.get? l = some (dcOb dd es ep sl) ∧ R (.ok (.ret .notImplemented)) s) :=
  .of_wp fun prog w A R s h => by obtain ⟨hp, g, d, tk, os⟩ := s; obtain ⟨hl, h⟩ := h; wp_walk using wpAny_loadPart' hl, wpAny_load hl; exact ⟨_, rfl, h⟩
theorem ls_declines (l b : Addr) (items : Array Value) (n : Nat) (dd dd2 : Option Addr) (sl sl2 : Array (Option Value)) (es : Array DictEntry) (ep : Nat) :
    Meets (Builtin.«list.__eq__» ⟨[.ref l, .ref b], []⟩) (fun _ R s => s.heap.get? l = some { cls := .type "list", dict := dd, data := .seq items n, slots := sl } ∧ s.heap.get? b = some (dcOb dd2 es ep sl2) ∧ R (.ok (.ret .notImplemented)) s) :=
  .of_wp fun prog w A R s h => by obtain ⟨hp, g, d, tk, os⟩ := s; obtain ⟨hl, hb, h⟩ := h; have f1 := F.sub_dict_list; wp_walk using wpAny_loadPart' hl, wpAny_loadPart' hb; exact ⟨_, rfl, h⟩
theorem tp_declines (l b : Addr) (items : Array Value) (n : Nat) (dd dd2 : Option Addr) (sl sl2 : Array (Option Value)) (es : Array DictEntry) (ep : Nat) :
    Meets (Builtin.«tuple.__eq__» ⟨[.ref l, .ref b], []⟩) (fun _ R s => s.heap.get? l = some { cls := .type "tuple", dict := dd, data := .seq items n, slots := sl } ∧ s.heap.get? b = some (dcOb dd2 es ep sl2) ∧ R (.ok (.ret .notImplemented)) s) :=
  .of_wp fun prog w A R s h => by obtain ⟨hp, g, d, tk, os⟩ := s; obtain ⟨hl, hb, h⟩ := h; have f1 := F.sub_dict_tuple; wp_walk using wpAny_loadPart' hl, wpAny_loadPart' hb; exact ⟨_, rfl, h⟩
section
variable {A : Around} {s : Shared}
def NoFl : Value → Bool
  | .float _ _ => false
  | _ => true
theorem eqAt_of {a b : Value} {r : Bool} (nf : NoFl a = true) (hne : a ≠ b) (h : RcAt A s a b r) : EqAt A s a b r := fun prog w E Q hq => by
  cases a <;> first
    | exact absurd nf Bool.false_ne_true
    | (unfold eqBool; exact wpAny_holding (wpAny_ite_split (fun hab => absurd (eq_of_beq hab) hne) fun _ => wpAny_bind (h prog w E _ (wpAny_truthy_bool hq))))
theorem IsDc.split {l : Addr} (h : IsDc s.heap l) : ∃ dd es ep sl, s.heap.get? l = some (dcOb dd es ep sl) := by
  obtain ⟨⟨cls, dd, data, sl⟩, es, ep, ho, hc, hd⟩ := h
  simp only at hc hd
  subst hc hd
  exact ⟨dd, es, ep, sl, ho⟩
theorem rc_dict_none {l : Addr} (hl : IsDc s.heap l) (hu : A.units < cLine) : RcAt A s (.ref l) Value.none false := fun prog w E Q h => by
  obtain ⟨dd, es, ep, sl, ho⟩ := hl.split
  exact rc_eq_decline_or (k := false) hl.ty rfl (by decide) F.sub_NoneType_dict F.slot_dict_eq F.slot_NoneType_eq_refl
    (fun _ hq => dc_declines (s := s) (x := Value.none) (T := "NoneType") hl rfl F.sub_NoneType_dict _ hq)
    (fun _ hq => call_gives F.slot_NoneType_eq_refl rfl F.entry_NoneType_eq (F.args_NoneType_eq_2 _ _) (NoneType___eq___none_ref_0 l) hq)
    (fun _ hq => wpAny_of_eq (rfl : isSame (.ref l) Value.none = pure false) hq) (.inr hu) h
theorem rc_none_dict {l : Addr} (hl : IsDc s.heap l) (hu : A.units < cLine) : RcAt A s Value.none (.ref l) false := fun prog w E Q h => by
  obtain ⟨dd, es, ep, sl, ho⟩ := hl.split
  exact rc_eq_decline_or (k := false) rfl hl.ty (by decide) F.sub_dict_NoneType F.slot_NoneType_eq F.slot_dict_eq_refl
    (fun _ hq => call_gives F.slot_NoneType_eq rfl F.entry_NoneType_eq (F.args_NoneType_eq_2 _ _) (NoneType___eq___none_ref_0 l) hq)
    (fun _ hq => dc_declines (s := s) (x := Value.none) (T := "NoneType") hl rfl F.sub_NoneType_dict _ hq)
    (fun _ hq => wpAny_of_eq (rfl : isSame Value.none (.ref l) = pure false) hq) (.inr hu) h
theorem eq_dict_none {l : Addr} (hl : IsDc s.heap l) (hu : A.units < cLine) : EqAt A s (.ref l) Value.none false := eqAt_of rfl nofun (rc_dict_none  hl hu)
theorem eq_none_dict {l : Addr} (hl : IsDc s.heap l) (hu : A.units < cLine) : EqAt A s Value.none (.ref l) false := eqAt_of rfl nofun (rc_none_dict  hl hu)
theorem rc_dict_bool (b : Bool) {l : Addr} (hl : IsDc s.heap l) (hu : A.units < cLine) : RcAt A s (.ref l) (Value.bool b) false := fun prog w E Q h => by
  obtain ⟨dd, es, ep, sl, ho⟩ := hl.split
  exact rc_eq_decline_or (k := false) hl.ty rfl (by decide) F.sub_bool_dict F.slot_dict_eq F.slot_bool_eq_refl
    (fun _ hq => dc_declines (s := s) (x := Value.bool b) (T := "bool") hl rfl F.sub_bool_dict _ hq)
    (fun _ hq => call_meets F.slot_bool_eq_refl rfl F.entry_int_eq (F.args_int_eq_2 _ _) (bl_declines b l es ep dd sl) ⟨ho, hq⟩)
    (fun _ hq => wpAny_of_eq (rfl : isSame (.ref l) (Value.bool b) = pure false) hq) (.inr hu) h
theorem rc_bool_dict (b : Bool) {l : Addr} (hl : IsDc s.heap l) (hu : A.units < cLine) : RcAt A s (Value.bool b) (.ref l) false := fun prog w E Q h => by
  obtain ⟨dd, es, ep, sl, ho⟩ := hl.split
  exact rc_eq_decline_or (k := false) rfl hl.ty (by decide) F.sub_dict_bool F.slot_bool_eq F.slot_dict_eq_refl
    (fun _ hq => call_meets F.slot_bool_eq rfl F.entry_int_eq (F.args_int_eq_2 _ _) (bl_declines b l es ep dd sl) ⟨ho, hq⟩)
    (fun _ hq => dc_declines (s := s) (x := Value.bool b) (T := "bool") hl rfl F.sub_bool_dict _ hq)
    (fun _ hq => wpAny_of_eq (rfl : isSame (Value.bool b) (.ref l) = pure false) hq) (.inr hu) h
theorem eq_dict_bool (b : Bool) {l : Addr} (hl : IsDc s.heap l) (hu : A.units < cLine) : EqAt A s (.ref l) (Value.bool b) false := eqAt_of rfl nofun (rc_dict_bool b hl hu)
theorem eq_bool_dict (b : Bool) {l : Addr} (hl : IsDc s.heap l) (hu : A.units < cLine) : EqAt A s (Value.bool b) (.ref l) false := eqAt_of rfl nofun (rc_bool_dict b hl hu)
theorem rc_dict_int (b : Int) (u : Tok) {l : Addr} (hl : IsDc s.heap l) (hu : A.units < cLine) : RcAt A s (.ref l) (Value.int b u) false := fun prog w E Q h => by
  obtain ⟨dd, es, ep, sl, ho⟩ := hl.split
  exact rc_eq_decline_or (k := false) hl.ty (typeIs_int s b u) (by decide) F.sub_int_dict F.slot_dict_eq F.slot_int_eq_refl
    (fun _ hq => dc_declines hl (typeIs_int s b u) F.sub_int_dict _ hq)
    (fun _ hq => call_meets F.slot_int_eq_refl (typeIs_int s b u) F.entry_int_eq (F.args_int_eq_2 _ _) (in_declines b u l es ep dd sl) ⟨ho, hq⟩)
    (fun _ hq => wpAny_of_eq (rfl : isSame (.ref l) (Value.int b u) = pure false) hq) (.inr hu) h
theorem rc_int_dict (b : Int) (u : Tok) {l : Addr} (hl : IsDc s.heap l) (hu : A.units < cLine) : RcAt A s (Value.int b u) (.ref l) false := fun prog w E Q h => by
  obtain ⟨dd, es, ep, sl, ho⟩ := hl.split
  exact rc_eq_decline_or (k := false) (typeIs_int s b u) hl.ty (by decide) F.sub_dict_int F.slot_int_eq F.slot_dict_eq_refl
    (fun _ hq => call_meets F.slot_int_eq (typeIs_int s b u) F.entry_int_eq (F.args_int_eq_2 _ _) (in_declines b u l es ep dd sl) ⟨ho, hq⟩)
    (fun _ hq => dc_declines hl (typeIs_int s b u) F.sub_int_dict _ hq)
    (fun _ hq => wpAny_of_eq (rfl : isSame (Value.int b u) (.ref l) = pure false) hq) (.inr hu) h
theorem eq_dict_int (b : Int) (u : Tok) {l : Addr} (hl : IsDc s.heap l) (hu : A.units < cLine) : EqAt A s (.ref l) (Value.int b u) false := eqAt_of rfl nofun (rc_dict_int b u hl hu)
theorem eq_int_dict (b : Int) (u : Tok) {l : Addr} (hl : IsDc s.heap l) (hu : A.units < cLine) : EqAt A s (Value.int b u) (.ref l) false := eqAt_of rfl nofun (rc_int_dict b u hl hu)
theorem rc_dict_str (b : Str) (u : Tok) {l : Addr} (hl : IsDc s.heap l) (hu : A.units < cLine) : RcAt A s (.ref l) (Value.str b u) false := fun prog w E Q h => by
  obtain ⟨dd, es, ep, sl, ho⟩ := hl.split
  exact rc_eq_decline_or (k := false) hl.ty (typeIs_str s b u) (by decide) F.sub_str_dict F.slot_dict_eq F.slot_str_eq_refl
    (fun _ hq => dc_declines hl (typeIs_str s b u) F.sub_str_dict _ hq)
    (fun _ hq => call_meets F.slot_str_eq_refl (typeIs_str s b u) F.entry_str_eq (F.args_str_eq_2 _ _) (st_declines b u l es ep dd sl) ⟨ho, hq⟩)
    (fun _ hq => wpAny_of_eq (rfl : isSame (.ref l) (Value.str b u) = pure false) hq) (.inr hu) h
theorem rc_str_dict (b : Str) (u : Tok) {l : Addr} (hl : IsDc s.heap l) (hu : A.units < cLine) : RcAt A s (Value.str b u) (.ref l) false := fun prog w E Q h => by
  obtain ⟨dd, es, ep, sl, ho⟩ := hl.split
  exact rc_eq_decline_or (k := false) (typeIs_str s b u) hl.ty (by decide) F.sub_dict_str F.slot_str_eq F.slot_dict_eq_refl
    (fun _ hq => call_meets F.slot_str_eq (typeIs_str s b u) F.entry_str_eq (F.args_str_eq_2 _ _) (st_declines b u l es ep dd sl) ⟨ho, hq⟩)
    (fun _ hq => dc_declines hl (typeIs_str s b u) F.sub_str_dict _ hq)
    (fun _ hq => wpAny_of_eq (rfl : isSame (Value.str b u) (.ref l) = pure false) hq) (.inr hu) h
theorem eq_dict_str (b : Str) (u : Tok) {l : Addr} (hl : IsDc s.heap l) (hu : A.units < cLine) : EqAt A s (.ref l) (Value.str b u) false := eqAt_of rfl nofun (rc_dict_str b u hl hu)
theorem eq_str_dict (b : Str) (u : Tok) {l : Addr} (hl : IsDc s.heap l) (hu : A.units < cLine) : EqAt A s (Value.str b u) (.ref l) false := eqAt_of rfl nofun (rc_str_dict b u hl hu)
theorem ne_list_dict {l b : Addr} {items : Array Value} (hl : s.heap.IsList l items) (hb : IsDc s.heap b) : l ≠ b := fun e => by
  subst e
  obtain ⟨o, ho, hc, _⟩ := hl
  obtain ⟨o2, _, _, ho2, hc2, _⟩ := hb
  rw [ho] at ho2
  cases ho2
  rw [hc] at hc2
  exact absurd hc2 (by simp)
theorem rc_list_dict {l b : Addr} {items : Array Value} (hl : s.heap.IsList l items) (hb : IsDc s.heap b) (hu : A.units < cLine) : RcAt A s (.ref l) (.ref b) false := fun prog w E Q h => by
  have hne := ne_list_dict hl hb
  obtain ⟨⟨k1, dd, k2, sl⟩, ho, q1, n, q2⟩ := id hl
  simp only at q1 q2
  subst q1 q2
  obtain ⟨dd2, es, ep, sl2, ho2⟩ := hb.split
  have ty : s.TypeIs (.ref l) "list" := ⟨_, ho, rfl⟩
  exact rc_eq_decline_or (k := false) ty hb.ty (by decide) F.sub_dict_list F.slot_list_eq F.slot_dict_eq_refl
    (fun _ hq => call_meets F.slot_list_eq ty F.entry_list_eq (F.args_list_eq_2 _ _) (ls_declines l b items n dd dd2 sl sl2 es ep) ⟨ho, ho2, hq⟩)
    (fun _ hq => dc_declines hb ty F.sub_list_dict _ hq)
    (fun _ hq => wpAny_isSame_ref_other hne ho ho2 (by simp) hq) (.inr hu) h
theorem rc_dict_list {l b : Addr} {items : Array Value} (hl : s.heap.IsList l items) (hb : IsDc s.heap b) (hu : A.units < cLine) : RcAt A s (.ref b) (.ref l) false := fun prog w E Q h => by
  have hne := ne_list_dict hl hb
  obtain ⟨⟨k1, dd, k2, sl⟩, ho, q1, n, q2⟩ := id hl
  simp only at q1 q2
  subst q1 q2
  obtain ⟨dd2, es, ep, sl2, ho2⟩ := hb.split
  have ty : s.TypeIs (.ref l) "list" := ⟨_, ho, rfl⟩
  exact rc_eq_decline_or (k := false) hb.ty ty (by decide) F.sub_list_dict F.slot_dict_eq F.slot_list_eq_refl
    (fun _ hq => dc_declines hb ty F.sub_list_dict _ hq)
    (fun _ hq => call_meets F.slot_list_eq_refl ty F.entry_list_eq (F.args_list_eq_2 _ _) (ls_declines l b items n dd dd2 sl sl2 es ep) ⟨ho, ho2, hq⟩)
    (fun _ hq => wpAny_isSame_ref_other (Ne.symm hne) ho2 ho (by simp) hq) (.inr hu) h
theorem eq_list_dict {l b : Addr} {items : Array Value} (hl : s.heap.IsList l items) (hb : IsDc s.heap b) (hu : A.units < cLine) : EqAt A s (.ref l) (.ref b) false := eqAt_of rfl (fun e => ne_list_dict hl hb (by injection e)) (rc_list_dict hl hb hu)
theorem eq_dict_list {l b : Addr} {items : Array Value} (hl : s.heap.IsList l items) (hb : IsDc s.heap b) (hu : A.units < cLine) : EqAt A s (.ref b) (.ref l) false := eqAt_of rfl (fun e => ne_list_dict hl hb (by injection e with e; exact e.symm)) (rc_dict_list hl hb hu)
theorem ne_tuple_dict {l b : Addr} {items : Array Value} (hl : s.heap.IsTuple l items) (hb : IsDc s.heap b) : l ≠ b := fun e => by
  subst e
  obtain ⟨o, ho, hc, _⟩ := hl
  obtain ⟨o2, _, _, ho2, hc2, _⟩ := hb
  rw [ho] at ho2
  cases ho2
  rw [hc] at hc2
  exact absurd hc2 (by simp)
theorem rc_tuple_dict {l b : Addr} {items : Array Value} (hl : s.heap.IsTuple l items) (hb : IsDc s.heap b) (hu : A.units < cLine) : RcAt A s (.ref l) (.ref b) false := fun prog w E Q h => by
  have hne := ne_tuple_dict hl hb
  obtain ⟨⟨k1, dd, k2, sl⟩, ho, q1, n, q2⟩ := id hl
  simp only at q1 q2
  subst q1 q2
  obtain ⟨dd2, es, ep, sl2, ho2⟩ := hb.split
  have ty : s.TypeIs (.ref l) "tuple" := ⟨_, ho, rfl⟩
  exact rc_eq_decline_or (k := false) ty hb.ty (by decide) F.sub_dict_tuple F.slot_tuple_eq F.slot_dict_eq_refl
    (fun _ hq => call_meets F.slot_tuple_eq ty F.entry_tuple_eq (F.args_tuple_eq_2 _ _) (tp_declines l b items n dd dd2 sl sl2 es ep) ⟨ho, ho2, hq⟩)
    (fun _ hq => dc_declines hb ty F.sub_tuple_dict _ hq)
    (fun _ hq => wpAny_isSame_ref_other' hne ho ho2 (by simp) hq) (.inr hu) h
theorem rc_dict_tuple {l b : Addr} {items : Array Value} (hl : s.heap.IsTuple l items) (hb : IsDc s.heap b) (hu : A.units < cLine) : RcAt A s (.ref b) (.ref l) false := fun prog w E Q h => by
  have hne := ne_tuple_dict hl hb
  obtain ⟨⟨k1, dd, k2, sl⟩, ho, q1, n, q2⟩ := id hl
  simp only at q1 q2
  subst q1 q2
  obtain ⟨dd2, es, ep, sl2, ho2⟩ := hb.split
  have ty : s.TypeIs (.ref l) "tuple" := ⟨_, ho, rfl⟩
  exact rc_eq_decline_or (k := false) hb.ty ty (by decide) F.sub_tuple_dict F.slot_dict_eq F.slot_tuple_eq_refl
    (fun _ hq => dc_declines hb ty F.sub_tuple_dict _ hq)
    (fun _ hq => call_meets F.slot_tuple_eq_refl ty F.entry_tuple_eq (F.args_tuple_eq_2 _ _) (tp_declines l b items n dd dd2 sl sl2 es ep) ⟨ho, ho2, hq⟩)
    (fun _ hq => wpAny_isSame_ref_other (Ne.symm hne) ho2 ho (by simp) hq) (.inr hu) h
theorem eq_tuple_dict {l b : Addr} {items : Array Value} (hl : s.heap.IsTuple l items) (hb : IsDc s.heap b) (hu : A.units < cLine) : EqAt A s (.ref l) (.ref b) false := eqAt_of rfl (fun e => ne_tuple_dict hl hb (by injection e)) (rc_tuple_dict hl hb hu)
theorem eq_dict_tuple {l b : Addr} {items : Array Value} (hl : s.heap.IsTuple l items) (hb : IsDc s.heap b) (hu : A.units < cLine) : EqAt A s (.ref b) (.ref l) false := eqAt_of rfl (fun e => ne_tuple_dict hl hb (by injection e with e; exact e.symm)) (rc_dict_tuple hl hb hu)
end
end MiEq

set_option maxRecDepth 100000
set_option maxHeartbeats 4000000
/-! Equality of data in which dicts and instances may stand. -/
namespace Mi
open PySem PySem.SeqAt PySem.Spec L2 MiEq
mutual
/-- how data is read -/
inductive Rx (h : Heap) : Value → P → Prop
  | non : Rx h .none .non
  | bl (b : Bool) : Rx h (.bool b) (.bl b)
  | int (i : Int) (t : Tok) : Rx h (.int i t) (.int i)
  | str (x : Str) (t : Tok) : Rx h (.str x t) (.str x)
  | tup {a : Addr} {vs : Array Value} {xs : List P} : h.IsTuple a vs → Rxs h vs.toList xs → Rx h (.ref a) (.tup xs)
  | lst {a : Addr} {vs : Array Value} {xs : List P} : h.IsList a vs → Rxs h vs.toList xs → Rx h (.ref a) (.lst xs)
  | dK {a : Addr} (kvs : List (Key × P)) : IsDc h a → Rx h (.ref a) (.dK kvs)
  | obj (v : Value) (c : Nat) (fs : List P) : Rx h v (.obj c fs)
  | scr (v : Value) (ns : List Int) : Rx h v (.scr ns)
inductive Rxs (h : Heap) : List Value → List P → Prop
  | nil : Rxs h [] []
  | cons {v : Value} {vs : List Value} {x : P} {xs : List P} : Rx h v x → Rxs h vs xs → Rxs h (v :: vs) (x :: xs)
end
theorem Rxs.length {h : Heap} : ∀ {vs : List Value} {xs : List P}, Rxs h vs xs → vs.length = xs.length
  | _, _, .nil => rfl
  | _, _, .cons _ r => by simp [Rxs.length r]
theorem allB_same {h : Heap} {f : P → P → Option Bool} (hf : ∀ v a b r, Rx h v a → Rx h v b → f a b = some r → r = true) : ∀ {vs : List Value} {xs ys : List P} {r : Bool}, Rxs h vs xs → Rxs h vs ys → allB f xs ys = some r → r = true
  | _, _, _, _, .nil, .nil, e => by cases e; rfl
  | _, _, _, _, .cons (x := x) p1 t1, .cons (x := y) p2 t2, e => by
    simp only [allB] at e
    split at e
    · rename_i a b h1 h2
      cases e
      rw [hf _ _ _ _ p1 p2 h1, allB_same hf t1 t2 h2]; rfl
    · cases e
theorem nil_same {h : Heap} {v : Value} {a b : P} {r : Bool} (p1 : Rx h v a) (p2 : Rx h v b) (e : (if a.kd = 0 ∧ b.kd = 0 then some (P.eqv a b) else if a.kd ≠ b.kd ∧ a.kd ≠ 4 ∧ b.kd ≠ 4 then some false else none) = some r) : r = true := by
  have clash : ∀ {l : Addr} {vs ws : Array Value}, h.IsList l vs → h.IsTuple l ws → False := fun h1 h2 => by
    obtain ⟨o, q1, q2, _⟩ := h1
    obtain ⟨o2, z1, z2, _⟩ := h2
    rw [q1] at z1; cases z1
    rw [q2] at z2
    exact absurd z2 (by simp)
  have c2 : ∀ {l : Addr} {vs : Array Value}, h.IsList l vs → IsDc h l → False := fun h1 h2 => by
    obtain ⟨o, q1, q2, _⟩ := h1
    obtain ⟨o2, _, _, z1, z2, _⟩ := h2
    rw [q1] at z1; cases z1
    rw [q2] at z2
    exact absurd z2 (by simp)
  have c3 : ∀ {l : Addr} {vs : Array Value}, h.IsTuple l vs → IsDc h l → False := fun h1 h2 => by
    obtain ⟨o, q1, q2, _⟩ := h1
    obtain ⟨o2, _, _, z1, z2, _⟩ := h2
    rw [q1] at z1; cases z1
    rw [q2] at z2
    exact absurd z2 (by simp)
  cases p1 <;> cases p2 <;> simp [P.kd, P.eqv] at e <;> first | exact e.symm | (subst e; rfl) | (exact (clash ‹_› ‹_›).elim) | (exact (c2 ‹_› ‹_›).elim) | (exact (c3 ‹_› ‹_›).elim) | skip
theorem eqo_same {h : Heap} : ∀ (n : Nat) (v : Value) (a b : P) (r : Bool), Rx h v a → Rx h v b → P.eqo n a b = some r → r = true
  | 0, v, a, b, r, p1, p2, e => nil_same p1 p2 e
  | n + 1, v, a, b, r, p1, p2, e => by
    simp only [P.eqo] at e
    split at e
    · rename_i xs ys
      cases p1 with
      | lst l1 r1 =>
        cases p2 with
        | lst l2 r2 =>
          obtain ⟨o, q1, _, n1, q3⟩ := l1
          obtain ⟨o2, z1, _, n2, z3⟩ := l2
          rw [q1] at z1; cases z1
          rw [q3] at z3; cases z3
          rw [if_pos (r1.length.symm.trans r2.length)] at e
          exact allB_same (fun v a b r => eqo_same n v a b r) r1 r2 e
    · rename_i xs ys
      cases p1 with
      | tup l1 r1 =>
        cases p2 with
        | tup l2 r2 =>
          obtain ⟨o, q1, _, n1, q3⟩ := l1
          obtain ⟨o2, z1, _, n2, z3⟩ := l2
          rw [q1] at z1; cases z1
          rw [q3] at z3; cases z3
          split at e
          · rename_i c hc
            cases e
            rw [allB_same (fun v a b r => eqo_same n v a b r) r1 r2 hc, r1.length.symm.trans r2.length]
            simp
          · cases e
    · exact nil_same p1 p2 e
theorem Rx.atom {h : Heap} {v : Value} {a : P} (p : Rx h v a) (k : a.kd = 0) : ∃ as, Reads h v a.py as ∧ a.py.plain = true ∧ a.py.depth = 0 := by
  cases p <;> first | (simp [P.kd] at k; done) | exact ⟨_, .none, rfl, rfl⟩ | exact ⟨_, .bool _, rfl, rfl⟩ | exact ⟨_, .int _ _, rfl, rfl⟩ | exact ⟨_, .str _ _, rfl, rfl⟩
theorem eqv_atom {a b : P} (h1 : a.kd = 0) (h2 : b.kd = 0) : PyData.eqv a.py b.py = P.eqv a b := by
  cases a <;> cases b <;> first | (simp [P.kd] at h1; done) | (simp [P.kd] at h2; done) | simp [P.py, PyData.eqv, P.eqv]
section
variable {A : Around} {s : Shared}
theorem eq_nil {u v : Value} {a b : P} {r : Bool} {n : Nat} (p1 : Rx s.heap u a) (p2 : Rx s.heap v b) (hu : A.units + n < cLine) (e : (if a.kd = 0 ∧ b.kd = 0 then some (P.eqv a b) else if a.kd ≠ b.kd ∧ a.kd ≠ 4 ∧ b.kd ≠ 4 then some false else none) = some r) : EqAt A s u v r := by
  have hu : A.units < cLine := by omega
  split at e
  · rename_i k
    cases e
    obtain ⟨as, r1, q1, d1⟩ := p1.atom k.1
    obtain ⟨bs, r2, q2, d2⟩ := p2.atom k.2
    rw [← eqv_atom k.1 k.2]
    exact eqAt_plain _ _ A s _ _ _ _ r1 r2 q1 q2 (by rw [d1, d2]; exact hu)
  · split at e
    · rename_i k
      cases e
      cases p1 with
      | non => cases p2 with
        | tup l _ => exact EqAt.none_tuple l hu
        | lst l _ => exact EqAt.none_list l hu
        | dK _ l => exact eq_none_dict l hu
        | _ => simp [P.kd] at k
      | bl x => cases p2 with
        | tup l _ => exact EqAt.bool_tuple x l hu
        | lst l _ => exact EqAt.bool_list x l hu
        | dK _ l => exact eq_bool_dict x l hu
        | _ => simp [P.kd] at k
      | int x t => cases p2 with
        | tup l _ => exact EqAt.int_tuple x t l hu
        | lst l _ => exact EqAt.int_list x t l hu
        | dK _ l => exact eq_int_dict x t l hu
        | _ => simp [P.kd] at k
      | str x t => cases p2 with
        | tup l _ => exact EqAt.str_tuple x t l hu
        | lst l _ => exact EqAt.str_list x t l hu
        | dK _ l => exact eq_str_dict x t l hu
        | _ => simp [P.kd] at k
      | tup m _ => cases p2 with
        | non => exact EqAt.tuple_none m hu
        | bl x => exact EqAt.tuple_bool x m hu
        | int x t => exact EqAt.tuple_int x t m hu
        | str x t => exact EqAt.tuple_str x t m hu
        | lst l _ => exact EqAt.tuple_list m l hu
        | dK _ l => exact eq_tuple_dict m l hu
        | _ => simp [P.kd] at k
      | lst m _ => cases p2 with
        | non => exact EqAt.list_none m hu
        | bl x => exact EqAt.list_bool x m hu
        | int x t => exact EqAt.list_int x t m hu
        | str x t => exact EqAt.list_str x t m hu
        | tup l _ => exact EqAt.list_tuple m l hu
        | dK _ l => exact eq_list_dict m l hu
        | _ => simp [P.kd] at k
      | dK _ m => cases p2 with
        | non => exact eq_dict_none m hu
        | bl x => exact eq_dict_bool x m hu
        | int x t => exact eq_dict_int x t m hu
        | str x t => exact eq_dict_str x t m hu
        | tup l _ => exact eq_dict_tuple l m hu
        | lst l _ => exact eq_dict_list l m hu
        | _ => simp [P.kd] at k
      | _ => simp [P.kd] at k
    · cases e
theorem allB_eq {A : Around} {s : Shared} {f : P → P → Option Bool} (hf : ∀ u v a b r, Rx s.heap u a → Rx s.heap v b → f a b = some r → EqAt A s u v r) : ∀ {us vs : List Value} {xs ys : List P} {r : Bool}, Rxs s.heap us xs → Rxs s.heap vs ys → allB f xs ys = some r →
    ∃ e : Nat → Bool, (∀ j (h1 : j < us.length) (h2 : j < vs.length), EqAt A s us[j] vs[j] (e j)) ∧ (List.range (min us.length vs.length)).all e = r
  | [], vs, _, _, r, .nil, _, h => by
    cases h
    exact ⟨fun _ => true, fun j h1 => absurd h1 (Nat.not_lt_zero _), by simp⟩
  | _ :: _, [], _, _, r, .cons _ _, .nil, h => by
    cases h
    exact ⟨fun _ => true, fun j _ h2 => absurd h2 (Nat.not_lt_zero _), by simp⟩
  | u :: us, v :: vs, _, _, r, .cons p1 t1, .cons p2 t2, h => by
    simp only [allB] at h
    split at h
    · rename_i a b h1 h2
      cases h
      obtain ⟨e, q1, q2⟩ := allB_eq hf t1 t2 h2
      refine ⟨fun j => match j with | 0 => a | j + 1 => e j, fun j j1 j2 => ?_, ?_⟩
      · cases j with
        | zero => exact hf _ _ _ _ _ p1 p2 h1
        | succ j => exact q1 j (Nat.lt_of_succ_lt_succ j1) (Nat.lt_of_succ_lt_succ j2)
      · have e1 : min (u :: us).length (v :: vs).length = min us.length vs.length + 1 := by simp only [List.length_cons]; omega
        rw [e1, List.range_succ_eq_map, List.all_cons, List.all_map]
        show (a && (List.range (min us.length vs.length)).all e) = (a && b)
        rw [q2]
    · cases h
theorem eqo_eq : ∀ (n : Nat) {A : Around} {s : Shared} (u v : Value) (a b : P) (r : Bool), A.units + n < cLine → Rx s.heap u a → Rx s.heap v b → P.eqo n a b = some r → EqAt A s u v r
  | 0, A, s, u, v, a, b, r, hu, p1, p2, e => eq_nil p1 p2 hu e
  | n + 1, A, s, u, v, a, b, r, hu, p1, p2, e => by
    have same := fun (_ : Unit) (z : v = u) => eqo_same (h := s.heap) (n + 1) u a b r p1 (by rw [← z]; exact p2) e
    simp only [P.eqo] at e
    have hin : A.in1.units + n < cLine := by show A.units + 1 + n < cLine; omega
    split at e
    · rename_i xs ys
      cases p1 with
      | @lst l vs _ l1 r1 =>
        cases p2 with
        | @lst l' vs' _ l2 r2 =>
          by_cases hll : l = l'
          · subst hll
            rw [same () rfl]
            exact EqAt.same _
          · have n1 := r1.length
            have n2 := r2.length
            simp only [Array.length_toList] at n1 n2
            split at e
            · rename_i hxy
              have hsz : vs.size = vs'.size := by omega
              obtain ⟨e', q1, q2⟩ := allB_eq (A := A.in1) (fun u v a b r => eqo_eq n u v a b r hin) r1 r2 e
              have q2' : (List.range vs.size).all e' = r := by
                rw [← q2]
                simp only [Array.length_toList]
                rw [← hsz, Nat.min_self]
              rw [← q2']
              exact EqAt.of_refs hll (RcAt.lists l1 l2 hsz (by omega) fun j j1 j2 => by
                have t := q1 j (by simpa using j1) (by simpa using j2)
                simp only [Array.getElem_toList] at t
                exact t)
            · rename_i hxy
              cases e
              exact EqAt.of_refs hll (RcAt.lists_lengths l1 l2 (by simp; omega) (by omega))
    · rename_i xs ys
      cases p1 with
      | @tup l vs _ l1 r1 =>
        cases p2 with
        | @tup l' vs' _ l2 r2 =>
          by_cases hll : l = l'
          · subst hll
            rw [same () rfl]
            exact EqAt.same _
          · have n1 := r1.length
            have n2 := r2.length
            simp only [Array.length_toList] at n1 n2
            split at e
            · rename_i c hc
              cases e
              obtain ⟨e', q1, q2⟩ := allB_eq (A := A.in1) (fun u v a b r => eqo_eq n u v a b r hin) r1 r2 hc
              have q3 : ((List.range (min vs.size vs'.size)).all e' && vs.size == vs'.size) = (c && decide (xs.length = ys.length)) := by
                rw [← q2]
                simp only [Array.length_toList, n1, n2]
                congr 1
              rw [← q3]
              exact EqAt.of_refs hll (RcAt.tuples l1 l2 (by omega) fun j j1 j2 => by
                have t := q1 j (by simpa using j1) (by simpa using j2)
                simp only [Array.getElem_toList] at t
                exact t)
            · cases e
    · exact eq_nil p1 p2 hu e
theorem eqo_lst (n : Nat) (xs ys : List P) : P.eqo (n + 1) (.lst xs) (.lst ys) = if xs.length = ys.length then allB (P.eqo n) xs ys else some false := rfl
theorem eqo_tup (n : Nat) (xs ys : List P) : P.eqo (n + 1) (.tup xs) (.tup ys) = match allB (P.eqo n) xs ys with
  | some e => some (e && decide (xs.length = ys.length))
  | none => none := rfl
/-- two lists, two tuples: == and != -/
theorem eqt_rc {A : Around} {s : Shared} {u v : Value} {a b : P} {r : Bool} (hu : A.units + SH < cLine) (p1 : Rx s.heap u a) (p2 : Rx s.heap v b) (e : P.eqt a b = some r) : RcAt A s u v r ∧ RcNeAt A s u v (!r) := by
  have hin : A.in1.units + 49 < cLine := by show A.units + 1 + 49 < cLine; unfold SH at hu; omega
  have h0 : A.units < cLine := by omega
  have es : SH = 49 + 1 := rfl
  unfold P.eqt at e
  rw [es] at e
  split at e
  · rename_i xs ys
    rw [eqo_lst] at e
    cases p1 with
    | @lst l vs _ l1 r1 =>
      cases p2 with
      | @lst l' vs' _ l2 r2 =>
        have n1 := r1.length
        have n2 := r2.length
        simp only [Array.length_toList] at n1 n2
        split at e
        · rename_i hxy
          have hsz : vs.size = vs'.size := by omega
          obtain ⟨e', q1, q2⟩ := allB_eq (A := A.in1) (fun u v a b r => eqo_eq 49 u v a b r hin) r1 r2 e
          have q2' : (List.range vs.size).all e' = r := by
            rw [← q2]
            simp only [Array.length_toList]
            rw [← hsz, Nat.min_self]
          have it : ∀ j (h1 : j < vs.size) (h2 : j < vs'.size), EqAt A.in1 s vs[j] vs'[j] (e' j) := fun j j1 j2 => by
            have t := q1 j (by simpa using j1) (by simpa using j2)
            simp only [Array.getElem_toList] at t
            exact t
          rw [← q2']
          exact ⟨RcAt.lists l1 l2 hsz h0 it, RcNeAt.lists l1 l2 hsz h0 it⟩
        · rename_i hxy
          cases e
          have hs : (vs.size != vs'.size) = true := by simp; omega
          exact ⟨RcAt.lists_lengths l1 l2 hs h0, RcNeAt.lists_lengths l1 l2 hs h0⟩
  · rename_i xs ys
    rw [eqo_tup] at e
    cases p1 with
    | @tup l vs _ l1 r1 =>
      cases p2 with
      | @tup l' vs' _ l2 r2 =>
        have n1 := r1.length
        have n2 := r2.length
        simp only [Array.length_toList] at n1 n2
        split at e
        · rename_i c hc
          cases e
          obtain ⟨e', q1, q2⟩ := allB_eq (A := A.in1) (fun u v a b r => eqo_eq 49 u v a b r hin) r1 r2 hc
          have q3 : ((List.range (min vs.size vs'.size)).all e' && vs.size == vs'.size) = (c && decide (xs.length = ys.length)) := by
            rw [← q2]
            simp only [Array.length_toList, n1, n2]
            congr 1
          have it : ∀ j (h1 : j < vs.size) (h2 : j < vs'.size), EqAt A.in1 s vs[j] vs'[j] (e' j) := fun j j1 j2 => by
            have t := q1 j (by simpa using j1) (by simpa using j2)
            simp only [Array.getElem_toList] at t
            exact t
          rw [← q3]
          exact ⟨RcAt.tuples l1 l2 h0 it, RcNeAt.tuples l1 l2 h0 it⟩
        · cases e
  · cases e
end
section
variable {X : Cx} {g : Gx} {F : Hp} {ι : List Addr} {M : Sto} {H : Hp} {pins : List (Addr × Obj)} {s : Shared} {σ : St}
mutual
theorem RP.rx (I : Inv X pins σ H s) (hs : Same F H) : ∀ {v : V} {x : P} {u : Value}, RP g F v x → RelV v u → Rx s.heap u x
  | _, _, _, .non, r => by cases r; exact .non
  | _, _, _, .bl b, r => by cases r; exact .bl b
  | _, _, _, .int i, r => by obtain ⟨t, rfl⟩ := r; exact .int i t
  | _, _, _, .str x, r => by obtain ⟨t, rfl⟩ := r; exact .str x t
  | _, _, _, .tup e rs, r => by
    cases r
    obtain ⟨its, rv, ⟨o, ho, hc, n, hd⟩, _⟩ := I.tuple (SqT.of (hs _ _ e))
    exact .tup ⟨o, ho, hc, n, hd⟩ (RPs.rx I hs rs rv)
  | _, _, _, .lst e rs, r => by
    cases r
    obtain ⟨its, rv, ⟨o, n, ho, hc, _, hd⟩, _⟩ := I.list (SqL.of (hs _ _ e))
    exact .lst ⟨o, ho, hc, n, hd⟩ (RPs.rx I hs rs rv)
  | _, _, u, .dK (a := a) e _ _, r => by
    obtain rfl : u = Value.ref a := r
    obtain ⟨_, _, vs, _, o, es, ep, h1, h2, h3, _⟩ := dk_of I.hok (hs _ _ e)
    exact .dK _ ⟨o, es, ep, h1, h2.1, h3⟩
  | _, _, _, .obj _ _ _ _, _ => .obj _ _ _
  | _, _, _, .scr _, _ => .scr _ _
theorem RPs.rx (I : Inv X pins σ H s) (hs : Same F H) : ∀ {vs : List V} {xs : List P} {us : List Value}, RPs g F vs xs → Vals vs us → Rxs s.heap us xs
  | _, _, _, .nil, r => by cases r; exact .nil
  | _, _, _, .cons r t, h => by
    cases h with
    | cons r1 r2 => exact .cons (RP.rx I hs r r1) (RPs.rx I hs t r2)
end
theorem rd_rx {cf : Nat → List Str} (I : Inv X pins σ H s) (r : Rel g F ι M H) : ∀ (k : Nat) {lo : Nat} {v : V} {d : D} {x : P} {u : Value}, RD g F ι v d → rd cf lo M k d = some x → RelV v u → Rx s.heap u x := by
  have pcase : ∀ {v : V} {y x : P} {u : Value}, RD g F ι v (.p y) → some y = some x → RelV v u → Rx s.heap u x := fun h e hu => by
    cases e
    cases h with
    | p h => exact h.rx I r.sub hu
  intro k
  induction k with
  | zero =>
    intro lo v d x u h e hu
    cases d with
    | p y => exact pcase h e hu
    | ref m => cases e
    | tup ds => cases e
  | succ k ih =>
    have all : ∀ {lo : Nat} {ds : List D} {vs : List V} {xs : List P} {us : List Value}, RDs g F ι vs ds → mapO (rd cf lo M k) ds = some xs → Vals vs us → Rxs s.heap us xs := by
      intro lo ds
      induction ds with
      | nil =>
        intro vs xs us h e hu
        cases h; cases e; cases hu
        exact .nil
      | cons d ds ih2 =>
        intro vs xs us h e hu
        unfold mapO at e
        cases e1 : rd cf lo M k d with
        | none => rw [e1] at e; cases e
        | some y =>
          rw [e1] at e
          simp only [Option.map_eq_some_iff] at e
          obtain ⟨zs, e2, rfl⟩ := e
          cases h with
          | cons h1 h2 =>
            cases hu with
            | cons u1 u2 => exact .cons (ih h1 e1 u1) (ih2 h2 e2 u2)
    intro lo v d x u h e hu
    cases d with
    | p y => exact pcase h e hu
    | ref m =>
      cases h with
      | @ref _ a ea =>
        obtain rfl : u = Value.ref a := hu
        simp only [rd] at e
        split at e
        · cases e
        · split at e
          · rename_i ds q
            simp only [Option.map_eq_some_iff] at e
            obtain ⟨xs, e1, rfl⟩ := e
            obtain ⟨_, vs, e2, e3⟩ := r.cells _ a _ ea q
            obtain ⟨its, rv, ⟨o, n, ho, hc, _, hd⟩, _⟩ := I.list (SqL.of e2)
            exact .lst ⟨o, ho, hc, n, hd⟩ (all e3 e1 rv)
          · rename_i kvs q
            simp only [Option.map_eq_some_iff] at e
            obtain ⟨xs, e1, rfl⟩ := e
            obtain ⟨_, ws, e2, _, _⟩ := r.cells _ a _ ea q
            obtain ⟨_, _, vs, _, o, es, ep, h1, h2, h3, _⟩ := dk_of I.hok e2
            exact .dK _ ⟨o, es, ep, h1, h2.1, h3⟩
          · split at e
            · simp only [Option.map_eq_some_iff] at e
              obtain ⟨xs, e1, rfl⟩ := e
              exact .obj _ _ _
            · cases e
          · cases e
    | tup ds =>
      cases h with
      | @tup a _ _ ea rs =>
        obtain rfl : u = Value.ref a := hu
        simp only [rd, Option.map_eq_some_iff] at e
        obtain ⟨xs, e1, rfl⟩ := e
        obtain ⟨its, rv, ⟨o, ho, hc, n, hd⟩, _⟩ := I.tuple (SqT.of (r.sub _ _ ea))
        exact .tup ⟨o, ho, hc, n, hd⟩ (all rs e1 rv)
end
end Mi

set_option maxRecDepth 100000
set_option maxHeartbeats 2000000
/-! Comparisons by values. -/
namespace Mi
open PySem PySem.Spec L2

theorem sh_tup {n : Nat} {xs : List P} (h : P.sh n (.tup xs) = true) : ∃ m, n = m + 1 ∧ xs.all (P.sh m) = true := by
  cases n with
  | zero => cases h
  | succ m => exact ⟨m, rfl, by simpa only [P.sh] using h⟩
theorem sh_lst {n : Nat} {xs : List P} (h : P.sh n (.lst xs) = true) : ∃ m, n = m + 1 ∧ xs.all (P.sh m) = true := by
  cases n with
  | zero => cases h
  | succ m => exact ⟨m, rfl, by simpa only [P.sh] using h⟩
mutual
theorem sh_py : ∀ (x : P) (n : Nat), P.sh n x = true → x.py.plain = true ∧ x.py.depth ≤ n
  | .non, _, _ => ⟨rfl, Nat.zero_le _⟩
  | .bl _, _, _ => ⟨rfl, Nat.zero_le _⟩
  | .int _, _, _ => ⟨rfl, Nat.zero_le _⟩
  | .str _, _, _ => ⟨rfl, Nat.zero_le _⟩
  | .tup xs, n, h => by
    obtain ⟨m, rfl, h'⟩ := sh_tup h
    obtain ⟨h1, h2⟩ := sh_pys xs m h'
    simp only [P.py, PyData.plain, PyData.depth]
    exact ⟨h1, Nat.succ_le_succ h2⟩
  | .lst xs, n, h => by
    obtain ⟨m, rfl, h'⟩ := sh_lst h
    obtain ⟨h1, h2⟩ := sh_pys xs m h'
    simp only [P.py, PyData.plain, PyData.depth]
    exact ⟨h1, Nat.succ_le_succ h2⟩
  | .dK _, n, h => by cases n <;> cases h
  | .obj _ _, n, h => by cases n <;> cases h
  | .scr _, n, h => by cases n <;> cases h
theorem sh_pys : ∀ (xs : List P) (n : Nat), xs.all (P.sh n) = true → PyData.plainAll (P.pys xs) = true ∧ PyData.depthAll (P.pys xs) ≤ n
  | [], _, _ => ⟨rfl, Nat.zero_le _⟩
  | x :: r, n, h => by
    simp only [List.all_cons, Bool.and_eq_true] at h
    obtain ⟨a1, a2⟩ := sh_py x n h.1
    obtain ⟨b1, b2⟩ := sh_pys r n h.2
    simp only [P.pys, PyData.plainAll, PyData.depthAll, a1, b1]
    exact ⟨rfl, Nat.max_le.mpr ⟨a2, b2⟩⟩
end
mutual
theorem eqv_py : ∀ (x y : P) (n m : Nat), P.sh n x = true → P.sh m y = true → PyData.eqv x.py y.py = P.eqv x y
  | .non, y, _, m, _, h => by cases y <;> first | rfl | (cases m <;> cases h) | (simp only [P.py, PyData.eqv, P.eqv])
  | .bl a, y, _, m, _, h => by cases y <;> first | rfl | (cases m <;> cases h) | (simp only [P.py, PyData.eqv, P.eqv])
  | .int a, y, _, m, _, h => by cases y <;> first | rfl | (cases m <;> cases h) | (simp only [P.py, PyData.eqv, P.eqv])
  | .str a, y, _, m, _, h => by cases y <;> first | rfl | (cases m <;> cases h) | (simp only [P.py, PyData.eqv, P.eqv])
  | .tup xs, y, n, m, h1, h => by
    obtain ⟨n', rfl, h1'⟩ := sh_tup h1
    cases y with
    | tup ys =>
      obtain ⟨m', rfl, h'⟩ := sh_tup h
      simp only [P.py, PyData.eqv, P.eqv]
      exact eqvs_pys xs ys n' m' h1' h'
    | _ => first | rfl | (cases m <;> cases h) | (simp only [P.py, PyData.eqv, P.eqv])
  | .lst xs, y, n, m, h1, h => by
    obtain ⟨n', rfl, h1'⟩ := sh_lst h1
    cases y with
    | lst ys =>
      obtain ⟨m', rfl, h'⟩ := sh_lst h
      simp only [P.py, PyData.eqv, P.eqv]
      exact eqvs_pys xs ys n' m' h1' h'
    | _ => first | rfl | (cases m <;> cases h) | (simp only [P.py, PyData.eqv, P.eqv])
  | .dK _, _, n, _, h, _ => by cases n <;> cases h
  | .obj _ _, _, n, _, h, _ => by cases n <;> cases h
  | .scr _, _, n, _, h, _ => by cases n <;> cases h
theorem eqvs_pys : ∀ (xs ys : List P) (n m : Nat), xs.all (P.sh n) = true → ys.all (P.sh m) = true → PyData.eqvAll (P.pys xs) (P.pys ys) = P.eqvs xs ys
  | [], [], _, _, _, _ => rfl
  | [], _ :: _, _, _, _, _ => rfl
  | _ :: _, [], _, _, _, _ => rfl
  | x :: xs, y :: ys, n, m, h1, h2 => by
    simp only [List.all_cons, Bool.and_eq_true] at h1 h2
    simp only [P.pys, PyData.eqvAll, P.eqvs]
    rw [eqv_py x y n m h1.1 h2.1, eqvs_pys xs ys n m h1.2 h2.2]
end
section
variable {g : Gx} {F : Hp} {H : Hp} {K : PySem.W.Frag}
mutual
theorem RP.dp (hs : Same F H) : ∀ {v : V} {x : P} {n : Nat}, RP g F v x → P.sh n x = true → Dp K H v x.py
  | _, _, _, .non, _ => .non
  | _, _, _, .bl b, _ => .bl b
  | _, _, _, .int i, _ => .int i
  | _, _, _, .str x, _ => .str x
  | _, _, _, .tup e r, h => by
    obtain ⟨m, rfl, h'⟩ := sh_tup h
    exact .tup (SqT.of (hs _ _ e)) (RPs.dp hs r h')
  | _, _, _, .lst e r, h => by
    obtain ⟨m, rfl, h'⟩ := sh_lst h
    exact .lst (SqL.of (hs _ _ e)) (RPs.dp hs r h')
  | _, _, n, .dK _ _ _, h => by cases n <;> cases h
  | _, _, n, .obj _ _ _ _, h => by cases n <;> cases h
  | _, _, n, .scr _, h => by cases n <;> cases h
theorem RPs.dp (hs : Same F H) : ∀ {vs : List V} {xs : List P} {n : Nat}, RPs g F vs xs → xs.all (P.sh n) = true → DpAll K H vs (P.pys xs)
  | _, _, _, .nil, _ => .nil
  | _, _, _, .cons r t, h => by
    simp only [List.all_cons, Bool.and_eq_true] at h
    exact .cons (RP.dp hs r h.1) (RPs.dp hs t h.2)
end
end
theorem mapO_cons {α β : Type} {f : α → Option β} {x : α} {r : List α} {ys : List β} (h : mapO f (x :: r) = some ys) : ∃ y zs, f x = some y ∧ mapO f r = some zs ∧ ys = y :: zs := by
  unfold mapO at h
  cases e : f x with
  | none => rw [e] at h; cases h
  | some y =>
    rw [e] at h
    simp only [Option.map_eq_some_iff] at h
    obtain ⟨zs, h1, rfl⟩ := h
    exact ⟨y, zs, rfl, h1, rfl⟩
section
variable {g : Gx} {F : Hp} {ι : List Addr} {M : Sto} {H : Hp} {K : PySem.W.Frag} {cf : Nat → List Str}
theorem rd_dp (r : Rel g F ι M H) : ∀ (k : Nat) {lo : Nat} {v : V} {d : D} {x : P} {n : Nat}, RD g F ι v d → rd cf lo M k d = some x → P.sh n x = true → Dp K H v x.py := by
  have pcase : ∀ {v : V} {y x : P} {n : Nat}, RD g F ι v (.p y) → some y = some x → P.sh n x = true → Dp K H v x.py := fun h e hs => by
    cases e
    cases h with
    | p h => exact h.dp r.sub hs
  intro k
  induction k with
  | zero =>
    intro lo v d x n h e hs
    cases d with
    | p y => exact pcase h e hs
    | ref m => cases e
    | tup ds => cases e
  | succ k ih =>
    have all : ∀ {lo : Nat} {ds : List D} {vs : List V} {xs : List P} {n : Nat}, RDs g F ι vs ds → mapO (rd cf lo M k) ds = some xs → xs.all (P.sh n) = true → DpAll K H vs (P.pys xs) := by
      intro lo ds
      induction ds with
      | nil =>
        intro vs xs n h e hs
        cases h; cases e
        exact .nil
      | cons d ds ih2 =>
        intro vs xs n h e hs
        obtain ⟨y, zs, e1, e2, rfl⟩ := mapO_cons e
        simp only [List.all_cons, Bool.and_eq_true] at hs
        cases h with
        | cons h1 h2 => exact .cons (ih h1 e1 hs.1) (ih2 h2 e2 hs.2)
    intro lo v d x n h e hs
    cases d with
    | p y => exact pcase h e hs
    | ref m =>
      cases h with
      | @ref _ a ea =>
        simp only [rd] at e
        split at e
        · cases e
        · split at e
          · rename_i ds q
            simp only [Option.map_eq_some_iff] at e
            obtain ⟨xs, e1, rfl⟩ := e
            obtain ⟨m, rfl, h'⟩ := sh_lst hs
            obtain ⟨_, vs, e2, e3⟩ := r.cells _ a _ ea q
            exact .lst (SqL.of e2) (all e3 e1 h')
          · rename_i kvs q
            simp only [Option.map_eq_some_iff] at e
            obtain ⟨xs, e1, rfl⟩ := e
            cases n <;> cases hs
          · split at e
            · simp only [Option.map_eq_some_iff] at e
              obtain ⟨xs, e1, rfl⟩ := e
              cases n <;> cases hs
            · cases e
          · cases e
    | tup ds =>
      cases h with
      | tup ea rs =>
        simp only [rd, Option.map_eq_some_iff] at e
        obtain ⟨xs, e1, rfl⟩ := e
        obtain ⟨m, rfl, h'⟩ := sh_tup hs
        exact .tup (SqT.of (r.sub _ _ ea)) (all rs e1 h')
end
/-- a comparison's rule with two values -/
def rC2 (g : Gx) (f : D → D → Sto → Option Bool) : R2 := fun x y H Q => ∃ F ι M dx dy b, Rel g F ι M H ∧ RD g F ι x dx ∧ RD g F ι y dy ∧ f dx dy M = some b ∧ Q (.bl b) H
def opC : COp → CmpOp
  | .eq => .Eq | .ne => .NotEq | .lt => .Lt | .le => .LtE | .gt => .Gt | .ge => .GtE | .isn => .Is | .isnn => .IsNot | .inn => .In | .nin => .NotIn
section
variable {X : Cx} {g : Gx} {k : Nat} {cf : Nat → List Str}
theorem eqD_op (hr : Room k X.A) : OpR X (compareOp .Eq) (rC2 g (eqD cf)) := by
  intro pins s σ H x y v u Q I rx ry h
  obtain ⟨F, ι, M, dx, dy, b, rel, r1, r2, e, q⟩ := h
  unfold eqD at e
  split at e
  · rename_i a c e1 e2
    split at e
    · rename_i hs
      cases e
      rw [Bool.and_eq_true] at hs
      obtain ⟨as, q1⟩ := Dp.reads I a.py x v (rd_dp rel _ r1 e1 hs.1) rx
      obtain ⟨bs, q2⟩ := Dp.reads I c.py y u (rd_dp rel _ r2 e2 hs.2) ry
      have p1 := sh_py a _ hs.1
      have p2 := sh_py c _ hs.2
      have hu := hr.un
      refine SeqAt.eq_plain q1 q2 p1.1 p2.1 ?_ ⟨.bl _, H, I, rfl, ?_⟩
      · have := p1.2
        unfold SH at this
        omega
      · rw [eqv_py a c _ _ hs.1 hs.2]; exact q
    · have hu := hr.un
      exact (eqt_rc (by unfold SH; omega) (rd_rx I rel _ r1 e1 rx) (rd_rx I rel _ r2 e2 ry) e).1 X.prog X.w _ _ ⟨.bl _, H, I, rfl, q⟩
  · cases e
theorem neD_op (hr : Room k X.A) : OpR X (compareOp .NotEq) (rC2 g fun x y M => (eqD cf x y M).map (!·)) := by
  intro pins s σ H x y v u Q I rx ry h
  obtain ⟨F, ι, M, dx, dy, b, rel, r1, r2, e, q⟩ := h
  simp only [Option.map_eq_some_iff] at e
  obtain ⟨b', e, rfl⟩ := e
  unfold eqD at e
  split at e
  · rename_i a c e1 e2
    split at e
    · rename_i hs
      cases e
      rw [Bool.and_eq_true] at hs
      obtain ⟨as, q1⟩ := Dp.reads I a.py x v (rd_dp rel _ r1 e1 hs.1) rx
      obtain ⟨bs, q2⟩ := Dp.reads I c.py y u (rd_dp rel _ r2 e2 hs.2) ry
      have p1 := sh_py a _ hs.1
      have p2 := sh_py c _ hs.2
      have hu := hr.un
      refine SeqAt.ne_plain q1 q2 p1.1 p2.1 ?_ ⟨.bl _, H, I, rfl, ?_⟩
      · have := p1.2
        unfold SH at this
        omega
      · rw [eqv_py a c _ _ hs.1 hs.2]; exact q
    · have hu := hr.un
      exact (eqt_rc (by unfold SH; omega) (rd_rx I rel _ r1 e1 rx) (rd_rx I rel _ r2 e2 ry) e).2 X.prog X.w _ _ ⟨.bl _, H, I, rfl, q⟩
  · cases e
theorem cmpI_op {op : CmpOp} {f : Int → Int → Bool} (ho : OpR X (compareOp op) (rI0 fun i j => .bl (f i j))) : OpR X (compareOp op) (rC2 g fun x y _ => cmpI f x y) := by
  intro pins s σ H x y v u Q I rx ry h
  obtain ⟨F, ι, M, dx, dy, b, rel, r1, r2, e, q⟩ := h
  unfold cmpI at e
  dsimp only at e
  split at e
  · rename_i i j
    cases e
    cases r1 with
    | p r1 =>
      cases r1
      cases r2 with
      | p r2 =>
        cases r2
        exact ho pins s σ H _ _ v u Q I rx ry ⟨i, j, rfl, rfl, q⟩
  · cases e
theorem intsOf_ok {g : Gx} {F : Hp} : ∀ {vs : List V} {xs : List P} {ns : List Int}, RPs g F vs xs → intsOf xs = some ns → vs = ns.map V.int
  | _, _, _, .nil, e => by cases e; rfl
  | _, _, ns, .cons r t, e => by
    cases r with
    | int i =>
      simp only [intsOf, Option.map_eq_some_iff] at e
      obtain ⟨ms, e1, rfl⟩ := e
      rw [intsOf_ok t e1]; rfl
    | _ => cases e
theorem isn_eq {g : Gx} {F : Hp} {ι : List Addr} {x : V} {d : D} (r : RD g F ι x d) : isNon d = decide (x = .non) := by
  cases r with
  | p r => cases r <;> first | rfl | simp [isNon]
  | ref e => simp [isNon]
  | tup _ _ => simp [isNon]
theorem valV_rds {g : Gx} {F : Hp} {ι : List Addr} (k : Key) : ∀ {ws : List (Key × V)} {kvs : List (Key × D)}, ws.map (·.1) = kvs.map (·.1) → RDs g F ι (ws.map (·.2)) (kvs.map (·.2)) →
    (valV ws k = none ∧ look kvs k = none) ∨ ∃ v d, valV ws k = some v ∧ look kvs k = some d ∧ RD g F ι v d := by
  intro ws
  induction ws with
  | nil =>
    intro kvs h1 h2
    cases kvs with
    | nil => exact .inl ⟨rfl, rfl⟩
    | cons q r => cases h1
  | cons w ws ih =>
    intro kvs h1 h2
    cases kvs with
    | nil => cases h1
    | cons q kvs =>
      simp only [List.map_cons, List.cons.injEq] at h1
      cases h2 with
      | cons a t =>
        by_cases e : w.1 = k
        · exact .inr ⟨w.2, q.2, valV_pos e, by simp [look, List.find?_cons, ← h1.1, e], a⟩
        · rw [valV_neg e]
          have : look (q :: kvs) k = look kvs k := by simp [look, List.find?_cons, ← h1.1, e]
          rw [this]
          exact ih h1.2 t
theorem dctD_ok {g : Gx} {F : Hp} {ι : List Addr} {M : Sto} {H : Hp} (r : Rel g F ι M H) {x : V} {d : D} {kvs : List (Key × D)} (h : RD g F ι x d) (e : dctD M d = some kvs) :
    ∃ (a : Addr) (ws : List (Key × V)), x = .ref a ∧ H a = some (.dK ws) ∧ ws.map (·.1) = kvs.map (·.1) ∧ RDs g F ι (ws.map (·.2)) (kvs.map (·.2)) := by
  cases h with
  | p h =>
    cases h with
    | @dK a ws ks ea k rs =>
      cases e
      refine ⟨a, ws, rfl, r.sub _ _ ea, by rw [k]; simp, ?_⟩
      have := rs.rds (ι := ι)
      rw [List.map_map] at this ⊢
      exact this
    | _ => cases e
  | @ref n a ea =>
    cases q : M[n]? with
    | none => simp only [dctD, q] at e; cases e
    | some c =>
      cases c with
      | dK ks =>
        simp only [dctD, q] at e
        cases e
        obtain ⟨_, ws, e1, e2, e3⟩ := r.cells n a _ ea q
        exact ⟨a, ws, rfl, e1, e2, e3⟩
      | _ => simp only [dctD, q] at e; cases e
  | tup _ _ => cases e
theorem key_ok {g : Gx} {F : Hp} {y : V} {a : P} {k : Key} (r : RP g F y a) (e : keyOf a = some k) : y = kV k := by
  cases r <;> first | (cases e; rfl) | cases e
theorem in_road {g : Gx} {cf : Nat → List Str} {X : Cx} {k : Nat} (hr : Room k X.A) {pins : List (Addr × Obj)} {s : Shared} {σ : St} {H : Hp} {x y : V} {v u : Value} (I : Inv X pins σ H s) (rx : RelV x v) (ry : RelV y u) {F : Hp} {ι : List Addr} {M : Sto} {dx dy : D} {b : Bool}
    (rel : Rel g F ι M H) (r1 : RD g F ι x dx) (r2 : RD g F ι y dy) (e : inD cf dx dy M = some b) :
    (∃ (a : Addr) (ws : List (Key × V)) (q : Key), y = .ref a ∧ H a = some (.dK ws) ∧ x = kV q ∧ b = (valV ws q).isSome) ∨
    (∃ (c : P) (zs : List P) (as bs : List Addr), (Reads s.heap u (.list (P.pys zs)) as ∨ Reads s.heap u (.tuple (P.pys zs)) as) ∧ Reads s.heap v c.py bs ∧ PyData.plainAll (P.pys zs) = true ∧ c.py.plain = true ∧ X.A.units + 1 + min (PyData.depthAll (P.pys zs)) c.py.depth < cLine ∧
      b = (P.pys zs).any fun y => PyData.eqv y c.py) ∨
    ∃ (c : Nat) (z : Str), x = .str ⟨#[c]⟩ ∧ y = .str z ∧ b = decide (c ∈ z.cps.toList) := by
  unfold inD at e
  split at e
  · rename_i kvs ed
    split at e
    · rename_i a
      simp only [Option.map_eq_some_iff] at e
      obtain ⟨q, e1, rfl⟩ := e
      obtain ⟨p, ws, rfl, ea, k1, k2⟩ := dctD_ok rel r2 ed
      cases r1 with
      | p r1 =>
        refine .inl ⟨p, ws, q, rfl, ea, key_ok r1 e1, ?_⟩
        rcases valV_rds q k1 k2 with ⟨h1, h2⟩ | ⟨v, d, h1, h2, _⟩ <;> rw [h1, h2] <;> rfl
    · cases e
  · have fin : ∀ (a : P) (ys : List P), (P.sh SH a && ys.all (P.sh SH)) = true → Dp X.K H x a.py → (∃ as, Reads s.heap u (.list (P.pys ys)) as ∨ Reads s.heap u (.tuple (P.pys ys)) as) → b = (ys.any fun z => P.eqv z a) →
        ∃ (c : P) (zs : List P) (as bs : List Addr), (Reads s.heap u (.list (P.pys zs)) as ∨ Reads s.heap u (.tuple (P.pys zs)) as) ∧ Reads s.heap v c.py bs ∧ PyData.plainAll (P.pys zs) = true ∧ c.py.plain = true ∧ X.A.units + 1 + min (PyData.depthAll (P.pys zs)) c.py.depth < cLine ∧
          b = (P.pys zs).any fun y => PyData.eqv y c.py := by
      intro a ys hs da ⟨as, du⟩ hb
      rw [Bool.and_eq_true] at hs
      obtain ⟨bs, q1⟩ := Dp.reads I a.py x v da rx
      have p1 := sh_py a _ hs.1
      have p2 := sh_pys ys _ hs.2
      have hu := hr.un
      refine ⟨a, ys, as, bs, du, q1, p2.1, p1.1, ?_, ?_⟩
      · have := p1.2
        unfold SH at this
        omega
      · rw [hb]
        have hall := hs.2
        have hsa := hs.1
        clear p2 du hb hs
        induction ys with
        | nil => rfl
        | cons z r ih =>
          simp only [List.all_cons, Bool.and_eq_true] at hall
          simp only [P.pys, List.any_cons]
          rw [eqv_py z a _ _ hall.1 hsa, ih hall.2]
    split at e
    · rename_i a ys e1 e2
      split at e
      · rename_i hs
        cases e
        have hs' := hs
        rw [Bool.and_eq_true] at hs'
        have da : Dp X.K H x a.py := rd_dp rel _ r1 e1 hs'.1
        have dl : Dp X.K H y (P.lst ys).py := rd_dp rel _ r2 e2 (n := SH + 1) (by simp only [P.sh]; exact hs'.2)
        obtain ⟨as, q2⟩ := Dp.reads I (P.lst ys).py y u dl ry
        exact .inr (.inl (fin a ys hs da ⟨as, .inl q2⟩ rfl))
      · cases e
    · rename_i a ys e1 e2
      split at e
      · rename_i hs
        cases e
        have hs' := hs
        rw [Bool.and_eq_true] at hs'
        have da : Dp X.K H x a.py := rd_dp rel _ r1 e1 hs'.1
        have dl : Dp X.K H y (P.tup ys).py := rd_dp rel _ r2 e2 (n := SH + 1) (by simp only [P.sh]; exact hs'.2)
        obtain ⟨as, q2⟩ := Dp.reads I (P.tup ys).py y u dl ry
        exact .inr (.inl (fin a ys hs da ⟨as, .inr q2⟩ rfl))
      · cases e
    · rename_i c z e1 e2
      have pstr : ∀ (m : Nat) {d : D} {v : V} {x : Str}, RD g F ι v d → rd cf 0 M m d = some (.str x) → v = .str x := by
        intro m d v x r e
        cases d with
        | p y =>
          rw [rd_p] at e
          cases e
          cases r with
          | p r => cases r; rfl
        | ref n =>
          cases m with
          | zero => cases e
          | succ m =>
            simp only [rd] at e
            split at e
            · cases e
            · split at e
              · simp only [Option.map_eq_some_iff] at e; obtain ⟨_, _, e⟩ := e; cases e
              · simp only [Option.map_eq_some_iff] at e; obtain ⟨_, _, e⟩ := e; cases e
              · split at e
                · simp only [Option.map_eq_some_iff] at e; obtain ⟨_, _, e⟩ := e; cases e
                · cases e
              · cases e
        | tup ds =>
          cases m with
          | zero => cases e
          | succ m => simp only [rd, Option.map_eq_some_iff] at e; obtain ⟨_, _, e⟩ := e; cases e
      split at e
      · rename_i k hk
        cases e
        refine .inr (.inr ⟨k, z, ?_, pstr _ r2 e2, rfl⟩)
        rw [pstr _ r1 e1]
        congr 1
        obtain ⟨q⟩ := c
        exact congrArg Str.mk hk
      · cases e
    · cases e
theorem cmp_op (hK : X.K = g.K) (hr : Room k X.A) (op : COp) : OpR X (compareOp (opC op)) (rC2 g (cmpop cf op)) := by
  cases op with
  | eq => exact eqD_op hr
  | ne => exact neD_op hr
  | lt =>
    intro pins s σ H x y v u Q I rx ry h
    obtain ⟨F, ι, M, dx, dy, b, rel, r1, r2, e, q⟩ := h
    unfold cmpop at e
    dsimp only at e
    split at e
    · rename_i xs ys
      split at e
      · rename_i ns ms e1 e2
        cases e
        cases r1 with
        | p r1 =>
          cases r1 with
          | tup ea ra =>
            cases r2 with
            | p r2 =>
              cases r2 with
              | tup eb rb =>
                rw [intsOf_ok ra e1] at ea
                rw [intsOf_ok rb e2] at eb
                exact op_ltT hr.units0 pins s σ H _ _ v u Q I rx ry ⟨_, _, ns, ms, rfl, rfl, SqT.of (rel.sub _ _ ea), SqT.of (rel.sub _ _ eb), q⟩
      · cases e
    · exact cmpI_op (g := g) op_lt pins s σ H x y v u Q I rx ry ⟨F, ι, M, dx, dy, b, rel, r1, r2, e, q⟩
  | le => exact cmpI_op op_le
  | gt => exact cmpI_op op_gt
  | ge => exact cmpI_op op_ge
  | isn =>
    intro pins s σ H x y v u Q I rx ry h
    obtain ⟨F, ι, M, dx, dy, b, rel, r1, r2, e, q⟩ := h
    unfold cmpop at e
    dsimp only at e
    split at e
    · cases r2 with
      | p r2 =>
        cases r2
        refine op_isN pins s σ H _ _ v u Q I rx ry ⟨rfl, ?_⟩
        rw [← isn_eq r1]
        cases e
        exact q
    · rename_i c
      unfold isBl at e
      split at e
      · rename_i a
        cases e
        cases r1 with
        | p r1 =>
          cases r1
          cases r2 with
          | p r2 =>
            cases r2
            cases rx
            cases ry
            exact wpAny_is_plain (by cases a <;> cases c <;> rfl) ⟨.bl (a == c), H, I, by cases a <;> cases c <;> rfl, q⟩
      · cases e
    · cases e
  | isnn =>
    intro pins s σ H x y v u Q I rx ry h
    obtain ⟨F, ι, M, dx, dy, b, rel, r1, r2, e, q⟩ := h
    unfold cmpop at e
    dsimp only at e
    split at e
    · cases r2 with
      | p r2 =>
        cases r2
        refine op_notN pins s σ H _ _ v u Q I rx ry ⟨rfl, ?_⟩
        rw [← isn_eq r1]
        cases e
        exact q
    · rename_i c
      unfold isBl at e
      split at e
      · rename_i a
        cases e
        cases r1 with
        | p r1 =>
          cases r1
          cases r2 with
          | p r2 =>
            cases r2
            cases rx
            cases ry
            exact wpAny_isNot_plain (by cases a <;> cases c <;> rfl) ⟨.bl (!(a == c)), H, I, by cases a <;> cases c <;> rfl, q⟩
      · cases e
    · cases e
  | inn =>
    intro pins s σ H x y v u Q I rx ry h
    obtain ⟨F, ι, M, dx, dy, b, rel, r1, r2, e, q⟩ := h
    rcases in_road hr I rx ry rel r1 r2 (show inD cf dx dy M = some b from e) with ⟨a, ws, k', rfl, ea, rfl, rfl⟩ | ⟨c, zs, as, bs, ru, rv, h1, h2, h3, rfl⟩ | ⟨c, z, rfl, rfl, rfl⟩
    · obtain rfl : u = Value.ref a := ry
      exact d_in (hu_of hr) I (DGet.k (k := k') ea) rx fun s3 I3 => ⟨.bl _, H, I3, rfl, q⟩
    · rcases ru with ru | ru
      · exact SeqAt.in_list_data ru rv h1 h2 h3 ⟨.bl _, H, I, rfl, q⟩
      · exact SeqAt.in_tuple_data ru rv h1 h2 h3 ⟨.bl _, H, I, rfl, q⟩
    · exact op_in_sign pins s σ H _ _ v u Q I rx ry ⟨c, z, rfl, rfl, q⟩
  | nin =>
    intro pins s σ H x y v u Q I rx ry h
    obtain ⟨F, ι, M, dx, dy, b, rel, r1, r2, e, q⟩ := h
    have e' : (inD cf dx dy M).map (!·) = some b := e
    simp only [Option.map_eq_some_iff] at e'
    obtain ⟨b', e', rfl⟩ := e'
    rcases in_road hr I rx ry rel r1 r2 e' with ⟨a, ws, k', rfl, ea, rfl, rfl⟩ | ⟨c, zs, as, bs, ru, rv, h1, h2, h3, rfl⟩ | ⟨c, z, rfl, rfl, rfl⟩
    · obtain rfl : u = Value.ref a := ry
      exact d_notIn (hu_of hr) I (DGet.k (k := k') ea) rx fun s3 I3 => ⟨.bl _, H, I3, rfl, q⟩
    · rcases ru with ru | ru
      · exact SeqAt.notIn_list_data ru rv h1 h2 h3 ⟨.bl _, H, I, rfl, q⟩
      · exact SeqAt.notIn_tuple_data ru rv h1 h2 h3 ⟨.bl _, H, I, rfl, q⟩
    · exact op_notIn_sign pins s σ H _ _ v u Q I rx ry ⟨c, z, rfl, rfl, q⟩
/-! ### places -/
theorem ix_dict (hr : Room k X.A) : IxR X (fun x y H Q => ∃ a v, x = .ref a ∧ DGet H a y (some v) ∧ Q v H) := by
  intro value slice pins s σ H x y v u Q I rx ry h hs
  obtain ⟨a, w, rfl, gd, q⟩ := h
  obtain rfl : v = Value.ref a := rx
  have hT := dict_typeIs I gd
  unfold PyProof.Rows.subscriptTail
  refine wpAny_bind ?_
  rw [getitemInPython_of_ne hT.not_modules]
  refine wpAny_bind (wpAny_specialOf hT PySem.F.slot_dict_getitem.lookup ?_)
  have fin : wpAny (model X.prog X.w) X.A (subscripted slice false (.ref a) u) (fun r s₃ => wpAny (model X.prog X.w) X.A (letTemporaryGo value (.ref a) r >>= fun _ => pure r) (EP X pins σ Q) X.xe s₃) X.xe s := by
    rw [hs]
    exact wpAny_operating (d_getItem (hu_of hr) I gd ry fun w' s3 I3 rw' => wpAny_bind (wpAny_letTemporaryGo (wpAny_pure ⟨w, H, I3, rw', q⟩)))
  first
    | exact wpAny_pure (wpAny_bind fin)
    | exact wpAny_pure fin
    | exact wpAny_bind (wpAny_pure (wpAny_bind fin))
theorem atI_map {α β : Type} (f : α → β) (xs : List α) (i : Int) : atI (xs.map f) i = (atI xs i).map f := by
  unfold atI
  rw [List.length_map]
  cases ixN xs.length i with
  | none => rfl
  | some j => simp
theorem RDs.atI {g : Gx} {F : Hp} {ι : List Addr} {vs : List V} {ds : List D} {i : Int} {d : D} (h : RDs g F ι vs ds) (e : L2.atI ds i = some d) : ∃ v, L2.atI vs i = some v ∧ RD g F ι v d := by
  unfold L2.atI at e ⊢
  rw [h.length]
  cases q : ixN ds.length i with
  | none => rw [q] at e; cases e
  | some j =>
    rw [q] at e
    exact h.get e
def rI2 (g : Gx) (f : D → D → Sto → Option D) : R2 := fun x y H Q => ∃ F ι M dx dy d, Rel g F ι M H ∧ RD g F ι x dx ∧ RD g F ι y dy ∧ f dx dy M = some d ∧ ∀ v, RD g F ι v d → Q v H
theorem ixD_op (hK : X.K = g.K) (hr : Room k X.A) : IxR X (rI2 g ixD) := by
  intro value slice pins s σ H x y v u Q I rx ry h hs
  obtain ⟨F, ι, M, dx, dy, d, rel, r1, r2, e, q⟩ := h
  unfold ixD at e
  split at e
  · rename_i xs i
    simp only [Option.map_eq_some_iff] at e
    obtain ⟨w, e1, rfl⟩ := e
    cases r1 with
    | p r1 =>
      cases r1 with
      | tup ea ra =>
        cases r2 with
        | p r2 =>
          cases r2
          obtain ⟨z, h1, h2⟩ := (ra.rds (ι := ι)).atI (i := i) (d := .p w) (by rw [atI_map, e1]; rfl)
          exact ix_tup value slice pins s σ H _ _ v u Q I rx ry ⟨_, _, i, z, rfl, rfl, SqT.of (rel.sub _ _ ea), h1, q z h2⟩ hs
  · rename_i ds i
    cases r1 with
    | tup ea ra =>
      cases r2 with
      | p r2 =>
        cases r2
        obtain ⟨z, h1, h2⟩ := ra.atI e
        exact ix_tup value slice pins s σ H _ _ v u Q I rx ry ⟨_, _, i, z, rfl, rfl, SqT.of (rel.sub _ _ ea), h1, q z h2⟩ hs
  · rename_i ns i
    simp only [Option.map_eq_some_iff] at e
    obtain ⟨w, e1, rfl⟩ := e
    cases r1 with
    | p r1 =>
      cases r1 with
      | scr ea =>
        cases r2 with
        | p r2 =>
          cases r2
          exact ix_list value slice pins s σ H _ _ v u Q I rx ry ⟨_, ns.map V.int, i, .int w, rfl, rfl, by rw [hK]; exact rel.sub.seq ea, by rw [atI_map, e1]; rfl, q _ (.p (.int w))⟩ hs
  · split at e
    · next ds i e1 _ _ _ =>
      cases r2 with
      | p r2 =>
        cases r2
        obtain ⟨a, vs, rfl, ea, ra⟩ := lstD_ok rel r1 e1
        obtain ⟨z, h1, h2⟩ := ra.atI e
        exact ix_list value slice pins s σ H _ _ v u Q I rx ry ⟨a, vs, i, z, rfl, rfl, SqL.of ea, h1, q z h2⟩ hs
    · split at e
      · rename_i kvs kk e1 e2
        obtain ⟨a, ws, rfl, ea, k1, k2⟩ := dctD_ok rel r1 e1
        cases r2 with
        | p r2 =>
          obtain rfl := key_ok r2 e2
          rcases valV_rds kk k1 k2 with ⟨h1, h2⟩ | ⟨z, d', h1, h2, h3⟩
          · rw [h2] at e; cases e
          · rw [h2] at e; cases e
            refine ix_dict hr value slice pins s σ H _ _ v u Q I rx ry ⟨a, z, rfl, ?_, q z h3⟩ hs
            rw [← h1]; exact DGet.k ea
      · cases e
  · cases e
end
end Mi

set_option maxRecDepth 100000
set_option maxHeartbeats 2000000
/-! Types, slices, fields, built-in functions and methods by values. -/
namespace Mi
open PySem PySem.Spec L2

def NT : List String := ["NoneType", "bool", "int", "str", "list", "tuple", "dict"]
def Gx.kc (g : Gx) (c : Nat) : Bool := g.nc c || g.xc c
theorem Gx.kc_n {g : Gx} {c : Nat} (h : g.nc c = true) : g.kc c = true := by unfold Gx.kc; rw [h]; rfl
theorem Gx.kc_x {g : Gx} {c : Nat} (h : g.xc c = true) : g.kc c = true := by unfold Gx.kc; rw [h, Bool.or_true]
/-- what the classes must have -/
structure ClsOk (g : Gx) : Prop where
  cl : ∀ c, g.nc c = true → Cls g.K (g.ca c)
  c1 : ∀ c, g.nc c = true → PySem.W.findIn g.K (.ref (g.ca c)) "__class__" = some (some (.builtin "object.__class__"))
  c2 : PySem.W.specialIn g.K (.builtin "object.__class__") "__get__" = some (some (.builtin "getset_descriptor.__get__"))
  c3 : PySem.W.takesIn g.K (.builtin "object.__class__") = some true
  c4 : ∀ c, g.nc c = true → PySem.W.mroIn g.K (g.ca c) (.type "object") = some true
  k1 : ∀ c c', g.nc c = true → g.kc c' = true → PySem.W.kitOne g.K (.ref (g.ca c)) (.ref (g.ca c')) = some (decide (c = c'))
  k2 : ∀ c n, g.kc c = true → n ∈ NT → PySem.W.kitOne g.K (.type n) (.ref (g.ca c)) = some false
  k3 : ∀ c n, g.nc c = true → n ∈ NT → PySem.W.kitOne g.K (.ref (g.ca c)) (.type n) = some false
  no : ∀ c f, g.nc c = true → f ∈ g.cf c → NoAttr g.K (g.ca c) f
  xe : ∀ c, g.xc c = true → ExcC g.K (g.ca c)
  x1 : ∀ c c', g.xc c = true → g.kc c' = true → PySem.W.kitOne g.K (.ref (g.ca c)) (.ref (g.ca c')) = some (xsub c c')
  x3 : ∀ c n, g.xc c = true → n ∈ NT → PySem.W.kitOne g.K (.ref (g.ca c)) (.type n) = some false
  xm : ∀ c c', g.xc c = true → g.xc c' = true → PySem.W.exmOne g.K (.ref (g.ca c)) (.ref (g.ca c')) = some (xsub c c')
  xf : ∀ c f, g.xc c = true → g.cf c = [f] → PySem.W.findIn g.K (.ref (g.ca c)) f = some none
  xv : ∀ c, g.xc c = true → PySem.W.kitOne g.K (.ref (g.ca c)) (.type "ValueError") = some true
/-- the type's own value -/
def tyV' : Ty → Option String
  | .int => some "int" | .bool => some "bool" | .str => some "str" | .list => some "list" | .tuple => some "tuple" | .dict => some "dict" | .own _ => none
def tyVal (g : Gx) : Ty → V
  | .int => .ty "int" | .bool => .ty "bool" | .str => .ty "str" | .list => .ty "list" | .tuple => .ty "tuple" | .dict => .ty "dict" | .own c => .ref (g.ca c)
section
variable {X : Cx} {g : Gx} {k : Nat}
theorem kitBs : ∀ n ∈ NT, ∀ t s, tyV' t = some s → kitB n s = some (match t with | .int => decide (n = "int" ∨ n = "bool") | .bool => decide (n = "bool") | .str => decide (n = "str") | .list => decide (n = "list") | .tuple => decide (n = "tuple") | .dict => decide (n = "dict") | .own _ => false) := by
  intro n hn t s e
  simp only [NT, List.mem_cons, List.not_mem_nil, or_false] at hn
  rcases hn with rfl | rfl | rfl | rfl | rfl | rfl | rfl <;> cases t <;> cases e <;> decide +kernel
/-- isinstance by values -/
theorem isTy_call (hK : X.K = g.K) (C : ClsOk g) {t : Ty} (ht : ∀ c, t = .own c → g.kc c = true) {pins : List (Addr × Obj)} {s : Shared} {σ : St} {H : Hp} {x : V} {us : List Value} {Q : VK} (I : Inv X pins σ H s) (r : Vals [x, tyVal g t] us) {F : Hp} {ι : List Addr} {M : Sto} {d : D} {b : Bool}
    (rel : Rel g F ι M H) (rx : RD g F ι x d) (e : isTy d t M = some b) (q : Q (.bl b) H) : wpAny (model X.prog X.w) X.A (call (.builtin "isinstance") us) (EP X pins σ Q) X.xe s := by
  have built : ∀ n, n ∈ NT → TyOf X.K H x (.type n) → b = (match t with | .int => decide (n = "int" ∨ n = "bool") | .bool => decide (n = "bool") | .str => decide (n = "str") | .list => decide (n = "list") | .tuple => decide (n = "tuple") | .dict => decide (n = "dict") | .own _ => false) →
      wpAny (model X.prog X.w) X.A (call (.builtin "isinstance") us) (EP X pins σ Q) X.xe s := by
    intro n hn ty hb
    cases t with
    | own c => exact call_isi pins s σ H _ us Q I r ⟨x, _, .type n, .ref (g.ca c), b, rfl, .own _, .base ty, by rw [hK, hb]; exact C.k2 c n (ht c rfl) hn, q⟩
    | int => exact call_isi pins s σ H _ us Q I r ⟨x, _, .type n, .type "int", b, rfl, .ty _, .base ty, by rw [hb]; exact kit_ty (kitBs n hn .int _ rfl), q⟩
    | bool => exact call_isi pins s σ H _ us Q I r ⟨x, _, .type n, .type "bool", b, rfl, .ty _, .base ty, by rw [hb]; exact kit_ty (kitBs n hn .bool _ rfl), q⟩
    | str => exact call_isi pins s σ H _ us Q I r ⟨x, _, .type n, .type "str", b, rfl, .ty _, .base ty, by rw [hb]; exact kit_ty (kitBs n hn .str _ rfl), q⟩
    | list => exact call_isi pins s σ H _ us Q I r ⟨x, _, .type n, .type "list", b, rfl, .ty _, .base ty, by rw [hb]; exact kit_ty (kitBs n hn .list _ rfl), q⟩
    | tuple => exact call_isi pins s σ H _ us Q I r ⟨x, _, .type n, .type "tuple", b, rfl, .ty _, .base ty, by rw [hb]; exact kit_ty (kitBs n hn .tuple _ rfl), q⟩
    | dict => exact call_isi pins s σ H _ us Q I r ⟨x, _, .type n, .type "dict", b, rfl, .ty _, .base ty, by rw [hb]; exact kit_ty (kitBs n hn .dict _ rfl), q⟩
  have inst : ∀ (a dx : Addr) (c : Nat) (ws : List (Str × V)), g.nc c = true → x = .ref a → H a = some (.ins (g.ca c) dx ws) → b = (match t with | .own c' => decide (c = c') | _ => false) →
      wpAny (model X.prog X.w) X.A (call (.builtin "isinstance") us) (EP X pins σ Q) X.xe s := by
    intro a dx c ws hc hx ha hb
    subst hx
    have ty : TyOf X.K H (.ref a) (.ref (g.ca c)) := .ins ha (by rw [hK]; exact C.cl c hc) (by rw [hK]; exact C.c1 c hc) (by rw [hK]; exact C.c2) (by rw [hK]; exact C.c3) (by rw [hK]; exact C.c4 c hc)
    cases t with
    | own c' => exact call_isi pins s σ H _ us Q I r ⟨_, _, _, .ref (g.ca c'), b, rfl, .own _, .base ty, by rw [hK, hb]; exact C.k1 c c' hc (ht c' rfl), q⟩
    | int => exact call_isi pins s σ H _ us Q I r ⟨_, _, _, .type "int", b, rfl, .ty _, .base ty, by rw [hK, hb]; exact C.k3 c _ hc (by decide), q⟩
    | bool => exact call_isi pins s σ H _ us Q I r ⟨_, _, _, .type "bool", b, rfl, .ty _, .base ty, by rw [hK, hb]; exact C.k3 c _ hc (by decide), q⟩
    | str => exact call_isi pins s σ H _ us Q I r ⟨_, _, _, .type "str", b, rfl, .ty _, .base ty, by rw [hK, hb]; exact C.k3 c _ hc (by decide), q⟩
    | list => exact call_isi pins s σ H _ us Q I r ⟨_, _, _, .type "list", b, rfl, .ty _, .base ty, by rw [hK, hb]; exact C.k3 c _ hc (by decide), q⟩
    | tuple => exact call_isi pins s σ H _ us Q I r ⟨_, _, _, .type "tuple", b, rfl, .ty _, .base ty, by rw [hK, hb]; exact C.k3 c _ hc (by decide), q⟩
    | dict => exact call_isi pins s σ H _ us Q I r ⟨_, _, _, .type "dict", b, rfl, .ty _, .base ty, by rw [hK, hb]; exact C.k3 c _ hc (by decide), q⟩
  cases rx with
  | p rx =>
    cases rx with
    | non => exact built "NoneType" (by decide) .non (by simp only [isTy, Option.some.injEq] at e; subst e; cases t <;> rfl)
    | bl y => exact built "bool" (by decide) (.bl y) (by simp only [isTy, Option.some.injEq] at e; subst e; cases t <;> rfl)
    | int y => exact built "int" (by decide) (.int y) (by simp only [isTy, Option.some.injEq] at e; subst e; cases t <;> rfl)
    | str y => exact built "str" (by decide) (.str y) (by simp only [isTy, Option.some.injEq] at e; subst e; cases t <;> rfl)
    | tup ea _ => exact built "tuple" (by decide) (.tup (rel.sub _ _ ea)) (by simp only [isTy, Option.some.injEq] at e; subst e; cases t <;> rfl)
    | lst ea _ => exact built "list" (by decide) (.lst (rel.sub _ _ ea)) (by simp only [isTy, Option.some.injEq] at e; subst e; cases t <;> rfl)
    | dK ea _ _ => exact built "dict" (by decide) (.dK (rel.sub _ _ ea)) (by simp only [isTy, Option.some.injEq] at e; subst e; cases t <;> rfl)
    | obj hc ea _ _ => exact inst _ _ _ _ hc rfl (rel.sub _ _ ea) (by simp only [isTy, Option.some.injEq] at e; subst e; cases t <;> rfl)
    | scr _ => cases e
  | tup ea _ => exact built "tuple" (by decide) (.tup (rel.sub _ _ ea)) (by simp only [isTy, Option.some.injEq] at e; subst e; cases t <;> rfl)
  | @ref n a ea =>
    cases z : M[n]? with
    | none => simp only [isTy, z] at e; cases e
    | some c =>
      cases c with
      | dead => simp only [isTy, z] at e; cases e
      | lst ds =>
        obtain ⟨_, vs, e1, _⟩ := rel.cells n a _ ea z
        exact built "list" (by decide) (.lst e1) (by simp only [isTy, z, Option.some.injEq] at e; subst e; cases t <;> rfl)
      | dK ds =>
        obtain ⟨_, vs, e1, _⟩ := rel.cells n a _ ea z
        exact built "dict" (by decide) (.dK e1) (by simp only [isTy, z, Option.some.injEq] at e; subst e; cases t <;> rfl)
      | ins c fs =>
        obtain ⟨_, hc, dx, ws, e1, _⟩ := rel.cells n a _ ea z
        exact inst _ _ c _ hc rfl e1 (by simp only [isTy, z, Option.some.injEq] at e; subst e; cases t <;> rfl)
      | xd f v => simp only [isTy, z] at e; cases e
      | xc c m =>
        obtain ⟨_, hc, dd, e1, e2⟩ := rel.cells n a _ ea z
        simp only [isTy, z] at e
        split at e
        · rename_i hok
          have hdd : ∀ d, dd = some d → ∃ fs, H d = some (.xd fs) := by
            intro d hd
            cases m with
            | none => rw [e2.1] at hd; cases hd
            | some k =>
              obtain ⟨d', h1, h2⟩ := e2
              rw [h1] at hd
              cases hd
              simp only [xcOk] at hok
              split at hok
              · rename_i f v hM
                obtain ⟨_, u, q, _⟩ := rel.cells k d _ h2 hM
                exact ⟨_, q⟩
              · cases hok
          have xe : ExcC X.K (g.ca c) := by rw [hK]; exact C.xe c hc
          cases t with
          | own c' => exact call_isX xe I r e1 hdd (cv := .ref (g.ca c')) (fun u hu => hu) (by rw [hK]; rw [C.x1 c c' hc (ht c' rfl)]; simpa using e) q
          | int => exact call_isX xe I r e1 hdd (cv := .type "int") (fun u hu => hu) (by rw [hK, C.x3 c "int" hc (by decide)]; simpa using e) q
          | bool => exact call_isX xe I r e1 hdd (cv := .type "bool") (fun u hu => hu) (by rw [hK, C.x3 c "bool" hc (by decide)]; simpa using e) q
          | str => exact call_isX xe I r e1 hdd (cv := .type "str") (fun u hu => hu) (by rw [hK, C.x3 c "str" hc (by decide)]; simpa using e) q
          | list => exact call_isX xe I r e1 hdd (cv := .type "list") (fun u hu => hu) (by rw [hK, C.x3 c "list" hc (by decide)]; simpa using e) q
          | tuple => exact call_isX xe I r e1 hdd (cv := .type "tuple") (fun u hu => hu) (by rw [hK, C.x3 c "tuple" hc (by decide)]; simpa using e) q
          | dict => exact call_isX xe I r e1 hdd (cv := .type "dict") (fun u hu => hu) (by rw [hK, C.x3 c "dict" hc (by decide)]; simpa using e) q
        · cases e
theorem isVal_call (hK : X.K = g.K) (C : ClsOk g) {pins : List (Addr × Obj)} {s : Shared} {σ : St} {H : Hp} {x : V} {us : List Value} {Q : VK} (I : Inv X pins σ H s) (r : Vals [x, .ty "ValueError"] us) {F : Hp} {ι : List Addr} {M : Sto} {d : D} {b : Bool}
    (rel : Rel g F ι M H) (rx : RD g F ι x d) (e : isVal d M = some b) (q : Q (.bl b) H) : wpAny (model X.prog X.w) X.A (call (.builtin "isinstance") us) (EP X pins σ Q) X.xe s := by
  unfold isVal at e
  split at e
  · rename_i n
    split at e
    · rename_i c m hM
      split at e
      · rename_i hok
        cases e
        cases rx with
        | @ref _ p ea =>
          obtain ⟨_, hc, dd, e1, e2⟩ := rel.cells n p _ ea hM
          have hdd : ∀ d, dd = some d → ∃ fs, H d = some (.xd fs) := by
            intro d hd
            cases m with
            | none => rw [e2.1] at hd; cases hd
            | some k =>
              obtain ⟨d', h1, h2⟩ := e2
              rw [h1] at hd
              cases hd
              simp only [xcOk] at hok
              split at hok
              · rename_i f v hM
                obtain ⟨_, u, q, _⟩ := rel.cells k d _ h2 hM
                exact ⟨_, q⟩
              · cases hok
          have xe : ExcC X.K (g.ca c) := by rw [hK]; exact C.xe c hc
          exact call_isX xe I r e1 hdd (cv := .type "ValueError") (fun u hu => hu) (by rw [hK, C.xv c hc]) q
      · cases e
    · cases e
  · cases e
end
end Mi

set_option maxRecDepth 100000
set_option maxHeartbeats 4000000
/-! The text of data in which dicts stand. -/
namespace MiEq
open PySem PySem.SeqAt PySem.Spec
open Sem (wp)
mutual
/-- how data with dicts is read -/
inductive Sw (h : Heap) : Value → PyData → Prop
  | none : Sw h .none .none
  | bool (b : Bool) : Sw h (.bool b) (.bool b)
  | int (i : Int) (t : Tok) : Sw h (.int i t) (.int i)
  | str (x : Str) (t : Tok) : Sw h (.str x t) (.str x)
  | list {a : Addr} {o : Obj} {vs : Array Value} {n : Nat} {xs : List PyData} : h.get? a = some o → o.cls = .type "list" → o.data = .seq vs n → Sws h vs.toList xs → Sw h (.ref a) (.list xs)
  | tuple {a : Addr} {o : Obj} {vs : Array Value} {n : Nat} {xs : List PyData} : h.get? a = some o → o.cls = .type "tuple" → o.data = .seq vs n → Sws h vs.toList xs → Sw h (.ref a) (.tuple xs)
  | dict {a : Addr} {o : Obj} {es : Array DictEntry} {n : Nat} {kvs : List (PyData × PyData)} : h.get? a = some o → o.cls = .type "dict" → o.data = .dict es n → Sws h (es.toList.map (·.key)) (kvs.map (·.1)) → Sws h (es.toList.map (·.val)) (kvs.map (·.2)) → (a == sysModules) = false → Sw h (.ref a) (.dict kvs)
inductive Sws (h : Heap) : List Value → List PyData → Prop
  | nil : Sws h [] []
  | cons {v : Value} {vs : List Value} {d : PyData} {ds : List PyData} : Sw h v d → Sws h vs ds → Sws h (v :: vs) (d :: ds)
end
mutual
theorem Sw.reads {h : Heap} : ∀ {v : Value} {d : PyData}, Sw h v d → ∃ as, Reads h v d as
  | _, _, .none => ⟨_, .none⟩
  | _, _, .bool b => ⟨_, .bool b⟩
  | _, _, .int i t => ⟨_, .int i t⟩
  | _, _, .str x t => ⟨_, .str x t⟩
  | _, _, .list p1 p2 p3 p4 => let ⟨_, q⟩ := Sws.reads p4; ⟨_, .list p1 p2 p3 q⟩
  | _, _, .tuple p1 p2 p3 p4 => let ⟨_, q⟩ := Sws.reads p4; ⟨_, .tuple p1 p2 p3 q⟩
  | _, _, .dict p1 p2 p3 p4 p5 _ => let ⟨_, q⟩ := Sws.reads p4; let ⟨_, r⟩ := Sws.reads p5; ⟨_, .dict p1 p2 p3 q r⟩
theorem Sws.reads {h : Heap} : ∀ {v : List Value} {d : List PyData}, Sws h v d → ∃ as, ReadsAll h v d as
  | _, _, .nil => ⟨_, .nil⟩
  | _, _, .cons p q => let ⟨_, r⟩ := Sw.reads p; let ⟨_, t⟩ := Sws.reads q; ⟨_, .cons r t⟩
end
section
variable {prog : Program} {w : World} {g : Heap}
mutual
theorem rk_of : ∀ {v : Value} {d : PyData}, Sw g v d → d.showable = true → d.shown.length ≤ sizeLine → ∃ bs, ReadAtMost g d.depth bs ∧ ReprK prog w bs g d.depth v d.shown
  | _, _, .none, _, _ => ⟨[], (fun _ z => nomatch z), by simp only [PyData.shown]; exact .of_is ReprIs.none _ _ _⟩
  | _, _, .bool b, _, _ => ⟨[], (fun _ z => nomatch z), by simp only [PyData.shown]; exact .of_is (ReprIs.bool b) _ _ _⟩
  | _, _, .int i t, hs, _ => ⟨[], (fun _ z => nomatch z), by simp only [PyData.shown]; exact .of_is (ReprIs.int t (by simpa [PyData.showable] using hs)) _ _ _⟩
  | _, _, .str x t, _, hz => ⟨[], (fun _ z => nomatch z), by simp only [PyData.shown]; exact .of_is (ReprIs.str x t (by simpa only [PyData.shown] using hz)) _ _ _⟩
  | _, _, .list (a := a) (vs := vs) (xs := xs) p1 p2 p3 p4, hs, hz => by
    have z' : (listText (PyData.shownAll xs)).length ≤ sizeLine := by simpa only [PyData.shown] using hz
    obtain ⟨cs, hb, hk⟩ := rks_of p4 (by simpa [PyData.showable] using hs) fun t ht => Nat.le_trans (listText_mem_le ht) z'
    obtain ⟨_, q4⟩ := p4.reads
    have r : Reads g (.ref a) (.list xs) _ := .list p1 p2 p3 q4
    have na : a ∉ cs := not_mem_of_deeper r (by simp only [PyData.depth]; omega) hb
    refine ⟨a :: cs, ReadAtMost.cons r (by simp only [PyData.depth]; omega) hb, ?_⟩
    simp only [PyData.depth, PyData.shown]
    obtain ⟨l⟩ := vs
    cases l with
    | nil =>
      have p5 : Sws g [] xs := p4
      cases p5
      simp only [PyData.shownAll, listText_nil]
      exact ReprK.listEmpty p1 p2 p3
    | cons x l => exact ReprK.list p1 p2 p3 na (by simpa using hk.length_eq) fun i y e => hk.item i y (by simpa using e)
  | _, _, .tuple (a := a) (xs := xs) p1 p2 p3 p4, hs, hz => by
    have z' : (tupleText (PyData.shownAll xs)).length ≤ sizeLine := by simpa only [PyData.shown] using hz
    obtain ⟨cs, hb, hk⟩ := rks_of p4 (by simpa [PyData.showable] using hs) fun t ht => Nat.le_trans (tupleText_mem_le ht) z'
    obtain ⟨_, q4⟩ := p4.reads
    have r : Reads g (.ref a) (.tuple xs) _ := .tuple p1 p2 p3 q4
    have na : a ∉ cs := not_mem_of_deeper r (by simp only [PyData.depth]; omega) hb
    refine ⟨a :: cs, ReadAtMost.cons r (by simp only [PyData.depth]; omega) hb, ?_⟩
    simp only [PyData.depth, PyData.shown]
    exact ReprK.tuple p1 p2 p3 na hk
  | _, _, .dict (a := a) (es := es) (kvs := kvs) p1 p2 p3 p4 p5 p6, hs, hz => by
    have z' : (dictText (PyData.shownKv kvs)).length ≤ sizeLine := by simpa only [PyData.shown] using hz
    obtain ⟨s1, s2⟩ := PyData.showableKv_split kvs (by simpa [PyData.showable] using hs)
    obtain ⟨c1, hb1, k1⟩ := rks_of p4 s1 fun t ht => let ⟨p, hp, hl⟩ := PyData.shownKv_key_le kvs t ht; Nat.le_trans hl (Nat.le_trans (dictText_mem_le hp) z')
    obtain ⟨c2, hb2, k2⟩ := rks_of p5 s2 fun t ht => let ⟨p, hp, hl⟩ := PyData.shownKv_val_le kvs t ht; Nat.le_trans hl (Nat.le_trans (dictText_mem_le hp) z')
    obtain ⟨_, q4⟩ := p4.reads
    obtain ⟨_, q5⟩ := p5.reads
    have r : Reads g (.ref a) (.dict kvs) _ := .dict p1 p2 p3 q4 q5
    have hb : ReadAtMost g (PyData.depthKv kvs) (c1 ++ c2) := (hb1.mono (PyData.depthAll_keys_le kvs)).append (hb2.mono (PyData.depthAll_vals_le kvs))
    have na : a ∉ c1 ++ c2 := not_mem_of_deeper r (by simp only [PyData.depth]; omega) hb
    refine ⟨a :: (c1 ++ c2), ReadAtMost.cons r (by simp only [PyData.depth]; omega) hb, ?_⟩
    simp only [PyData.depth, PyData.shown, PyData.shownKv_eq]
    exact ReprK.dict p1 p2 p3 p6 na (ReprEntriesK.of_two es.toList _ _ (k1.more_le (fun b z => List.mem_append_left _ z) (PyData.depthAll_keys_le kvs)) (k2.more_le (fun b z => List.mem_append_right _ z) (PyData.depthAll_vals_le kvs)))
theorem rks_of : ∀ {vs : List Value} {ds : List PyData}, Sws g vs ds → PyData.showableAll ds = true → (∀ t ∈ PyData.shownAll ds, t.length ≤ sizeLine) → ∃ bs, ReadAtMost g (PyData.depthAll ds) bs ∧ ReprAllK prog w bs g (PyData.depthAll ds) vs (PyData.shownAll ds)
  | _, _, .nil, _, _ => ⟨[], (fun _ z => nomatch z), by simp only [PyData.shownAll]; exact .nil⟩
  | _, _, .cons (d := d) (ds := ds) r t, hs, hz => by
    have s' : d.showable = true ∧ PyData.showableAll ds = true := by simpa [PyData.showableAll] using hs
    obtain ⟨c1, hb1, k1⟩ := rk_of r s'.1 (hz _ (by simp only [PyData.shownAll]; exact List.mem_cons_self ..))
    obtain ⟨c2, hb2, k2⟩ := rks_of t s'.2 fun t ht => hz t (by simp only [PyData.shownAll]; exact List.mem_cons_of_mem _ ht)
    refine ⟨c1 ++ c2, fun b hm => ?_, ?_⟩
    · simp only [PyData.depthAll]
      rcases List.mem_append.mp hm with hm | hm
      · obtain ⟨d', as', r', hd'⟩ := hb1 b hm
        exact ⟨d', as', r', Nat.le_trans hd' (Nat.le_max_left _ _)⟩
      · obtain ⟨d', as', r', hd'⟩ := hb2 b hm
        exact ⟨d', as', r', Nat.le_trans hd' (Nat.le_max_right _ _)⟩
    · simp only [PyData.depthAll, PyData.shownAll]
      exact .cons ((k1.more fun b z => List.mem_append_left _ z).level_le (Nat.le_max_left _ _)) (k2.more_le (fun b z => List.mem_append_right _ z) (Nat.le_max_right _ _))
end
variable {a : Addr} {d : PyData}
theorem sb_of (r : Sw g (.ref a) d) (hs : d.showable = true) (hsz : d.shown.length ≤ sizeLine) : ∃ T idr, ShowsBy prog w g a d T idr := by
  cases r with
  | list p1 p2 p3 p4 =>
    rename_i o vs n xs
    have z' : (listText (PyData.shownAll xs)).length ≤ sizeLine := by simpa only [PyData.shown] using hsz
    obtain ⟨cs, hb, hk⟩ := rks_of (prog := prog) (w := w) p4 (by simpa [PyData.showable] using hs) fun t ht => Nat.le_trans (listText_mem_le ht) z'
    obtain ⟨_, q4⟩ := p4.reads
    have na : a ∉ cs := not_mem_of_deeper (.list p1 p2 p3 q4) (by simp only [PyData.depth]; omega) hb
    refine ⟨"list", "list.__repr__", F.slot_list_repr.toG, F.slot_list_str, F.slot_list_format, fun s hk0 => ⟨o, hk0 _ _ p1, p2⟩, fun A E s Q hg hu hk0 hQ => ?_⟩
    simp only [PyData.depth] at hu
    simp only [PyData.shown] at hQ
    obtain ⟨l⟩ := vs
    cases l with
    | nil =>
      have p5 : Sws g [] xs := p4
      cases p5
      simp only [PyData.shownAll, listText_nil] at hQ
      exact call_list_repr_empty ⟨o, hk0 _ _ p1, p2⟩ (hk0 _ _ p1) p3 (hQ s.heap _ _ fun _ _ e => e)
    | cons x l => exact call_list_reprK p1 p2 p3 na (by simpa using hk.length_eq) (fun i y e => hk.item i y (by simpa using e)) hg (fun b _ => Clear.nil b) hu hk0 hQ z'
  | tuple p1 p2 p3 p4 =>
    rename_i o vs n xs
    have z' : (tupleText (PyData.shownAll xs)).length ≤ sizeLine := by simpa only [PyData.shown] using hsz
    obtain ⟨cs, hb, hk⟩ := rks_of (prog := prog) (w := w) p4 (by simpa [PyData.showable] using hs) fun t ht => Nat.le_trans (tupleText_mem_le ht) z'
    obtain ⟨_, q4⟩ := p4.reads
    have na : a ∉ cs := not_mem_of_deeper (.tuple p1 p2 p3 q4) (by simp only [PyData.depth]; omega) hb
    refine ⟨"tuple", "tuple.__repr__", F.slot_tuple_repr, F.slot_tuple_str, F.slot_tuple_format, fun s hk0 => ⟨o, hk0 _ _ p1, p2⟩, fun A E s Q hg hu hk0 hQ => ?_⟩
    simp only [PyData.depth] at hu
    simp only [PyData.shown] at hQ
    exact call_tuple_reprK p1 p2 p3 na hk hg (fun b _ => Clear.nil b) hu hk0 hQ z'
  | dict p1 p2 p3 p4 p5 p6 =>
    rename_i o es n kvs
    have z' : (dictText (PyData.shownKv kvs)).length ≤ sizeLine := by simpa only [PyData.shown] using hsz
    obtain ⟨s1, s2⟩ := PyData.showableKv_split kvs (by simpa [PyData.showable] using hs)
    obtain ⟨c1, hb1, k1⟩ := rks_of (prog := prog) (w := w) p4 s1 fun t ht => let ⟨p, hp, hl⟩ := PyData.shownKv_key_le kvs t ht; Nat.le_trans hl (Nat.le_trans (dictText_mem_le hp) z')
    obtain ⟨c2, hb2, k2⟩ := rks_of (prog := prog) (w := w) p5 s2 fun t ht => let ⟨p, hp, hl⟩ := PyData.shownKv_val_le kvs t ht; Nat.le_trans hl (Nat.le_trans (dictText_mem_le hp) z')
    obtain ⟨_, q4⟩ := p4.reads
    obtain ⟨_, q5⟩ := p5.reads
    have hb : ReadAtMost g (PyData.depthKv kvs) (c1 ++ c2) := (hb1.mono (PyData.depthAll_keys_le kvs)).append (hb2.mono (PyData.depthAll_vals_le kvs))
    have na : a ∉ c1 ++ c2 := not_mem_of_deeper (.dict p1 p2 p3 q4 q5) (by simp only [PyData.depth]; omega) hb
    refine ⟨"dict", "dict.__repr__", F.slot_dict_repr, F.slot_dict_str, F.slot_dict_format, fun s hk0 => ⟨o, hk0 _ _ p1, p2⟩, fun A E s Q hg hu hk0 hQ => ?_⟩
    simp only [PyData.depth] at hu
    simp only [PyData.shown, PyData.shownKv_eq] at hQ
    exact call_dict_reprK p1 p2 p3 p6 na (ReprEntriesK.of_two es.toList _ _ (k1.more_le (fun b z => List.mem_append_left _ z) (PyData.depthAll_keys_le kvs)) (k2.more_le (fun b z => List.mem_append_right _ z) (PyData.depthAll_vals_le kvs))) hg (fun b _ => Clear.nil b) hu hk0 hQ (by rw [← PyData.shownKv_eq]; exact z')
/-- repr of data with dicts -/
theorem repr_sw {A : Around} {E : Value → Shared → Prop} {s : Shared} {Q : Value → Shared → Prop} (r : Sw s.heap (.ref a) d) (hs : d.showable = true) (hg : A.guards = some []) (hu : A.units + (d.depth + 1) < cLine)
    (hQ : ∀ h' u tk, (∀ b o, s.heap.get? b = some o → h'.get? b = some o) → Q (.str d.shown u) { s with heap := h', toks := tk }) (hsz : d.shown.length ≤ sizeLine) : wpAny (model prog w) A (call (.builtin "repr") [.ref a]) Q E s := by
  obtain ⟨T, idr, S⟩ := sb_of (prog := prog) (w := w) r hs hsz
  refine call_repr_slot (by omega) (S.typeIs s fun _ _ e => e) S.slotRepr (S.call A.in1 E s _ hg (by show A.units + 1 + d.depth < cLine; omega) (fun _ _ e => e) fun h' u tk hk => ⟨_, _, rfl, hQ h' u tk hk⟩)
end
end MiEq

set_option maxRecDepth 100000
set_option maxHeartbeats 4000000
/-! The text of the language's own data. -/
namespace Mi
open PySem PySem.SeqAt PySem.Spec L2 MiEq
theorem shw_tup {n : Nat} {xs : List P} (h : P.shw n (.tup xs) = true) : ∃ m, n = m + 1 ∧ xs.all (P.shw m) = true := by
  cases n with
  | zero => cases h
  | succ m => exact ⟨m, rfl, by simpa only [P.shw] using h⟩
theorem shw_lst {n : Nat} {xs : List P} (h : P.shw n (.lst xs) = true) : ∃ m, n = m + 1 ∧ xs.all (P.shw m) = true := by
  cases n with
  | zero => cases h
  | succ m => exact ⟨m, rfl, by simpa only [P.shw] using h⟩
theorem shw_dK {n : Nat} {kvs : List (Key × P)} (h : P.shw n (.dK kvs) = true) : ∃ m, n = m + 1 ∧ (kvs.map (·.2)).all (P.shw m) = true := by
  cases n with
  | zero => cases h
  | succ m => exact ⟨m, rfl, by simpa only [P.shw, List.all_map, Function.comp_def] using h⟩
theorem pywk_vals : ∀ kvs : List (Key × P), (P.pywk kvs).map (·.2) = P.pyws (kvs.map (·.2))
  | [] => rfl
  | (k, x) :: r => by simp [P.pywk, P.pyws, pywk_vals r]
theorem depthKv_le {n : Nat} : ∀ kvs : List (Key × P), PyData.depthAll (P.pyws (kvs.map (·.2))) ≤ n → PyData.depthKv (P.pywk kvs) ≤ n
  | [], _ => Nat.zero_le _
  | (k, x) :: r, h => by
    simp only [List.map_cons, P.pyws, PyData.depthAll, P.pywk, PyData.depthKv] at h ⊢
    have := depthKv_le (n := n) r (by omega)
    have hk : (keyPy k).depth = 0 := by cases k <;> rfl
    omega
section
variable {X : Cx} {g : Gx} {F : Hp} {ι : List Addr} {M : Sto} {H : Hp} {pins : List (Addr × Obj)} {s : Shared} {σ : St}
theorem keys_sw {P' : Program} {w : World} {h : Heap} : ∀ {es : List DictEntry} {vs : List (Key × Value)} {kvs : List (Key × P)}, Pairs (mixKind P' w) es vs → vs.map (·.1) = kvs.map (·.1) → Sws h (es.map (·.key)) ((P.pywk kvs).map (·.1))
  | _, _, kvs, .nil, e => by
    cases kvs with
    | nil => exact .nil
    | cons _ _ => cases e
  | _, _, kvs, .cons (e := d) (kv := kv) k1 _ r, e => by
    cases kvs with
    | nil => cases e
    | cons q kvs =>
      obtain ⟨k, x⟩ := q
      simp only [List.map_cons, List.cons.injEq] at e
      simp only [List.map_cons, P.pywk]
      refine .cons ?_ (keys_sw r e.2)
      rw [e.1] at k1
      rcases keyIs_shape (show keyIs k d.key = true from k1) with ⟨i, t, rfl, z⟩ | ⟨y, t, rfl, z⟩
      · rw [z]; exact .int i t
      · rw [z]; exact .str y t
theorem vals_of {P' : Program} {w : World} : ∀ {es : List DictEntry} {vs : List (Key × Value)} {ws : List (Key × V)}, Pairs (mixKind P' w) es vs → KV ws vs → Vals (ws.map (·.2)) (es.map (·.val))
  | _, _, _, .nil, r => by cases r; exact .nil
  | _, _, _, .cons _ e1 t, r => by
    cases r with
    | cons q r =>
      simp only [List.map_cons]
      exact .cons (by rw [e1]; exact q.2) (vals_of t r)
theorem kv_keys : ∀ {vs : List (Key × Value)} {ws : List (Key × V)}, KV ws vs → vs.map (·.1) = ws.map (·.1)
  | _, _, .nil => rfl
  | _, _, .cons q r => by simp [q.1, kv_keys r]
mutual
theorem RP.sw (I : Inv X pins σ H s) (hs : Same F H) : ∀ {v : V} {x : P} {u : Value} {n : Nat}, RP g F v x → RelV v u → P.shw n x = true → Sw s.heap u x.pyw ∧ x.pyw.depth ≤ n
  | _, _, _, _, .non, r, _ => by cases r; exact ⟨.none, Nat.zero_le _⟩
  | _, _, _, _, .bl b, r, _ => by cases r; exact ⟨.bool b, Nat.zero_le _⟩
  | _, _, _, _, .int i, r, _ => by obtain ⟨t, rfl⟩ := r; exact ⟨.int i t, Nat.zero_le _⟩
  | _, _, _, _, .str x, r, _ => by obtain ⟨t, rfl⟩ := r; exact ⟨.str x t, Nat.zero_le _⟩
  | _, _, _, _, .tup e rs, r, h => by
    cases r
    obtain ⟨m, rfl, h'⟩ := shw_tup h
    obtain ⟨its, rv, ⟨o, ho, hc, n, hd⟩, _⟩ := I.tuple (SqT.of (hs _ _ e))
    obtain ⟨q1, q2⟩ := RPs.sw I hs rs rv h'
    simp only [P.pyw, PyData.depth]
    exact ⟨.tuple ho hc hd q1, Nat.succ_le_succ q2⟩
  | _, _, _, _, .lst e rs, r, h => by
    cases r
    obtain ⟨m, rfl, h'⟩ := shw_lst h
    obtain ⟨its, rv, ⟨o, n, ho, hc, _, hd⟩, _⟩ := I.list (SqL.of (hs _ _ e))
    obtain ⟨q1, q2⟩ := RPs.sw I hs rs rv h'
    simp only [P.pyw, PyData.depth]
    exact ⟨.list ho hc hd q1, Nat.succ_le_succ q2⟩
  | _, _, u, _, .dK (a := a) e ke rs, r, h => by
    obtain rfl : u = Value.ref a := r
    obtain ⟨m, rfl, h'⟩ := shw_dK h
    obtain ⟨_, z, vs, kv, o, es, ep, h1, h2, h3, _, h5, _⟩ := dk_of I.hok (hs _ _ e)
    obtain ⟨q1, q2⟩ := RPs.sw I hs rs (vals_of h5 kv) h'
    simp only [P.pyw, PyData.depth]
    exact ⟨.dict h1 h2.1 h3 (keys_sw h5 ((kv_keys kv).trans ke)) (by rw [pywk_vals]; exact q1) z, Nat.succ_le_succ (depthKv_le _ q2)⟩
  | _, _, _, n, .obj _ _ _ _, _, h => by cases n <;> cases h
  | _, _, _, n, .scr _, _, h => by cases n <;> cases h
theorem RPs.sw (I : Inv X pins σ H s) (hs : Same F H) : ∀ {vs : List V} {xs : List P} {us : List Value} {n : Nat}, RPs g F vs xs → Vals vs us → xs.all (P.shw n) = true → Sws s.heap us (P.pyws xs) ∧ PyData.depthAll (P.pyws xs) ≤ n
  | _, _, _, _, .nil, r, _ => by cases r; exact ⟨.nil, Nat.zero_le _⟩
  | _, _, _, _, .cons r t, h, hx => by
    simp only [List.all_cons, Bool.and_eq_true] at hx
    cases h with
    | cons r1 r2 =>
      obtain ⟨p1, p2⟩ := RP.sw I hs r r1 hx.1
      obtain ⟨q1, q2⟩ := RPs.sw I hs t r2 hx.2
      simp only [P.pyws, PyData.depthAll]
      exact ⟨.cons p1 q1, Nat.max_le.mpr ⟨p2, q2⟩⟩
end
theorem rd_sw {cf : Nat → List Str} (I : Inv X pins σ H s) (r : Rel g F ι M H) : ∀ (k : Nat) {lo : Nat} {v : V} {d : D} {x : P} {u : Value} {n : Nat}, RD g F ι v d → rd cf lo M k d = some x → RelV v u → P.shw n x = true → Sw s.heap u x.pyw ∧ x.pyw.depth ≤ n := by
  have pcase : ∀ {v : V} {y x : P} {u : Value} {n : Nat}, RD g F ι v (.p y) → some y = some x → RelV v u → P.shw n x = true → Sw s.heap u x.pyw ∧ x.pyw.depth ≤ n := fun h e hu hx => by
    cases e
    cases h with
    | p h => exact h.sw I r.sub hu hx
  intro k
  induction k with
  | zero =>
    intro lo v d x u n h e hu hx
    cases d with
    | p y => exact pcase h e hu hx
    | ref m => cases e
    | tup ds => cases e
  | succ k ih =>
    have all : ∀ {lo : Nat} {ds : List D} {vs : List V} {xs : List P} {us : List Value} {n : Nat}, RDs g F ι vs ds → mapO (rd cf lo M k) ds = some xs → Vals vs us → xs.all (P.shw n) = true → Sws s.heap us (P.pyws xs) ∧ PyData.depthAll (P.pyws xs) ≤ n := by
      intro lo ds
      induction ds with
      | nil =>
        intro vs xs us n h e hu hx
        cases h; cases e; cases hu
        exact ⟨.nil, Nat.zero_le _⟩
      | cons d ds ih2 =>
        intro vs xs us n h e hu hx
        unfold mapO at e
        cases e1 : rd cf lo M k d with
        | none => rw [e1] at e; cases e
        | some y =>
          rw [e1] at e
          simp only [Option.map_eq_some_iff] at e
          obtain ⟨zs, e2, rfl⟩ := e
          simp only [List.all_cons, Bool.and_eq_true] at hx
          cases h with
          | cons h1 h2 =>
            cases hu with
            | cons u1 u2 =>
              obtain ⟨p1, p2⟩ := ih h1 e1 u1 hx.1
              obtain ⟨q1, q2⟩ := ih2 h2 e2 u2 hx.2
              simp only [P.pyws, PyData.depthAll]
              exact ⟨.cons p1 q1, Nat.max_le.mpr ⟨p2, q2⟩⟩
    intro lo v d x u n h e hu hx
    cases d with
    | p y => exact pcase h e hu hx
    | ref m =>
      cases h with
      | @ref _ a ea =>
        obtain rfl : u = Value.ref a := hu
        simp only [rd] at e
        split at e
        · cases e
        · split at e
          · rename_i ds q
            simp only [Option.map_eq_some_iff] at e
            obtain ⟨xs, e1, rfl⟩ := e
            obtain ⟨m', rfl, hx'⟩ := shw_lst hx
            obtain ⟨_, vs, e2, e3⟩ := r.cells _ a _ ea q
            obtain ⟨its, rv, ⟨o, n, ho, hc, _, hd⟩, _⟩ := I.list (SqL.of e2)
            obtain ⟨q1, q2⟩ := all e3 e1 rv hx'
            simp only [P.pyw, PyData.depth]
            exact ⟨.list ho hc hd q1, Nat.succ_le_succ q2⟩
          · rename_i kvs q
            simp only [Option.map_eq_some_iff] at e
            obtain ⟨xs, e1, rfl⟩ := e
            obtain ⟨m', rfl, hx'⟩ := shw_dK hx
            obtain ⟨_, ws, e2, e3, e4⟩ := r.cells _ a _ ea q
            obtain ⟨_, z, vs, kv, o, es, ep, h1, h2, h3, _, h5, _⟩ := dk_of I.hok e2
            have split : ∀ {kvs : List (Key × D)} {xs : List (Key × P)}, mapO (fun q : Key × D => (rd cf lo M k q.2).map fun x => (q.1, x)) kvs = some xs → kvs.map (·.1) = xs.map (·.1) ∧ mapO (rd cf lo M k) (kvs.map (·.2)) = some (xs.map (·.2)) := by
              intro kvs
              induction kvs with
              | nil => intro xs h; cases h; exact ⟨rfl, rfl⟩
              | cons q kvs ih3 =>
                intro xs h
                unfold mapO at h
                cases y1 : rd cf lo M k q.2 with
                | none => rw [y1] at h; cases h
                | some y =>
                  rw [y1] at h
                  simp only [Option.map_some, Option.map_eq_some_iff] at h
                  obtain ⟨zs, y2, rfl⟩ := h
                  obtain ⟨i1, i2⟩ := ih3 y2
                  refine ⟨by simp [i1], ?_⟩
                  simp only [List.map_cons]
                  unfold mapO
                  rw [y1, i2]; rfl
            obtain ⟨s1, s2⟩ := split e1
            obtain ⟨q1, q2⟩ := all e4 s2 (vals_of h5 kv) hx'
            simp only [P.pyw, PyData.depth]
            exact ⟨.dict h1 h2.1 h3 (keys_sw h5 (((kv_keys kv).trans e3).trans s1)) (by rw [pywk_vals]; exact q1) z, Nat.succ_le_succ (depthKv_le _ q2)⟩
          · split at e
            · simp only [Option.map_eq_some_iff] at e
              obtain ⟨xs, e1, rfl⟩ := e
              cases n <;> cases hx
            · cases e
          · cases e
    | tup ds =>
      cases h with
      | @tup a _ _ ea rs =>
        obtain rfl : u = Value.ref a := hu
        simp only [rd, Option.map_eq_some_iff] at e
        obtain ⟨xs, e1, rfl⟩ := e
        obtain ⟨m', rfl, hx'⟩ := shw_tup hx
        obtain ⟨its, rv, ⟨o, ho, hc, n, hd⟩, _⟩ := I.tuple (SqT.of (r.sub _ _ ea))
        obtain ⟨q1, q2⟩ := all rs e1 rv hx'
        simp only [P.pyw, PyData.depth]
        exact ⟨.tuple ho hc hd q1, Nat.succ_le_succ q2⟩
end
end Mi

set_option maxRecDepth 100000
set_option maxHeartbeats 2000000
namespace Mi
open PySem PySem.Spec L2
section
variable {X : Cx} {g : Gx} {k : Nat}
/-! ### slices -/
def rSl (g : Gx) : V → Option Int → Option Int → Hp → VK → Prop := fun x lo hi H Q => ∃ F ι M dx d, Rel g F ι M H ∧ RD g F ι x dx ∧ slD dx lo hi M = some d ∧ Ok g Wf [] F ι H (.ok d M) (kE g Q)
theorem cutV_eq (xs : List V) (lo hi : Option Int) : cutV xs lo hi = cut xs lo hi := rfl
theorem cut_map {α β : Type} (f : α → β) (xs : List α) (lo hi : Option Int) : cut (xs.map f) lo hi = (cut xs lo hi).map f := by
  unfold cut
  simp [List.map_drop, List.map_take]
theorem RDs.cut {F : Hp} {ι : List Addr} {vs : List V} {ds : List D} (h : RDs g F ι vs ds) (lo hi : Option Int) : RDs g F ι (Mi.cut vs lo hi) (Mi.cut ds lo hi) := by
  unfold Mi.cut
  rw [h.length]
  exact (h.drop _).take _
theorem cut_all {α : Type} (xs : List α) {lo hi : Option Int} (h : HT.sIx xs.length 0 lo = 0 ∧ HT.sIx xs.length xs.length hi = xs.length) : cut xs lo hi = xs := by
  unfold cut
  rw [h.1, h.2]
  simp
theorem slD_op (hK : X.K = g.K) : SlR X (rSl g) := by
  intro pins s σ H x v vl vu lo hi sl Q I rx hs pl pu h
  obtain ⟨F, ι, M, dx, d, rel, r1, e, ok⟩ := h
  unfold slD at e
  split at e
  · rename_i ns
    cases e
    cases r1 with
    | p r1 =>
      cases r1 with
      | scr ea =>
        refine sl_list pins s σ H _ v vl vu lo hi sl Q I rx hs pl pu ⟨_, ns.map V.int, rfl, by rw [hK]; exact rel.sub.seq ea, fun p hp => ?_⟩
        obtain ⟨rel', e'⟩ := rel.laidF (o := .lst (cutV (ns.map V.int) lo hi)) hp
        refine ok _ ι _ e' rel' _ (.p (.lst upd_same ?_))
        rw [cutV_eq, cut_map]
        generalize upd F p _ = F'
        generalize cut ns lo hi = ms
        induction ms with
        | nil => exact .nil
        | cons m r ih => exact .cons (.int m) ih
  · rename_i xs
    cases e
    cases r1 with
    | p r1 =>
      cases r1 with
      | @tup a vs _ ea ra =>
        refine sl_tupA pins s σ H _ v vl vu lo hi sl Q I rx hs pl pu ⟨a, vs, rfl, SqT.of (rel.sub _ _ ea), fun hw => ?_, fun hw p hp => ?_⟩
        · refine ok.here rel _ (.p ?_)
          rw [cut_all xs (by rw [← ra.length]; exact hw)]
          exact .tup ea ra
        · obtain ⟨rel', e'⟩ := rel.laidF (o := .tup (cutV vs lo hi)) hp
          refine ok _ ι _ e' rel' _ (.p (.tup upd_same ?_))
          have h1 := (ra.rds (ι := ι)).cut lo hi
          rw [cut_map] at h1
          exact h1.rps.mono e'.sub
  · split at e
    · rename_i ds e1
      simp only [Option.map_eq_some_iff] at e
      obtain ⟨xs, e2, rfl⟩ := e
      obtain ⟨a, vs, rfl, ea, ra⟩ := lstD_ok rel r1 e1
      refine sl_list pins s σ H _ v vl vu lo hi sl Q I rx hs pl pu ⟨a, vs, rfl, SqL.of ea, fun p hp => ?_⟩
      refine newL_ok (m := false) rel ?_ (ra.cut lo hi) hp
      simp only [newL, e2]
      exact ok
    · cases e
/-! ### fields -/
theorem lookup_map {α : Type} {ws : List (Str × V)} {fs : List (Str × α)} {f : Str} {d : α} (hk : ws.map (·.1) = fs.map (·.1)) (e : fs.lookup f = some d) : ∃ (i : Nat) (v : V), ws[i]? = some (f, v) ∧ fs[i]? = some (f, d) ∧ ws.lookup f = some v := by
  induction fs generalizing ws with
  | nil => cases e
  | cons q fs ih =>
    cases ws with
    | nil => cases hk
    | cons w ws =>
      simp only [List.map_cons, List.cons.injEq] at hk
      obtain ⟨qn, qd⟩ := q
      obtain ⟨wn, wv⟩ := w
      simp only at hk
      obtain ⟨rfl, hk⟩ := hk
      by_cases h : f = wn
      · subst h
        simp only [List.lookup, beq_self_eq_true] at e ⊢
        cases e
        exact ⟨0, wv, rfl, rfl, rfl⟩
      · have hb : (f == wn) = false := beq_eq_false_iff_ne.mpr h
        simp only [List.lookup, hb] at e ⊢
        obtain ⟨i, v, h1, h2, h3⟩ := ih hk e
        exact ⟨i + 1, v, h1, h2, h3⟩
theorem map_get {α : Type} {fs : List (Str × α)} {i : Nat} {f : Str} {d : α} (h : fs[i]? = some (f, d)) : (fs.map (·.2))[i]? = some d := by rw [List.getElem?_map, h]; rfl
theorem fldOf_ok {cf : Nat → List Str} (hcf : cf = g.cf) {F : Hp} {ι : List Addr} {M : Sto} {H : Hp} {x : V} {dx d : D} {f : Str} (rel : Rel g F ι M H) (r : RD g F ι x dx) (e : fldOf cf dx f M = some d) :
    (∃ a c da ws v, g.nc c = true ∧ x = .ref a ∧ H a = some (.ins (g.ca c) da ws) ∧ ws.lookup f = some v ∧ RD g F ι v d) ∨ ∃ a c dd v, g.xc c = true ∧ g.cf c = [f] ∧ x = .ref a ∧ H a = some (exK a (.ref (g.ca c)) (some dd)) ∧ H dd = some (.xd [(f, v)]) ∧ RD g F ι v d := by
  subst hcf
  unfold fldOf at e
  split at e
  · rename_i c fs
    simp only [Option.map_eq_some_iff] at e
    obtain ⟨y, e1, rfl⟩ := e
    cases r with
    | p r =>
      cases r with
      | @obj a da _ ws _ hc ea hk ra =>
        have hl : (ws.map (·.2)).length = fs.length := ra.length
        have hl2 : (ws.map (·.1)).length = (g.cf c).length := by rw [hk]
        rw [List.length_map] at hl hl2
        have hz : ws.map (·.1) = ((g.cf c).zip fs).map (·.1) := by
          rw [hk, List.map_fst_zip]
          omega
        obtain ⟨i, v, h1, h2, h3⟩ := lookup_map hz e1
        have h4 : fs[i]? = some y := by
          have := map_get h2
          rw [List.map_snd_zip (by omega)] at this
          exact this
        obtain ⟨v', q1, q2⟩ := (ra.rds (ι := ι)).get (i := i) (d := .p y) (by rw [List.getElem?_map, h4]; rfl)
        have q3 := map_get h1
        rw [q3] at q1
        cases q1
        exact .inl ⟨a, c, da, ws, v, hc, rfl, rel.sub _ _ ea, h3, q2⟩
  · rename_i n
    split at e
    · rename_i c fs hM
      cases r with
      | @ref _ a ea =>
        obtain ⟨_, hc, da, ws, e1, e2, e3⟩ := rel.cells n a _ ea hM
        obtain ⟨i, v, h1, h2, h3⟩ := lookup_map e2 e
        obtain ⟨v', q1, q2⟩ := e3.get (map_get h2)
        rw [map_get h1] at q1
        cases q1
        exact .inl ⟨a, c, da, ws, v, hc, rfl, e1, h3, q2⟩
    · rename_i c k hM
      split at e
      · rename_i f' v hk
        split at e
        · rename_i hf
          obtain ⟨rfl, hcf⟩ := hf
          cases e
          cases r with
          | @ref _ a ea =>
            obtain ⟨_, hc, dd, e1, d', e2, e3⟩ := rel.cells n a _ ea hM
            subst e2
            obtain ⟨_, u, q1, q2⟩ := rel.cells k d' _ e3 hk
            exact .inr ⟨a, c, d', u, hc, hcf, rfl, e1, q1, q2⟩
        · cases e
      · cases e
    · cases e
  · cases e
/-! ### built-in functions -/
def rVn (g : Gx) (f : List D → Sto → R D) : List V → Hp → VK → Prop := fun vs H Q => ∃ F ι M ds, Rel g F ι M H ∧ RDs g F ι vs ds ∧ Ok g Wf [] F ι H (f ds M) (kE g Q)
def biV : Bi → Value
  | .len => .builtin "len" | .int => .type "int" | .max2 => .builtin "max" | .min2 => .builtin "min" | .maxL => .builtin "max" | .minL => .builtin "min" | .sum => .builtin "sum" | .abs => .builtin "abs"
  | .list => .type "list" | .listM => .type "list" | .tuple => .type "tuple" | .str => .type "str" | .repr => .builtin "repr"
theorem rds1 {F : Hp} {ι : List Addr} {vs : List V} {d : D} (h : RDs g F ι vs [d]) : ∃ v, vs = [v] ∧ RD g F ι v d := by
  cases h with
  | cons a t => cases t; exact ⟨_, rfl, a⟩
theorem rds2 {F : Hp} {ι : List Addr} {vs : List V} {d e : D} (h : RDs g F ι vs [d, e]) : ∃ v w, vs = [v, w] ∧ RD g F ι v d ∧ RD g F ι w e := by
  cases h with
  | cons a t => cases t with | cons b t => cases t; exact ⟨_, _, rfl, a, b⟩
theorem rp_int {F : Hp} {ι : List Addr} {v : V} {i : Int} (h : RD g F ι v (.p (.int i))) : v = .int i := by
  cases h with | p h => cases h; rfl
theorem allInts_ok {F : Hp} {ι : List Addr} : ∀ {vs : List V} {ds : List D} {ns : List Int}, RDs g F ι vs ds → allInts ds = some ns → vs = ns.map V.int
  | _, _, _, .nil, e => by cases e; rfl
  | _, _, ns, .cons (d := .p (.int i)) r t, e => by
    simp only [allInts, Option.map_eq_some_iff] at e
    obtain ⟨ms, e1, rfl⟩ := e
    rw [rp_int r, allInts_ok t e1]; rfl
  | _, _, _, .cons (d := .p .non) _ _, e => by cases e
  | _, _, _, .cons (d := .p (.bl _)) _ _, e => by cases e
  | _, _, _, .cons (d := .p (.str _)) _ _, e => by cases e
  | _, _, _, .cons (d := .p (.tup _)) _ _, e => by cases e
  | _, _, _, .cons (d := .p (.lst _)) _ _, e => by cases e
  | _, _, _, .cons (d := .p (.dK _)) _ _, e => by cases e
  | _, _, _, .cons (d := .p (.obj _ _)) _ _, e => by cases e
  | _, _, _, .cons (d := .p (.scr _)) _ _, e => by cases e
  | _, _, _, .cons (d := .ref _) _ _, e => by cases e
  | _, _, _, .cons (d := .tup _) _ _, e => by cases e
theorem maxI_spec : ∀ {ns : List Int}, ns ≠ [] → maxI ns ∈ ns ∧ ∀ y ∈ ns, y ≤ maxI ns
  | [], h => absurd rfl h
  | [x], _ => ⟨by simp [maxI], by simp [maxI]⟩
  | x :: y :: r, _ => by
    obtain ⟨h1, h2⟩ := maxI_spec (ns := y :: r) (by simp)
    simp only [maxI]
    refine ⟨?_, fun z hz => ?_⟩
    · by_cases h : x ≤ maxI (y :: r)
      · rw [Int.max_eq_right h]; exact List.mem_cons_of_mem _ h1
      · rw [Int.max_eq_left (by omega)]; exact List.mem_cons_self
    · rcases List.mem_cons.mp hz with rfl | hz
      · exact Int.le_max_left _ _
      · exact Int.le_trans (h2 z hz) (Int.le_max_right _ _)
theorem minI_spec : ∀ {ns : List Int}, ns ≠ [] → minI ns ∈ ns ∧ ∀ y ∈ ns, minI ns ≤ y
  | [], h => absurd rfl h
  | [x], _ => ⟨by simp [minI], by simp [minI]⟩
  | x :: y :: r, _ => by
    obtain ⟨h1, h2⟩ := minI_spec (ns := y :: r) (by simp)
    simp only [minI]
    refine ⟨?_, fun z hz => ?_⟩
    · by_cases h : x ≤ minI (y :: r)
      · rw [Int.min_eq_left h]; exact List.mem_cons_self
      · rw [Int.min_eq_right (by omega)]; exact List.mem_cons_of_mem _ h1
    · rcases List.mem_cons.mp hz with rfl | hz
      · exact Int.min_le_left _ _
      · exact Int.le_trans (Int.min_le_right _ _) (h2 z hz)
theorem bind_lst {M : Sto} {x : D} {α : Type} {f : List D → Option α} {y : α} (h : (lstD M x).bind f = some y) : ∃ ds, lstD M x = some ds ∧ f ds = some y := by
  cases e : lstD M x with
  | none => rw [e] at h; cases h
  | some ds => rw [e] at h; exact ⟨ds, rfl, h⟩
mutual
theorem plain_nodict : ∀ d : PyData, d.plain = true → d.hasDict = false
  | .none, _ => rfl
  | .bool _, _ => rfl
  | .int _, _ => rfl
  | .str _, _ => rfl
  | .list xs, h => by
    simp only [PyData.plain] at h
    simp only [PyData.hasDict]
    exact plain_nodicts xs h
  | .tuple xs, h => by
    simp only [PyData.plain] at h
    simp only [PyData.hasDict]
    exact plain_nodicts xs h
  | .dict _, h => by simp only [PyData.plain] at h; cases h
theorem plain_nodicts : ∀ ds : List PyData, PyData.plainAll ds = true → PyData.hasDictAll ds = false
  | [], _ => rfl
  | d :: ds, h => by
    simp only [PyData.plainAll, Bool.and_eq_true] at h
    simp only [PyData.hasDictAll, plain_nodict d h.1, plain_nodicts ds h.2, Bool.or_self]
end
/-- repr of data, while none is under way -/
theorem repr_data {k : Nat} (hr : Room k X.A) (hgd : X.A.guards = some []) {pins : List (Addr × Obj)} {s : Shared} {σ : St} {H : Hp} {v : V} {u : Value} {d : PyData} {Q : VK} (I : L2.Inv X pins σ H s) (dp : Dp X.K H v d) (ru : RelV v u) (h1 : d.showable = true) (h2 : d.hasDict = false) (h3 : d.depth ≤ 100) (h4 : d.shown.length ≤ sizeLine) (q : Q (.str d.shown) H) :
    wpAny (model X.prog X.w) X.A (call (.builtin "repr") [u]) (EP X pins σ Q) X.xe s := by
  have un := hr.un
  have ref : ∀ a, u = .ref a → wpAny (model X.prog X.w) X.A (call (.builtin "repr") [u]) (EP X pins σ Q) X.xe s := by
    rintro a rfl
    obtain ⟨as, rd⟩ := Dp.reads I d v _ dp ru
    exact repr_of_reads' rd h1 (fun z => by rw [h2] at z; cases z) hgd (by omega) (fun _ _ e => e) (fun h' t tk kp => ⟨.str d.shown, H, I.kept kp, ⟨t, rfl⟩, q⟩) h4
  cases dp with
  | non => cases ru; exact PySem.P.repr_of_none ⟨.str _, H, I.tok _, ⟨_, rfl⟩, q⟩
  | bl b => cases ru; exact PySem.P.repr_of_bool ⟨.str _, H, I.tok _, ⟨_, rfl⟩, q⟩
  | int i =>
    obtain ⟨t, rfl⟩ := ru
    exact PySem.P.repr_of_int (of_decide_eq_true h1) ⟨.str _, H, I.tok _, ⟨_, rfl⟩, q⟩
  | str x =>
    obtain ⟨t, rfl⟩ := ru
    exact PySem.P.repr_of_str ⟨.str _, H, I.tok _, ⟨_, rfl⟩, q⟩ h4
  | lst _ _ => exact ref _ ru
  | tup _ _ => exact ref _ ru
/-- repr of an empty dict -/
theorem repr_d0 {k : Nat} (hr : Room k X.A) (hgd : X.A.guards = some []) {pins : List (Addr × Obj)} {s : Shared} {σ : St} {H : Hp} {a : Addr} {u : Value} {Q : VK} (I : L2.Inv X pins σ H s) (ea : H a = some (.dK [])) (ru : RelV (.ref a) u) (q : Q (.str (PyData.dict []).shown) H) :
    wpAny (model X.prog X.w) X.A (call (.builtin "repr") [u]) (EP X pins σ Q) X.xe s := by
  have un := hr.un
  obtain rfl : u = Value.ref a := ru
  obtain ⟨_, hd, vs, kv, o, es, ep, h1, h2, h3, h4, h5, h6⟩ := dk_of I.hok ea
  cases kv
  have he : es.toList = [] := by
    have := h5.length
    exact List.length_eq_zero_iff.1 (by simpa using this)
  have rd : Reads s.heap (.ref a) (.dict []) (a :: [] ++ []) := .dict (kvs := []) h1 h2.1 h3 (by rw [he]; exact .nil) (by rw [he]; exact .nil)
  have hd0 : (PyData.dict []).depth ≤ 1 := by decide +kernel
  refine repr_of_reads' rd rfl (fun _ hm => ?_) hgd (by omega) (fun _ _ e => e) (fun h' t tk kp => ⟨.str (PyData.dict []).shown, H, I.kept kp, ⟨t, rfl⟩, q⟩) (by decide +kernel)
  simp only [List.append_nil, List.mem_singleton] at hm
  rw [← hm] at hd
  simp at hd
/-- repr of data with dicts -/
theorem repr_w {k : Nat} (hr : Room k X.A) (hgd : X.A.guards = some []) {pins : List (Addr × Obj)} {s : Shared} {σ : St} {H : Hp} {u : Value} {d : PyData} {Q : VK} (I : L2.Inv X pins σ H s) (r : MiEq.Sw s.heap u d) (h1 : d.showable = true) (h3 : d.depth ≤ 100) (h4 : d.shown.length ≤ sizeLine) (q : Q (.str d.shown) H) :
    wpAny (model X.prog X.w) X.A (call (.builtin "repr") [u]) (EP X pins σ Q) X.xe s := by
  have un := hr.un
  have ref : ∀ a, u = .ref a → wpAny (model X.prog X.w) X.A (call (.builtin "repr") [u]) (EP X pins σ Q) X.xe s := by
    rintro a rfl
    exact MiEq.repr_sw r h1 hgd (by omega) (fun h' t tk kp => ⟨.str d.shown, H, I.kept kp, ⟨t, rfl⟩, q⟩) h4
  cases r with
  | none => exact PySem.P.repr_of_none ⟨.str _, H, I.tok _, ⟨_, rfl⟩, q⟩
  | bool b => exact PySem.P.repr_of_bool ⟨.str _, H, I.tok _, ⟨_, rfl⟩, q⟩
  | int i t => exact PySem.P.repr_of_int (of_decide_eq_true h1) ⟨.str _, H, I.tok _, ⟨_, rfl⟩, q⟩
  | str x t => exact PySem.P.repr_of_str ⟨.str _, H, I.tok _, ⟨_, rfl⟩, q⟩ h4
  | list _ _ _ _ => exact ref _ rfl
  | tuple _ _ _ _ => exact ref _ rfl
  | dict _ _ _ _ _ _ => exact ref _ rfl
theorem bfn_call {k : Nat} (hr : Room k X.A) (hgd : X.A.guards = some []) (hK : X.K = g.K) (hc : X.calm = true) (b : Bi) : CallR X (biV b) (rVn g (bfn b)) := by
  intro pins s σ H vs us Q I r h
  obtain ⟨F, ι, M, ds, rel, rs, ok⟩ := h
  unfold bfn at ok
  split at ok
  · -- len
    rename_i x
    obtain ⟨v, rfl, rv⟩ := rds1 rs
    split at ok
    · cases rv with
      | p rv =>
        cases rv with
        | tup ea ra =>
          refine call_len_seq pins s σ H _ us Q I r ⟨_, _, rfl, .inr (SqT.of (rel.sub _ _ ea)), ?_⟩
          rw [ra.length]
          exact ok.here rel _ (.p (.int _))
    · cases rv with
      | tup ea ra =>
        refine call_len_seq pins s σ H _ us Q I r ⟨_, _, rfl, .inr (SqT.of (rel.sub _ _ ea)), ?_⟩
        rw [ra.length]
        exact ok.here rel _ (.p (.int _))
    · rename_i ns
      cases rv with
      | p rv =>
        cases rv with
        | scr ea =>
          refine call_len_seq pins s σ H _ us Q I r ⟨_, ns.map V.int, rfl, .inl (by rw [hK]; exact rel.sub.seq ea), ?_⟩
          rw [List.length_map]
          exact ok.here rel _ (.p (.int _))
    · split at ok
      · rename_i ds e1
        obtain ⟨a, vs, rfl, ea, ra⟩ := lstD_ok rel rv e1
        refine call_len_seq pins s σ H _ us Q I r ⟨a, vs, rfl, .inl (SqL.of ea), ?_⟩
        rw [ra.length]
        exact ok.here rel _ (.p (.int _))
      · split at ok
        · rename_i kvs e1
          obtain ⟨a, ws, rfl, ea, k1, _⟩ := dctD_ok rel rv e1
          refine call_lenD pins s σ H _ us Q I r ⟨a, ws, rfl, ea, ?_⟩
          have : ws.length = kvs.length := by have := congrArg List.length k1; simpa using this
          rw [this]
          exact ok.here rel _ (.p (.int _))
        · exact ok.elim
  · -- int
    rename_i i
    obtain ⟨v, rfl, rv⟩ := rds1 rs
    obtain rfl := rp_int rv
    exact call_int1 pins s σ H _ us Q I r (.inl ⟨i, rfl, ok.here rel _ (.p (.int _))⟩)
  · rename_i c
    obtain ⟨v, rfl, rv⟩ := rds1 rs
    cases rv with
    | p rv =>
      cases rv
      exact call_int1 pins s σ H _ us Q I r (.inr ⟨c, rfl, ok.here rel _ (.p (.int _))⟩)
  · -- max2
    rename_i i j
    obtain ⟨v, w, rfl, rv, rw'⟩ := rds2 rs
    obtain rfl := rp_int rv
    obtain rfl := rp_int rw'
    exact call_max2 hc pins s σ H _ us Q I r ⟨i, j, rfl, ok.here rel _ (.p (.int _))⟩
  · rename_i i j
    obtain ⟨v, w, rfl, rv, rw'⟩ := rds2 rs
    obtain rfl := rp_int rv
    obtain rfl := rp_int rw'
    exact call_min2 hc pins s σ H _ us Q I r ⟨i, j, rfl, ok.here rel _ (.p (.int _))⟩
  · rename_i i
    obtain ⟨v, rfl, rv⟩ := rds1 rs
    obtain rfl := rp_int rv
    exact call_abs pins s σ H _ us Q I r ⟨i, rfl, ok.here rel _ (.p (.int _))⟩
  · -- maxL
    rename_i x
    obtain ⟨v, rfl, rv⟩ := rds1 rs
    split at ok
    · rename_i ns e
      split at ok
      · rename_i hn
        obtain ⟨ds, e1, e2⟩ := bind_lst e
        obtain ⟨a, ws, rfl, ea, ra⟩ := lstD_ok rel rv e1
        obtain rfl := allInts_ok ra e2
        refine cr_max hc pins s σ H _ us Q I r ⟨a, ns, rfl, SqL.of ea, List.length_pos_iff.mpr hn, fun m hm hy => ?_⟩
        have h1 := maxI_spec hn
        have : m = maxI ns := Int.le_antisymm (h1.2 m hm) (hy _ h1.1)
        rw [this]
        exact ok.here rel _ (.p (.int _))
      · exact ok.elim
    · exact ok.elim
  · -- minL
    rename_i x
    obtain ⟨v, rfl, rv⟩ := rds1 rs
    split at ok
    · rename_i ns e
      split at ok
      · rename_i hn
        obtain ⟨ds, e1, e2⟩ := bind_lst e
        obtain ⟨a, ws, rfl, ea, ra⟩ := lstD_ok rel rv e1
        obtain rfl := allInts_ok ra e2
        refine cr_min hc pins s σ H _ us Q I r ⟨a, ns, rfl, SqL.of ea, List.length_pos_iff.mpr hn, fun m hm hy => ?_⟩
        have h1 := minI_spec hn
        have : m = minI ns := Int.le_antisymm (hy _ h1.1) (h1.2 m hm)
        rw [this]
        exact ok.here rel _ (.p (.int _))
      · exact ok.elim
    · exact ok.elim
  · -- sum
    rename_i x
    obtain ⟨v, rfl, rv⟩ := rds1 rs
    split at ok
    · rename_i ns e
      obtain ⟨ds, e1, e2⟩ := bind_lst e
      obtain ⟨a, ws, rfl, ea, ra⟩ := lstD_ok rel rv e1
      obtain rfl := allInts_ok ra e2
      exact cr_sum hc pins s σ H _ us Q I r ⟨a, ns, rfl, SqL.of ea, ok.here rel _ (.p (.int _))⟩
    · exact ok.elim
  · -- list
    rename_i x
    obtain ⟨v, rfl, rv⟩ := rds1 rs
    split at ok
    · cases rv with
      | p rv =>
        cases rv with
        | tup ea ra =>
          refine call_list_of pins s σ H _ us Q I r ⟨_, _, rfl, .inr (SqT.of (rel.sub _ _ ea)), fun l hl => ?_⟩
          refine newL_ok (m := false) rel ?_ (ra.rds (ι := ι)) hl
          simp only [newL, toPs_map]
          exact ok
    · split at ok
      · rename_i xs e
        obtain ⟨ds, e1, e2⟩ := bind_lst e
        obtain ⟨a, ws, rfl, ea, ra⟩ := lstD_ok rel rv e1
        refine call_list_of pins s σ H _ us Q I r ⟨a, ws, rfl, .inl (SqL.of ea), fun l hl => ?_⟩
        refine newL_ok (m := false) rel ?_ ra hl
        simp only [newL, e2]
        exact ok
      · exact ok.elim
  · -- listM
    rename_i x
    obtain ⟨v, rfl, rv⟩ := rds1 rs
    split at ok
    · cases rv with
      | p rv =>
        cases rv with
        | tup ea ra => exact call_list_of pins s σ H _ us Q I r ⟨_, _, rfl, .inr (SqT.of (rel.sub _ _ ea)), fun l hl => newL_ok (m := true) rel ok (ra.rds (ι := ι)) hl⟩
    · split at ok
      · rename_i ds e1
        obtain ⟨a, ws, rfl, ea, ra⟩ := lstD_ok rel rv e1
        exact call_list_of pins s σ H _ us Q I r ⟨a, ws, rfl, .inl (SqL.of ea), fun l hl => newL_ok (m := true) rel ok ra hl⟩
      · exact ok.elim
  · -- tuple
    rename_i x
    obtain ⟨v, rfl, rv⟩ := rds1 rs
    split at ok
    · cases rv with
      | p rv =>
        cases rv with
        | tup ea ra => exact call_tuple_of pins s σ H _ us Q I r ⟨_, _, rfl, .inr ⟨SqT.of (rel.sub _ _ ea), ok.here rel _ (.p (.tup ea ra))⟩⟩
    · split at ok
      · rename_i xs e
        obtain ⟨ds, e1, e2⟩ := bind_lst e
        obtain ⟨a, ws, rfl, ea, ra⟩ := lstD_ok rel rv e1
        refine call_tuple_of pins s σ H _ us Q I r ⟨a, ws, rfl, .inl ⟨SqL.of ea, fun l hl => ?_⟩⟩
        obtain ⟨rel', e'⟩ := rel.laidF (o := .tup ws) hl
        rw [toPs_eq e2] at ra
        exact ok _ ι _ e' rel' _ (.p (.tup upd_same (ra.rps.mono e'.sub)))
      · exact ok.elim
  · -- repr
    rename_i x
    obtain ⟨v, rfl, rv⟩ := rds1 rs
    cases z : reprD x M with
    | none => rw [z] at ok; exact ok.elim
    | some t =>
      rw [z] at ok
      unfold reprD at z
      split at z
      · rename_i a ha
        split at z
        · rename_i hh
          obtain ⟨h1, h2, h3⟩ := hh
          cases z
          cases r with
          | cons ru rr =>
            cases rr
            have sp := sh_py a SH h1
            exact repr_data hr hgd I (rd_dp rel FU rv ha h1) ru h2 (plain_nodict _ sp.1) (Nat.le_trans sp.2 (by decide)) (Nat.le_trans h3 LIM_le) (ok.here rel _ (.p (.str _)))
        · split at z
          · rename_i hd
            cases z
            cases r with
            | cons ru rr =>
              cases rr
              unfold isD0 at hd
              split at hd
              · cases rv with
                | p rv =>
                  cases rv with
                  | @dK a ws _ ea e1 e2 =>
                    have hw : ws = [] := by
                      cases ws with
                      | nil => rfl
                      | cons _ _ => cases e1
                    subst hw
                    exact repr_d0 hr hgd I (rel.sub _ _ ea) ru (ok.here rel _ (.p (.str _)))
              · cases hd
          · split at z
            · rename_i hw
              cases z
              cases r with
              | cons ru rr =>
                cases rr
                obtain ⟨q1, q2⟩ := rd_sw I rel _ rv ha ru hw.1
                exact repr_w hr hgd I q1 hw.2.1 (Nat.le_trans q2 (by decide)) (Nat.le_trans hw.2.2 LIM_le) (ok.here rel _ (.p (.str _)))
            · cases z
      · cases z
  · -- str
    rename_i i
    split at ok
    · rename_i hz
      obtain ⟨v, rfl, rv⟩ := rds1 rs
      obtain rfl := rp_int rv
      exact call_str_int pins s σ H _ us Q I r ⟨i, rfl, hz, ok.here rel _ (.p (.str _))⟩
    · exact ok.elim
  · exact ok.elim
end
end Mi

set_option maxRecDepth 100000
set_option maxHeartbeats 2000000
/-! One rule for each form of an expression. -/
namespace Mi
open PySem PySem.Spec L2
theorem PE.weak {X : Cx} {e : Expr} {t t' : TE} (h : PE X e t) (k : ∀ σ H Q, t' σ H Q → t σ H Q) : PE X e t' := ⟨fun pins s σ H Q I q => h.run pins s σ H Q I (k σ H Q q)⟩
theorem PT.weak {X : Cx} {e : Expr} {t t' : TT} (h : PT X e t) (k : ∀ σ H Q, t' σ H Q → t σ H Q) : PT X e t' := ⟨fun pins s σ H Q I q => h.run pins s σ H Q I (k σ H Q q)⟩
theorem PW.weak {X : Cx} {e : Expr} {t t' : TT} (h : PW X e t) (k : ∀ σ H Q, t' σ H Q → t σ H Q) : PW X e t' := ⟨fun w pins s σ H Q I q => h.run w pins s σ H Q I (k σ H Q q)⟩
theorem PA.weak {X : Cx} {e : List Expr} {t t' : TA} (h : PA X e t) (k : ∀ σ H Q, t' σ H Q → t σ H Q) : PA X e t' := ⟨fun pos pins s σ H Q I q => h.run pos pins s σ H Q I (k σ H Q q)⟩
theorem PO.weak {X : Cx} {e : Option Expr} {t t' : TO} (h : PO X e t) (k : ∀ σ H Q, t' σ H Q → t σ H Q) : PO X e t' := ⟨fun pins s σ H Q I q => h.run pins s σ H Q I (k σ H Q q)⟩
section
variable {X : Cx} {g : Gx} {cg : Cg} {W : WX} {k : Nat} {σ : St} {F : Hp} {ι : List Addr} {H : Hp}
/-- on with the next expression -/
theorem tE_of {e : ME} {ρ : Env} {M : Sto} {Q : VK} (r : Rel g F ι M H) (s : RSl g F ι σ ρ) (h : Ok g W σ F ι H (ev cg e ρ M) (kE g Q)) : tE g cg W e σ H Q := ⟨F, ι, M, ρ, r, s, h⟩
/-- an expression whose answer is handed on -/
theorem tE_bind {β : Type} {e : ME} {ρ : Env} {M : Sto} {f : D → Sto → R β} {kk : Kt β} {Q : VK} (r : Rel g F ι M H) (s : RSl g F ι σ ρ) (h : Ok g W σ F ι H ((ev cg e ρ M).bind f) kk)
    (hk : ∀ v d F1 ι1 M1 H1, Rel g F1 ι1 M1 H1 → RSl g F1 ι1 σ ρ → RD g F1 ι1 v d → Ok g W σ F1 ι1 H1 (f d M1) kk → Ext F ι H F1 ι1 H1 → Q v H1) : tE g cg W e σ H Q :=
  ⟨F, ι, M, ρ, r, s, h.bind.mono fun d F1 ι1 M1 H1 _ _ ⟨e1, r1, o1⟩ v rv => hk v d F1 ι1 M1 H1 r1 (s.ext e1) rv o1 e1⟩
theorem tA_bind {β : Type} {es : List ME} {ρ : Env} {M : Sto} {f : List D → Sto → R β} {kk : Kt β} {Q : List V → Hp → Prop} (r : Rel g F ι M H) (s : RSl g F ι σ ρ) (h : Ok g W σ F ι H ((evs cg es ρ M).bind f) kk)
    (hk : ∀ vs ds F1 ι1 M1 H1, Rel g F1 ι1 M1 H1 → RSl g F1 ι1 σ ρ → RDs g F1 ι1 vs ds → Ok g W σ F1 ι1 H1 (f ds M1) kk → Ext F ι H F1 ι1 H1 → Q vs H1) : tAs g cg W es σ H Q :=
  ⟨F, ι, M, ρ, r, s, h.bind.mono fun d F1 ι1 M1 H1 _ _ ⟨e1, r1, o1⟩ v rv => hk v d F1 ι1 M1 H1 r1 (s.ext e1) rv o1 e1⟩
theorem tT_bind {β : Type} {e : ME} {ρ : Env} {M : Sto} {f : Bool → Sto → R β} {kk : Kt β} {Q : Bool → Hp → Prop} (r : Rel g F ι M H) (s : RSl g F ι σ ρ) (h : Ok g W σ F ι H ((evT cg e ρ M).bind f) kk)
    (hk : ∀ b F1 ι1 M1 H1, Rel g F1 ι1 M1 H1 → RSl g F1 ι1 σ ρ → Ok g W σ F1 ι1 H1 (f b M1) kk → Ext F ι H F1 ι1 H1 → Q b H1) : tT g cg W e σ H Q :=
  ⟨F, ι, M, ρ, r, s, h.bind.mono fun d F1 ι1 M1 H1 _ _ ⟨e1, r1, o1⟩ => hk d F1 ι1 M1 H1 r1 (s.ext e1) o1 e1⟩
/-- no exception comes of an operator -/
theorem Ok.noex {α : Type} {r : R α} {kk : Kt α} (h : Ok g W σ F ι H r kk) (hr : ∀ c v M, r ≠ .exc c v M) : Ok g Wf [] F ι H r kk := by
  cases r with
  | stuck => exact h
  | ok a M => exact h
  | exc c v M => exact absurd rfl (hr c v M)
/-! ### names, constants -/
theorem e_c {x : P} {v : V} {e : Expr} (hv : ∀ F, RP g F v x) (h : PE X e (tC v)) : PE X e (tE g cg W (.c x)) :=
  PE.weak h fun σ H Q ⟨F, ι, M, ρ, r, s, ok⟩ => Ok.here ok r v (.p (hv F))
theorem e_g {x : Str} {a : P} {v : V} {e : Expr} (hv : ∀ F, RP g F v a) (h : PE X e (tC v)) : PE X e (tE g cg W (.g x a)) :=
  PE.weak h fun σ H Q ⟨F, ι, M, ρ, r, s, ok⟩ => Ok.here ok r v (.p (hv F))
theorem e_v {i : Nat} {e : Expr} (h : PE X e (tVar i)) : PE X e (tE g cg W (.v i)) := by
  refine PE.weak h fun σ H Q ⟨F, ι, M, ρ, r, s, ok⟩ => ?_
  simp only [ev_v] at ok
  split at ok
  · rename_i d q
    obtain ⟨v, h1, h2⟩ := s.at_ i d q
    exact ⟨v, h1, ok.here r v h2⟩
  · exact ok.elim
/-! ### operators -/
theorem binop_noex {op : BOp} {x y : D} {M : Sto} (c : Nat) (v : D) (M' : Sto) : binop op x y M ≠ .exc c v M' := by
  have nl : ∀ m ds, newL m ds M ≠ .exc c v M' := fun m ds => by
    unfold newL
    cases m with
    | true => exact fun h => nomatch h
    | false => dsimp only; split <;> exact fun h => nomatch h
  have cl : ∀ m, catL m x y M ≠ .exc c v M' := fun m => by
    unfold catL; split
    · split
      · exact nl _ _
      · exact fun h => nomatch h
    · exact fun h => nomatch h
  have rl : ∀ m, repL m x y M ≠ .exc c v M' := fun m => by
    unfold repL; split
    · split
      · exact nl _ _
      · exact fun h => nomatch h
    · exact fun h => nomatch h
  cases op with
  | add =>
    unfold binop; dsimp only; split
    · exact fun h => nomatch h
    · split <;> exact fun h => nomatch h
    · split <;> exact fun h => nomatch h
    · exact cl _
  | addM => exact cl _
  | rep => exact rl _
  | repM => exact rl _
  | sub => unfold binop; dsimp only; split <;> exact fun h => nomatch h
  | mul => unfold binop; dsimp only; split <;> (try split) <;> exact fun h => nomatch h
  | fdiv => unfold binop; dsimp only; split <;> (try split) <;> exact fun h => nomatch h
  | mod => unfold binop; dsimp only; split <;> (try split) <;> exact fun h => nomatch h
  | pow => unfold binop; dsimp only; split <;> (try split) <;> exact fun h => nomatch h
theorem e_bin (hK : X.K = g.K) {op : BOp} {A B : ME} {a b : Expr} {pos : Pos} (ha : PE X a (tE g cg W A)) (hb : PE X b (tE g cg W B)) : PE X (.BinOp a (opB op) b pos) (tE g cg W (.bin op A B)) := by
  refine PE.weak (pe_op (bin_op (g := g) hK op) ha hb) fun σ H Q ⟨F, ι, M, ρ, r, s, ok⟩ => ?_
  exact tE_bind r s ok fun v d F1 ι1 M1 H1 r1 s1 rv ok1 _ => tE_bind r1 s1 ok1 fun w d' F2 ι2 M2 H2 r2 s2 rw' ok2 e2 => ⟨F2, ι2, M2, d, d', r2, rv.ext e2, rw', ok2.noex fun c v M => binop_noex c v M⟩
theorem e_neg {A : ME} {a : Expr} {pos : Pos} (ha : PE X a (tE g cg W A)) : PE X (.UnaryOp .USub a pos) (tE g cg W (.neg A)) := by
  refine PE.weak (pe_un un_neg ha) fun σ H Q ⟨F, ι, M, ρ, r, s, ok⟩ => ?_
  refine tE_bind r s ok fun v d F1 ι1 M1 H1 r1 s1 rv ok1 _ => ?_
  split at ok1
  · rename_i i
    obtain rfl := rp_int rv
    exact ⟨i, rfl, ok1.here r1 _ (.p (.int _))⟩
  · exact ok1.elim
theorem lift_ok {o : Option Bool} {M : Sto} {Q : VK} (r : Rel g F ι M H) (h : Ok g W σ F ι H (lift o M) (kE g Q)) : ∃ b, o = some b ∧ Q (.bl b) H := by
  cases o with
  | none => exact h.elim
  | some b => exact ⟨b, rfl, h.here r _ (.p (.bl b))⟩
theorem e_cmp (hK : X.K = g.K) (hr : Room k X.A) {op : COp} {A B : ME} {a b : Expr} {pos : Pos} (hm : behindInMarks (opC op) b = false) (ha : PE X a (tE g cg W A)) (hb : PE X b (tE g cg W B)) : PE X (.Compare a [opC op] [b] pos) (tE g cg W (.cmp op A B)) := by
  refine PE.weak (pe_cmpR (cmp_op (g := g) (cf := cg.cf) hK hr op) ha hb hm) fun σ H Q ⟨F, ι, M, ρ, r, s, ok⟩ => ?_
  refine tE_bind r s ok fun v d F1 ι1 M1 H1 r1 s1 rv ok1 _ => tE_bind r1 s1 ok1 fun w d' F2 ι2 M2 H2 r2 s2 rw' ok2 e2 => ?_
  obtain ⟨b, e, q⟩ := lift_ok r2 ok2
  exact ⟨F2, ι2, M2, d, d', b, r2, rv.ext e2, rw', e, q⟩
theorem t_cmp (hK : X.K = g.K) (hr : Room k X.A) {op : COp} {A B : ME} {a b : Expr} {pos : Pos} (hm : behindInMarks (opC op) b = false) (ha : PE X a (tE g cg W A)) (hb : PE X b (tE g cg W B)) : PT X (.Compare a [opC op] [b] pos) (tT g cg W (.cmp op A B)) := by
  refine PT.weak (pt_cmpR (cmp_op (g := g) (cf := cg.cf) hK hr op) ha hb hm) fun σ H Q ⟨F, ι, M, ρ, r, s, ok⟩ => ?_
  simp only [evT_cmp, ev_cmp] at ok
  simp only [R.bind_assoc] at ok
  refine tE_bind r s ok fun v d F1 ι1 M1 H1 r1 s1 rv ok1 _ => tE_bind r1 s1 ok1 fun w d' F2 ι2 M2 H2 r2 s2 rw' ok2 e2 => ?_
  cases e : cmpop cg.cf op d d' M2 with
  | none => rw [e] at ok2; exact ok2.elim
  | some b =>
    rw [e] at ok2
    exact ⟨F2, ι2, M2, d, d', b, r2, rv.ext e2, rw', e, b, rfl, Ok.here (a := b) (M := M2) ok2 r2⟩
theorem tru_is (hK : X.K = g.K) {x : V} {d : D} {M : Sto} {b : Bool} (r : Rel g F ι M H) (rv : RD g F ι x d) (e : tru M d = some b) : TruV X.K x H b := by
  cases rv with
  | p rv =>
    cases rv with
    | non => cases e; rfl
    | bl y => cases e; rfl
    | int y => cases e; rfl
    | tup ea ra =>
      cases e
      refine .inr (.inl ⟨_, SqT.of (r.sub _ _ ea), ?_⟩)
      cases ra <;> rfl
    | lst ea ra =>
      cases e
      refine .inl ⟨_, SqL.of (r.sub _ _ ea), ?_⟩
      cases ra <;> rfl
    | _ => cases e
  | @ref n a ea =>
    cases q : M[n]? with
    | none => simp only [tru, q] at e; cases e
    | some c =>
      cases c with
      | lst ds =>
        simp only [tru, q] at e
        cases e
        obtain ⟨_, vs, e1, e2⟩ := r.cells n a _ ea q
        refine .inl ⟨vs, SqL.of e1, ?_⟩
        cases e2 <;> rfl
      | _ => simp only [tru, q] at e; cases e
  | tup _ _ => cases e
theorem truR_ok {α : Type} {d : D} {M : Sto} {f : Bool → Sto → R α} {kk : Kt α} (h : Ok g W σ F ι H ((truR d M).bind f) kk) : ∃ b, tru M d = some b ∧ Ok g W σ F ι H (f b M) kk := by
  unfold truR at h
  cases e : tru M d with
  | none => rw [e] at h; exact h.elim
  | some b => rw [e] at h; exact ⟨b, rfl, h⟩
/-- any expression as a test, by its truth -/
theorem t_any (hK : X.K = g.K) {A : ME} {a : Expr} (hA : ∀ ρ M, evT cg A ρ M = (ev cg A ρ M).bind fun x M => truR x M) (ha : PE X a (tE g cg W A)) (he : ∀ whole, isTrue a X.env whole = (do let v ← whole; standAt a.pos; holding [v] (truthy v))) : PT X a (tT g cg W A) := by
  refine PT.weak (pt_truth ha he) fun σ H Q ⟨F, ι, M, ρ, r, s, ok⟩ => ?_
  rw [hA] at ok
  refine tE_bind r s ok fun v d F1 ι1 M1 H1 r1 s1 rv ok1 _ => ?_
  have ok2 : Ok g W σ F1 ι1 H1 ((truR d M1).bind fun b M => .ok b M) (kT Q) := by
    cases z : truR d M1 <;> rw [z] at ok1 <;> exact ok1
  obtain ⟨b, e, ok3⟩ := truR_ok ok2
  exact ⟨b, tru_is hK r1 rv e, ok3.here r1⟩
theorem e_not (hK : X.K = g.K) {A : ME} {a : Expr} {pos : Pos} (ha : PE X a (tE g cg W A)) : PE X (.UnaryOp .Not a pos) (tE g cg W (.not A)) := by
  refine PE.weak (pe_notT ha) fun σ H Q ⟨F, ι, M, ρ, r, s, ok⟩ => ?_
  refine tE_bind r s ok fun v d F1 ι1 M1 H1 r1 s1 rv ok1 _ => ?_
  obtain ⟨b, e, ok2⟩ := truR_ok ok1
  exact ⟨b, tru_is hK r1 rv e, ok2.here r1 _ (.p (.bl _))⟩
theorem t_not {A : ME} {a : Expr} {pos : Pos} (ha : PT X a (tT g cg W A)) : PT X (.UnaryOp .Not a pos) (tT g cg W (.not A)) := by
  refine PT.weak (pt_not ha) fun σ H Q ⟨F, ι, M, ρ, r, s, ok⟩ => ?_
  exact tT_bind r s ok fun b F1 ι1 M1 H1 r1 s1 ok1 _ => ok1.here r1
theorem e_and (hK : X.K = g.K) {A B : ME} {a b : Expr} {rest : List Expr} {pos : Pos} (ha : PE X a (tE g cg W A)) (hb : PE X (.BoolOp .And (b :: rest) pos) (tE g cg W B)) : PE X (.BoolOp .And (a :: b :: rest) pos) (tE g cg W (.and A B)) := by
  refine PE.weak (pe_andT ha hb) fun σ H Q ⟨F, ι, M, ρ, r, s, ok⟩ => ?_
  refine tE_bind r s ok fun v d F1 ι1 M1 H1 r1 s1 rv ok1 _ => ?_
  obtain ⟨b, e, ok2⟩ := truR_ok ok1
  refine ⟨b, tru_is hK r1 rv e, ?_⟩
  cases b with
  | true => exact iteT (tE_of r1 s1 ok2)
  | false => exact iteF (Ok.here ok2 r1 v rv)
theorem e_or (hK : X.K = g.K) {A B : ME} {a b : Expr} {rest : List Expr} {pos : Pos} (ha : PE X a (tE g cg W A)) (hb : PE X (.BoolOp .Or (b :: rest) pos) (tE g cg W B)) : PE X (.BoolOp .Or (a :: b :: rest) pos) (tE g cg W (.or A B)) := by
  refine PE.weak (pe_orT ha hb) fun σ H Q ⟨F, ι, M, ρ, r, s, ok⟩ => ?_
  refine tE_bind r s ok fun v d F1 ι1 M1 H1 r1 s1 rv ok1 _ => ?_
  obtain ⟨b, e, ok2⟩ := truR_ok ok1
  refine ⟨b, tru_is hK r1 rv e, ?_⟩
  cases b with
  | true => exact iteT (Ok.here ok2 r1 v rv)
  | false => exact iteF (tE_of r1 s1 ok2)
theorem w_and {A B : ME} {a b : Expr} {rest : List Expr} {pos : Pos} (ha : PT X a (tT g cg W A)) (hb : PW X (.BoolOp .And (b :: rest) pos) (tT g cg W B)) : PW X (.BoolOp .And (a :: b :: rest) pos) (tT g cg W (.and A B)) := by
  refine PW.weak (pw_and ha hb) fun σ H Q ⟨F, ι, M, ρ, r, s, ok⟩ => ?_
  refine tT_bind r s ok fun b F1 ι1 M1 H1 r1 s1 ok1 _ => ?_
  cases b with
  | true => exact iteT ⟨F1, ι1, M1, ρ, r1, s1, ok1⟩
  | false => exact iteF (Ok.here (a := false) (M := M1) ok1 r1)
theorem w_or {A B : ME} {a b : Expr} {rest : List Expr} {pos : Pos} (ha : PT X a (tT g cg W A)) (hb : PW X (.BoolOp .Or (b :: rest) pos) (tT g cg W B)) : PW X (.BoolOp .Or (a :: b :: rest) pos) (tT g cg W (.or A B)) := by
  refine PW.weak (pw_or ha hb) fun σ H Q ⟨F, ι, M, ρ, r, s, ok⟩ => ?_
  refine tT_bind r s ok fun b F1 ι1 M1 H1 r1 s1 ok1 _ => ?_
  cases b with
  | true => exact iteT (Ok.here (a := true) (M := M1) ok1 r1)
  | false => exact iteF ⟨F1, ι1, M1, ρ, r1, s1, ok1⟩
theorem e_ite {T A B : ME} {c a b : Expr} {pos : Pos} (hc : PT X c (tT g cg W T)) (ha : PE X a (tE g cg W A)) (hb : PE X b (tE g cg W B)) : PE X (.IfExp c a b pos) (tE g cg W (.ite T A B)) := by
  refine PE.weak (pe_ifExp hc ha hb) fun σ H Q ⟨F, ι, M, ρ, r, s, ok⟩ => ?_
  refine tT_bind r s ok fun b F1 ι1 M1 H1 r1 s1 ok1 _ => ?_
  cases b with
  | true => exact iteT (tE_of r1 s1 ok1)
  | false => exact iteF (tE_of r1 s1 ok1)
theorem e_chain (hK : X.K = g.K) (hr : Room k X.A) {o1 o2 : COp} {A B C : ME} {a b c : Expr} {pos : Pos} (hm : lastMarks [opC o1, opC o2] [b, c] = false) (ha : PE X a (tE g cg W A)) (hb : PE X b (tE g cg W B)) (hc : PE X c (tE g cg W C)) :
    PE X (.Compare a [opC o1, opC o2] [b, c] pos) (tE g cg W (.chain o1 o2 A B C)) := by
  refine PE.weak (pe_chain (cmp_op (g := g) (cf := cg.cf) hK hr o1) (cmp_op (g := g) (cf := cg.cf) hK hr o2) ha hb hc hm) fun σ H Q ⟨F, ι, M, ρ, r, s, ok⟩ => ?_
  refine tE_bind r s ok fun v d F1 ι1 M1 H1 r1 s1 rv ok1 _ => tE_bind r1 s1 ok1 fun w d' F2 ι2 M2 H2 r2 s2 rw' ok2 e2 => ?_
  cases e : cmpop cg.cf o1 d d' M2 with
  | none => rw [e] at ok2; exact ok2.elim
  | some b =>
    rw [e] at ok2
    refine ⟨F2, ι2, M2, d, d', b, r2, rv.ext e2, rw', e, b, rfl, ?_⟩
    cases b with
    | false => exact iteF (Ok.here ok2 r2 _ (.p (.bl false)))
    | true =>
      refine iteT (tE_bind r2 s2 ok2 fun z d3 F3 ι3 M3 H3 r3 s3 rz ok3 e3 => ?_)
      obtain ⟨b, e, q⟩ := lift_ok r3 ok3
      exact ⟨F3, ι3, M3, d', d3, b, r3, rw'.ext e3, rz, e, q⟩
theorem t_chain (hK : X.K = g.K) (hr : Room k X.A) {o1 o2 : COp} {A B C : ME} {a b c : Expr} {pos : Pos} (hm : lastMarks [opC o1, opC o2] [b, c] = false) (ha : PE X a (tE g cg W A)) (hb : PE X b (tE g cg W B)) (hc : PE X c (tE g cg W C)) :
    PT X (.Compare a [opC o1, opC o2] [b, c] pos) (tT g cg W (.chain o1 o2 A B C)) := by
  refine PT.weak (pt_chain (cmp_op (g := g) (cf := cg.cf) hK hr o1) (cmp_op (g := g) (cf := cg.cf) hK hr o2) ha hb hc hm) fun σ H Q ⟨F, ι, M, ρ, r, s, ok⟩ => ?_
  simp only [evT_chain, ev_chain, R.bind_assoc] at ok
  refine tE_bind r s ok fun v d F1 ι1 M1 H1 r1 s1 rv ok1 _ => tE_bind r1 s1 ok1 fun w d' F2 ι2 M2 H2 r2 s2 rw' ok2 e2 => ?_
  cases e : cmpop cg.cf o1 d d' M2 with
  | none => rw [e] at ok2; exact ok2.elim
  | some b =>
    rw [e] at ok2
    refine ⟨F2, ι2, M2, d, d', b, r2, rv.ext e2, rw', e, b, rfl, ?_⟩
    cases b with
    | false => exact iteF ⟨false, rfl, Ok.here (a := false) (M := M2) ok2 r2⟩
    | true =>
      simp only [R.bind_assoc] at ok2
      refine iteT (tE_bind r2 s2 ok2 fun z d3 F3 ι3 M3 H3 r3 s3 rz ok3 e3 => ?_)
      cases e : cmpop cg.cf o2 d' d3 M3 with
      | none => rw [e] at ok3; exact ok3.elim
      | some b =>
        rw [e] at ok3
        exact ⟨F3, ι3, M3, d', d3, b, r3, rw'.ext e3, rz, e, b, rfl, Ok.here (a := b) (M := M3) ok3 r3⟩
/-! ### lists of expressions, displays -/
theorem a_nil : PA X [] (tAs g cg W []) := PA.weak pa_nil fun σ H Q ⟨F, ι, M, ρ, r, s, ok⟩ => Ok.here ok r [] .nil
theorem star_ne {e : Expr} {es : List Expr} {env : PySem.Env} (h : ∀ v p, e ≠ .Starred v p) : starEach (e :: es) env = (false, eval e env) :: starEach es env := by
  cases e <;> first | rfl | exact absurd rfl (h _ _)
theorem a_cons {A : ME} {As : List ME} {a : Expr} {as : List Expr} (hn : ∀ v p, a ≠ .Starred v p) (ha : PE X a (tE g cg W A)) (hs : PA X as (tAs g cg W As)) : PA X (a :: as) (tAs g cg W (A :: As)) := by
  refine PA.weak (pa_cons ha hs (star_ne hn)) fun σ H Q ⟨F, ι, M, ρ, r, s, ok⟩ => ?_
  refine tE_bind r s ok fun v d F1 ι1 M1 H1 r1 s1 rv ok1 _ => ?_
  exact tA_bind r1 s1 ok1 fun vs ds F2 ι2 M2 H2 r2 s2 rs ok2 e2 => Ok.here ok2 r2 _ (.cons (rv.ext e2) rs)
theorem e_tup {As : List ME} {as : List Expr} {n : Nat} {pos : Pos} (hl : As.length ≤ 1000) (ha : PA X as (tAs g cg W As)) (hv : ∀ ρ M ds M', evs cg As ρ M = .ok ds M' → ds.length = As.length) : PE X (.Tuple as n pos) (tE g cg W (.tup As)) := by
  refine PE.weak (pe_tup ha) fun σ H Q ⟨F, ι, M, ρ, r, s, ok⟩ => ?_
  have hlen : ∀ ds M', evs cg As ρ M = .ok ds M' → ds.length ≤ 1000 := fun ds M' e => by rw [hv ρ M ds M' e]; exact hl
  have ok' := Ok.bind ok
  refine ⟨F, ι, M, ρ, r, s, ?_⟩
  cases z : evs cg As ρ M with
  | stuck => rw [z] at ok'; exact ok'
  | exc c v M => rw [z] at ok'; exact ok'
  | ok ds M' =>
    rw [z] at ok'
    intro F1 ι1 H1 e1 r1 vs rs
    obtain ⟨_, _, ok1⟩ := ok' F1 ι1 H1 e1 r1
    have hz : (1000 : Nat) ≤ sizeLine := by decide
    refine ⟨by rw [rs.length]; exact Nat.le_trans (hlen ds M' z) hz, fun p hp => ?_⟩
    obtain ⟨r2, e2⟩ := r1.laidF (o := .tup vs) hp
    cases q : toPs ds with
    | some xs =>
      rw [q] at ok1
      rw [toPs_eq q] at rs
      exact ok1 _ ι1 _ e2 r2 _ (.p (.tup upd_same (rs.rps.mono e2.sub)))
    | none =>
      rw [q] at ok1
      exact ok1 _ ι1 _ e2 r2 _ (.tup upd_same (rs.mono e2.sub e2.pre))
theorem evs_len (As : List ME) : ∀ ρ M ds M', evs cg As ρ M = .ok ds M' → ds.length = As.length := by
  induction As with
  | nil => intro ρ M ds M' e; cases e; rfl
  | cons A As ih =>
    intro ρ M ds M' e
    simp only [evs_cons] at e
    cases h1 : ev cg A ρ M with
    | stuck => rw [h1] at e; cases e
    | exc c v M => rw [h1] at e; cases e
    | ok x M1 =>
      rw [h1] at e
      simp only [R.bind_ok] at e
      cases h2 : evs cg As ρ M1 with
      | stuck => rw [h2] at e; cases e
      | exc c v M => rw [h2] at e; cases e
      | ok xs M2 =>
        rw [h2] at e
        cases e
        simp [ih ρ M1 xs _ h2]
theorem newL_noex {m : Bool} {ds : List D} {M : Sto} (c : Nat) (v : D) (M' : Sto) : newL m ds M ≠ .exc c v M' := by
  unfold newL
  cases m with
  | true => exact fun h => nomatch h
  | false => dsimp only; split <;> exact fun h => nomatch h
theorem e_lst {m : Bool} {As : List ME} {as : List Expr} {pos : Pos} (hl : As.length ≤ 1000) (ha : PA X as (tAs g cg W As)) : PE X (.List as pos) (tE g cg W (.lst m As)) := by
  refine PE.weak (pe_lst ha) fun σ H Q ⟨F, ι, M, ρ, r, s, ok⟩ => ?_
  have ok' := Ok.bind ok
  refine ⟨F, ι, M, ρ, r, s, ?_⟩
  cases z : evs cg As ρ M with
  | stuck => rw [z] at ok'; exact ok'
  | exc c v M => rw [z] at ok'; exact ok'
  | ok ds M' =>
    rw [z] at ok'
    intro F1 ι1 H1 e1 r1 vs rs
    obtain ⟨_, _, ok1⟩ := ok' F1 ι1 H1 e1 r1
    have hz : (1000 : Nat) ≤ sizeLine := by decide
    refine ⟨by rw [rs.length, evs_len As ρ M ds M' z]; exact Nat.le_trans hl hz, fun p hp => ?_⟩
    exact newL_ok r1 (ok1.noex fun c v M => newL_noex c v M) rs hp
theorem e_dnew {pos : Pos} : PE X (.Dict [] [] pos) (tE g cg W .dnew) := by
  refine PE.weak pe_dnewK fun σ H Q ⟨F, ι, M, ρ, r, s, ok⟩ => fun p hp => ?_
  obtain ⟨r', e'⟩ := r.laidC (o := .dK []) (c := .dK []) hp fun H' q => ⟨r.sub.free hp, [], q, rfl, .nil⟩
  refine ok F (ι ++ [p]) _ e' r' _ (.ref ?_)
  rw [← r.len]; simp
theorem e_dct0 {pos : Pos} : PE X (.Dict [] [] pos) (tE g cg W .dct0) := by
  refine PE.weak pe_dnewK fun σ H Q ⟨F, ι, M, ρ, r, s, ok⟩ => fun p hp => ?_
  obtain ⟨r', e'⟩ := r.laidF (o := .dK []) hp
  exact ok _ ι _ e' r' _ (.p (.dK upd_same rfl .nil))
/-- the pairs of a display -/
def tPr (g : Gx) (cg : Cg) (W : WX) : List ME → List (TE × TE)
  | a :: b :: r => (tE g cg W a, tE g cg W b) :: tPr g cg W r
  | _ => []
def flatV : List (V × V) → List V
  | [] => []
  | p :: r => p.1 :: p.2 :: flatV r
def evenL {α : Type} : List α → Bool
  | [] => true
  | _ :: _ :: r => evenL r
  | _ => false
theorem tPr_ok {β : Type} : ∀ {es : List ME} {F : Hp} {ι : List Addr} {M : Sto} {H : Hp} {ρ : Env} {f : List D → Sto → R β} {kk : Kt β} {Q : List (V × V) → Hp → Prop}, evenL es = true → Rel g F ι M H → RSl g F ι σ ρ → Ok g W σ F ι H ((evs cg es ρ M).bind f) kk →
    (∀ ps ds F1 ι1 M1 H1, Rel g F1 ι1 M1 H1 → RSl g F1 ι1 σ ρ → RDs g F1 ι1 (flatV ps) ds → Ok g W σ F1 ι1 H1 (f ds M1) kk → Ext F ι H F1 ι1 H1 → Q ps H1) → tPairs (tPr g cg W es) σ H Q
  | [], F, ι, M, H, ρ, f, kk, Q, _, r, s, ok, hk => hk [] [] F ι M H r s .nil ok (Ext.refl r)
  | [_], _, _, _, _, _, _, _, _, h, _, _, _, _ => by cases h
  | a :: b :: es, F, ι, M, H, ρ, f, kk, Q, h, r, s, ok, hk => by
    have e0 : ((evs cg (a :: b :: es) ρ M).bind f) = (ev cg a ρ M).bind fun x M => (ev cg b ρ M).bind fun y M => (evs cg es ρ M).bind fun zs M => f (x :: y :: zs) M := by
      show (((ev cg a ρ M).bind fun x M => (((ev cg b ρ M).bind fun y M => (evs cg es ρ M).bind fun zs M => .ok (y :: zs) M)).bind fun xs M => .ok (x :: xs) M)).bind f = _
      simp only [R.bind_assoc, R.bind_ok]
    rw [e0] at ok
    show tE g cg W a σ H _
    refine tE_bind r s ok fun v d F1 ι1 M1 H1 r1 s1 rv ok1 x1 => ?_
    refine tE_bind r1 s1 ok1 fun w d' F2 ι2 M2 H2 r2 s2 rw' ok2 x2 => ?_
    refine tPr_ok (es := es) h r2 s2 ok2 fun ps ds F3 ι3 M3 H3 r3 s3 rs ok3 x3 => ?_
    exact hk ((v, w) :: ps) (d :: d' :: ds) F3 ι3 M3 H3 r3 s3 (.cons ((rv.ext x2).ext x3) (.cons (rw'.ext x3) rs)) ok3 ((x1.trans x2).trans x3)
theorem prs_ok : ∀ {ps : List (V × V)} {ds : List D} {kvs : List (Key × D)}, RDs g F ι (flatV ps) ds → prs ds = some kvs → ∃ ws : List (Key × V), ps = ws.map (fun kv => (kV kv.1, kv.2)) ∧ ws.map (·.1) = kvs.map (·.1) ∧ RDs g F ι (ws.map (·.2)) (kvs.map (·.2))
  | [], _, kvs, r, e => by
    cases r
    cases e
    exact ⟨[], rfl, rfl, .nil⟩
  | (v, w) :: ps, _, kvs, r, e => by
    cases r with
    | @cons _ _ d ds r1 r =>
      cases r with
      | @cons _ _ d' ds r2 r =>
        cases r1 with
        | ref _ => cases e
        | tup _ _ => cases e
        | @p _ a r1 =>
          simp only [prs] at e
          split at e
          · rename_i k ks h1 h2
            cases e
            obtain ⟨ws, rfl, i2, i3⟩ := prs_ok r h2
            obtain rfl := key_ok r1 h1
            exact ⟨(k, w) :: ws, rfl, by simp [i2], .cons r2 i3⟩
          · cases e
theorem mergeK_new : ∀ {ws : List (Key × V)} {acc : List (Key × V)} {kvs : List (Key × D)}, ws.map (·.1) = kvs.map (·.1) → nodupK kvs = true → (∀ q ∈ ws, valV acc q.1 = none) → mergeK acc ws = acc ++ ws
  | [], acc, kvs, _, _, _ => by show acc = acc ++ []; simp
  | w :: ws, acc, [], h, _, _ => by cases h
  | w :: ws, acc, q :: kvs, h, hn, ha => by
    simp only [List.map_cons, List.cons.injEq] at h
    simp only [nodupK, Bool.and_eq_true, Bool.not_eq_true'] at hn
    have h0 := ha w List.mem_cons_self
    show mergeK (putK acc w.1 w.2) ws = _
    rw [putK_new w.2 h0, mergeK_new (acc := acc ++ [(w.1, w.2)]) h.2 hn.2 fun z hz => ?_]
    · simp
    · rw [valV_snoc w.1 z.1 w.2 acc h0]
      have hne : z.1 ≠ w.1 := by
        intro e
        have hm : z.1 ∈ kvs.map (·.1) := by rw [← h.2]; exact List.mem_map_of_mem hz
        obtain ⟨y, hy, ey⟩ := List.mem_map.1 hm
        have := hn.1
        rw [List.any_eq_false] at this
        exact this y hy (by simp [ey, e, h.1])
      rw [if_neg hne]
      exact ha z (List.mem_cons_of_mem _ hz)
theorem e_dsp {es : List ME} {ks : List (Option Expr)} {vs : List Expr} {pos : Pos} (hp : PPs X pos ks vs (tPr g cg W es)) (he : evenL es = true) (hall : ks.all (·.isSome) = true) (hl : ks.length = vs.length) (h0 : ks ≠ []) (h15 : ks.length ≤ 15) : PE X (.Dict ks vs pos) (tE g cg W (.dsp es)) := by
  refine PE.weak (pe_disp hp hall hl h0 h15) fun σ H Q ⟨F, ι, M, ρ, r, s, ok⟩ => fun p hp => ?_
  obtain ⟨r', e'⟩ := r.laidC (o := .dK []) (c := .dK []) hp fun H' q => ⟨r.sub.free hp, [], q, rfl, .nil⟩
  have hι : (ι ++ [p])[M.length]? = some p := by rw [← r.len]; simp
  refine tPr_ok he r' (s.ext e') (ok.ext e') fun ps ds F1 ι1 M1 H1 r1 s1 rs ok1 x1 => ?_
  unfold dspR at ok1
  split at ok1
  · rename_i kvs hk hM
    split at ok1
    · rename_i hh
      have h1 : ι1[M.length]? = some p := pre_get x1.pre hι
      obtain ⟨hF, us, q1, q2, q3⟩ := r1.cells _ _ _ h1 hM
      have hu : us = [] := by
        cases us with
        | nil => rfl
        | cons _ _ => cases q2
      subst hu
      obtain ⟨ws, rfl, w1, w2⟩ := prs_ok rs hk
      have hlen : ws.length = kvs.length := by have := congrArg List.length w1; simpa using this
      refine ⟨q1, ws, rfl, by omega, ?_⟩
      rw [mergeK_new w1 hh.1 (fun _ _ => rfl), List.nil_append]
      obtain ⟨r2, e2⟩ := r1.write (o := .dK ws) (c' := .dK kvs) h1 hM (fun z => nomatch z) fun H' q => ⟨hF, ws, q, w1, w2⟩
      exact ok1 F1 ι1 _ e2 r2 _ (.ref h1)
    · exact ok1.elim
  · exact ok1.elim
/-- a cell turned to data -/
theorem e_frz {a : ME} {e : Expr} (h : PE X e (tE g cg W a)) : PE X e (tE g cg W (.frz a)) := by
  refine PE.weak h fun σ H Q ⟨F, ι, M, ρ, r, s, ok⟩ => ⟨F, ι, M, ρ, r, s, ?_⟩
  have ok : Ok g W σ F ι H ((ev cg a ρ M).bind fun x M => frzD x M) (kE g Q) := ok
  refine Ok.mono (Ok.bind ok) fun d F1 ι1 M1 H1 _ _ ⟨e1, r1, ok1⟩ v rv => ?_
  cases d with
  | p _ => exact ok1.elim
  | tup _ => exact ok1.elim
  | ref n =>
    dsimp only [frzD] at ok1
    cases rv with
    | @ref _ b eb =>
      have hb := List.mem_of_getElem? eb
      have go : ∀ {o : HO} {x : P} (hF : F1 b = none) (hH : H1 b = some o) (c : Cell), M1[n]? = some c → RP g (upd F1 b o) (.ref b) x → Ok g W σ F1 ι1 H1 (.ok (.p x) (M1.set n .dead)) (kE g Q) → Q (.ref b) H1 := by
        intro o x hF hH c hM hx ok2
        have hs : Same F1 (upd F1 b o) := fun q u z => by rw [upd_ne (ne_of_none z hF)]; exact z
        have e' : Ext F1 ι1 H1 (upd F1 b o) ι1 H1 := by
          refine ⟨hs, ⟨[], by simp⟩, fun q u z _ => z, fun q z => .inl z, fun q u z => ?_, r1.there⟩
          by_cases hq : q = b
          · subst hq; exact .inr (.inr hb)
          · rw [upd_ne hq] at z; exact .inl z
        refine ok2 (upd F1 b o) ι1 H1 e' ⟨fun q u z => ?_, r1.nd, by simp [r1.len], fun m q c' z1 z2 => ?_, r1.there⟩ _ (.p hx)
        · by_cases hq : q = b
          · subst hq; rw [upd_same] at z; cases z; exact hH
          · rw [upd_ne hq] at z; exact r1.sub q u z
        · by_cases hm : n = m
          · subst hm
            rw [List.getElem?_set_self (List.getElem?_eq_some_iff.mp hM).1] at z2
            cases z2
            trivial
          · rw [List.getElem?_set_ne hm] at z2
            have hne : q ≠ b := fun z => hm (nodup_get r1.nd eb (z ▸ z1))
            exact (r1.cells m q c' z1 z2).mono hs ⟨[], by simp⟩ (fun hd => by rw [upd_ne hne]; exact (r1.cells m q c' z1 z2).free hd) rfl
      split at ok1
      · rename_i ds hM
        split at ok1
        · rename_i xs hx
          obtain ⟨hF, vs, q1, q2⟩ := r1.cells n b _ eb hM
          rw [toPs_eq hx] at q2
          exact go hF q1 _ hM (.lst upd_same (q2.rps.mono fun q u z => by rw [upd_ne (ne_of_none z hF)]; exact z)) ok1
        · exact ok1.elim
      · rename_i kvs hM
        split at ok1
        · rename_i xs hx
          obtain ⟨hF, ws, q1, q2, q3⟩ := r1.cells n b _ eb hM
          have e2 := toPs_eq hx
          have hl : kvs.length = xs.length := by have := congrArg List.length e2; simpa using this
          rw [e2] at q3
          have z1 : ((kvs.map (·.1)).zip xs).map (·.1) = kvs.map (·.1) := by rw [List.map_fst_zip]; simp [hl]
          have z2 : ((kvs.map (·.1)).zip xs).map (·.2) = xs := by rw [List.map_snd_zip]; simp [hl]
          exact go hF q1 _ hM (.dK upd_same (by rw [z1]; exact q2) (by rw [z2]; exact q3.rps.mono fun q u z => by rw [upd_ne (ne_of_none z hF)]; exact z)) ok1
        · exact ok1.elim
      · exact ok1.elim
/-! ### places, slices, fields -/
theorem opt_ok {o : Option D} {M : Sto} {kk : Kt D} (h : Ok g W σ F ι H (opt o M) kk) : ∃ d, o = some d ∧ Ok g W σ F ι H (.ok d M) kk := by
  cases o with
  | none => exact h.elim
  | some d => exact ⟨d, rfl, h⟩
theorem e_ix (hK : X.K = g.K) (hr : Room k X.A) {A B : ME} {a b : Expr} {pos : Pos} (hs : PlainIx b) (ha : PE X a (tE g cg W A)) (hb : PE X b (tE g cg W B)) : PE X (.Subscript a b pos) (tE g cg W (.ix A B)) := by
  refine PE.weak (pe_ix (ixD_op (g := g) hK hr) ha hb hs) fun σ H Q ⟨F, ι, M, ρ, r, s, ok⟩ => ?_
  refine tE_bind r s ok fun v d F1 ι1 M1 H1 r1 s1 rv ok1 _ => tE_bind r1 s1 ok1 fun w d' F2 ι2 M2 H2 r2 s2 rw' ok2 e2 => ?_
  obtain ⟨z, e, ok3⟩ := opt_ok ok2
  exact ⟨F2, ι2, M2, d, d', z, r2, rv.ext e2, rw', e, fun v rv => Ok.here ok3 r2 v rv⟩
end
end Mi

set_option maxRecDepth 100000
set_option maxHeartbeats 2000000
namespace Mi
open PySem PySem.Spec L2
section
variable {X : Cx} {g : Gx} {cg : Cg} {W : WX} {k : Nat} {σ : St} {F : Hp} {ι : List Addr} {H : Hp}
/-! ### slices -/
def tO (g : Gx) (cg : Cg) (W : WX) (e : Option ME) : TO := fun σ H Q => ∃ F ι M ρ, Rel g F ι M H ∧ RSl g F ι σ ρ ∧ Ok g W σ F ι H (evO cg e ρ M) (fun o F' ι' M' H' => ∃ i, intO o = some i ∧ Q i H')
theorem o_none : PO X none (tO g cg W none) := by
  refine PO.weak po_none fun σ H Q ⟨F, ι, M, ρ, r, s, ok⟩ => ?_
  obtain ⟨i, e, q⟩ := Ok.here ok r
  cases e
  exact q
theorem o_some {A : ME} {a : Expr} (ha : PE X a (tE g cg W A)) : PO X (some a) (tO g cg W (some A)) := by
  refine PO.weak (po_some ha) fun σ H Q ⟨F, ι, M, ρ, r, s, ok⟩ => ?_
  refine tE_bind r s ok fun v d F1 ι1 M1 H1 r1 s1 rv ok1 _ => ?_
  obtain ⟨i, e, q⟩ := Ok.here ok1 r1
  unfold intO at e
  split at e
  · cases ‹some d = none›
  · rename_i d i hd
    cases hd
    cases e
    obtain rfl := rp_int rv
    exact ⟨i, rfl, q⟩
  · cases e
theorem e_sl (hK : X.K = g.K) {A : ME} {L U : Option ME} {a : Expr} {lo hi : Option Expr} {p2 pos : Pos} (ha : PE X a (tE g cg W A)) (hl : PO X lo (tO g cg W L)) (hu : PO X hi (tO g cg W U)) : PE X (.Subscript a (.Slice lo hi none p2) pos) (tE g cg W (.sl A L U)) := by
  refine PE.weak (pe_slice (slD_op (g := g) hK) ha hl hu) fun σ H Q ⟨F, ι, M, ρ, r, s, ok⟩ => ?_
  refine tE_bind r s ok fun v d F1 ι1 M1 H1 r1 s1 rv ok1 _ => ?_
  refine ⟨F1, ι1, M1, ρ, r1, s1, ?_⟩
  cases zl : evO cg L ρ M1 with
  | stuck => rw [zl] at ok1; exact ok1.elim
  | exc c x M' => rw [zl] at ok1; exact ok1
  | ok o M' =>
    rw [zl] at ok1
    simp only [R.bind_ok] at ok1
    intro F2 ι2 H2 e2 r2
    have ok2 := ok1.ext e2
    cases zo : intO o with
    | none => rw [zo] at ok2; exact ok2.elim
    | some i =>
      rw [zo] at ok2
      refine ⟨i, rfl, F2, ι2, M', ρ, r2, (s1.ext e2), ?_⟩
      cases zu : evO cg U ρ M' with
      | stuck => rw [zu] at ok2; exact ok2.elim
      | exc c x M'' => rw [zu] at ok2; exact ok2
      | ok o' M'' =>
        rw [zu] at ok2
        simp only [R.bind_ok] at ok2
        intro F3 ι3 H3 e3 r3
        have ok3 := ok2.ext e3
        cases zo' : intO o' with
        | none => rw [zo'] at ok3; exact ok3.elim
        | some j =>
          rw [zo'] at ok3
          obtain ⟨z, ez, ok4⟩ := opt_ok ok3
          exact ⟨j, rfl, F3, ι3, M'', d, z, r3, (rv.ext e2).ext e3, ez, ok4.noex fun c v M h => nomatch h⟩
def rSlM (g : Gx) : V → Option Int → Option Int → Hp → VK → Prop := fun x lo hi H Q => ∃ F ι M dx, Rel g F ι M H ∧ RD g F ι x dx ∧ Ok g Wf [] F ι H (slM dx lo hi M) (kE g Q)
theorem slM_op (hK : X.K = g.K) : SlR X (rSlM g) := by
  intro pins s σ H x v vl vu lo hi sl Q I rx hs pl pu h
  obtain ⟨F, ι, M, dx, rel, r1, ok⟩ := h
  unfold slM at ok
  split at ok
  · rename_i ds e1
    obtain ⟨a, vs, rfl, ea, ra⟩ := lstD_ok rel r1 e1
    exact sl_list pins s σ H _ v vl vu lo hi sl Q I rx hs pl pu ⟨a, vs, rfl, SqL.of ea, fun p hp => newL_ok (m := true) rel ok (ra.cut lo hi) hp⟩
  · exact ok.elim
theorem slM_noex {x : D} {lo hi : Option Int} {M : Sto} (c : Nat) (v : D) (M' : Sto) : slM x lo hi M ≠ .exc c v M' := by
  unfold slM
  split
  · exact newL_noex c v M'
  · exact fun h => nomatch h
theorem e_slm (hK : X.K = g.K) {A : ME} {L U : Option ME} {a : Expr} {lo hi : Option Expr} {p2 pos : Pos} (ha : PE X a (tE g cg W A)) (hl : PO X lo (tO g cg W L)) (hu : PO X hi (tO g cg W U)) : PE X (.Subscript a (.Slice lo hi none p2) pos) (tE g cg W (.slm A L U)) := by
  refine PE.weak (pe_slice (slM_op (g := g) hK) ha hl hu) fun σ H Q ⟨F, ι, M, ρ, r, s, ok⟩ => ?_
  refine tE_bind r s ok fun v d F1 ι1 M1 H1 r1 s1 rv ok1 _ => ?_
  refine ⟨F1, ι1, M1, ρ, r1, s1, ?_⟩
  cases zl : evO cg L ρ M1 with
  | stuck => rw [zl] at ok1; exact ok1.elim
  | exc c x M' => rw [zl] at ok1; exact ok1
  | ok o M' =>
    rw [zl] at ok1
    simp only [R.bind_ok] at ok1
    intro F2 ι2 H2 e2 r2
    have ok2 := ok1.ext e2
    cases zo : intO o with
    | none => rw [zo] at ok2; exact ok2.elim
    | some i =>
      rw [zo] at ok2
      refine ⟨i, rfl, F2, ι2, M', ρ, r2, (s1.ext e2), ?_⟩
      cases zu : evO cg U ρ M' with
      | stuck => rw [zu] at ok2; exact ok2.elim
      | exc c x M'' => rw [zu] at ok2; exact ok2
      | ok o' M'' =>
        rw [zu] at ok2
        simp only [R.bind_ok] at ok2
        intro F3 ι3 H3 e3 r3
        have ok3 := ok2.ext e3
        cases zo' : intO o' with
        | none => rw [zo'] at ok3; exact ok3.elim
        | some j =>
          rw [zo'] at ok3
          exact ⟨j, rfl, F3, ι3, M'', d, r3, (rv.ext e2).ext e3, ok3.noex fun c v M => slM_noex c v M⟩
theorem e_revM (hK : X.K = g.K) {A : ME} {a : Expr} {n : Nat} {p1 p2 p3 pos : Pos} (ha : PE X a (tE g cg W A)) : PE X (.Subscript a (.Slice none none (some (.UnaryOp .USub (.Constant (.int 1) n p1) p2)) p3) pos) (tE g cg W (.revM A)) := by
  refine PE.weak (pe_revL ha) fun σ H Q ⟨F, ι, M, ρ, r, s, ok⟩ => ?_
  refine tE_bind r s ok fun v d F1 ι1 M1 H1 r1 s1 rv ok1 _ => ?_
  unfold revM at ok1
  split at ok1
  · rename_i ds e1
    obtain ⟨p, vs, rfl, ea, ra⟩ := lstD_ok r1 rv e1
    refine ⟨p, vs, rfl, SqL.of ea, fun q hq => ?_⟩
    exact newL_ok (m := true) r1 (ok1.noex fun c v M => newL_noex c v M) ra.reverse hq
  · exact ok1.elim
theorem e_rev (hK : X.K = g.K) {A : ME} {a : Expr} {n : Nat} {p1 p2 p3 pos : Pos} (ha : PE X a (tE g cg W A)) : PE X (.Subscript a (.Slice none none (some (.UnaryOp .USub (.Constant (.int 1) n p1) p2)) p3) pos) (tE g cg W (.rev A)) := by
  refine PE.weak (pe_revL ha) fun σ H Q ⟨F, ι, M, ρ, r, s, ok⟩ => ?_
  refine tE_bind r s ok fun v d F1 ι1 M1 H1 r1 s1 rv ok1 _ => ?_
  obtain ⟨z, e, ok2⟩ := opt_ok ok1
  unfold revD at e
  split at e
  · rename_i ds e1
    simp only [Option.map_eq_some_iff] at e
    obtain ⟨xs, e2, rfl⟩ := e
    obtain ⟨p, vs, rfl, ea, ra⟩ := lstD_ok r1 rv e1
    refine ⟨p, vs, rfl, SqL.of ea, fun q hq => ?_⟩
    refine newL_ok (m := false) r1 ?_ ra.reverse hq
    rw [toPs_eq e2]
    rw [← List.map_reverse]
    simp only [newL, toPs_map]
    exact ok2.noex fun c v M h => nomatch h
  · cases e
/-! ### fields, types -/
/-- a field of an instance, or of a kept exception -/
theorem pe_fldX {e : Expr} {ta : TE} {f : Str} {pos : Pos} (he : PE X e ta) (hb : attributeBase e f X.env (eval e X.env) = eval e X.env) : PE X (.Attribute e f pos) (fun σ H Q => ta σ H fun x H1 =>
    (∃ a C dx fs v, x = .ref a ∧ H1 a = some (.ins C dx fs) ∧ Cls X.K C ∧ NoAttr X.K C f ∧ fs.lookup f = some v ∧ Q v H1) ∨ ∃ (a C dd : Addr) (fs : List (Str × V)) (v : V), x = .ref a ∧ XfC X.K C ∧ PySem.W.findIn X.K (.ref C) f = some none ∧ H1 a = some (exK a (.ref C) (some dd)) ∧ H1 dd = some (.xd fs) ∧ fs.lookup f = some v ∧ Q v H1) := by
  refine ⟨fun pins s σ H Q I h => ?_⟩
  refine attr_of hb (thn (he.run pins s σ H _ I h) fun u s1 ⟨x, H1, I1, rx, hh⟩ => ?_)
  rcases hh with ⟨a, C, dx, fs, v, ex, ea, c, n, l, q⟩ | ⟨a, C, dd, fs, v, ex, T, hno, h1, h2, l, q⟩
  · subst ex
    obtain rfl : u = Value.ref a := rx
    exact getattr_ok I1 ea c n l fun u' s2 I2 ru => ⟨v, H1, I2, ru, q⟩
  · subst ex
    obtain rfl : u = Value.ref a := rx
    exact xk_get I1 T hno h1 h2 l q
theorem e_fld (hK : X.K = g.K) (C : ClsOk g) (hcf : cg.cf = g.cf) {A : ME} {a : Expr} {f : Str} {pos : Pos} (hb : attributeBase a f X.env (eval a X.env) = eval a X.env) (hf : ∀ c, g.nc c = true → NoAttr g.K (g.ca c) f) (ha : PE X a (tE g cg W A)) : PE X (.Attribute a f pos) (tE g cg W (.fld A f)) := by
  refine PE.weak (pe_fldX ha hb) fun σ H Q ⟨F, ι, M, ρ, r, s, ok⟩ => ?_
  refine tE_bind r s ok fun v d F1 ι1 M1 H1 r1 s1 rv ok1 _ => ?_
  obtain ⟨z, e, ok2⟩ := opt_ok ok1
  rcases fldOf_ok hcf r1 rv e with ⟨p, c, dx, ws, w, hc, rfl, ea, hl, rw'⟩ | ⟨p, c, dd, w, hc, hcc, rfl, ea, ed, rw'⟩
  · exact .inl ⟨p, g.ca c, dx, ws, w, rfl, ea, by rw [hK]; exact C.cl c hc, by rw [hK]; exact hf c hc, hl, Ok.here ok2 r1 w rw'⟩
  · have xe := C.xe c hc
    exact .inr ⟨p, g.ca c, dd, _, w, rfl, by rw [hK]; exact ⟨xe.hg, xe.hk, xe.hs, xe.hd⟩, by rw [hK]; exact C.xf c f hc hcc, ea, ed, by simp [List.lookup], Ok.here ok2 r1 w rw'⟩
theorem e_isi (hK : X.K = g.K) (C : ClsOk g) {A : ME} {t : Ty} {a b : Expr} {p pos : Pos} (ht : ∀ c, t = .own c → g.kc c = true) (na : ∀ v p, a ≠ .Starred v p) (nb : ∀ v p, b ≠ .Starred v p) (hg : Gl X "isinstance") (hm : X.mg "isinstance" = none) (ha : PE X a (tE g cg W A)) (hb : PE X b (tC (tyVal g t))) :
    PE X (.Call (.Name "isinstance" p) [a, b] [] pos) (tE g cg W (.isi A t)) := by
  have hc : CallR X (.builtin "isinstance") (fun vs H Q => ∃ x F ι M d b, vs = [x, tyVal g t] ∧ Rel g F ι M H ∧ RD g F ι x d ∧ isTy d t M = some b ∧ Q (.bl b) H) := by
    intro pins s σ H vs us Q I r h
    obtain ⟨x, F, ι, M, d, b, rfl, rel, rx, e, q⟩ := h
    exact isTy_call hK C ht I r rel rx e q
  refine PE.weak (pe_callB hc hg hm (by decide +kernel) (pa_cons ha (pa_cons hb pa_nil (star_ne nb)) (star_ne na)) (by decide) (by decide) (star_ne na) (by rw [star_ne nb]; rfl)) fun σ H Q ⟨F, ι, M, ρ, r, s, ok⟩ => ?_
  refine tE_bind r s ok fun v d F1 ι1 M1 H1 r1 s1 rv ok1 _ => ?_
  obtain ⟨b, e, q⟩ := lift_ok r1 ok1
  exact ⟨v, F1, ι1, M1, d, b, rfl, r1, rv, e, q⟩
end
end Mi

set_option maxRecDepth 100000
set_option maxHeartbeats 2000000
/-! Calls: of built-in functions and methods, of defs. -/
namespace Mi
open PySem PySem.Spec L2
/-- no star among them -/
def noStar : List Expr → Bool
  | [] => true
  | .Starred _ _ :: _ => false
  | _ :: r => noStar r
theorem noStar_head {e : Expr} {es : List Expr} (h : noStar (e :: es) = true) : ∀ v p, e ≠ .Starred v p := by
  intro v p z; subst z; cases h
theorem noStar_tail {e : Expr} {es : List Expr} (h : noStar (e :: es) = true) : noStar es = true := by
  cases e <;> first | exact h | cases h
theorem noStar_each {env : PySem.Env} : ∀ {es : List Expr}, noStar es = true → starEach es env = es.map fun e => (false, eval e env)
  | [], _ => rfl
  | e :: es, h => by rw [star_ne (noStar_head h), noStar_each (noStar_tail h)]; rfl
theorem star_any {env : PySem.Env} {pos : Pos} {es : List Expr} (h : noStar es = true) : (backTo pos (starEach es env)).any (·.1) = false := by
  rw [noStar_each h]
  simp [backTo]
theorem star_all {env : PySem.Env} {pos : Pos} {es : List Expr} (h : noStar es = true) : (backTo pos (starEach es env)).all (fun x => !x.1) = true := by
  rw [noStar_each h]
  simp [backTo]
theorem star_few {env : PySem.Env} {pos : Pos} {es : List Expr} (h : noStar es = true) (hl : es.length < 30) : ((backTo pos (starEach es env)).all (fun x => !x.1) && (backToKw pos (keywordEach [] env)).all (fun x => x.1.isSome)
    && decide (es.length + ([] : List Keyword).length + (if ([] : List Keyword).isEmpty then 0 else 1) < 30)) = true := by
  rw [star_all h]
  simp [backToKw, keywordEach, hl]
section
variable {X : Cx} {g : Gx} {cg : Cg} {W : WX} {k : Nat} {σ : St} {F : Hp} {ι : List Addr} {H : Hp}
theorem bfn_noex {b : Bi} {ds : List D} {M : Sto} (c : Nat) (v : D) (M' : Sto) : bfn b ds M ≠ .exc c v M' := by
  unfold bfn
  split <;> (try split) <;> (try split) <;> (try split) <;> first | exact fun h => nomatch h | exact newL_noex c v M'
/-- a built-in function or type by its name -/
def biN : Bi → Str
  | .len => "len" | .int => "int" | .max2 => "max" | .min2 => "min" | .maxL => "max" | .minL => "min" | .sum => "sum" | .abs => "abs" | .list => "list" | .listM => "list" | .tuple => "tuple" | .str => "str" | .repr => "repr"
theorem biN_boot (b : Bi) : bootBuiltins (biN b) = some (biV b) := by cases b <;> decide +kernel
theorem biN_ok (b : Bi) : biN b ≠ "__name__" ∧ (biN b == ("__debug__" : Str)) = false := by cases b <;> exact ⟨by decide, by decide⟩
theorem e_bi {k : Nat} (hr : Room k X.A) (hgd : X.A.guards = some []) (hK : X.K = g.K) (hc : X.calm = true) {b : Bi} {As : List ME} {a : Expr} {as : List Expr} {p pos : Pos} (hs : noStar (a :: as) = true) (hg : Gl X (biN b)) (hm : X.mg (biN b) = none) (ha : PA X (a :: as) (tAs g cg W As)) : PE X (.Call (.Name (biN b) p) (a :: as) [] pos) (tE g cg W (.bi b As)) := by
  have h1 := star_ne (es := as) (env := X.env) (noStar_head hs)
  have h2 := star_any (env := X.env) (pos := pos) (noStar_tail hs)
  have key : ∀ t, PE X (.Call (.Name (biN b) p) (a :: as) [] pos) (tCB (rVn g (bfn b)) (tAs g cg W As)) → t = tE g cg W (.bi b As) → PE X (.Call (.Name (biN b) p) (a :: as) [] pos) t := by
    intro t h e
    rw [e]
    refine PE.weak h fun σ H Q ⟨F, ι, M, ρ, r, s, ok⟩ => ?_
    exact tA_bind r s ok fun vs ds F1 ι1 M1 H1 r1 s1 rs ok1 _ => ⟨F1, ι1, M1, ds, r1, rs, ok1.noex fun c v M => bfn_noex c v M⟩
  refine key _ ?_ rfl
  have hv := biN_boot b
  have hcall := bfn_call (g := g) hr hgd hK hc b
  cases hb : biV b with
  | builtin id => rw [hb] at hv hcall; exact pe_callB hcall hg hm hv ha (biN_ok b).1 (biN_ok b).2 h1 h2
  | type T => rw [hb] at hv hcall; exact pe_callTy hcall hg hm hv ha (biN_ok b).1 (biN_ok b).2 h1 h2
  | _ => cases b <;> cases hb
/-! ### methods of built-in types -/
def rMt (g : Gx) (f : D → List D → Sto → R D) : V → List V → Hp → VK → Prop := fun x xs H Q => ∃ F ι M d ds, Rel g F ι M H ∧ RD g F ι x d ∧ RDs g F ι xs ds ∧ Ok g Wf [] F ι H (f d ds M) (kE g Q)
theorem mtd_noex {b : Mt} {x : D} {ds : List D} {M : Sto} (c : Nat) (v : D) (M' : Sto) : mtd b x ds M ≠ .exc c v M' := by
  cases b <;> simp only [mtd, mAppend, mPop0, mPop1, mBits, mDget1, mDget2, mDpop, mPopI, mClear, mInsert] <;> (repeat' split) <;> exact fun h => nomatch h
theorem tyV_list {x : V} {d : D} {M : Sto} (r : Rel g F ι M H) (rv : RD g F ι x d) (h : (lstD M d).isSome = true) : tyV X.K "list" x H := by
  obtain ⟨ds, e⟩ := Option.isSome_iff_exists.mp h
  obtain ⟨a, vs, rfl, ea, _⟩ := lstD_ok r rv e
  exact .inl ⟨rfl, vs, SqL.of ea⟩
theorem m_append : MtR X "list.append" (rMt g mAppend) := by
  intro pins s σ H x xs v us Q I rx rs h
  obtain ⟨F, ι, M, d, ds, rel, r1, r2, ok⟩ := h
  unfold mAppend at ok
  split at ok
  · rename_i n y
    obtain ⟨w, rfl, rw'⟩ := rds1 r2
    split at ok
    · rename_i zs hM
      split at ok
      · rename_i hl
        cases r1 with
        | @ref _ a ea =>
          obtain ⟨hF, vs, e1, e2⟩ := rel.cells n a _ ea hM
          have hz := LIM_le
          refine mt_append pins s σ H _ _ v us Q I rx rs ⟨a, vs, w, rfl, rfl, e1, by rw [e2.length]; omega, ?_⟩
          obtain ⟨rel', e'⟩ := rel.write (o := .lst (vs ++ [w])) (c' := .lst (zs ++ [y])) ea hM (fun z => nomatch z) fun H' q => ⟨hF, _, q, e2.append (.cons rw' .nil)⟩
          exact ok _ ι _ e' rel' _ (.p .non)
      · exact ok.elim
    · exact ok.elim
  · exact ok.elim
theorem m_pop0 : MtR X "list.pop" (rMt g mPop0) := by
  intro pins s σ H x xs v us Q I rx rs h
  obtain ⟨F, ι, M, d, ds, rel, r1, r2, ok⟩ := h
  unfold mPop0 at ok
  split at ok
  · rename_i n
    split at ok
    · rename_i zs hM
      split at ok
      · rename_i y hy
        cases r1 with
        | @ref _ a ea =>
          cases r2
          obtain ⟨hF, vs, e1, e2⟩ := rel.cells n a _ ea hM
          rw [List.getLast?_eq_getElem?] at hy
          obtain ⟨w, q1, q2⟩ := e2.get hy
          rw [← e2.length] at q1
          refine mt_pop pins s σ H _ _ v us Q I rx rs ⟨a, vs, w, rfl, rfl, e1, q1, ?_⟩
          have e3 : RDs g F ι vs.dropLast zs.dropLast := by rw [List.dropLast_eq_take, List.dropLast_eq_take, e2.length]; exact e2.take _
          obtain ⟨rel', e'⟩ := rel.write (o := .lst vs.dropLast) (c' := .lst zs.dropLast) ea hM (fun z => nomatch z) fun H' q => ⟨hF, _, q, e3⟩
          exact ok _ ι _ e' rel' _ (q2.ext e')
      · exact ok.elim
    · exact ok.elim
  · exact ok.elim
theorem m_pop1 : MtR X "list.pop" (rMt g mPop1) := by
  intro pins s σ H x xs v us Q I rx rs h
  obtain ⟨F, ι, M, d, ds, rel, r1, r2, ok⟩ := h
  unfold mPop1 at ok
  split at ok
  · rename_i n i
    split at ok
    · rename_i y zs hM
      split at ok
      · rename_i hi
        subst hi
        obtain ⟨w, rfl, rw'⟩ := rds1 r2
        obtain rfl := rp_int rw'
        cases r1 with
        | @ref _ a ea =>
          obtain ⟨hF, vs, e1, e2⟩ := rel.cells n a _ ea hM
          cases e2 with
          | @cons v0 vs _ _ q1 q2 =>
            refine mt_popAt pins s σ H _ _ v us Q I rx rs ⟨a, v0 :: vs, 0, 0, v0, rfl, rfl, e1, by decide, by decide, ?_, rfl, ?_⟩
            · simp [seqIndex?]
            · obtain ⟨rel', e'⟩ := rel.write (o := .lst vs) (c' := .lst zs) ea hM (fun z => nomatch z) fun H' q => ⟨hF, _, q, q2⟩
              exact ok _ ι _ e' rel' _ (q1.ext e')
      · exact ok.elim
    · exact ok.elim
  · exact ok.elim
theorem m_popI : MtR X "list.pop" (rMt g mPopI) := by
  intro pins s σ H x xs v us Q I rx rs h
  obtain ⟨F, ι, M, d, ds, rel, r1, r2, ok⟩ := h
  unfold mPopI at ok
  split at ok
  · rename_i n i
    split at ok
    · rename_i zs hM
      split at ok
      · rename_i j hj
        split at ok
        · rename_i y hy
          split at ok
          · rename_i hlim
            obtain ⟨w, rfl, rw'⟩ := rds1 r2
            obtain rfl := rp_int rw'
            cases r1 with
            | @ref _ a ea =>
              obtain ⟨hF, vs, e1, e2⟩ := rel.cells n a _ ea hM
              obtain ⟨w, q1, q2⟩ := e2.get hy
              obtain ⟨k1, k2, k3, k4⟩ := ixN_seq hj
              have hlm : LIM = 1000000 := rfl
              refine mt_popAt pins s σ H _ _ v us Q I rx rs ⟨a, vs, i, j, w, rfl, rfl, e1, by omega, by omega, by rw [e2.length]; exact k1, q1, ?_⟩
              have er : RDs g F ι (vs.eraseIdx j) (zs.eraseIdx j) := by
                rw [List.eraseIdx_eq_take_drop_succ, List.eraseIdx_eq_take_drop_succ]
                exact (e2.take _).append (e2.drop _)
              obtain ⟨rel', e'⟩ := rel.write (o := .lst (vs.eraseIdx j)) (c' := .lst (zs.eraseIdx j)) ea hM (fun z => nomatch z) fun H' q => ⟨hF, _, q, er⟩
              exact ok _ ι _ e' rel' _ (q2.ext e')
          · exact ok.elim
        · exact ok.elim
      · exact ok.elim
    · exact ok.elim
  · exact ok.elim
theorem m_clear : MtR X "list.clear" (rMt g mClear) := by
  intro pins s σ H x xs v us Q I rx rs h
  obtain ⟨F, ι, M, d, ds, rel, r1, r2, ok⟩ := h
  unfold mClear at ok
  split at ok
  · rename_i n
    split at ok
    · rename_i zs hM
      cases r1 with
      | @ref _ a ea =>
        cases r2
        obtain ⟨hF, vs, e1, e2⟩ := rel.cells n a _ ea hM
        refine mt_clear pins s σ H _ _ v us Q I rx rs ⟨a, vs, rfl, rfl, e1, ?_⟩
        obtain ⟨rel', e'⟩ := rel.write (o := .lst []) (c' := .lst []) ea hM (fun z => nomatch z) fun H' q => ⟨hF, _, q, .nil⟩
        exact ok _ ι _ e' rel' _ (.p .non)
    · exact ok.elim
  · exact ok.elim
theorem m_insert : MtR X "list.insert" (rMt g mInsert) := by
  intro pins s σ H x xs v us Q I rx rs h
  obtain ⟨F, ι, M, d, ds, rel, r1, r2, ok⟩ := h
  unfold mInsert at ok
  split at ok
  · rename_i n i y
    split at ok
    · rename_i zs hM
      split at ok
      · rename_i hl
        obtain ⟨w1, w, rfl, rw1, rw'⟩ := rds2 r2
        obtain rfl := rp_int rw1
        cases r1 with
        | @ref _ a ea =>
          obtain ⟨hF, vs, e1, e2⟩ := rel.cells n a _ ea hM
          have hz := LIM_le
          have hlm : LIM = 1000000 := rfl
          refine mt_insert pins s σ H _ _ v us Q I rx rs ⟨a, vs, i, w, rfl, rfl, e1, by rw [e2.length]; omega, by omega, by omega, ?_⟩
          obtain ⟨rel', e'⟩ := rel.write (o := .lst (vs.take i.toNat ++ [w] ++ vs.drop i.toNat)) (c' := .lst (zs.take i.toNat ++ y :: zs.drop i.toNat)) ea hM (fun z => nomatch z) fun H' q => ⟨hF, _, q, by rw [List.append_assoc]; exact (e2.take _).append (.cons rw' (e2.drop _))⟩
          exact ok _ ι _ e' rel' _ (.p .non)
      · exact ok.elim
    · exact ok.elim
  · exact ok.elim
/-- a list's method without arguments -/
theorem e_mtL0 {b : Mt} {name : Str} {id : String} (slot : Slot "list" name id) (hty : typeOf (.builtin id) = pure (.type "method_descriptor")) (hm : MtR X id (rMt g (mtd b))) (hb : ∀ x M, mtTy b x M = (lstD M x).isSome)
    {A : ME} {o : Expr} {apos cpos : Pos} (hbase : attributeBase o name X.env (eval o X.env) = eval o X.env) (hline : (apos.endLine == cpos.line) = true)
    (ho : PE X o (tE g cg W A)) : PE X (.Call (.Attribute o name apos) [] [] cpos) (tE g cg W (.mt b A [])) := by
  refine PE.weak (pe_bm0 PySem.F.plainAttrs_list slot hty hm ho hbase hline) fun σ H Q ⟨F, ι, M, ρ, r, s, ok⟩ => ?_
  refine tE_bind r s ok fun v d F1 ι1 M1 H1 r1 s1 rv ok1 _ => ?_
  split at ok1
  · rename_i hty
    exact ⟨tyV_list r1 rv (by rw [← hb]; exact hty), F1, ι1, M1, d, [], r1, rv, .nil, ok1.noex fun c v M => mtd_noex c v M⟩
  · exact ok1.elim
/-- a list's method -/
theorem e_mtL {b : Mt} {name : Str} {id : String} (slot : Slot "list" name id) (hty : typeOf (.builtin id) = pure (.type "method_descriptor")) (hm : MtR X id (rMt g (mtd b))) (hb : ∀ x M, mtTy b x M = (lstD M x).isSome)
    {A : ME} {Bs : List ME} {o a : Expr} {as : List Expr} {apos cpos : Pos} (hbase : attributeBase o name X.env (eval o X.env) = eval o X.env) (hline : (apos.endLine == cpos.line) = true) (hs : noStar (a :: as) = true) (hl : (a :: as).length < 30)
    (ho : PE X o (tE g cg W A)) (ha : PA X (a :: as) (tAs g cg W Bs)) : PE X (.Call (.Attribute o name apos) (a :: as) [] cpos) (tE g cg W (.mt b A Bs)) := by
  refine PE.weak (pe_bm PySem.F.plainAttrs_list slot hty hm ho ha hbase (star_few hs hl) hline (star_ne (noStar_head hs)) (star_any (noStar_tail hs))) fun σ H Q ⟨F, ι, M, ρ, r, s, ok⟩ => ?_
  refine tE_bind r s ok fun v d F1 ι1 M1 H1 r1 s1 rv ok1 _ => ?_
  split at ok1
  · rename_i hty
    exact ⟨tyV_list r1 rv (by rw [← hb]; exact hty), tA_bind r1 s1 ok1 fun vs ds F2 ι2 M2 H2 r2 s2 rs ok2 e2 => ⟨F2, ι2, M2, d, ds, r2, rv.ext e2, rs, ok2.noex fun c v M => mtd_noex c v M⟩⟩
  · exact ok1.elim
theorem e_append {A : ME} {Bs : List ME} {o a : Expr} {as : List Expr} {apos cpos : Pos} (hbase : attributeBase o "append" X.env (eval o X.env) = eval o X.env) (hline : (apos.endLine == cpos.line) = true) (hs : noStar (a :: as) = true) (hl : (a :: as).length < 30)
    (ho : PE X o (tE g cg W A)) (ha : PA X (a :: as) (tAs g cg W Bs)) : PE X (.Call (.Attribute o "append" apos) (a :: as) [] cpos) (tE g cg W (.mt .append A Bs)) :=
  e_mtL PySem.F.slot_list_append PySem.F.type_list_append m_append (fun _ _ => rfl) hbase hline hs hl ho ha
theorem e_pop0 {A : ME} {o : Expr} {apos cpos : Pos} (hbase : attributeBase o "pop" X.env (eval o X.env) = eval o X.env) (hline : (apos.endLine == cpos.line) = true) (ho : PE X o (tE g cg W A)) : PE X (.Call (.Attribute o "pop" apos) [] [] cpos) (tE g cg W (.mt .pop0 A [])) :=
  e_mtL0 PySem.F.slot_list_pop PySem.F.type_list_pop m_pop0 (fun _ _ => rfl) hbase hline ho
theorem e_pop1 {A : ME} {Bs : List ME} {o a : Expr} {as : List Expr} {apos cpos : Pos} (hbase : attributeBase o "pop" X.env (eval o X.env) = eval o X.env) (hline : (apos.endLine == cpos.line) = true) (hs : noStar (a :: as) = true) (hl : (a :: as).length < 30)
    (ho : PE X o (tE g cg W A)) (ha : PA X (a :: as) (tAs g cg W Bs)) : PE X (.Call (.Attribute o "pop" apos) (a :: as) [] cpos) (tE g cg W (.mt .pop1 A Bs)) :=
  e_mtL PySem.F.slot_list_pop PySem.F.type_list_pop m_pop1 (fun _ _ => rfl) hbase hline hs hl ho ha
theorem e_popI {A : ME} {Bs : List ME} {o a : Expr} {as : List Expr} {apos cpos : Pos} (hbase : attributeBase o "pop" X.env (eval o X.env) = eval o X.env) (hline : (apos.endLine == cpos.line) = true) (hs : noStar (a :: as) = true) (hl : (a :: as).length < 30)
    (ho : PE X o (tE g cg W A)) (ha : PA X (a :: as) (tAs g cg W Bs)) : PE X (.Call (.Attribute o "pop" apos) (a :: as) [] cpos) (tE g cg W (.mt .popI A Bs)) :=
  e_mtL PySem.F.slot_list_pop PySem.F.type_list_pop m_popI (fun _ _ => rfl) hbase hline hs hl ho ha
theorem e_insert {A : ME} {Bs : List ME} {o a : Expr} {as : List Expr} {apos cpos : Pos} (hbase : attributeBase o "insert" X.env (eval o X.env) = eval o X.env) (hline : (apos.endLine == cpos.line) = true) (hs : noStar (a :: as) = true) (hl : (a :: as).length < 30)
    (ho : PE X o (tE g cg W A)) (ha : PA X (a :: as) (tAs g cg W Bs)) : PE X (.Call (.Attribute o "insert" apos) (a :: as) [] cpos) (tE g cg W (.mt .insert A Bs)) :=
  e_mtL PySem.F.slot_list_insert PySem.F.type_list_insert m_insert (fun _ _ => rfl) hbase hline hs hl ho ha
theorem e_clear {A : ME} {o : Expr} {apos cpos : Pos} (hbase : attributeBase o "clear" X.env (eval o X.env) = eval o X.env) (hline : (apos.endLine == cpos.line) = true) (ho : PE X o (tE g cg W A)) : PE X (.Call (.Attribute o "clear" apos) [] [] cpos) (tE g cg W (.mt .clear A [])) :=
  e_mtL0 PySem.F.slot_list_clear PySem.F.type_list_clear m_clear (fun _ _ => rfl) hbase hline ho
theorem e_bits {A : ME} {o : Expr} {apos cpos : Pos} (hbase : attributeBase o "bit_length" X.env (eval o X.env) = eval o X.env) (hline : (apos.endLine == cpos.line) = true) (ho : PE X o (tE g cg W A)) : PE X (.Call (.Attribute o "bit_length" apos) [] [] cpos) (tE g cg W (.mt .bits A [])) := by
  refine PE.weak (pe_bits ho hbase hline) fun σ H Q ⟨F, ι, M, ρ, r, s, ok⟩ => ?_
  refine tE_bind r s ok fun v d F1 ι1 M1 H1 r1 s1 rv ok1 _ => ?_
  split at ok1
  · have ok2 : Ok g W σ F1 ι1 H1 (mBits d [] M1) (kE g Q) := ok1
    unfold mBits at ok2
    split at ok2
    · rename_i i _ _
      obtain rfl := rp_int rv
      exact ⟨_, rfl, Ok.here ok2 r1 _ (.p (.int _))⟩
    · exact ok2.elim
  · exact ok1.elim
/-! ### methods of dicts -/
theorem m1_ok {o : Expr} {m : Str} {apos cpos : Pos} {e : Expr} (hbase : attributeBase o m X.env (eval o X.env) = eval o X.env) (hline : (apos.endLine == cpos.line) = true) (hs : noStar [e] = true) : M1 X o m apos e cpos := by
  refine ⟨hbase, star_few hs (by simp), hline, ?_⟩
  rw [noStar_each hs]; rfl
theorem m2_ok {o : Expr} {m : Str} {apos cpos : Pos} {e f : Expr} (hbase : attributeBase o m X.env (eval o X.env) = eval o X.env) (hline : (apos.endLine == cpos.line) = true) (hs : noStar [e, f] = true) : M2 X o m apos e f cpos := by
  refine ⟨hbase, star_few hs (by simp), hline, ?_⟩
  rw [noStar_each hs]; rfl
theorem isD_of {x : V} {d : D} {M : Sto} (r : Rel g F ι M H) (rv : RD g F ι x d) (h : (dctD M d).isSome = true) : ∃ a, x = .ref a ∧ IsD H a := by
  obtain ⟨ds, e⟩ := Option.isSome_iff_exists.mp h
  obtain ⟨a, ws, rfl, ea, _⟩ := dctD_ok r rv e
  exact ⟨a, rfl, .inl ⟨ws, .inl ea⟩⟩
theorem e_dget1 (hr : Room k X.A) {A B : ME} {o a : Expr} {apos cpos : Pos} (hbase : attributeBase o "get" X.env (eval o X.env) = eval o X.env) (hline : (apos.endLine == cpos.line) = true) (hs : noStar [a] = true)
    (ho : PE X o (tE g cg W A)) (ha : PE X a (tE g cg W B)) : PE X (.Call (.Attribute o "get" apos) [a] [] cpos) (tE g cg W (.mt .dget1 A [B])) := by
  refine PE.weak (pe_dget1 (hu_of hr) ho ha (m1_ok hbase hline hs)) fun σ H Q ⟨F, ι, M, ρ, r, s, ok⟩ => ?_
  refine tE_bind r s ok fun v d F1 ι1 M1 H1 r1 s1 rv ok1 _ => ?_
  split at ok1
  · rename_i hty
    obtain ⟨p, rfl, hd⟩ := isD_of r1 rv hty
    refine ⟨p, rfl, hd, ?_⟩
    simp only [evs_cons, evs_nil, R.bind_assoc, R.bind_ok] at ok1
    refine tE_bind r1 s1 ok1 fun w d2 F2 ι2 M2 H2 r2 s2 rw' ok2 e2 => ?_
    have ok3 : Ok g W σ F2 ι2 H2 (mDget1 d [d2] M2) (kE g Q) := ok2
    unfold mDget1 at ok3
    split at ok3
    · rename_i kk hk
      cases hk
      split at ok3
      · rename_i kvs key e1 e3
        obtain ⟨b, ws, hb, eb, k1, k2⟩ := dctD_ok r2 (rv.ext e2) e1
        cases hb
        cases rw' with
        | p rw' =>
          obtain rfl := key_ok rw' e3
          refine ⟨valV ws key, DGet.k eb, ?_⟩
          rcases valV_rds key k1 k2 with ⟨h1, h2⟩ | ⟨z, d', h1, h2, h3⟩
          · rw [h1]; rw [h2] at ok3; exact Ok.here ok3 r2 _ (.p .non)
          · rw [h1]; rw [h2] at ok3; exact Ok.here ok3 r2 _ h3
      · exact ok3.elim
    · exact ok3.elim
  · exact ok1.elim
theorem e_dget2 (hr : Room k X.A) {A B C : ME} {o a b : Expr} {apos cpos : Pos} (hbase : attributeBase o "get" X.env (eval o X.env) = eval o X.env) (hline : (apos.endLine == cpos.line) = true) (hs : noStar [a, b] = true)
    (ho : PE X o (tE g cg W A)) (ha : PE X a (tE g cg W B)) (hb : PE X b (tE g cg W C)) : PE X (.Call (.Attribute o "get" apos) [a, b] [] cpos) (tE g cg W (.mt .dget2 A [B, C])) := by
  refine PE.weak (pe_dget2 (hu_of hr) ho ha hb (m2_ok hbase hline hs)) fun σ H Q ⟨F, ι, M, ρ, r, s, ok⟩ => ?_
  refine tE_bind r s ok fun v d F1 ι1 M1 H1 r1 s1 rv ok1 _ => ?_
  split at ok1
  · rename_i hty
    obtain ⟨p, rfl, hd⟩ := isD_of r1 rv hty
    refine ⟨p, rfl, hd, ?_⟩
    simp only [evs_cons, evs_nil, R.bind_assoc, R.bind_ok] at ok1
    refine tE_bind r1 s1 ok1 fun w d2 F2 ι2 M2 H2 r2 s2 rw' ok2 e2 => ?_
    refine tE_bind r2 s2 ok2 fun u d3 F3 ι3 M3 H3 r3 s3 ru ok3 e3 => ?_
    have ok4 : Ok g W σ F3 ι3 H3 (mDget2 d [d2, d3] M3) (kE g Q) := ok3
    unfold mDget2 at ok4
    split at ok4
    · rename_i kk _ hk
      cases hk
      split at ok4
      · rename_i kvs key q1 q3
        obtain ⟨b, ws, hb, eb, k1, k2⟩ := dctD_ok r3 ((rv.ext e2).ext e3) q1
        cases hb
        cases rw'.ext e3 with
        | p rw' =>
          obtain rfl := key_ok rw' q3
          refine ⟨valV ws key, DGet.k eb, ?_⟩
          rcases valV_rds key k1 k2 with ⟨h1, h2⟩ | ⟨z, d', h1, h2, h3⟩
          · rw [h1]; rw [h2] at ok4; exact Ok.here ok4 r3 _ ru
          · rw [h1]; rw [h2] at ok4; exact Ok.here ok4 r3 _ h3
      · exact ok4.elim
    · exact ok4.elim
  · exact ok1.elim
theorem rds_filter {ws : List (Key × V)} {kvs : List (Key × D)} (key : Key) (h1 : ws.map (·.1) = kvs.map (·.1)) (h2 : RDs g F ι (ws.map (·.2)) (kvs.map (·.2))) : (dropK ws key).map (·.1) = (drp key kvs).map (·.1) ∧ RDs g F ι ((dropK ws key).map (·.2)) ((drp key kvs).map (·.2)) := by
  induction ws generalizing kvs with
  | nil =>
    cases kvs with
    | nil => exact ⟨rfl, .nil⟩
    | cons q r => cases h1
  | cons w ws ih =>
    cases kvs with
    | nil => cases h1
    | cons q kvs =>
      simp only [List.map_cons, List.cons.injEq] at h1
      cases h2 with
      | cons a t =>
        obtain ⟨i1, i2⟩ := ih h1.2 t
        unfold dropK drp at *
        by_cases e : w.1 = key
        · have e' : q.1 = key := h1.1 ▸ e
          simp only [List.filter_cons, ne_eq, e, e', not_true_eq_false, decide_false, Bool.false_eq_true, if_false]
          exact ⟨i1, i2⟩
        · have e' : ¬ q.1 = key := fun z => e (h1.1 ▸ z)
          simp only [List.filter_cons, ne_eq, e, e', not_false_eq_true, decide_true, if_true, List.map_cons, List.cons.injEq]
          exact ⟨⟨h1.1, i1⟩, .cons a i2⟩
theorem e_dpop {A B : ME} {o a : Expr} {apos cpos : Pos} (hbase : attributeBase o "pop" X.env (eval o X.env) = eval o X.env) (hline : (apos.endLine == cpos.line) = true) (hs : noStar [a] = true)
    (ho : PE X o (tE g cg W A)) (ha : PE X a (tE g cg W B)) : PE X (.Call (.Attribute o "pop" apos) [a] [] cpos) (tE g cg W (.mt .dpop A [B])) := by
  refine PE.weak (pe_dpop1 ho ha (m1_ok hbase hline hs)) fun σ H Q ⟨F, ι, M, ρ, r, s, ok⟩ => ?_
  refine tE_bind r s ok fun v d F1 ι1 M1 H1 r1 s1 rv ok1 _ => ?_
  split at ok1
  · rename_i hty
    obtain ⟨p, rfl, hd⟩ := isD_of r1 rv hty
    refine ⟨p, rfl, hd, ?_⟩
    simp only [evs_cons, evs_nil, R.bind_assoc, R.bind_ok] at ok1
    refine tE_bind r1 s1 ok1 fun w d2 F2 ι2 M2 H2 r2 s2 rw' ok2 e2 => ?_
    have ok3 : Ok g W σ F2 ι2 H2 (mDpop d [d2] M2) (kE g Q) := ok2
    unfold mDpop at ok3
    split at ok3
    · rename_i n kk hk
      cases hk
      split at ok3
      · rename_i kvs key hM e3
        split at ok3
        · rename_i y hy
          cases rv.ext e2 with
          | @ref _ a ea =>
            obtain ⟨hF, ws, e4, k1, k2⟩ := r2.cells n p _ ea hM
            cases rw' with
            | p rw' =>
              obtain rfl := key_ok rw' e3
              rcases valV_rds key k1 k2 with ⟨h1, h2⟩ | ⟨z, d', h1, h2, h3⟩
              · rw [h2] at hy; cases hy
              · rw [h2] at hy; cases hy
                refine ⟨ws, key, z, e4, rfl, h1, ?_⟩
                obtain ⟨f1, f2⟩ := rds_filter key k1 k2
                obtain ⟨rel', e'⟩ := r2.write (o := .dK (dropK ws key)) (c' := .dK (drp key kvs)) ea hM (fun z => nomatch z) fun H' q => ⟨hF, _, q, f1, f2⟩
                exact ok3 _ ι2 _ e' rel' _ (h3.ext e')
        · exact ok3.elim
      · exact ok3.elim
    · exact ok3.elim
  · exact ok1.elim
end
end Mi

set_option maxRecDepth 100000
set_option maxHeartbeats 4000000
/-! enumerate over a tuple. -/
namespace PySem
open Sem (wp)
theorem meets_enumT {v : Value} {o : Obj} {H : Heap → Prop} (B : Begins v o H) : Meets (Builtin.«enumerate.__new__» ⟨[.type "enumerate", v], []⟩) (fun _ R s => H s.heap ∧
      R (.ok (.ret (.ref (s.heap.push o).objs.size))) { s with heap := (s.heap.push o).push { cls := .type "enumerate", data := .fields #[.none, .bool false, .ref s.heap.objs.size, rawInt 0, .none, .none] } }) :=
  .of_wp fun prog w A R s hh => by
    obtain ⟨hp, g, d, tk, os⟩ := s
    obtain ⟨hH, hR⟩ := hh
    have hsub := sub_enumerate
    have it1 : ∀ {A' : Around} {E : Value → Shared → Prop} {Q : Value → Shared → Prop}, Q (.ref hp.objs.size) ⟨hp.push o, g, d, tk, os⟩ → wpAny (model prog w) A' (pyIter v) Q E ⟨hp, g, d, tk, os⟩ :=
      fun q => B.iter prog w _ _ ⟨hp, g, d, tk, os⟩ _ hH q
    wp_walk using it1
    refine wpAny_stack_any fun st => wpAny_pure ?_
    split
    · rename_i c _ _ _ _ _
      cases (c == Value.type "enumerate") <;> (wp_walk using it1; exact ⟨_, rfl, hR⟩)
    · wp_walk using it1
      exact ⟨_, rfl, hR⟩
section
variable {prog : Program} {w : World} {A : Around} {E : Value → Shared → Prop} {s : Shared}
theorem call_enumT {v : Value} {o : Obj} {H : Heap → Prop} {Q : Value → Shared → Prop} (B : Begins v o H) (h1 : H s.heap)
    (h : ∀ h', IsEnum h' (s.heap.objs.size + 1) s.heap.objs.size 0 .none → h'.get? s.heap.objs.size = some o → (∀ b u, s.heap.get? b = some u → h'.get? b = some u) → Q (.ref (s.heap.objs.size + 1)) { s with heap := h' }) :
    wpAny (model prog w) A (call (.type "enumerate") [v]) Q E s := by
  refine callType_new F.called_enumerate (by decide) (F.typeCall_enumerate_1 _) (F.newCall_enumerate_1 _) (fun obj => F.args_object_init_2 obj _) F.entry_enumerate_new (meets_enumT B) ⟨h1, ?_⟩
  have hz : (s.heap.push o).objs.size = s.heap.objs.size + 1 := Heap.size_push ..
  show _ ∧ _
  rw [hz]
  have he : IsEnum ((s.heap.push o).push { cls := .type "enumerate", data := .fields #[.none, .bool false, .ref s.heap.objs.size, rawInt 0, .none, .none] }) (s.heap.objs.size + 1) s.heap.objs.size 0 .none := by
    have q := Heap.get?_push_size (s.heap.push o) (o := { cls := .type "enumerate", data := .fields #[.none, .bool false, .ref s.heap.objs.size, rawInt 0, .none, .none] }) rfl
    rwa [hz] at q
  exact ⟨⟨_, he, rfl⟩, h _ he (Heap.get?_push_of_some _ (Heap.get?_push_size _ B.free)) fun b u x => Heap.get?_push_of_some _ (Heap.get?_push_of_some _ x)⟩
end
end PySem
namespace L2
open PySem PySem.Spec PyProof.Rows
/-- the tuple at a, each item in a new pair -/
def IteT (K : PySem.W.Frag) (a : Addr) : It :=
  ⟨fun i H => ∃ (xs : List V) (x : V), SqT K H a xs ∧ xs[i]? = some x, fun i H v H' => ∃ T x, v = .ref T ∧ H T = none ∧ H' = upd H T (.tup [.int (i : Nat), x]) ∧ ∀ xs, SqT K H a xs → xs[i]? = some x, fun i H => ∃ xs : List V, SqT K H a xs ∧ xs.length ≤ i⟩
theorem walk_enumT {K : PySem.W.Frag} {a : Addr} {xs : List V} : Walk (IteT K a) xs.length (fun H => SqT K H a xs) (YPair (fun i => some (.int (i : Nat))) (fun i => xs[i]?)) := by
  refine ⟨fun i _ hi q => ⟨xs, xs[i], q, by simp [hi]⟩, fun _ q => ⟨xs, q, Nat.le_refl _⟩, fun i H v H' _ q y => ?_⟩
  obtain ⟨T, x, h1, h2, h3, h4⟩ := y
  exact ⟨T, .int (i : Nat), x, h1, h2, h3, rfl, h4 xs q⟩
theorem turn_enumT {P : Program} {w : World} {K : PySem.W.Frag} {elts : List Expr} {kk : Nat} {tpos : Pos} (a e it : Addr) (hai : a ≠ it) (hae : a ≠ e) :
    Turn P w K (.Tuple elts kk tpos) (IteT K a) [e, it] e (fun i h => (∃ old, IsEnum h e it ((i : Nat) : Int) old) ∧ h.IsTupleIter it a i ∧ e ≠ it) where
  mem := by simp
  obj := fun i h st b hb => by
    obtain ⟨⟨old, he⟩, ⟨o, ho, hc, hd⟩, _⟩ := st
    have e' : b = e ∨ b = it := by simpa using hb
    rcases e' with z | z
    · rw [z]; exact ⟨_, he, fun v q => nomatch q⟩
    · rw [z]; exact ⟨o, ho, fun v q => by rw [hd] at q; cases q⟩
  keep := fun i h h' st k => let ⟨⟨old, he⟩, hi, hne⟩ := st; ⟨⟨old, k e (by simp) _ he⟩, hi.at fun o q => k it (by simp) o q, hne⟩
  item := by
    intro X hP hw hK hc i pins s σ H E I hf st hg
    subst hP hw hK
    obtain ⟨⟨old, he⟩, hit, hne⟩ := st
    obtain ⟨xs, x, hq, hx⟩ := hg
    obtain ⟨its, rv, p, hz⟩ := I.tuple hq
    obtain ⟨u, hu, ru⟩ := rv.get hx
    have hel : e < s.heap.objs.size := Heap.lt_size he
    have hil : it < s.heap.objs.size := by obtain ⟨_, q, _⟩ := hit; exact Heap.lt_size q
    have hlt : i < its.toArray.size := by simpa using (List.getElem?_eq_some_iff.mp hu).1
    refine wpAny_pyNext_enum_itemC (Draws.tuple (prog := X.prog) (w := X.w) (A := X.A.in1) (I.ok.hd hc) it a hai its.toArray) he ⟨hit, p⟩ hlt hne (by simp [hne, Ne.symm hae]) fun y h' tk hy ho hst' hT hsz hk => ?_
    have hyu : y = u := by
      have hy' : its[i]? = some y := by simpa using hy
      exact Option.some.inj (hy'.symm.trans hu)
    subst hyu
    refine ⟨_, rfl, wpAny_letOwnedTupleGo_enum (s := { s with heap := h', toks := tk + 1 }) ho fun h'' he' sb => ?_⟩
    have hT2 : h''.get? s.heap.objs.size = some { cls := .type "tuple", data := .seq #[.int i tk, y] } := (sb.2 _ (Nat.ne_of_gt hel)).trans hT
    have new : ObjOk X.prog X.w (upd H s.heap.objs.size (.tup [.int (i : Nat), x])) h'' s.heap.objs.size (.tup [.int (i : Nat), x]) :=
      ⟨by show 2 ≤ sizeLine; decide, [.int i tk, y], .cons ⟨_, rfl⟩ (.cons ru .nil), ⟨_, hT2, rfl, _, rfl⟩⟩
    have I1 : Inv X pins σ (upd H s.heap.objs.size (.tup [.int (i : Nat), x])) { s with heap := h'', toks := tk + 1 } :=
      I.turnedNew (ch := [e, it]) (fun b ob hb q => (sb.2 b (fun z => hb (by simp [z]))).trans (hk b ob (fun z => hb (by simp [z])) (fun z => hb (by simp [z])) q)) hf (Nat.le_refl _) new
    have inj : ∀ ys, SqT X.K H a ys → ys = xs := fun ys hy => I.tuple_inj hy hq
    refine ⟨.ref s.heap.objs.size, _, I1, rfl, ⟨_, x, rfl, I.hok.fresh (Nat.le_refl _), rfl, fun ys hy => by rw [inj ys hy]; exact hx⟩, ⟨⟨y, ?_⟩, hst'.1.at fun o q => (sb.2 it (Ne.symm hne)).trans q, hne⟩, fun b hb => ?_⟩
    · have e1 : ((i + 1 : Nat) : Int) = (i : Int) + 1 := by omega
      rw [e1]; exact he'
    · have hb' : b < s.heap.objs.size := by
        have e' : b = e ∨ b = it := by simpa using hb
        rcases e' with z | z
        · rw [z]; exact hel
        · rw [z]; exact hil
      rw [upd_ne (Nat.ne_of_lt hb')]
      exact (hf b hb).1
  done := by
    intro X hP hw hK hc i pins s σ H E I hf st hg
    subst hP hw hK
    obtain ⟨⟨old, he⟩, hit, hne⟩ := st
    obtain ⟨xs, hq, hx⟩ := hg
    obtain ⟨its, rv, p, hz⟩ := I.tuple hq
    obtain ⟨f0, f1, f2, f3, f4, f5⟩ := hf it (by simp)
    have hl := rv.length
    have no : its.toArray[i]? = none := by simp; omega
    have D : Draws X.prog X.w X.A.in1 it [it, a] i (fun _ _ => True) (fun j h => j = i ∧ h.IsTupleIter it a i ∧ h.IsTuple a its.toArray) :=
      ⟨fun _ _ st => let ⟨o, ho, _⟩ := st.2.1; ⟨o, ho⟩, fun _ _ _ st hk => ⟨st.1, st.2.1.at fun o e => hk it (by simp) o e, st.2.2.at fun o e => hk a (by simp) o e⟩, fun j s Q E hj st _ => absurd st.1 (Nat.ne_of_lt hj), fun s Q E st hE => wpAny_nextOf_tuple_end (I.ok.hd hc) st.2.1 st.2.2 no hE⟩
    exact wpAny_pyNext_enum_endD D he ⟨rfl, hit, p⟩ fun h' eb => ⟨rfl, I.turned (t' := s.toks) (fun b o hb q => eb b o hb q) f0 f1 f3 f4 f5⟩
  self := fun A i s Q E st h => let ⟨⟨_, he⟩, _⟩ := st; wpAny_pyIter_enum he h
end L2

set_option maxRecDepth 100000
/-! range() over numbers of any size. -/
namespace Mi
open PySem PySem.Spec PyProof.Rows L2
theorem turn_long {P : Program} {w : World} {K : PySem.W.Frag} {tg : Expr} (it : Addr) (lo : Int) (n : Nat) : Turn P w K tg (Itr lo n) [it] it (fun i h => IsLongIter h it (lo + (i : Nat) * 1) ((n : Int) - (i : Nat)) 1) where
  mem := by simp
  obj := fun i h st b hb => by
    have e : b = it := by simpa using hb
    subst e
    exact ⟨_, st, fun v z => by
      have z' : Data.fields _ = Data.cell v := z
      cases z'⟩
  keep := fun i h h' st k => k it (by simp) _ st
  item := by
    intro X hP hw hK hc i pins s σ H E I hf st hg
    subst hP hw hK
    obtain ⟨f0, f1, f2, f3, f4, f5⟩ := hf it (by simp)
    have W := Walks.longrange (prog := X.prog) (w := X.w) (I.ok.hd hc) it lo 1 n
    refine W.item i s _ _ hg st fun v h' tk hv st' kk => ?_
    obtain ⟨t, rfl⟩ := hv
    have I1 : Inv X pins σ H { s with heap := h', toks := tk } := I.turned (fun b o hb e => kk b o (by simpa using hb) e) f0 f1 f3 f4 f5
    refine ⟨_, rfl, go_of (s := { s with heap := h', toks := tk }) (n := "longrange_iterator") st' rfl rfl (by decide) ⟨.int (lo + i), H, I1, ⟨t, ?_⟩, ⟨rfl, rfl⟩, st', fun b hb => (hf b hb).1⟩⟩
    rw [Int.mul_one]
  done := by
    intro X hP hw hK hc i pins s σ H E I hf st hg
    subst hP hw hK
    obtain ⟨f0, f1, f2, f3, f4, f5⟩ := hf it (by simp)
    exact wpAny_pyNext_long_end (I.ok.hd hc) st (by have : n ≤ i := hg; omega) fun h' eb => ⟨rfl, I.turned (t' := s.toks) (fun b o hb e => eb b o hb e) f0 f1 f3 f4 f5⟩
  self := fun _ _ _ _ _ st h => wpAny_pyIter_longiter st h
theorem range_any {X : Cx} {tg : Expr} {pins : List (Addr × Obj)} {σ : L2.St} {H : Hp} {s : Shared} {R : L2.It → Hp → Prop} {E : Value → Shared → Prop} {lo hi : Int} {t u v : Tok} {tk : Nat} (I : Inv X pins σ H s)
    (q : R (Itr lo (hi - lo).toNat) H) : wpAny (model X.prog X.w) X.A (pyIter (.ref s.heap.objs.size)) (PIE X pins σ tg R) E { s with heap := s.heap.push { cls := .type "range", data := .fields #[.int lo t, .int hi u, .int 1 v] }, toks := tk } := by
  have I1 : Inv X pins σ H { s with heap := s.heap.push { cls := .type "range", data := .fields #[.int lo t, .int hi u, .int 1 v] }, toks := tk } := I.kept fun b o e => Heap.get?_push_of_some _ e
  have e1 : lo + ((0 : Nat) : Int) * 1 = lo := by simp
  have e2 : (((hi - lo).toNat : Nat) : Int) - ((0 : Nat) : Int) = Builtin.Range.rangeSize lo hi 1 := by rw [rangeSize_one]; split <;> omega
  cases hs : Builtin.Range.small lo hi 1 with
  | true =>
    refine wpAny_pyIter_range (IsRange.new ..) hs ?_
    refine ⟨(s.heap.push { cls := .type "range", data := .fields #[.int lo t, .int hi u, .int 1 v] }).objs.size, [(s.heap.push { cls := .type "range", data := .fields #[.int lo t, .int hi u, .int 1 v] }).objs.size], _, _, H, rfl,
      I1.kept (t' := tk) fun b o e => Heap.get?_push_of_some _ e, turn_range _ lo (hi - lo).toNat, ?_, fun b hb => ?_, q⟩
    · show IsRangeIter _ _ (lo + ((0 : Nat) : Int) * 1) ((((hi - lo).toNat : Nat) : Int) - ((0 : Nat) : Int)) 1
      rw [e1, e2]
      exact Heap.get?_push_size _ rfl
    · have e : b = (s.heap.push { cls := .type "range", data := .fields #[.int lo t, .int hi u, .int 1 v] }).objs.size := by simpa using hb
      subst e
      exact I1.fpOk (Nat.le_refl _) (I1.hok.fresh (Nat.le_refl _))
  | false =>
    refine wpAny_pyIter_longrange (IsRange.new ..) hs ?_
    refine ⟨(s.heap.push { cls := .type "range", data := .fields #[.int lo t, .int hi u, .int 1 v] }).objs.size, [(s.heap.push { cls := .type "range", data := .fields #[.int lo t, .int hi u, .int 1 v] }).objs.size], _, _, H, rfl,
      I1.kept (t' := tk) fun b o e => Heap.get?_push_of_some _ e, turn_long _ lo (hi - lo).toNat, ?_, fun b hb => ?_, q⟩
    · show IsLongIter _ _ (lo + ((0 : Nat) : Int) * 1) ((((hi - lo).toNat : Nat) : Int) - ((0 : Nat) : Int)) 1
      rw [e1, e2]
      exact Heap.get?_push_size _ rfl
    · have e : b = (s.heap.push { cls := .type "range", data := .fields #[.int lo t, .int hi u, .int 1 v] }).objs.size := by simpa using hb
      subst e
      exact I1.fpOk (Nat.le_refl _) (I1.hok.fresh (Nat.le_refl _))
def iRngL (ta : TA) : TI := fun σ H R => ta σ H fun vs H1 => ∃ i j : Int, vs = [.int i, .int j] ∧ R (Itr i (j - i).toNat) H1
theorem pi_rangeL {X : Cx} {tg : Expr} {a b : Expr} {ta : TA} {p pos : Pos} (hg : Gl X "range") (hm : X.mg "range" = none) (ha : PA X [a, b] ta) (hs : starEach [a, b] X.env = [(false, eval a X.env), (false, eval b X.env)] := by rfl) (hs2 : starEach [b] X.env = [(false, eval b X.env)] := by rfl) :
    PI X tg (.Call (.Name "range" p) [a, b] [] pos) (iRngL ta) := by
  refine ⟨fun pins s σ H R I h => ?_⟩
  refine Call_ (ld_blt I hg hm boot_range (PyProof.Rows.callWith_type1 (thn (ha.run pos pins s σ H _ I h) fun us s1 ⟨vs, H1, I1, r1, q1⟩ => ?_) (by rw [hs, hs2]) (by rw [hs2]; rfl)))
  obtain ⟨i, j, e, q⟩ := q1
  subst e
  cases r1 with
  | cons r rr =>
    cases rr with
    | cons r' rr =>
      cases rr
      obtain ⟨t, rfl⟩ := r
      obtain ⟨t', rfl⟩ := r'
      exact call_range_2 (range_any I1 q)
end Mi

set_option maxRecDepth 100000
set_option maxHeartbeats 2000000
/-! What is walked; comprehensions; calls of defs. -/
namespace Mi
open PySem PySem.Spec L2 PySem.Calls
theorem PI.weak {X : Cx} {tg e : Expr} {t t' : TI} (h : PI X tg e t) (k : ∀ σ H Q, t' σ H Q → t σ H Q) : PI X tg e t' := ⟨fun pins s σ H Q I q => h.run pins s σ H Q I (k σ H Q q)⟩
/-- J gives the items one by one -/
def Wk (g : Gx) (w : Option Nat) (F : Hp) (ι : List Addr) (J : L2.It) (its : List D) : Prop :=
  ∃ (G : Hp → Prop) (Y : Nat → Hp → V → Hp → Prop), Walk J its.length G Y ∧ (∀ (F' : Hp) (ι' : List Addr) (M' : Sto) (H' : Hp) (ds : List D), Same F F' → (∃ more, ι' = ι ++ more) → Rel g F' ι' M' H' → live w its M' = some ds → G H') ∧
    ∀ (i : Nat) (d : D) (F' : Hp) (ι' : List Addr) (M' : Sto) (H1 : Hp) (x : V) (H2 : Hp) (ds : List D), live w its M' = some ds → ds[i]? = some d → Same F F' → (∃ more, ι' = ι ++ more) → Rel g F' ι' M' H1 → Y i H1 x H2 → ∃ F'', Ext F' ι' H1 F'' ι' H2 ∧ Rel g F'' ι' M' H2 ∧ RD g F'' ι' x d
def tI (g : Gx) (cg : Cg) (W : WX) (k : It) (es : List ME) : TI := fun σ H R => ∃ F ι M ρ, Rel g F ι M H ∧ RSl g F ι σ ρ ∧ Ok g W σ F ι H (evs cg es ρ M) (fun ds F' ι' M' H' => ∃ its, items k ds M' = some its ∧ (its.length ≤ sizeLine → ∀ J, Wk g (wat k ds) F' ι' J its → R J H'))
section
variable {X : Cx} {g : Gx} {cg : Cg} {W : WX} {k : Nat} {σ : St} {F : Hp} {ι : List Addr} {H : Hp}
theorem wk_list (hK : X.K = g.K) {a : Addr} {vs : List V} {ds : List D} (ha : ∀ F', Same F F' → SqL g.K F' a vs) (rs : RDs g F ι vs ds) : Wk g none F ι (Itl X.K a) ds := by
  rw [hK]
  refine ⟨_, _, rs.length ▸ walk_list (K := g.K) (a := a) (xs := vs), fun F' ι' M' H' _ h1 _ h2 _ => h2.sub.seq (ha F' h1), fun i d F' ι' M' H1 x H2 _ le e h1 h2 r y => ?_⟩
  cases le
  obtain ⟨rfl, hx⟩ := y
  obtain ⟨v, q1, q2⟩ := rs.get e
  rw [hx] at q1; cases q1
  exact ⟨F', Ext.refl r, r, q2.mono h1 h2⟩
theorem wk_tup (hK : X.K = g.K) {a : Addr} {vs : List V} {ds : List D} (ha : F a = some (.tup vs)) (rs : RDs g F ι vs ds) : Wk g none F ι (Itt X.K a) ds := by
  rw [hK]
  refine ⟨_, _, rs.length ▸ walk_tup (K := g.K) (a := a) (xs := vs), fun F' ι' M' H' _ h1 _ h2 _ => SqT.of (h2.sub _ _ (h1 _ _ ha)), fun i d F' ι' M' H1 x H2 _ le e h1 h2 r y => ?_⟩
  cases le
  obtain ⟨rfl, hx⟩ := y
  obtain ⟨v, q1, q2⟩ := rs.get e
  rw [hx] at q1; cases q1
  exact ⟨F', Ext.refl r, r, q2.mono h1 h2⟩
theorem wk_range {lo : Int} {n : Nat} : Wk g none F ι (Itr lo n) ((List.range n).map fun i => D.p (.int (lo + (i : Nat)))) := by
  refine ⟨_, _, by rw [List.length_map, List.length_range]; exact walk_range, fun _ _ _ _ _ _ _ _ _ => trivial, fun i d F' ι' M' H1 x H2 _ le e h1 h2 r y => ?_⟩
  cases le
  obtain ⟨rfl, rfl⟩ := y
  refine ⟨F', Ext.refl r, r, ?_⟩
  rw [List.getElem?_map] at e
  simp only [Option.map_eq_some_iff] at e
  obtain ⟨j, e1, rfl⟩ := e
  rw [List.getElem?_range (by have := (List.getElem?_eq_some_iff.mp e1).1; simpa using this)] at e1
  cases e1
  exact .p (.int _)
theorem wk_str {z : Str} : Wk g none F ι (Its z) (z.cps.toList.map fun c => D.p (.str ⟨#[c]⟩)) := by
  refine ⟨_, _, by rw [List.length_map, Array.length_toList]; exact walk_str, fun _ _ _ _ _ _ _ _ _ => trivial, fun i d F' ι' M' H1 x H2 _ le e h1 h2 r y => ?_⟩
  cases le
  obtain ⟨rfl, c, hc, rfl⟩ := y
  refine ⟨F', Ext.refl r, r, ?_⟩
  rw [List.getElem?_map, Array.getElem?_toList, hc] at e
  cases e
  exact .p (.str _)
theorem iter_list {tg : Expr} {pins : List (Addr × Obj)} {s : Shared} {σ : St} {H : Hp} {R : L2.It → Hp → Prop} {a : Addr} {xs : List V} (I : Inv X pins σ H s) (hq : SqL X.K H a xs) (q : R (Itl X.K a) H) : wpAny (model X.prog X.w) X.A (pyIter (.ref a)) (PIE X pins σ tg R) X.xe s := by
  obtain ⟨its, rv, p, hz⟩ := I.list hq
  refine wpAny_pyIter_list p.isList ?_
  refine ⟨s.heap.objs.size, [s.heap.objs.size], _, _, H, rfl, I.kept (t' := s.toks) fun b o e => Heap.get?_push_of_some _ e, turn_list a _, ⟨_, Heap.get?_push_size _ rfl, rfl, rfl⟩, fun b hb => ?_, q⟩
  have e : b = s.heap.objs.size := by simpa using hb
  subst e
  exact I.fpOk (Nat.le_refl _) (I.hok.fresh (Nat.le_refl _))
theorem iter_tup {tg : Expr} {pins : List (Addr × Obj)} {s : Shared} {σ : St} {H : Hp} {R : L2.It → Hp → Prop} {a : Addr} {xs : List V} (I : Inv X pins σ H s) (hq : SqT X.K H a xs) (q : R (Itt X.K a) H) : wpAny (model X.prog X.w) X.A (pyIter (.ref a)) (PIE X pins σ tg R) X.xe s := by
  obtain ⟨its, rv, p, hz⟩ := I.tuple hq
  refine wpAny_pyIter_tuple (show s.heap.IsTuple a its.toArray from p) ?_
  refine ⟨s.heap.objs.size, [s.heap.objs.size], _, _, H, rfl, I.kept (t' := s.toks) fun b o e => Heap.get?_push_of_some _ e, turn_tuple a _, ⟨_, Heap.get?_push_size _ rfl, rfl, rfl⟩, fun b hb => ?_, q⟩
  have e : b = s.heap.objs.size := by simpa using hb
  subst e
  exact I.fpOk (Nat.le_refl _) (I.hok.fresh (Nat.le_refl _))
theorem i_seq (hK : X.K = g.K) {tg : Expr} {A : ME} {a : Expr} (ha : PE X a (tE g cg W A)) : PI X tg a (tI g cg W .seq [A]) := by
  refine ⟨fun pins s σ H RR I ⟨F, ι, M, ρ, r, sl, ok⟩ => ?_⟩
  simp only [evs_cons, evs_nil, R.bind_ok] at ok
  have h := ha.run pins s σ H (fun v H1 => ∃ d F1 ι1 M1, Rel g F1 ι1 M1 H1 ∧ RD g F1 ι1 v d ∧ ∃ its, itSeq d = some its ∧ (its.length ≤ sizeLine → ∀ J, Wk g none F1 ι1 J its → RR J H1)) I
    (tE_bind r sl ok fun v d F1 ι1 M1 H1 r1 s1 rv ok1 _ => ⟨d, F1, ι1, M1, r1, rv, Ok.here ok1 r1⟩)
  refine thn h fun u s1 ⟨v, H1, I1, ru, d, F1, ι1, M1, r1, rv, its, e, q⟩ => ?_
  unfold itSeq at e
  split at e
  · cases e
    cases rv with
    | p rv =>
      cases rv with
      | @lst p vs _ ea ra =>
        cases (show u = Value.ref p from ru)
        have hl := SqL.of (K := X.K) (r1.sub _ _ ea)
        obtain ⟨_, hrv, _, hz⟩ := I1.list hl
        refine iter_list I1 hl (q ?_ _ (wk_list hK (fun F' h => SqL.of (h _ _ ea)) (ra.rds (ι := ι1))))
        rw [List.length_map, ← ra.length]; exact hz
  · cases e
    cases rv with
    | p rv =>
      cases rv with
      | @tup p vs _ ea ra =>
        cases (show u = Value.ref p from ru)
        have hl := SqT.of (K := X.K) (r1.sub _ _ ea)
        obtain ⟨_, hrv, _, hz⟩ := I1.tuple hl
        refine iter_tup I1 hl (q ?_ _ (wk_tup hK ea (ra.rds (ι := ι1))))
        rw [List.length_map, ← ra.length]; exact hz
  · rename_i ns
    cases e
    cases rv with
    | p rv =>
      cases rv with
      | @scr p _ ea =>
        cases (show u = Value.ref p from ru)
        have hl : SqL X.K H1 p (ns.map V.int) := by rw [hK]; exact r1.sub.seq ea
        obtain ⟨_, hrv, _, hz⟩ := I1.list hl
        have rs : ∀ ns : List Int, RDs g F1 ι1 (ns.map V.int) (ns.map fun n => D.p (.int n)) := fun ns => by
          induction ns with
          | nil => exact .nil
          | cons n ns ih => exact .cons (.p (.int n)) ih
        refine iter_list I1 hl (q ?_ _ (wk_list hK (fun F' h => h.seq ea) (rs ns)))
        rw [List.length_map] at hz ⊢; exact hz
  · cases e
    cases rv with
    | @tup p vs _ ea ra =>
      cases (show u = Value.ref p from ru)
      have hl := SqT.of (K := X.K) (r1.sub _ _ ea)
      obtain ⟨_, hrv, _, hz⟩ := I1.tuple hl
      refine iter_tup I1 hl (q ?_ _ (wk_tup hK ea ra))
      rw [← ra.length]; exact hz
  · rename_i x
    split at e
    · rename_i hz
      cases e
      cases rv with
      | p rv =>
        cases rv
        obtain ⟨t, rfl⟩ := ru
        have hz' := LIM_le
        have hq := q (by simp only [List.length_map, Array.length_toList]; omega) _ (wk_str (g := g) (F := F1) (ι := ι1) (z := x))
        cases ha : x.cps.all (· < 128)
        · exact wpAny_pyIter_wide ha (pi_one (tk := s1.toks) I1 _ (turn_str _ x t "str_iterator" (.inr rfl)) ⟨_, Heap.get?_push_size _ rfl, rfl, rfl⟩ hq)
        · exact wpAny_pyIter_ascii ha (pi_one (tk := s1.toks) I1 _ (turn_str _ x t "str_ascii_iterator" (.inl rfl)) ⟨_, Heap.get?_push_size _ rfl, rfl, rfl⟩ hq)
    · cases e
  · cases e
/-- a list of a cell: its values may be others at each turn, not their number -/
theorem walk_listM {K : PySem.W.Frag} {a : Addr} {n : Nat} : Walk (Itl K a) n (fun H => ∃ vs, SqL K H a vs ∧ vs.length = n) (fun i H x H' => H' = H ∧ ∀ vs, SqL K H a vs → vs[i]? = some x) :=
  ⟨fun i _ hi ⟨vs, q, e⟩ => ⟨vs, vs[i]'(by omega), q, by simp [e, hi]⟩, fun _ ⟨vs, q, e⟩ => ⟨vs, q, by omega⟩, fun _ _ _ _ _ _ y => y⟩
theorem wk_cell (hK : X.K = g.K) {n : Nat} {a : Addr} {ds : List D} (ha : ι[n]? = some a) : Wk g (some n) F ι (Itl X.K a) ds := by
  rw [hK]
  have key : ∀ (F' : Hp) (ι' : List Addr) (M' : Sto) (H' : Hp) (es : List D), (∃ more, ι' = ι ++ more) → Rel g F' ι' M' H' → live (some n) ds M' = some es → es.length = ds.length ∧ ∃ vs, H' a = some (.lst vs) ∧ RDs g F' ι' vs es := by
    intro F' ι' M' H' es ⟨more, h2⟩ r le
    unfold live at le
    simp only at le
    split at le
    · rename_i xs hm
      split at le
      · rename_i hl
        cases le
        have ha' : ι'[n]? = some a := by
          rw [h2, List.getElem?_append_left (List.getElem?_eq_some_iff.mp ha).1]; exact ha
        obtain ⟨_, vs, e1, e2⟩ := r.cells n a _ ha' hm
        exact ⟨hl, vs, e1, e2⟩
      · cases le
    · cases le
  refine ⟨_, _, walk_listM, fun F' ι' M' H' es h1 h2 r le => ?_, fun i d F' ι' M' H1 x H2 es le e h1 h2 r y => ?_⟩
  · obtain ⟨hl, vs, e1, e2⟩ := key F' ι' M' H' es h2 r le
    exact ⟨vs, SqL.of e1, by rw [e2.length]; exact hl⟩
  · obtain ⟨hl, vs, e1, e2⟩ := key F' ι' M' H1 es h2 r le
    obtain ⟨rfl, hx⟩ := y
    obtain ⟨v, q1, q2⟩ := e2.get e
    have hx := hx vs (SqL.of e1)
    rw [hx] at q1; cases q1
    exact ⟨F', Ext.refl r, r, q2⟩
theorem i_seqM (hK : X.K = g.K) {tg : Expr} {A : ME} {a : Expr} (ha : PE X a (tE g cg W A)) : PI X tg a (tI g cg W .seqM [A]) := by
  refine ⟨fun pins s σ H RR I ⟨F, ι, M, ρ, r, sl, ok⟩ => ?_⟩
  simp only [evs_cons, evs_nil, R.bind_ok] at ok
  have h := ha.run pins s σ H (fun v H1 => ∃ d F1 ι1 M1, Rel g F1 ι1 M1 H1 ∧ RD g F1 ι1 v d ∧ ∃ its, itM d M1 = some its ∧ (its.length ≤ sizeLine → ∀ J, Wk g (wat .seqM [d]) F1 ι1 J its → RR J H1)) I
    (tE_bind r sl ok fun v d F1 ι1 M1 H1 r1 s1 rv ok1 _ => ⟨d, F1, ι1, M1, r1, rv, Ok.here ok1 r1⟩)
  refine thn h fun u s1 ⟨v, H1, I1, ru, d, F1, ι1, M1, r1, rv, its, e, q⟩ => ?_
  unfold itM at e
  split at e
  · rename_i n
    split at e
    · rename_i ds hm
      cases e
      cases rv with
      | @ref _ p hp =>
        cases (show u = Value.ref p from ru)
        obtain ⟨_, vs, e1, e2⟩ := r1.cells n p _ hp hm
        have hl := SqL.of (K := X.K) e1
        obtain ⟨_, hrv, _, hz⟩ := I1.list hl
        refine iter_list I1 hl (q ?_ _ (wk_cell hK hp))
        rw [← e2.length]; exact hz
    · cases e
  · cases e
    cases rv with
    | p rv =>
      cases rv with
      | @lst p vs _ ea ra =>
        cases (show u = Value.ref p from ru)
        have hl := SqL.of (K := X.K) (r1.sub _ _ ea)
        obtain ⟨_, hrv, _, hz⟩ := I1.list hl
        refine iter_list I1 hl (q ?_ _ (wk_list hK (fun F' h => SqL.of (h _ _ ea)) (ra.rds (ι := ι1))))
        rw [List.length_map, ← ra.length]; exact hz
  · cases e
theorem i_rng1 {tg : Expr} {A : ME} {a : Expr} {p pos : Pos} (hs : noStar [a] = true) (hg : Gl X "range") (hm : X.mg "range" = none) (ha : PA X [a] (tAs g cg W [A])) : PI X tg (.Call (.Name "range" p) [a] [] pos) (tI g cg W .rng1 [A]) := by
  refine PI.weak (pi_range1 hg hm ha (by rw [noStar_each hs]; rfl)) fun σ H RR ⟨F, ι, M, ρ, r, sl, ok⟩ => ?_
  refine ⟨F, ι, M, ρ, r, sl, ok.mono fun ds F1 ι1 M1 H1 _ r1 ⟨its, e, q⟩ vs rs => ?_⟩
  unfold items at e
  split at e
  · obtain ⟨v, rfl, rv⟩ := rds1 rs
    have e' : itR1 _ = some its := e
    unfold itR1 at e'
    split at e'
    · rename_i x n
      split at e'
      · rename_i hn
        cases e'
        obtain rfl := rp_int rv
        refine ⟨_, rfl, by omega, by omega, q ?_ _ ?_⟩
        · have : sizeLine = 16777216 := by decide
          simp; omega
        · have := wk_range (g := g) (F := F1) (ι := ι1) (lo := 0) (n := (Int.toNat ‹Int›))
          show Wk g none _ _ _ _
          simpa using this
      · cases e'
    · cases e'
  · cases e
  · cases e
theorem i_rng2 {tg : Expr} {A B : ME} {a b : Expr} {p pos : Pos} (hs : noStar [a, b] = true) (hg : Gl X "range") (hm : X.mg "range" = none) (ha : PA X [a, b] (tAs g cg W [A, B])) : PI X tg (.Call (.Name "range" p) [a, b] [] pos) (tI g cg W .rng2 [A, B]) := by
  refine PI.weak (pi_range2 hg hm ha (by rw [noStar_each hs]; rfl) (by rw [noStar_each (noStar_tail hs)]; rfl)) fun σ H RR ⟨F, ι, M, ρ, r, sl, ok⟩ => ?_
  refine ⟨F, ι, M, ρ, r, sl, ok.mono fun ds F1 ι1 M1 H1 _ r1 ⟨its, e, q⟩ vs rs => ?_⟩
  unfold items at e
  split at e
  · cases e
  · obtain ⟨v, w, rfl, rv, rw'⟩ := rds2 rs
    have e' : itR2 _ _ = some its := e
    unfold itR2 at e'
    split at e'
    · rename_i i j
      split at e'
      · rename_i hn
        cases e'
        obtain rfl := rp_int rv
        obtain rfl := rp_int rw'
        refine ⟨_, _, rfl, ⟨by omega, by omega, by omega, by omega⟩, q ?_ _ wk_range⟩
        have : sizeLine = 16777216 := by decide
        simp; omega
      · cases e'
    · cases e'
  · cases e
theorem i_rngL {tg : Expr} {A B : ME} {a b : Expr} {p pos : Pos} (hs : noStar [a, b] = true) (hg : Gl X "range") (hm : X.mg "range" = none) (ha : PA X [a, b] (tAs g cg W [A, B])) : PI X tg (.Call (.Name "range" p) [a, b] [] pos) (tI g cg W .rngL [A, B]) := by
  refine PI.weak (pi_rangeL hg hm ha (by rw [noStar_each hs]; rfl) (by rw [noStar_each (noStar_tail hs)]; rfl)) fun σ H RR ⟨F, ι, M, ρ, r, sl, ok⟩ => ?_
  refine ⟨F, ι, M, ρ, r, sl, ok.mono fun ds F1 ι1 M1 H1 _ r1 ⟨its, e, q⟩ vs rs => ?_⟩
  unfold items at e
  split at e
  · cases e
  · obtain ⟨v, w, rfl, rv, rw'⟩ := rds2 rs
    have e' : itRL _ _ = some its := e
    unfold itRL at e'
    split at e'
    · rename_i i j
      split at e'
      · rename_i hn
        cases e'
        obtain rfl := rp_int rv
        obtain rfl := rp_int rw'
        refine ⟨_, _, rfl, q ?_ _ wk_range⟩
        have : sizeLine = 16777216 := by decide
        simp; omega
      · cases e'
    · cases e'
  · cases e
theorem enumP_get {xs : List P} {i : Nat} {d : D} (e : (enumP xs)[i]? = some d) : ∃ x, xs[i]? = some x ∧ d = .p (.tup [.int (i : Nat), x]) := by
  unfold enumP at e
  rw [List.getElem?_map] at e
  simp only [Option.map_eq_some_iff] at e
  obtain ⟨j, e1, rfl⟩ := e
  have hi := (List.getElem?_eq_some_iff.mp e1).1
  simp at hi
  rw [List.getElem?_range hi] at e1
  cases e1
  exact ⟨xs[i], by simp [hi], by simp [hi]⟩
theorem i_enum (hK : X.K = g.K) {elts : List Expr} {kk : Nat} {tpos : Pos} {A : ME} {a : Expr} {p pos : Pos} (hs : noStar [a] = true) (hg : Gl X "enumerate") (hm : X.mg "enumerate" = none) (ha : PA X [a] (tAs g cg W [A])) : PI X (.Tuple elts kk tpos) (.Call (.Name "enumerate" p) [a] [] pos) (tI g cg W .enum [A]) := by
  refine ⟨fun pins s σ H RR I ⟨F, ι, M, ρ, r, sl, ok⟩ => ?_⟩
  have h := ha.run pos pins s σ H (fun vs H1 => ∃ ds F1 ι1 M1, Rel g F1 ι1 M1 H1 ∧ RDs g F1 ι1 vs ds ∧ ∃ its, items .enum ds M1 = some its ∧ (its.length ≤ sizeLine → ∀ J, Wk g none F1 ι1 J its → RR J H1)) I
    ⟨F, ι, M, ρ, r, sl, ok.mono fun ds F1 ι1 M1 H1 _ r1 q vs rs => ⟨ds, F1, ι1, M1, r1, rs, q⟩⟩
  refine PyProof.Rows.Call_ (ld_blt I hg hm PyProof.Rows.boot_enumerate (PyProof.Rows.callWith_type1 (thn h fun us s1 ⟨vs, H1, I1, r1, ds, F1, ι1, M1, rel, rs, its, e, q⟩ => ?_) (by rw [noStar_each hs]; rfl) rfl))
  unfold items at e
  split at e
  · obtain ⟨v, rfl, rv⟩ := rds1 rs
    have e' : itEn _ = some its := e
    unfold itEn at e'
    split at e'
    · rename_i xs
      cases e'
      cases rv with
      | p rv =>
        cases rv with
        | @lst al vs _ ea ra =>
          cases r1 with
          | cons r rr =>
            cases rr
            cases r
            have hl := SqL.of (K := X.K) (rel.sub _ _ ea)
            obtain ⟨its, rv, p', hz⟩ := I1.list hl
            refine call_enumerate_list p'.isList fun h' he hit hsz hk => wpAny_pyIter_enum he ?_
            have I2 : Inv X pins σ H1 { s1 with heap := h' } := I1.kept (t' := s1.toks) hk
            refine ⟨s1.heap.objs.size + 1, [s1.heap.objs.size + 1, s1.heap.objs.size], _, _, H1, rfl, I2, turn_enum al (s1.heap.objs.size + 1) s1.heap.objs.size, ⟨⟨.none, he⟩, hit, Nat.succ_ne_self _⟩, fun b hb => ?_, q ?_ _ ?_⟩
            · have e' : b = s1.heap.objs.size + 1 ∨ b = s1.heap.objs.size := by simpa using hb
              have hle : s1.heap.objs.size ≤ b := by
                rcases e' with z | z
                · rw [z]; exact Nat.le_add_right _ _
                · rw [z]; exact Nat.le_refl _
              exact I1.fpOk hle (I1.hok.fresh hle)
            · unfold enumP
              rw [List.length_map, List.length_range, ← ra.length]; exact hz
            · have hlen : (enumP xs).length = vs.length := by unfold enumP; rw [List.length_map, List.length_range, ra.length]
              refine ⟨_, _, hlen ▸ walk_enum (K := X.K) (a := al) (xs := vs), fun F' ι' M' H' _ h1 _ h2 _ => SqL.of (h2.sub _ _ (h1 _ _ ea)), fun i d F' ι' M' H1 x H2 _ le e h1 h2 r y => ?_⟩
              cases le
              obtain ⟨T, a', b', rfl, hT, rfl, ha', hb'⟩ := y
              cases ha'
              obtain ⟨w, hw, rfl⟩ := enumP_get e
              obtain ⟨r', e'⟩ := r.laidF (o := .tup [.int (i : Nat), b']) hT
              refine ⟨_, e', r', .p (.tup upd_same (.cons (.int _) (.cons ?_ .nil)))⟩
              obtain ⟨v', q1, q2⟩ := (ra.rds (ι := ι1)).get (i := i) (d := .p w) (by rw [List.getElem?_map, hw]; rfl)
              have hb2 : vs[i]? = some b' := hb'
              rw [hb2] at q1
              cases q1
              cases q2 with
              | p q2 => exact (q2.mono h1).mono e'.sub
    · rename_i xs
      cases e'
      cases rv with
      | p rv =>
        cases rv with
        | @tup al vs _ ea ra =>
          cases r1 with
          | cons r rr =>
            cases rr
            cases r
            have hl := SqT.of (K := X.K) (rel.sub _ _ ea)
            obtain ⟨its, rv, p', hz⟩ := I1.tuple hl
            have hal : al < s1.heap.objs.size := by obtain ⟨o, ho, _⟩ := id p'; exact Heap.lt_size ho
            refine call_enumT (begins_tuple al its.toArray) p' fun h' he hit hk => wpAny_pyIter_enum he ?_
            have I2 : Inv X pins σ H1 { s1 with heap := h' } := I1.kept (t' := s1.toks) hk
            refine ⟨s1.heap.objs.size + 1, [s1.heap.objs.size + 1, s1.heap.objs.size], _, _, H1, rfl, I2, turn_enumT al (s1.heap.objs.size + 1) s1.heap.objs.size (Nat.ne_of_lt hal) (Nat.ne_of_lt (Nat.lt_succ_of_lt hal)), ⟨⟨.none, he⟩, ⟨_, hit, rfl, rfl⟩, Nat.succ_ne_self _⟩, fun b hb => ?_, q ?_ _ ?_⟩
            · have e' : b = s1.heap.objs.size + 1 ∨ b = s1.heap.objs.size := by simpa using hb
              have hle : s1.heap.objs.size ≤ b := by
                rcases e' with z | z
                · rw [z]; exact Nat.le_add_right _ _
                · rw [z]; exact Nat.le_refl _
              exact I1.fpOk hle (I1.hok.fresh hle)
            · unfold enumP
              rw [List.length_map, List.length_range, ← ra.length]; exact hz
            · have hlen : (enumP xs).length = vs.length := by unfold enumP; rw [List.length_map, List.length_range, ra.length]
              refine ⟨_, _, hlen ▸ walk_enumT (K := X.K) (a := al) (xs := vs), fun F' ι' M' H' _ h1 _ h2 _ => SqT.of (h2.sub _ _ (h1 _ _ ea)), fun i d F' ι' M' H1 x H2 _ le e h1 h2 r y => ?_⟩
              cases le
              obtain ⟨T, a', b', rfl, hT, rfl, ha', hb'⟩ := y
              cases ha'
              obtain ⟨w, hw, rfl⟩ := enumP_get e
              obtain ⟨r', e'⟩ := r.laidF (o := .tup [.int (i : Nat), b']) hT
              refine ⟨_, e', r', .p (.tup upd_same (.cons (.int _) (.cons ?_ .nil)))⟩
              obtain ⟨v', q1, q2⟩ := (ra.rds (ι := ι1)).get (i := i) (d := .p w) (by rw [List.getElem?_map, hw]; rfl)
              have hb2 : vs[i]? = some b' := hb'
              rw [hb2] at q1
              cases q1
              cases q2 with
              | p q2 => exact (q2.mono h1).mono e'.sub
    · cases e'
  · cases e
  · cases e
end
end Mi

set_option maxRecDepth 100000
set_option maxHeartbeats 2000000
/-! Targets, comprehensions. -/
namespace Mi
open PySem PySem.Spec L2
def gsOf : List Nat → TGs
  | [] => gNil
  | i :: is => gCons (gName i) (gsOf is)
def gOf (K : PySem.W.Frag) : Tg → TG
  | .one i => gName i
  | .many is => fun v σ H Q => gTup K is.length (gsOf is) v σ H Q ∨ gLst K is.length (gsOf is) v σ H Q
theorem wipe_set {σ : St} {i : Nat} {v : Option V} : ∀ {vs : List Nat}, i ∈ vs → L2.wipe (σ.set i v) vs = L2.wipe σ vs
  | j :: vs, h => by
    unfold L2.wipe
    by_cases e : i = j
    · subst e
      by_cases hm : i ∈ vs
      · rw [wipe_set hm]
      · have : ∀ (vs : List Nat), i ∉ vs → (L2.wipe (σ.set i v) vs).set i none = (L2.wipe σ vs).set i none := by
          intro vs
          induction vs with
          | nil => intro _; simp [L2.wipe]
          | cons k vs ih =>
            intro hk
            simp only [List.mem_cons, not_or] at hk
            unfold L2.wipe
            rw [List.set_comm _ _ (Ne.symm hk.1), ih hk.2, List.set_comm _ _ hk.1]
        exact this vs hm
    · rcases List.mem_cons.mp h with z | z
      · exact absurd z e
      · rw [wipe_set z]
section
variable {g : Gx} {F : Hp} {ι : List Addr} {H : Hp}
theorem gsOf_ok : ∀ {is : List Nat} {vs : List V} {ds : List D} {σ : St} {ρ ρ' : Env} {Q : St → Hp → Prop}, RDs g F ι vs ds → setAll is ds ρ = some ρ' → RSl g F ι σ ρ →
    (∀ σ', RSl g F ι σ' ρ' → (∀ js, (∀ i ∈ is, i ∈ js) → L2.wipe σ' js = L2.wipe σ js) → Q σ' H) → gsOf is vs σ H Q
  | [], _, _, σ, ρ, ρ', Q, .nil, e, s, q => by
    cases e
    exact ⟨rfl, q σ s fun _ _ => rfl⟩
  | [], _, _, _, _, _, _, .cons _ _, e, _, _ => by cases e
  | _ :: _, _, _, _, _, _, _, .nil, e, _, _ => by cases e
  | i :: is, _, _, σ, ρ, ρ', Q, .cons (v := v) (vs := vs) r t, e, s, q => by
    refine ⟨v, vs, rfl, ?_⟩
    refine gsOf_ok t (show setAll is _ _ = some ρ' from e) (s.set r) fun σ' s' hw => q σ' s' fun js hj => ?_
    rw [hw js fun k hk => hj k (List.mem_cons_of_mem _ hk), wipe_set (hj i List.mem_cons_self)]
theorem setAll_len : ∀ {is : List Nat} {ds : List D} {ρ ρ' : Env}, setAll is ds ρ = some ρ' → ds.length = is.length
  | [], [], _, _, _ => rfl
  | [], _ :: _, _, _, e => by cases e
  | _ :: _, [], _, _, e => by cases e
  | i :: is, d :: ds, ρ, ρ', e => by simp [setAll_len (show setAll is ds _ = some ρ' from e)]
theorem gOf_ok {K : PySem.W.Frag} {t : Tg} {v : V} {d : D} {σ : St} {ρ ρ' : Env} {Q : St → Hp → Prop} {M : Sto} (rel : Rel g F ι M H) (r : RD g F ι v d) (e : bindT t d ρ = some ρ') (s : RSl g F ι σ ρ)
    (q : ∀ σ', RSl g F ι σ' ρ' → (∀ js, (∀ i ∈ tgs t, i ∈ js) → L2.wipe σ' js = L2.wipe σ js) → Q σ' H) : gOf K t v σ H Q := by
  cases t with
  | one i =>
    cases e
    exact q _ (s.set r) fun js hj => wipe_set (hj i (by simp [tgs]))
  | many is =>
    unfold bindT at e
    dsimp only at e
    split at e
    · rename_i xs
      cases r with
      | p r =>
        cases r with
        | tup ea ra =>
          refine .inl ⟨_, _, rfl, SqT.of (rel.sub _ _ ea), ?_, gsOf_ok (ra.rds (ι := ι)) e s q⟩
          have := setAll_len e
          rw [List.length_map] at this
          rw [ra.length, this]
    · cases r with
      | tup ea ra => exact .inl ⟨_, _, rfl, SqT.of (rel.sub _ _ ea), by rw [ra.length, setAll_len e], gsOf_ok ra e s q⟩
    · rename_i xs
      cases r with
      | p r =>
        cases r with
        | lst ea ra =>
          refine .inr ⟨_, _, rfl, SqL.of (rel.sub _ _ ea), ?_, gsOf_ok (ra.rds (ι := ι)) e s q⟩
          have := setAll_len e
          rw [List.length_map] at this
          rw [ra.length, this]
    · cases e
end
/-! ### targets of the text -/
def locB (sc : Scope) (x : Str) : Bool := match sc.names.lookup x with
  | some .local => true
  | some .cell => true
  | _ => false
def lclB (sc : Scope) (x : Str) : Bool := match sc.names.lookup x with
  | some .local => true
  | _ => false
theorem locB_ok {sc : Scope} {x : Str} (h : locB sc x = true) : Loc sc x := by
  unfold locB at h
  split at h
  · exact .inl (by assumption)
  · exact .inr (by assumption)
  · cases h
theorem lclB_ok {sc : Scope} {x : Str} (h : lclB sc x = true) : sc.names.lookup x = some .local := by
  unfold lclB at h
  split at h
  · assumption
  · cases h
/-- a name that is stored -/
def mN (N : List Str) (sc : Scope) (fn : Str → Bool) (i : Nat) : Expr → Bool
  | .Name x _ => decide (N[i]? = some x) && (locB sc x && (fn x || lclB sc x))
  | _ => false
def mNs (N : List Str) (sc : Scope) (fn : Str → Bool) : List Nat → List Expr → Bool
  | [], [] => true
  | i :: is, e :: es => mN N sc fn i e && mNs N sc fn is es
  | _, _ => false
def mTg (N : List Str) (sc : Scope) (fn : Str → Bool) : Tg → Expr → Bool
  | .one i, e => mN N sc fn i e
  | .many is, .Tuple es _ _ => mNs N sc fn is es && decide (2 ≤ is.length)
  | _, _ => false
section
variable {X : Cx}
theorem n_ok {N : List Str} {sc : Scope} {fn : Str → Bool} (hN : X.N = N) (hsc : X.env.scope = sc) (hfn : X.fn = fn) (nd : N.Nodup) {i : Nat} {e : Expr} (h : mN N sc fn i e = true) : PG X e (gName i) := by
  cases e with
  | Name x pos =>
    simp only [mN, Bool.and_eq_true, decide_eq_true_eq, Bool.or_eq_true] at h
    obtain ⟨h1, h2, h3⟩ := h
    refine pg_name (by rw [hN]; exact nd) (by rw [hN]; exact h1) (by rw [hsc]; exact locB_ok h2) ?_
    rcases h3 with h3 | h3
    · exact .inl (by rw [hfn]; exact h3)
    · exact .inr (by rw [hsc]; exact lclB_ok h3)
  | _ => cases h
theorem mNs_names {N : List Str} {sc : Scope} {fn : Str → Bool} : ∀ {is : List Nat} {es : List Expr}, mNs N sc fn is es = true → ∀ e ∈ es, ∃ x p, e = .Name x p
  | [], [], _, _, h => by cases h
  | [], _ :: _, h, _, _ => by cases h
  | _ :: _, [], h, _, _ => by cases h
  | i :: is, e :: es, h, e', he => by
    simp only [mNs, Bool.and_eq_true] at h
    rcases List.mem_cons.mp he with rfl | he
    · cases e' with
      | Name x p => exact ⟨x, p, rfl⟩
      | _ => cases h.1
    · exact mNs_names h.2 e' he
theorem assignEach_names {env : PySem.Env} : ∀ {es : List Expr}, (∀ e ∈ es, ∃ x p, e = .Name x p) → assignEach es env = es.map fun e => (false, assign e env)
  | [], _ => rfl
  | e :: es, h => by
    obtain ⟨x, p, rfl⟩ := h e List.mem_cons_self
    show (false, _) :: assignEach es env = _
    rw [assignEach_names fun e' he => h e' (List.mem_cons_of_mem _ he)]
    rfl
theorem ns_ok {N : List Str} {sc : Scope} {fn : Str → Bool} (hN : X.N = N) (hsc : X.env.scope = sc) (hfn : X.fn = fn) (nd : N.Nodup) : ∀ {is : List Nat} {es : List Expr}, mNs N sc fn is es = true → PGs X es (gsOf is)
  | [], [], _ => pgs_nil
  | [], _ :: _, h => by cases h
  | _ :: _, [], h => by cases h
  | i :: is, e :: es, h => by
    simp only [mNs, Bool.and_eq_true] at h
    have hh : mNs N sc fn (i :: is) (e :: es) = true := by simp only [mNs, Bool.and_eq_true]; exact h
    refine pgs_cons (n_ok hN hsc hfn nd h.1) (ns_ok hN hsc hfn nd h.2) ?_
    rw [assignEach_names (mNs_names hh), assignEach_names (mNs_names h.2)]
    rfl
theorem mNs_len {N : List Str} {sc : Scope} {fn : Str → Bool} : ∀ {is : List Nat} {es : List Expr}, mNs N sc fn is es = true → es.length = is.length
  | [], [], _ => rfl
  | [], _ :: _, h => by cases h
  | _ :: _, [], h => by cases h
  | i :: is, e :: es, h => by
    simp only [mNs, Bool.and_eq_true] at h
    simp [mNs_len h.2]
theorem tg_ok {N : List Str} {sc : Scope} {fn : Str → Bool} (hN : X.N = N) (hsc : X.env.scope = sc) (hfn : X.fn = fn) (hc : X.calm = true) (nd : N.Nodup) {t : Tg} {e : Expr} (h : mTg N sc fn t e = true) : PG X e (gOf X.K t) := by
  cases t with
  | one i => exact n_ok hN hsc hfn nd h
  | many is =>
    cases e with
    | Tuple es k pos =>
      simp only [mTg, Bool.and_eq_true] at h
      have k1 : (assignEach es X.env).length = is.length := by rw [assignEach_names (mNs_names h.1), List.length_map, mNs_len h.1]
      have k2 : (assignEach es X.env).findIdx? (·.1) = none := by
        rw [assignEach_names (mNs_names h.1)]
        simp [List.findIdx?_map]
      have p1 := pg_tup (X := X) (k := k) (pos := pos) hc (ns_ok hN hsc hfn nd h.1) k1 k2
      have p2 := pg_lst (X := X) (k := k) (pos := pos) hc (ns_ok hN hsc hfn nd h.1) k1 k2
      exact ⟨fun pins s σ H v u Q I r hw => hw.elim (fun hw => p1.run pins s σ H v u Q I r hw) fun hw => p2.run pins s σ H v u Q I r hw⟩
    | _ => cases h
end
end Mi

set_option maxRecDepth 100000
set_option maxHeartbeats 2000000
/-! Comprehensions. -/
namespace Mi
open PySem PySem.Spec L2
section
variable {X : Cx} {g : Gx} {cg : Cg} {W : WX} {k : Nat} {σ : St} {F : Hp} {ι : List Addr} {H : Hp} {M : Sto}
/-- something beside is written -/
theorem Rel.beside (r : Rel g F ι M H) {p : Addr} {o : HO} (h1 : p ∉ ι) (h2 : F p = none) : Rel g F ι M (upd H p o) := by
  refine ⟨fun b u e => by rw [upd_ne (ne_of_none e h2)]; exact r.sub b u e, r.nd, r.len, fun n a c e1 e2 => ?_, fun a ha => ?_⟩
  · have ha : a ≠ p := fun z => h1 (z ▸ List.mem_of_getElem? e1)
    exact (r.cells n a c e1 e2).mono (Same.refl F) ⟨[], by simp⟩ (fun q => (r.cells n a c e1 e2).free q) (upd_ne ha)
  · have hp : a ≠ p := fun z => h1 (z ▸ ha)
    obtain ⟨u, e⟩ := r.there a ha
    exact ⟨u, by rw [upd_ne hp]; exact e⟩
/-- what stands beside stays -/
theorem Ext.stays {F' : Hp} {ι' : List Addr} {H' : Hp} (e : Ext F ι H F' ι' H') {p : Addr} {o : HO} (h0 : H p = some o) (h1 : p ∉ ι) (h2 : F p = none) : H' p = some o ∧ p ∉ ι' ∧ F' p = none := by
  refine ⟨e.frame p o h0 h1, fun hm => ?_, ?_⟩
  · rcases e.new p hm with z | z
    · exact h1 z
    · rw [z] at h0; cases h0
  · cases q : F' p with
    | none => rfl
    | some u =>
      rcases e.froz p u q with z | z | z
      · rw [z] at h2; cases h2
      · rw [z] at h0; cases h0
      · exact absurd z h1
theorem Ext.beside {F' : Hp} {ι' : List Addr} {H' : Hp} (e : Ext F ι H F' ι' H') {p : Addr} {o : HO} (h0 : H p = none) (h1 : p ∉ ι) : Ext F ι H F' ι' (upd H' p o) :=
  ⟨e.sub, e.pre, fun b u q hb => by rw [upd_ne (ne_of_none q h0)]; exact e.frame b u q hb, e.new, e.froz, fun a ha => by
    have : a ≠ p := fun z => h1 (z ▸ ha)
    obtain ⟨u, q⟩ := e.keep a ha
    exact ⟨u, by rw [upd_ne this]; exact q⟩⟩
theorem Rel.notin (r : Rel g F ι M H) {p : Addr} (h : H p = none) : p ∉ ι := fun hm => by
  obtain ⟨u, e⟩ := r.there p hm
  rw [e] at h; cases h
/-- the new list of a comprehension, done -/
theorem newL_at {Q : VK} {m : Bool} {ds : List D} {vs : List V} {p : Addr} {F' : Hp} {ι' : List Addr} {M' : Sto} {H' : Hp} (e : Ext F ι H F' ι' H') (r : Rel g F' ι' M' H') (hp : H p = none) (h0 : H' p = some (.lst vs)) (h1 : p ∉ ι') (h2 : F' p = none) (rs : RDs g F' ι' vs ds)
    (h : Ok g W σ F ι H (newL m ds M') (kE g Q)) : Q (.ref p) H' := by
  cases m with
  | true =>
    refine h F' (ι' ++ [p]) H' ⟨e.sub, ?_, e.frame, fun a ha => ?_, e.froz, e.keep⟩ ⟨r.sub, ?_, by simp [r.len], fun n a c' q1 q2 => ?_, fun a ha => ?_⟩ _ (.ref (by rw [← r.len]; simp))
    · obtain ⟨more, z⟩ := e.pre
      exact ⟨more ++ [p], by rw [z, List.append_assoc]⟩
    · rcases List.mem_append.mp ha with z | z
      · exact e.new a z
      · simp at z; subst z; exact .inr hp
    · rw [List.nodup_append]
      exact ⟨r.nd, by simp, fun a ha b hb z => by simp at hb; subst hb; subst z; exact h1 ha⟩
    · by_cases hn : n < ι'.length
      · rw [List.getElem?_append_left hn] at q1
        rw [List.getElem?_append_left (by rw [← r.len]; exact hn)] at q2
        exact (r.cells n a c' q1 q2).mono (Same.refl F') ⟨[p], rfl⟩ (fun hd => (r.cells n a c' q1 q2).free hd) rfl
      · rw [List.getElem?_append_right (by omega)] at q1
        rw [List.getElem?_append_right (by rw [← r.len]; omega)] at q2
        have e1 : n - ι'.length = 0 := by
          have := (List.getElem?_eq_some_iff.mp q1).1
          simp at this; omega
        rw [← r.len, e1] at q2
        rw [e1] at q1
        simp at q1 q2
        subst q1; subst q2
        exact ⟨h2, vs, h0, rs.mono (Same.refl F') ⟨[p], rfl⟩⟩
    · rcases List.mem_append.mp ha with z | z
      · exact r.there a z
      · simp at z; subst z; exact ⟨_, h0⟩
  | false =>
    cases q : toPs ds with
    | none => simp only [newL, q] at h; exact h.elim
    | some xs =>
      simp only [newL, q] at h
      have hs : Same F' (upd F' p (.lst vs)) := fun b u z => by rw [upd_ne (ne_of_none z h2)]; exact z
      refine h (upd F' p (.lst vs)) ι' H' ⟨e.sub.trans hs, e.pre, e.frame, e.new, fun b u z => ?_, e.keep⟩ ⟨fun b u z => ?_, r.nd, r.len, fun n a c q1 q2 => ?_, r.there⟩ _ (.p (.lst upd_same ?_))
      · by_cases hb : b = p
        · subst hb; exact .inr (.inl hp)
        · rw [upd_ne hb] at z; exact e.froz b u z
      · by_cases hb : b = p
        · subst hb; rw [upd_same] at z; cases z; exact h0
        · rw [upd_ne hb] at z; exact r.sub b u z
      · have ha : a ≠ p := fun z => h1 (z ▸ List.mem_of_getElem? q1)
        exact (r.cells n a c q1 q2).mono hs ⟨[], by simp⟩ (fun hd => by rw [upd_ne ha]; exact (r.cells n a c q1 q2).free hd) rfl
      · rw [toPs_eq q] at rs
        exact rs.rps.mono hs
/-- the tests of a clause -/
def tTO (g : Gx) (cg : Cg) (W : WX) (c : Option ME) : TT := match c with
  | none => tYes
  | some c => tT g cg W c
def stepC (cg : Cg) (t : Tg) (cond : Option ME) (e : ME) (ρ : Env) : D → Sto → R (Option D) := fun d M => match bindT t d (wipeE ρ (tgs t)) with
  | none => .stuck
  | some ρ' => (evTO cg cond ρ' M).bind fun b M => match b with
    | true => (ev cg e ρ' M).bind fun y M => .ok (some y) M
    | false => .ok none M
theorem drop_at {its : List D} {r : Nat} (h : r + 1 ≤ its.length) : ∃ d, its[its.length - (r + 1)]? = some d ∧ its.drop (its.length - (r + 1)) = d :: its.drop (its.length - r) := by
  have hl : its.length - (r + 1) < its.length := by omega
  refine ⟨its[its.length - (r + 1)], by simp [hl], ?_⟩
  rw [List.drop_eq_getElem_cons hl, show its.length - (r + 1) + 1 = its.length - r by omega]
theorem compL_W {f : D → Sto → R (Option D)} {its : List D} : ∀ (r : Nat) (acc : List D) (M : Sto), r ≤ its.length → compL f (its.drop (its.length - r)) acc M = compW none its f r acc M
  | 0, acc, M, _ => by rw [Nat.sub_zero, List.drop_length]; rfl
  | r + 1, acc, M, h => by
    obtain ⟨d, e1, e2⟩ := drop_at h
    rw [e2]
    simp only [compL, compW, live, Option.bind, e1]
    congr 1
    funext y M
    cases y <;> exact compL_W r _ _ (by omega)
theorem compK_W {w : Option Nat} {f : D → Sto → R (Option D)} {its : List D} {M : Sto} : compK w f its M = compW w its f its.length [] M := by
  cases w with
  | none => have := compL_W (f := f) (its := its) its.length [] M (Nat.le_refl _); rw [Nat.sub_self, List.drop_zero] at this; exact this
  | some n => rfl
theorem compW_cons {w : Option Nat} {its : List D} {f : D → Sto → R (Option D)} {r : Nat} {acc : List D} {M M' : Sto} {out : List D} (h : compW w its f (r + 1) acc M = .ok out M') : ∃ ds d y M1, live w its M = some ds ∧ ds[its.length - (r + 1)]? = some d ∧ f d M = .ok y M1 ∧ (match y with | some y => compW w its f r (acc ++ [y]) M1 | none => compW w its f r acc M1) = .ok out M' := by
  unfold compW at h
  cases hl : live w its M with
  | none => rw [hl] at h; cases h
  | some ds =>
    rw [hl] at h
    simp only [Option.bind] at h
    cases hd : ds[its.length - (r + 1)]? with
    | none => rw [hd] at h; cases h
    | some d =>
      rw [hd] at h
      cases e : f d M with
      | stuck => simp only [e] at h; cases h
      | exc c v M => simp only [e] at h; cases h
      | ok y M1 => simp only [e] at h; exact ⟨ds, d, y, M1, rfl, hd, e, h⟩
theorem compW_live {w : Option Nat} {its : List D} {f : D → Sto → R (Option D)} {r : Nat} {acc : List D} {M M' : Sto} {out : List D} (h : compW w its f r acc M = .ok out M') : ∃ ds, live w its M = some ds := by
  cases r with
  | zero =>
    unfold compW at h
    cases hl : live w its M with
    | none => rw [hl] at h; cases h
    | some ds => exact ⟨ds, rfl⟩
  | succ r => obtain ⟨ds, _, _, _, hl, _⟩ := compW_cons h; exact ⟨ds, hl⟩
theorem compW_noex {w : Option Nat} {its : List D} {f : D → Sto → R (Option D)} : ∀ {r : Nat} {acc : List D} {M : Sto} (c : Nat) (v : D) (M' : Sto), compW w its f r acc M ≠ .exc c v M'
  | 0, _, M, _, _, _ => by
    unfold compW
    cases live w its M <;> exact fun h => nomatch h
  | r + 1, acc, M, c, v, M' => by
    unfold compW
    cases (live w its M).bind fun ds => ds[its.length - (r + 1)]? with
    | none => exact fun h => nomatch h
    | some d =>
      simp only
      cases e : f d M with
      | stuck => exact fun h => nomatch h
      | exc c v M => exact fun h => nomatch h
      | ok y M1 =>
        cases y with
        | some y => exact compW_noex c v M'
        | none => exact compW_noex c v M'
theorem e_comp {m : Bool} {t : Tg} {kk : It} {es : List ME} {cond : Option ME} {e : ME} {Q : VK} {ρ : Env}
    (h : ∃ F ι M, Rel g F ι M H ∧ RSl g F ι σ ρ ∧ Ok g W σ F ι H (ev cg (.comp m t kk es cond e) ρ M) (kE g Q)) : tLc (tI g cg W kk es) (gOf X.K t) (tTO g cg Wf cond) (tE g cg Wf e) (tgs t) σ H Q := by
  obtain ⟨F, ι, M, rel, sl, ok⟩ := h
  simp only [ev_comp] at ok
  refine ⟨F, ι, M, ρ, rel, sl, ok.bind.mono fun ds F1 ι1 M1 H1 _ _ ⟨e1, r1, ok1⟩ => ?_⟩
  have s1 := sl.ext e1
  cases hi : items kk ds M1 with
  | none => rw [hi] at ok1; exact ok1.elim
  | some its =>
    rw [hi] at ok1
    refine ⟨its, rfl, fun hlen J wk D hD => ?_⟩
    have ok2 : Ok g W σ F1 ι1 H1 ((compK (wat kk ds) (stepC cg t cond e ρ) its M1).bind fun acc M => newL m acc M) (kE g Q) := ok1
    rw [compK_W] at ok2
    revert wk ok2
    generalize wat kk ds = w0
    intro wk ok2
    cases hc : compW w0 its (stepC cg t cond e ρ) its.length [] M1 with
    | stuck => rw [hc] at ok2; exact ok2.elim
    | exc c v M => exact absurd hc (compW_noex c v M)
    | ok accF MF =>
      rw [hc] at ok2
      simp only [R.bind_ok] at ok2
      obtain ⟨G, Y, w, wG, wY⟩ := wk
      have hDι : D ∉ ι1 := r1.notin hD
      have hDF : F1 D = none := r1.sub.free hD
      refine lc_it w (fun i H' => ∃ F' ι' M' acc vs, Ext F1 ι1 H1 F' ι' H' ∧ Rel g F' ι' M' H' ∧ H' D = some (.lst vs) ∧ D ∉ ι' ∧ F' D = none ∧ RDs g F' ι' vs acc ∧ compW w0 its (stepC cg t cond e ρ) (its.length - i) acc M' = .ok accF MF ∧ acc.length ≤ i)
        ⟨F1, ι1, M1, [], [], (Ext.refl r1).beside hD hDι, r1.beside hDι hDF, upd_same, hDι, hDF, .nil, hc, Nat.le_refl _⟩ ?_ ?_ ?_
      · rintro i H' _ ⟨F', ι', M', acc, vs, ex, r', _, _, _, _, hcl, _⟩
        obtain ⟨_, hl⟩ := compW_live hcl
        exact wG F' ι' M' H' _ ex.sub ex.pre r' hl
      · rintro i x H' H2 hi' ⟨F', ι', M', acc, vs, ex, r', hD', hι', hF', ra, hcl, hacc⟩ y
        rw [show its.length - i = its.length - (i + 1) + 1 by omega] at hcl
        obtain ⟨es, d, yy, Ms, hl, hd, hf, hrest⟩ := compW_cons hcl
        rw [show its.length - (its.length - (i + 1) + 1) = i by omega] at hd
        obtain ⟨F2, ex2, r2, rx⟩ := wY i d F' ι' M' H' x H2 es hl hd ex.sub ex.pre r' y
        unfold stepC at hf
        cases hb : bindT t d (wipeE ρ (tgs t)) with
        | none => rw [hb] at hf; cases hf
        | some ρ' =>
          rw [hb] at hf
          simp only at hf
          have sw : RSl g F2 ι' (L2.wipe σ (tgs t)) (wipeE ρ (tgs t)) := ((s1.ext ex).ext ex2).wipe _
          obtain ⟨hD2, hι2, hF2⟩ := ex2.stays hD' hι' hF'
          refine gOf_ok r2 rx hb sw fun σ2 s2 hw => ⟨by
            rw [hw (tgs t) fun i hi => hi]
            have : ∀ (vs ws : List Nat), (∀ i ∈ vs, i ∈ ws) → L2.wipe (L2.wipe σ vs) ws = L2.wipe σ ws := by
              intro vs
              induction vs with
              | nil => intro ws _; rfl
              | cons v vs ih =>
                intro ws hv
                show L2.wipe ((L2.wipe σ vs).set v none) ws = L2.wipe σ ws
                rw [wipe_set (hv v List.mem_cons_self), ih ws fun i hi => hv i (List.mem_cons_of_mem _ hi)]
            exact this _ _ fun i hi => hi, ?_⟩
          -- the tests
          have body : ∀ (b : Bool) (F3 : Hp) (ι3 : List Addr) (M3 : Sto) (H3 : Hp), Ext F2 ι' H2 F3 ι3 H3 → Rel g F3 ι3 M3 H3 → (match b with | true => (ev cg e ρ' M3).bind fun y M => .ok (some y) M | false => .ok none M3) = .ok yy Ms →
              if b = true then tE g cg Wf e σ2 H3 fun y H4 => ∃ acc, H4 D = some (.lst acc) ∧ acc.length < sizeLine ∧
                  (∃ F' ι' M' acc' vs, Ext F1 ι1 H1 F' ι' (upd H4 D (.lst (acc ++ [y]))) ∧ Rel g F' ι' M' (upd H4 D (.lst (acc ++ [y]))) ∧ (upd H4 D (.lst (acc ++ [y]))) D = some (.lst vs) ∧ D ∉ ι' ∧ F' D = none ∧ RDs g F' ι' vs acc' ∧ compW w0 its (stepC cg t cond e ρ) (its.length - (i + 1)) acc' M' = .ok accF MF ∧ acc'.length ≤ i + 1)
                else (∃ F' ι' M' acc' vs, Ext F1 ι1 H1 F' ι' H3 ∧ Rel g F' ι' M' H3 ∧ H3 D = some (.lst vs) ∧ D ∉ ι' ∧ F' D = none ∧ RDs g F' ι' vs acc' ∧ compW w0 its (stepC cg t cond e ρ) (its.length - (i + 1)) acc' M' = .ok accF MF ∧ acc'.length ≤ i + 1) := by
            intro b F3 ι3 M3 H3 ex3 r3 hb3
            obtain ⟨hD3, hι3, hF3⟩ := ex3.stays hD2 hι2 hF2
            cases b with
            | false =>
              refine iteF ?_
              cases hb3
              exact ⟨F3, ι3, _, acc, vs, (ex.trans ex2).trans ex3, r3, hD3, hι3, hF3, (ra.ext ex2).ext ex3, hrest, by omega⟩
            | true =>
              refine iteT ?_
              cases he : ev cg e ρ' M3 with
              | stuck => rw [he] at hb3; cases hb3
              | exc c v M => rw [he] at hb3; cases hb3
              | ok y M4 =>
                rw [he] at hb3
                cases hb3
                refine ⟨F3, ι3, M3, ρ', r3, s2.ext ex3, ?_⟩
                rw [he]
                intro F4 ι4 H4 ex4 r4 v rv
                obtain ⟨hD4, hι4, hF4⟩ := ex4.stays hD3 hι3 hF3
                refine ⟨vs, hD4, by rw [ra.length]; omega, F4, ι4, _, acc ++ [y], vs ++ [v], (((ex.trans ex2).trans ex3).trans ex4).beside hD hDι, r4.beside hι4 hF4, upd_same, hι4, hF4, (((ra.ext ex2).ext ex3).ext ex4).append (.cons rv .nil), hrest, by simp; omega⟩
          cases cond with
          | none => exact body true F2 ι' M' H2 (Ext.refl r2) r2 hf
          | some c =>
            refine ⟨F2, ι', M', ρ', r2, s2, ?_⟩
            simp only [evTO_some] at hf
            cases ht : evT cg c ρ' M' with
            | stuck => rw [ht] at hf; cases hf
            | exc c v M => rw [ht] at hf; cases hf
            | ok b M3 =>
              rw [ht] at hf
              intro F3 ι3 H3 ex3 r3
              exact body b F3 ι3 M3 H3 ex3 r3 hf
      · rintro H' ⟨F', ι', M', acc, vs, ex, r', hD', hι', hF', ra, hcl, _⟩
        obtain ⟨_, hl⟩ := compW_live hcl
        rw [Nat.sub_self] at hcl
        unfold compW at hcl
        rw [hl] at hcl
        cases hcl
        exact newL_at ex r' hD hD' hι' hF' ra ok2
end
end Mi

set_option maxRecDepth 100000
set_option maxHeartbeats 2000000
/-! Calls of defs. -/
namespace Mi
open PySem PySem.Spec L2
/-- what a def promises -/
def spF (g : Gx) (f : Fn) (n : Nat) : Sp := fun vs H Q E => vs.length = n ∧ ∃ F ι M ds, Rel g F ι M H ∧ RDs g F ι vs ds ∧ Ok g (fun cls dd _ H' => E cls dd H') [] F ι H (f ds M) (kE g Q)
section
variable {g : Gx} {W : WX} {σ : St} {F F' : Hp} {ι : List Addr} {H H' : Hp} {M : Sto}
theorem CellOk.flat {ι' : List Addr} {a : Addr} {c : Cell} (hf : c.flat = true) (h : CellOk g F ι H a c) : CellOk g F ι' H a c := by
  cases c with
  | dead => cases hf
  | lst ds =>
    obtain ⟨h1, vs, e, r⟩ := h
    obtain ⟨xs, q⟩ := Option.isSome_iff_exists.mp (show (toPs ds).isSome = true from hf)
    rw [toPs_eq q] at r ⊢
    exact ⟨h1, vs, e, r.rps.rds⟩
  | dK kvs =>
    obtain ⟨h1, vs, e, k, r⟩ := h
    obtain ⟨xs, q⟩ := Option.isSome_iff_exists.mp (show (toPs (kvs.map (·.2))).isSome = true from hf)
    refine ⟨h1, vs, e, k, ?_⟩
    rw [toPs_eq q] at r ⊢
    exact r.rps.rds
  | ins c fs =>
    obtain ⟨h1, hc, dx, vs, e, k, r⟩ := h
    obtain ⟨xs, q⟩ := Option.isSome_iff_exists.mp (show (toPs (fs.map (·.2))).isSome = true from hf)
    refine ⟨h1, hc, dx, vs, e, k, ?_⟩
    rw [toPs_eq q] at r ⊢
    exact r.rps.rds
  | xd f v => cases hf
  | xc c m => cases hf
theorem Rel.nil (h : Same F H) : Rel g F [] [] H := ⟨h, List.nodup_nil, rfl, fun n a c e _ => by simp at e, fun a ha => by cases ha⟩
/-- behind a call that was given none of the cells -/
theorem Rel.over (r : Rel g F ι M H) {ι' : List Addr} {M' : Sto} (e : Ext F [] H F' ι' H') (r' : Rel g F' ι' M' H') : Rel g F' ι M H' ∧ Ext F ι H F' ι H' := by
  have hst : ∀ a ∈ ι, H' a = H a := fun a ha => by
    obtain ⟨o, q⟩ := r.there a ha
    rw [q]; exact e.frame a o q (by simp)
  have hfr : ∀ a ∈ ι, F a = Option.none → F' a = Option.none := fun a ha hn => by
    cases q : F' a with
    | none => rfl
    | some u =>
      obtain ⟨o, q'⟩ := r.there a ha
      rcases e.froz a u q with z | z | z
      · rw [z] at hn; cases hn
      · rw [z] at q'; cases q'
      · cases z
  refine ⟨⟨r'.sub, r.nd, r.len, fun n a c h1 h2 => ?_, fun a ha => ?_⟩, ⟨e.sub, ⟨[], by simp⟩, fun b o q _ => e.frame b o q (by simp), fun a ha => .inl ha, fun b o q => ?_, fun a ha => ?_⟩⟩
  · have ha := List.mem_of_getElem? h1
    exact (r.cells n a c h1 h2).mono e.sub ⟨[], by simp⟩ (fun hd => hfr a ha ((r.cells n a c h1 h2).free hd)) (hst a ha)
  · obtain ⟨o, q⟩ := r.there a ha
    exact ⟨o, by rw [hst a ha]; exact q⟩
  · rcases e.froz b o q with z | z | z
    · exact .inl z
    · exact .inr (.inl z)
    · cases z
  · obtain ⟨o, q⟩ := r.there a ha
    exact ⟨o, by rw [hst a ha]; exact q⟩
theorem RD.pureι {ι' : List Addr} {v : V} {x : P} (h : RD g F ι v (.p x)) : RD g F ι' v (.p x) := by
  cases h with | p h => exact .p h
theorem XRep.pureι {H0 : Hp} {ι' : List Addr} {cls : Value} {dd : Option Addr} {c : Nat} {x : P} (h : XRep g F ι H0 H cls dd c (.p x)) (hn : ∀ b ∈ ι', ∃ o, H0 b = some o) : XRep g F ι' H0 H cls dd c (.p x) := by
  obtain ⟨h1, h0, hf, h2⟩ := h
  refine ⟨h1, h0, fun d hd => ⟨(hf d hd).1, fun hm => ?_, (hf d hd).2.2⟩, ?_⟩
  · obtain ⟨o, q⟩ := hn d hm
    rw [(hf d hd).1] at q
    cases q
  rcases h2 with h2 | ⟨d, v, f, e1, e2, e3, r⟩
  · exact .inl h2
  · exact .inr ⟨d, v, f, e1, e2, e3, r.pureι⟩
theorem ok_exc {α : Type} {r : R α} {kk : Kt α} (h : Ok g W σ F ι H r kk) : Ok g (fun cls dd _ H' => W cls dd σ H') [] F ι H r kk := by
  cases r with
  | stuck => exact h
  | ok a M => exact h
  | exc c v M => exact h
/-- a cell of one's own among the others -/
theorem Rel.one (r : Rel g F ι M H) {n : Nat} {a : Addr} {c : Cell} (h1 : ι[n]? = some a) (h2 : M[n]? = some c) (hf : c.flat = true) : Rel g F [a] [c] H := by
  refine ⟨r.sub, by simp, rfl, fun m b c' e1 e2 => ?_, fun b hb => ?_⟩
  · cases m with
    | zero => simp at e1 e2; subst e1; subst e2; exact (r.cells n a c h1 h2).flat hf
    | succ m => simp at e1
  · simp at hb; subst hb; exact r.there b (List.mem_of_getElem? h1)
theorem Rel.over1 (r : Rel g F ι M H) {n : Nat} {a : Addr} {c c' : Cell} {ι' : List Addr} (h1 : ι[n]? = some a) (h2 : M[n]? = some c) (hc : c.flat = true) (hc' : c'.flat = true) (e : Ext F [a] H F' ι' H') (r' : Rel g F' ι' [c'] H') :
    Rel g F' ι (M.set n c') H' ∧ Ext F ι H F' ι H' := by
  have hι' : ι' = [a] := by
    obtain ⟨more, z⟩ := e.pre
    have hl := r'.len
    rw [z] at hl ⊢
    cases more with
    | nil => rfl
    | cons _ _ => simp at hl
  subst hι'
  have ha0 := List.mem_of_getElem? h1
  have hst : ∀ b ∈ ι, b ≠ a → H' b = H b := fun b hb hne => by
    obtain ⟨o, q⟩ := r.there b hb
    rw [q]; exact e.frame b o q (by simpa using hne)
  have hfr : ∀ b ∈ ι, b ≠ a → F b = Option.none → F' b = Option.none := fun b hb hne hn => by
    cases q : F' b with
    | none => rfl
    | some u =>
      obtain ⟨o, q'⟩ := r.there b hb
      rcases e.froz b u q with z | z | z
      · rw [z] at hn; cases hn
      · rw [z] at q'; cases q'
      · exact absurd (by simpa using z) hne
  have hth : ∀ b ∈ ι, ∃ o, H' b = some o := fun b hb => by
    by_cases hne : b = a
    · rw [hne]; exact r'.there a (by simp)
    · obtain ⟨o, q⟩ := r.there b hb
      exact ⟨o, by rw [hst b hb hne]; exact q⟩
  refine ⟨⟨r'.sub, r.nd, by simp [r.len], fun m b c2 e1 e2 => ?_, hth⟩, ⟨e.sub, ⟨[], by simp⟩, fun b o q hb => e.frame b o q (fun z => hb (by simp at z; rw [z]; exact ha0)), fun b hb => .inl hb, fun b o q => ?_, hth⟩⟩
  · by_cases hm : n = m
    · subst hm
      rw [h1] at e1; cases e1
      rw [List.getElem?_set_self (List.getElem?_eq_some_iff.mp h2).1] at e2
      cases e2
      exact (r'.cells 0 a c' rfl rfl).flat hc'
    · rw [List.getElem?_set_ne hm] at e2
      have hne : b ≠ a := fun z => hm (nodup_get r.nd h1 (z ▸ e1))
      have hb := List.mem_of_getElem? e1
      exact (r.cells m b c2 e1 e2).mono e.sub ⟨[], by simp⟩ (fun hd => hfr b hb hne ((r.cells m b c2 e1 e2).free hd)) (hst b hb hne)
  · rcases e.froz b o q with z | z | z
    · exact .inl z
    · exact .inr (.inl z)
    · simp at z; subst z; exact .inr (.inr ha0)
/-- a new cell that a call has made -/
theorem Rel.over2 (r : Rel g F ι M H) {c : Cell} {ι' : List Addr} (hc : c.flat = true) (e : Ext F [] H F' ι' H') (r' : Rel g F' ι' [c] H') : ∃ a, ι' = [a] ∧ Rel g F' (ι ++ [a]) (M ++ [c]) H' ∧ Ext F ι H F' (ι ++ [a]) H' := by
  obtain ⟨r1, e1⟩ := r.over e r'
  have hl := r'.len
  cases ι' with
  | nil => simp at hl
  | cons a t =>
    cases t with
    | cons _ _ => simp at hl
    | nil =>
      have hn : H a = Option.none := by
        rcases e.new a (by simp) with z | z
        · cases z
        · exact z
      have hai : a ∉ ι := r.notin hn
      refine ⟨a, rfl, ⟨r1.sub, ?_, by simp [r.len], fun n b c' q1 q2 => ?_, fun b hb => ?_⟩, ⟨e1.sub, ⟨[a], rfl⟩, e1.frame, fun b hb => ?_, e1.froz, e1.keep⟩⟩
      · rw [List.nodup_append]
        exact ⟨r.nd, by simp, fun x hx y hy z => by simp at hy; subst hy; subst z; exact hai hx⟩
      · by_cases hn' : n < ι.length
        · rw [List.getElem?_append_left hn'] at q1
          rw [List.getElem?_append_left (by rw [← r.len]; exact hn')] at q2
          exact (r1.cells n b c' q1 q2).mono (Same.refl F') ⟨[a], rfl⟩ (fun hd => (r1.cells n b c' q1 q2).free hd) rfl
        · rw [List.getElem?_append_right (by omega)] at q1
          rw [List.getElem?_append_right (by rw [← r.len]; omega)] at q2
          have e0 : n - ι.length = 0 := by
            have := (List.getElem?_eq_some_iff.mp q1).1
            simp at this; omega
          rw [← r.len, e0] at q2
          rw [e0] at q1
          simp at q1 q2
          subst q1; subst q2
          exact (r'.cells 0 a c rfl rfl).flat hc
      · rcases List.mem_append.mp hb with z | z
        · exact r1.there b z
        · simp at z; subst z; exact r'.there b (by simp)
      · rcases List.mem_append.mp hb with z | z
        · exact .inl z
        · simp at z; subst z; exact .inr hn
mutual
theorem rdb_ok (rel : Rel g F ι M H) : ∀ (k : Nat) {v : V} {d : D} {x : P}, RD g F ι v d → rdb M k d = some x → RP g H v x
  | 0, v, d, x, r, e => by
    cases d with
    | p y =>
      cases e
      cases r with
      | p r => exact r.mono rel.sub
    | ref n => cases e
    | tup ds => cases e
  | k + 1, v, d, x, r, e => by
    cases d with
    | p y =>
      cases e
      cases r with
      | p r => exact r.mono rel.sub
    | tup ds =>
      cases r with
      | tup ea ra =>
        simp only [rdb, Option.map_eq_some_iff] at e
        obtain ⟨xs, e1, rfl⟩ := e
        exact .tup (rel.sub _ _ ea) (rdbs_ok rel k ra e1)
    | ref n =>
      cases r with
      | @ref _ a ea =>
        simp only [rdb] at e
        split at e
        · rename_i ds hM
          simp only [Option.map_eq_some_iff] at e
          obtain ⟨xs, e1, rfl⟩ := e
          obtain ⟨_, vs, q1, q2⟩ := rel.cells n a _ ea hM
          exact .lst q1 (rdbs_ok rel k q2 e1)
        · rename_i kvs hM
          simp only [Option.map_eq_some_iff] at e
          obtain ⟨xs, e1, rfl⟩ := e
          obtain ⟨_, ws, q1, q2, q3⟩ := rel.cells n a _ ea hM
          obtain ⟨i1, i2⟩ := rdbk_ok rel k q2 q3 e1
          exact .dK q1 i1 i2
        · cases e
theorem rdbs_ok (rel : Rel g F ι M H) : ∀ (k : Nat) {vs : List V} {ds : List D} {xs : List P}, RDs g F ι vs ds → mapO (rdb M k) ds = some xs → RPs g H vs xs
  | k, vs, [], xs, r, e => by
    cases r
    cases e
    exact .nil
  | k, vs, d :: ds, xs, r, e => by
    cases r with
    | cons r t =>
      simp only [mapO] at e
      split at e
      · cases e
      · rename_i y z
        simp only [Option.map_eq_some_iff] at e
        obtain ⟨ys, e1, rfl⟩ := e
        exact .cons (rdb_ok rel k r z) (rdbs_ok rel k t e1)
theorem rdbk_ok (rel : Rel g F ι M H) : ∀ (k : Nat) {ws : List (Key × V)} {kvs : List (Key × D)} {xs : List (Key × P)}, ws.map (·.1) = kvs.map (·.1) → RDs g F ι (ws.map (·.2)) (kvs.map (·.2)) → mapO (fun q : Key × D => (rdb M k q.2).map fun x => (q.1, x)) kvs = some xs →
    ws.map (·.1) = xs.map (·.1) ∧ RPs g H (ws.map (·.2)) (xs.map (·.2))
  | k, ws, [], xs, h1, h2, e => by
    cases ws with
    | nil => cases e; exact ⟨rfl, .nil⟩
    | cons _ _ => cases h1
  | k, ws, q :: kvs, xs, h1, h2, e => by
    cases ws with
    | nil => cases h1
    | cons w ws =>
      simp only [List.map_cons, List.cons.injEq] at h1
      cases h2 with
      | cons r t =>
        simp only [mapO] at e
        split at e
        · cases e
        · rename_i y z
          simp only [Option.map_eq_some_iff] at e z
          obtain ⟨ys, e1, rfl⟩ := e
          obtain ⟨x, z1, rfl⟩ := z
          obtain ⟨i1, i2⟩ := rdbk_ok rel k h1.2 t e1
          exact ⟨by simp only [List.map_cons, h1.1, i1], .cons (rdb_ok rel k r z1) i2⟩
end
theorem RP.atom {F F' : Hp} {v : V} {x : P} (h : RP g F v x) (k : x.kd = 0) : RP g F' v x := by
  cases h with
  | non => exact .non
  | bl b => exact .bl b
  | int i => exact .int i
  | str x => exact .str x
  | tup _ _ => cases k
  | lst _ _ => cases k
  | dK _ _ _ => cases k
  | obj _ _ _ _ => cases k
  | scr _ => cases k
/-- behind a call that was lent the whole heap -/
theorem Rel.lent (r : Rel g F ι M H) {F' : Hp} {ι' : List Addr} (e : Ext H [] H F' ι' H') : Rel g F ι M H' ∧ Ext F ι H F ι H' := by
  have fr : Same H H' := fun b o q => e.frame b o q (by simp)
  have th : ∀ a ∈ ι, ∃ o, H' a = some o := fun a ha => by
    obtain ⟨o, q⟩ := r.there a ha
    exact ⟨o, fr _ _ q⟩
  refine ⟨⟨r.sub.trans fr, r.nd, r.len, fun n a c h1 h2 => ?_, th⟩, ⟨Same.refl F, ⟨[], by simp⟩, fun b o q _ => fr b o q, fun a ha => .inl ha, fun b o q => .inl q, th⟩⟩
  have ha := List.mem_of_getElem? h1
  obtain ⟨o, q⟩ := r.there a ha
  refine (r.cells n a c h1 h2).mono (Same.refl F) ⟨[], by simp⟩ (fun hd => (r.cells n a c h1 h2).free hd) ?_
  rw [q]
  exact fr _ _ q
theorem atoms_rd {F F' : Hp} {ι ι' : List Addr} : ∀ {ds : List D} {vs : List V}, atomL ds = true → RDs g F ι vs ds → RDs g F' ι' vs ds
  | [], _, _, r => by cases r; exact .nil
  | d :: ds, _, h, r => by
    cases r with
    | cons r t =>
      simp only [atomL, List.all_cons, Bool.and_eq_true] at h
      refine .cons ?_ (atoms_rd (ds := ds) h.2 t)
      cases d with
      | p x =>
        cases r with
        | p r => exact .p (r.atom (by simpa using h.1))
      | ref n => exact absurd h.1 (by simp)
      | tup ds => exact absurd h.1 (by simp)
/-- .. and makes a list of atoms -/
theorem Rel.lent2 {H0 H : Hp} {F F' : Hp} {ι ι' : List Addr} {M : Sto} {es : List D} (r1 : Rel g F ι M H) (hk : atomL es = true) (e : Ext H0 [] H0 F' ι' H) (e1 : Ext F ι H0 F ι H) (r0 : Rel g F ι M H0) (r' : Rel g F' ι' [.lst es] H) : ∃ a, ι' = [a] ∧ H0 a = none ∧ Rel g F (ι ++ [a]) (M ++ [.lst es]) H ∧ Ext F ι H0 F (ι ++ [a]) H := by
  have hl := r'.len
  cases ι' with
  | nil => simp at hl
  | cons a t =>
    cases t with
    | cons _ _ => simp at hl
    | nil =>
      have hn : H0 a = Option.none := by
        rcases e.new a (by simp) with z | z
        · cases z
        · exact z
      have hai : a ∉ ι := r0.notin hn
      have hFa : F a = none := by
        cases q : F a with
        | none => rfl
        | some o => rw [r0.sub _ _ q] at hn; cases hn
      refine ⟨a, rfl, hn, ⟨r1.sub, ?_, by simp [r1.len], fun n b c' q1 q2 => ?_, fun b hb => ?_⟩, ⟨e1.sub, ⟨[a], rfl⟩, e1.frame, fun b hb => ?_, e1.froz, e1.keep⟩⟩
      · rw [List.nodup_append]
        exact ⟨r1.nd, by simp, fun x hx y hy z => by simp at hy; subst hy; subst z; exact hai hx⟩
      · by_cases hn' : n < ι.length
        · rw [List.getElem?_append_left hn'] at q1
          rw [List.getElem?_append_left (by rw [← r1.len]; exact hn')] at q2
          exact (r1.cells n b c' q1 q2).mono (Same.refl F) ⟨[a], rfl⟩ (fun hd => (r1.cells n b c' q1 q2).free hd) rfl
        · rw [List.getElem?_append_right (by omega)] at q1
          rw [List.getElem?_append_right (by rw [← r1.len]; omega)] at q2
          have e0 : n - ι.length = 0 := by
            have := (List.getElem?_eq_some_iff.mp q1).1
            simp at this; omega
          rw [← r1.len, e0] at q2
          rw [e0] at q1
          simp at q1 q2
          subst q1; subst q2
          obtain ⟨h1, vs, h2, h3⟩ := r'.cells 0 a _ rfl rfl
          exact ⟨hFa, vs, h2, atoms_rd hk h3⟩
      · rcases List.mem_append.mp hb with z | z
        · exact r1.there b z
        · simp at z; subst z; exact r'.there b (by simp)
      · rcases List.mem_append.mp hb with z | z
        · exact .inl z
        · simp at z; subst z; exact .inr hn
/-- .. and only whether it answers None is looked at -/
theorem isbR_ok {k : Bool} {f : Fn} {ds : List D} {vs : List V} {Q : VK} (r : Rel g F ι M H) (rs : RDs g F ι vs ds) (h : Ok g W σ F ι H (isbR k f ds M) (kE g Q)) :
    spF g f vs.length vs H (fun x H1 => V.non = .non ∧ Q (.bl (if k = true then !decide (x = .non) else decide (x = .non))) H1) (WE W σ) := by
  refine ⟨rfl, ?_⟩
  simp only [isbR] at h
  split at h
  · exact h.elim
  · rename_i xs hx
    refine ⟨H, [], [], xs.map D.p, Rel.nil (Same.refl H), (rdbs_ok r FU rs hx).rds, ?_⟩
    split at h
    · rename_i x hf
      rw [hf]
      intro F' ι' H' e r' v rv
      obtain ⟨r1, e1⟩ := r.lent e
      refine ⟨rfl, ?_⟩
      rw [← isn_eq rv]
      exact h F ι H' e1 r1 _ (.p (.bl _))
    · exact h.elim
/-- every way of calling, by the def's promise -/
theorem callF_ok {md : Md} {f : Fn} {ds : List D} {vs : List V} {Q : VK} (r : Rel g F ι M H) (rs : RDs g F ι vs ds) (h : Ok g W σ F ι H (callF md f ds M) (kE g Q)) : spF g f vs.length vs H Q (WE W σ) := by
  refine ⟨rfl, ?_⟩
  cases md with
  | full => exact ⟨F, ι, M, ds, r, rs, ok_exc h⟩
  | bor =>
    simp only [callF] at h
    split at h
    · exact h.elim
    · rename_i xs hx
      refine ⟨H, [], [], xs.map D.p, Rel.nil (Same.refl H), (rdbs_ok r FU rs hx).rds, ?_⟩
      split at h
      · rename_i x hf
        split at h
        · rename_i hk
          rw [hf]
          intro F' ι' H' e r' v rv
          obtain ⟨r1, e1⟩ := r.lent e
          refine h F ι H' e1 r1 v ?_
          cases rv with
          | p rv => exact .p (rv.atom hk)
        · exact h.elim
      · exact h.elim
  | bow =>
    simp only [callF] at h
    split at h
    · exact h.elim
    · rename_i xs hx
      refine ⟨H, [], [], xs.map D.p, Rel.nil (Same.refl H), (rdbs_ok r FU rs hx).rds, ?_⟩
      split at h
      · rename_i x hf
        split at h
        · rename_i hk
          rw [hf]
          intro F' ι' H' e r' v rv
          obtain ⟨r1, e1⟩ := r.lent e
          refine h F ι H' e1 r1 v ?_
          cases rv with
          | p rv => exact .p (rv.atom hk)
        · exact h.elim
      · rename_i es hf
        split at h
        · rename_i hk
          rw [hf]
          intro F' ι' H' e r' v rv
          obtain ⟨r1, e1⟩ := r.lent e
          obtain ⟨a, rfl, hn, r2, e2⟩ := r1.lent2 hk e e1 r r'
          refine h F (ι ++ [a]) H' e2 r2 v ?_
          cases rv with
          | ref q =>
            simp at q; subst q
            exact .ref (by rw [← r.len]; simp)
        · exact h.elim
      · exact h.elim
  | pure =>
    simp only [callF] at h
    split at h
    · exact h.elim
    · rename_i xs hx
      rw [toPs_eq hx] at rs h
      refine ⟨F, [], [], xs.map D.p, Rel.nil r.sub, rs.rps.rds, ?_⟩
      split at h
      · rename_i x hf
        rw [toPs_eq hx] at *
        rw [hf]
        intro F' ι' H' e r' v rv
        obtain ⟨r1, e1⟩ := r.over e r'
        exact h F' ι H' e1 r1 v rv.pureι
      · rename_i c x hf
        rw [toPs_eq hx] at *
        rw [hf]
        intro F' ι' H' cls dd e r' xr
        obtain ⟨r1, e1⟩ := r.over e r'
        exact h F' ι H' cls dd e1 r1 (xr.pureι r.there)
      · exact h.elim
  | own =>
    simp only [callF] at h
    split at h
    · exact h.elim
    · rename_i xs hx
      rw [toPs_eq hx] at rs h
      refine ⟨F, [], [], xs.map D.p, Rel.nil r.sub, rs.rps.rds, ?_⟩
      split at h
      · rename_i c hf
        split at h
        · rename_i hc
          rw [hf]
          intro F' ι' H' e r' v rv
          obtain ⟨a, rfl, r1, e1⟩ := r.over2 hc e r'
          refine h F' (ι ++ [a]) H' e1 r1 v ?_
          cases rv with
          | ref q =>
            simp at q; subst q
            exact .ref (by rw [← r.len]; simp)
        · exact h.elim
      · rename_i c x hf
        rw [hf]
        intro F' ι' H' cls dd e r' xr
        obtain ⟨r1, e1⟩ := r.over e r'
        exact h F' ι H' cls dd e1 r1 (xr.pureι r.there)
      · rename_i x hf
        rw [hf]
        intro F' ι' H' e r' v rv
        obtain ⟨r1, e1⟩ := r.over e r'
        exact h F' ι H' e1 r1 v rv.pureι
      · exact h.elim
  | «mut» =>
    simp only [callF] at h
    split at h
    · rename_i n rest
      split at h
      · rename_i c xs hM hx
        split at h
        · rename_i hc
          cases rs with
          | cons r0 rs =>
            cases r0 with
            | @ref _ a ea =>
              have hxe := toPs_eq hx
              subst hxe
              refine ⟨F, [a], [c], .ref 0 :: xs.map D.p, r.one ea hM hc, .cons (.ref rfl) rs.rps.rds, ?_⟩
              split at h
              · rename_i x c' hf
                split at h
                · rename_i hc'
                  rw [hf]
                  intro F' ι' H' e r' v rv
                  obtain ⟨r1, e1⟩ := r.over1 ea hM hc hc' e r'
                  exact h F' ι H' e1 r1 v rv.pureι
                · exact h.elim
              · rename_i c0 x c' hf
                split at h
                · rename_i hc'
                  rw [hf]
                  intro F' ι' H' cls dd e r' xr
                  obtain ⟨r1, e1⟩ := r.over1 ea hM hc hc' e r'
                  exact h F' ι H' cls dd e1 r1 (xr.pureι r.there)
                · exact h.elim
              · exact h.elim
        · exact h.elim
      · exact h.elim
    · exact h.elim
end
end Mi

set_option maxRecDepth 100000
set_option maxHeartbeats 2000000
/-! Calls of defs, methods, classes as expressions. -/
namespace Mi
open PySem PySem.Spec L2
section
variable {X : Cx} {CX : CXT} {k : Nat} {f C : Addr} {fd : FuncData} {ps : List Str} {sp : Sp} {dvs : List V} {ds : List Value} {E : XK} {σ : St}
theorem run_fnA {pins : List (Addr × Obj)} {H : Hp} {s : Shared} {Q : VK} {us : List Value} {vs : List V} (F : FnG X.prog X.w X.K X.mg X.base CX k f fd ps sp) (hr : Room k X.A) (hgd : X.A.guards = some []) (hb : Binds X.K fd ps ds) (hd : Vals dvs ds) (hx : PassesAt CX X σ E)
    (I : Inv X pins σ H s) (r : Vals vs us) (h : sp (vs ++ dvs) H Q E) : wpAny (model X.prog X.w) X.A (call (.ref f) us) (EP X pins σ Q) X.xe s := by
  have r2 : Vals (vs ++ dvs) (us ++ ds) := r.append hd
  have hl : (us ++ ds).length = ps.length := by rw [← r2.length]; exact F.len _ _ _ _ h
  refine wpAny_call (codeAny_mono (F.run X.A X.stack s H ⟨us, []⟩ (us ++ ds) (vs ++ dvs) Q E hr hgd I.env0 (hb s us I.kIn hl) r2 h) fun r s' hq => ?_)
  cases r with
  | error e => exact hx pins H s e s' I hq
  | ok fl =>
    cases fl with
    | ret u => exact I.after hq
    | next => exact False.elim hq
    | brk => exact False.elim hq
    | cont => exact False.elim hq
theorem run_makeA {pins : List (Addr × Obj)} {H : Hp} {s : Shared} {Q : VK} {us : List Value} {vs : List V} (M : Mk X.K C f) (F : FnG X.prog X.w X.K X.mg X.base CX k f fd ps sp) (hr : Room (k + 1) X.A) (hgd : X.A.guards = some []) (hb : Binds X.K fd ps ds) (hd : Vals dvs ds)
    (hx : PassesAt CX X σ E) (I : Inv X pins σ H s) (r : Vals vs us)
    (h : ∀ x dx, H x = none → H dx = none → dx ≠ x → sp (.ref x :: (vs ++ dvs)) (upd (upd H dx (.own x)) x (.ins C dx [])) (fun v H2 => v = .non ∧ Q (.ref x) H2) E) :
    wpAny (model X.prog X.w) X.A (call (.ref C) us) (EP X pins σ Q) X.xe s := by
  have hq := h (s.heap.objs.size + 1) s.heap.objs.size (I.hok.fresh (Nat.le_succ _)) (I.hok.fresh (Nat.le_refl _)) (Nat.ne_of_lt (Nat.lt_succ_self _))
  have I2 := Inv.made (C := C) I
  have r2 : Vals (V.ref (s.heap.objs.size + 1) :: (vs ++ dvs)) (Value.ref (s.heap.objs.size + 1) :: (us ++ ds)) := .cons rfl (r.append hd)
  have hl : (Value.ref (s.heap.objs.size + 1) :: us ++ ds).length = ps.length := by
    have e := r2.length
    rw [F.len _ _ _ _ hq] at e
    exact e.symm
  refine wpAny_call (make_map (f := f) I.kIn M.makes M.init (beq_iff_eq.mp M.fn) (codeAny_mono (F.run _ X.stack _ _ ⟨Value.ref (s.heap.objs.size + 1) :: us, []⟩ (Value.ref (s.heap.objs.size + 1) :: (us ++ ds)) _ _ E (hr.make C us []) (by simpa [Around.under, Code.guards, Code.isGuard, pushGuards, show ¬ ("type.__call__" ∈ guardIds) by decide +kernel] using hgd)
    (I2.env0.make C us []) (hb _ (Value.ref (s.heap.objs.size + 1) :: us) I2.kIn hl) r2 hq) fun r s' hq' => ?_))
  cases r with
  | error e => exact hx pins _ _ e s' I2 hq'
  | ok fl =>
    cases fl with
    | ret u =>
      obtain ⟨v, H', I3, rv, ev, q3⟩ := I2.after hq'
      subst ev
      exact ⟨rv, ⟨V.ref (s.heap.objs.size + 1), H', I3, rfl, q3⟩⟩
    | next => exact False.elim hq'
    | brk => exact False.elim hq'
    | cont => exact False.elim hq'
end
section
variable {X : Cx} {CX : CXT} {k n : Nat} {f C : Addr} {fd : FuncData} {ps ks : List Str} {sp : Sp} {E : XK} {σ : St} {gg : List Value → List Value → List Value} {gV : List V → List V → List V}
theorem run_makeAK {pins : List (Addr × Obj)} {H : Hp} {s : Shared} {Q : VK} {us ws : List Value} {vs zs : List V} (M : Mk X.K C f) (F : FnG X.prog X.w X.K X.mg X.base CX k f fd ps sp) (hr : Room (k + 1) X.A) (hgd : X.A.guards = some []) (hb : KBn X.K fd ps (n + 1) ks gg gV)
    (hx : PassesAt CX X σ E) (I : Inv X pins σ H s) (r : Vals vs us) (rz : Vals zs ws) (l1 : vs.length = n) (l2 : zs.length = ks.length)
    (h : ∀ x dx, H x = none → H dx = none → dx ≠ x → sp (gV (.ref x :: vs) zs) (upd (upd H dx (.own x)) x (.ins C dx [])) (fun v H2 => v = .non ∧ Q (.ref x) H2) E) :
    wpAny (model X.prog X.w) X.A (call (.ref C) us (ks.zip ws)) (EP X pins σ Q) X.xe s := by
  have hq := h (s.heap.objs.size + 1) s.heap.objs.size (I.hok.fresh (Nat.le_succ _)) (I.hok.fresh (Nat.le_refl _)) (Nat.ne_of_lt (Nat.lt_succ_self _))
  have I2 := Inv.made (C := C) I
  have r1 : Vals (V.ref (s.heap.objs.size + 1) :: vs) (Value.ref (s.heap.objs.size + 1) :: us) := .cons rfl r
  have r2 := hb.rel r1 rz
  have n1 : (Value.ref (s.heap.objs.size + 1) :: us).length = n + 1 := by
    rw [List.length_cons, ← r.length, l1]
  refine wpAny_call (make_map (f := f) I.kIn M.makes M.init (beq_iff_eq.mp M.fn) (codeAny_mono (F.run _ X.stack _ _ ⟨Value.ref (s.heap.objs.size + 1) :: us, ks.zip ws⟩ (gg (Value.ref (s.heap.objs.size + 1) :: us) ws) _ _ E (hr.make C us (ks.zip ws)) (by simpa [Around.under, Code.guards, Code.isGuard, pushGuards, show ¬ ("type.__call__" ∈ guardIds) by decide +kernel] using hgd)
    (I2.env0.make C us (ks.zip ws)) (hb.to _ (Value.ref (s.heap.objs.size + 1) :: us) ws I2.kIn n1 (rz.length.symm.trans l2)) r2 hq) fun r s' hq' => ?_))
  cases r with
  | error e => exact hx pins _ _ e s' I2 hq'
  | ok fl =>
    cases fl with
    | ret u =>
      obtain ⟨v, H', I3, rv, ev, q3⟩ := I2.after hq'
      subst ev
      exact ⟨rv, ⟨V.ref (s.heap.objs.size + 1), H', I3, rfl, q3⟩⟩
    | next => exact False.elim hq'
    | brk => exact False.elim hq'
    | cont => exact False.elim hq'
end
/-- a call with keywords: so many positional values, the keywords' names, where the rest comes from -/
structure KSh where
  n : Nat
  ks : List Str
  src : List (Sum P Nat)
/-- a def of the table: its name, its parameters, its defaults, its level, what it is -/
inductive Kd | fn | meth (c : Nat) | init (c : Nat) | prop (c : Nat)
  deriving DecidableEq
structure Ent where
  name : Str
  ps : List Str
  dfl : List P
  lvl : Nat
  kd : Kd
  kwd : List (Str × P)
  shp : List KSh
/-- how the defaults fill up -/
def DflOk (g : Gx) (fd : FuncData) (ps : List Str) (dfl : List P) : Prop := ∀ n, n ≤ dfl.length → ∃ dvs ds, Binds g.K fd ps ds ∧ Vals dvs ds ∧ ∀ F, RPs g F dvs (dfl.drop (dfl.length - n))
/-- a def of the table does what its function says -/
def EntOk (g : Gx) (X : Cx) (j : Fn) (e : Ent) : Prop := ∃ f fd, FnG X.prog X.w X.K X.mg X.base (L2.CX X.prog X.w) e.lvl f fd e.ps (spF g j e.ps.length) ∧ DflOk g fd e.ps e.dfl ∧ match e.kd with
  | .fn => X.mg e.name = some (.ref f) ∧ PySem.W.keepIn X.K (.ref f) = true ∧ (e.name == ("__debug__" : Str)) = false
  | .meth c => g.nc c = true ∧ Meth X.K (g.ca c) e.name f
  | .init c => g.nc c = true ∧ X.mg e.name = some (.ref (g.ca c)) ∧ Mk X.K (g.ca c) f ∧ (e.name == ("__debug__" : Str)) = false
  | .prop c => g.nc c = true ∧ ∃ p, PropOf X.K (g.ca c) e.name p f
def KShOk (g : Gx) (fd : FuncData) (ps : List Str) (s : KSh) : Prop := ∃ mv mvV, KBn g.K fd ps s.n s.ks (fun us ws => us ++ pick s.src mv ws) (fun vs zs => vs ++ pick s.src mvV zs) ∧ ∀ F, RPs g F mvV (lefts s.src)
def EntK (g : Gx) (X : Cx) (j : Fn) (e : Ent) : Prop := ∃ f fd c, FnG X.prog X.w X.K X.mg X.base (L2.CX X.prog X.w) e.lvl f fd e.ps (spF g j e.ps.length) ∧ (∀ s ∈ e.shp, KShOk g fd e.ps s) ∧ e.kd = .init c ∧ g.nc c = true ∧ X.mg e.name = some (.ref (g.ca c)) ∧ Mk X.K (g.ca c) f ∧ (e.name == ("__debug__" : Str)) = false
def EntAll (g : Gx) (X : Cx) (j : Fn) (e : Ent) : Prop := (e.shp = [] → EntOk g X j e) ∧ (e.shp ≠ [] → EntK g X j e)
def kwB : List Str → List Keyword → Bool
  | [], [] => true
  | k :: ks, ⟨some x, _, _⟩ :: r => decide (x = k) && kwB ks r
  | _, _ => false
theorem kwB_ok {pos : Pos} {env : PySem.Env} : ∀ {ks : List Str} {kws : List Keyword}, kwB ks kws = true → (backToKw pos (keywordEach kws env)).all (·.1.isSome) = true ∧ (backToKw pos (keywordEach kws env)).filterMap (·.1) = ks ∧ (backToKw pos (keywordEach kws env)).any (·.1.isNone) = false
  | [], [], _ => ⟨rfl, rfl, rfl⟩
  | k :: ks, ⟨some x, e, p⟩ :: r, h => by
    simp only [kwB, Bool.and_eq_true, decide_eq_true_eq] at h
    obtain ⟨rfl, h⟩ := h
    obtain ⟨h1, h2, h3⟩ := kwB_ok (pos := pos) (env := env) h
    exact ⟨h1, congrArg (x :: ·) h2, h3⟩
  | [], ⟨_, _, _⟩ :: r, h => by cases h
  | k :: ks, [], h => by cases h
  | k :: ks, ⟨none, e, p⟩ :: r, h => by cases h
section
variable {X : Cx} {g : Gx} {cg : Cg} {W : WX} {k : Nat}
theorem pick_rds {F : Hp} {ι : List Addr} {zs : List V} {es : List D} (rz : RDs g F ι zs es) : ∀ {src : List (Sum P Nat)} {mv : List V} {ds : List D}, RDs g F ι mv ds → RDs g F ι (pick src mv zs) (pick src ds es)
  | [], _, _, _ => .nil
  | .inl x :: r, _, _, .nil => pick_rds rz (src := r) .nil
  | .inl x :: r, _, _, .cons a t => .cons a (pick_rds rz (src := r) t)
  | .inr j :: r, mv, ds, h => by
    have ih := pick_rds rz (src := r) h
    show RDs g F ι ((zs[j]?).toList ++ _) ((es[j]?).toList ++ _)
    cases e : es[j]? with
    | none =>
      have : zs[j]? = none := by
        rw [List.getElem?_eq_none_iff] at e ⊢
        rw [rz.length]; exact e
      rw [this]
      exact ih
    | some d =>
      obtain ⟨v, e1, e2⟩ := rz.get e
      rw [e1]
      exact .cons e2 ih
theorem PK.weak {X : Cx} {e : List Keyword} {t t' : TA} (h : PK X e t) (k : ∀ σ H Q, t' σ H Q → t σ H Q) : PK X e t' := ⟨fun pos pins s σ H Q I q => h.run pos pins s σ H Q I (k σ H Q q)⟩
theorem k_nil : PK X [] (tAs g cg W []) := PK.weak pk_nil fun σ H Q ⟨F, ι, M, ρ, r, s, ok⟩ => Ok.here ok r [] .nil
theorem k_cons {A : ME} {As : List ME} {nm : Option Str} {a : Expr} {kpos : Pos} {as : List Keyword} (ha : PE X a (tE g cg W A)) (hs : PK X as (tAs g cg W As)) : PK X (⟨nm, a, kpos⟩ :: as) (tAs g cg W (A :: As)) := by
  refine PK.weak (pk_cons ha hs) fun σ H Q ⟨F, ι, M, ρ, r, s, ok⟩ => ?_
  refine tE_bind r s ok fun v d F1 ι1 M1 H1 r1 s1 rv ok1 _ => ?_
  exact tA_bind r1 s1 ok1 fun vs ds F2 ι2 M2 H2 r2 s2 rs ok2 e2 => Ok.here ok2 r2 _ (.cons (rv.ext e2) rs)
theorem e_call (hK : X.K = g.K) (hr : Room k X.A) (hgd : X.A.guards = some []) (tk : Takes X W) {j : Nat} {md : Md} {As : List ME} {n : Nat} {as : List Expr} {p pos : Pos} {e : Ent} (E : EntOk g X (cg.Φ j) e) (hkd : e.kd = .fn) (hlv : e.lvl ≤ k) (hg : Gl X e.name) (hs : noStar as = true)
    (hn : n ≤ e.dfl.length) (hlen : As.length + n = e.ps.length) (ha : PA X as (tAs g cg W As)) (has : as = [] → As = []) : PE X (.Call (.Name e.name p) as [] pos) (tE g cg W (.call j md As (e.dfl.drop (e.dfl.length - n)))) := by
  obtain ⟨f, fd, F, DD, h⟩ := E
  rw [hkd] at h
  obtain ⟨hm, hkp, hdb⟩ := h
  obtain ⟨dvs, ds, hb, hd, hrp⟩ := DD n hn
  refine ⟨fun pins s σ H Q I ⟨F0, ι, M, ρ, rel, sl, ok⟩ => ?_⟩
  simp only [ev_call] at ok
  have key : tAs g cg W As σ H fun vs H1 => spF g (cg.Φ j) e.ps.length (vs ++ dvs) H1 Q (WE W σ) := by
    have ok2 := ok.bind
    refine ⟨F0, ι, M, ρ, rel, sl, ?_⟩
    cases z : evs cg As ρ M with
    | stuck => rw [z] at ok2; exact ok2
    | exc c v M' => rw [z] at ok2; exact ok2
    | ok ds' M' =>
      rw [z] at ok2
      intro F1 ι1 H1 e1 r1 vs rs
      obtain ⟨_, _, ok3⟩ := ok2 F1 ι1 H1 e1 r1
      have rs2 : RDs g F1 ι1 (vs ++ dvs) (ds' ++ (e.dfl.drop (e.dfl.length - n)).map D.p) := rs.append (hrp F1).rds
      have := callF_ok r1 rs2 ok3
      have hl : (vs ++ dvs).length = e.ps.length := by
        rw [List.length_append, rs.length, evs_len As ρ M ds' M' z, (hrp F1).length, List.length_drop]
        omega
      rw [hl] at this
      exact this
  refine wpAny_Call_Name_kw (ld_glob I hg hm ?_ hdb)
  have hb' : Binds X.K fd e.ps ds := by rw [hK]; exact hb
  cases as with
  | nil =>
    obtain rfl := has rfl
    obtain ⟨F1, ι1, M1, ρ1, rel1, sl1, ok1⟩ := key
    have := Ok.here ok1 rel1 [] .nil
    exact PySem.W.callWith_K0 I.kIn hkp (run_fnA (us := []) F (hr.mono hlv) hgd hb' hd (passAt tk σ) I .nil this)
  | cons a as =>
    refine PySem.W.callWith_K (h₀ := X.base) I.ok.mod.kin hkp (thn (ha.run pos pins s σ H _ I key) fun us s1 ⟨vs, H1, I1, r, q⟩ => ⟨I1.kIn, ?_⟩) (star_ne (noStar_head hs)) (star_any (noStar_tail hs))
    exact run_fnA F (hr.mono hlv) hgd hb' hd (passAt tk σ) I1 r q
theorem e_isb (hK : X.K = g.K) (hr : Room k X.A) (hgd : X.A.guards = some []) (tk : Takes X W) {neg : Bool} {j : Nat} {As : List ME} {n : Nat} {as : List Expr} {p pos p2 p3 : Pos} {c2 : Nat} {e : Ent} (E : EntOk g X (cg.Φ j) e) (hkd : e.kd = .fn) (hlv : e.lvl ≤ k) (hg : Gl X e.name) (hs : noStar as = true)
    (hn : n ≤ e.dfl.length) (hlen : As.length + n = e.ps.length) (ha : PA X as (tAs g cg W As)) (has : as = [] → As = []) : PE X (.Compare (.Call (.Name e.name p) as [] pos) [opC (if neg = true then .isnn else .isn)] [.Constant .none c2 p2] p3) (tE g cg W (.isb neg j As (e.dfl.drop (e.dfl.length - n)))) ∧ PT X (.Compare (.Call (.Name e.name p) as [] pos) [opC (if neg = true then .isnn else .isn)] [.Constant .none c2 p2] p3) (tT g cg W (.isb neg j As (e.dfl.drop (e.dfl.length - n)))) := by
  obtain ⟨f, fd, F, DD, h⟩ := E
  rw [hkd] at h
  obtain ⟨hm, hkp, hdb⟩ := h
  obtain ⟨dvs, ds, hb, hd, hrp⟩ := DD n hn
  have call : PE X (.Call (.Name e.name p) as [] pos) (fun σ H Q => tAs g cg W As σ H fun vs H1 => spF g (cg.Φ j) e.ps.length (vs ++ dvs) H1 Q (WE W σ)) := by
    refine ⟨fun pins s σ H Q I key => ?_⟩
    refine wpAny_Call_Name_kw (ld_glob I hg hm ?_ hdb)
    have hb' : Binds X.K fd e.ps ds := by rw [hK]; exact hb
    cases as with
    | nil =>
      obtain rfl := has rfl
      obtain ⟨F1, ι1, M1, ρ1, rel1, sl1, ok1⟩ := key
      have := Ok.here ok1 rel1 [] .nil
      exact PySem.W.callWith_K0 I.kIn hkp (run_fnA (us := []) F (hr.mono hlv) hgd hb' hd (passAt tk σ) I .nil this)
    | cons a as =>
      refine PySem.W.callWith_K (h₀ := X.base) I.ok.mod.kin hkp (thn (ha.run pos pins s σ H _ I key) fun us s1 ⟨vs, H1, I1, r, q⟩ => ⟨I1.kIn, ?_⟩) (star_ne (noStar_head hs)) (star_any (noStar_tail hs))
      exact run_fnA F (hr.mono hlv) hgd hb' hd (passAt tk σ) I1 r q
  have hop : OpR X (compareOp (opC (if neg = true then .isnn else .isn))) (fun x y H Q => y = .non ∧ Q (.bl (if neg = true then !decide (x = .non) else decide (x = .non))) H) := by
    cases neg with
    | false => exact op_isN
    | true => exact op_notN
  have both : ∀ {σ : St} {H : Hp} {Q : VK}, tE g cg W (.isb neg j As (e.dfl.drop (e.dfl.length - n))) σ H Q → tAs g cg W As σ H fun vs H1 => spF g (cg.Φ j) e.ps.length (vs ++ dvs) H1 (fun x H1 => V.non = .non ∧ Q (.bl (if neg = true then !decide (x = .non) else decide (x = .non))) H1) (WE W σ) := by
    intro σ H Q ⟨F0, ι, M, ρ, rel, sl, ok⟩
    simp only [ev_isb] at ok
    have ok2 := ok.bind
    refine ⟨F0, ι, M, ρ, rel, sl, ?_⟩
    cases z : evs cg As ρ M with
    | stuck => rw [z] at ok2; exact ok2
    | exc c v M' => rw [z] at ok2; exact ok2
    | ok ds' M' =>
      rw [z] at ok2
      intro F1 ι1 H1 e1 r1 vs rs
      obtain ⟨_, _, ok3⟩ := ok2 F1 ι1 H1 e1 r1
      have rs2 : RDs g F1 ι1 (vs ++ dvs) (ds' ++ (e.dfl.drop (e.dfl.length - n)).map D.p) := rs.append (hrp F1).rds
      have := isbR_ok r1 rs2 ok3
      have hl : (vs ++ dvs).length = e.ps.length := by
        rw [List.length_append, rs.length, evs_len As ρ M ds' M' z, (hrp F1).length, List.length_drop]
        omega
      rw [hl] at this
      exact this
  refine ⟨PE.weak (pe_cmpR hop call (pe_non (j := c2) (pos := p2)) rfl) fun σ H Q h => both h, PT.weak (pt_cmpR hop call (pe_non (j := c2) (pos := p2)) rfl) fun σ H Q h => ?_⟩
  refine both (Q := fun v H1 => ∃ b, v = .bl b ∧ Q b H1) ?_
  obtain ⟨F0, ι, M, ρ, rel, sl, ok⟩ := h
  refine ⟨F0, ι, M, ρ, rel, sl, ?_⟩
  simp only [evT_isb] at ok
  have hbl : ∀ x M', ev cg (.isb neg j As (e.dfl.drop (e.dfl.length - n))) ρ M = .ok x M' → ∃ b, x = .p (.bl b) := fun x M' hx => by
    simp only [ev_isb] at hx
    cases z : evs cg As ρ M with
    | stuck => rw [z] at hx; cases hx
    | exc c v M' => rw [z] at hx; cases hx
    | ok ds' M' =>
      rw [z] at hx
      simp only [R.bind_ok, isbR] at hx
      split at hx
      · cases hx
      · split at hx
        · cases hx; exact ⟨_, rfl⟩
        · cases hx
  cases z : ev cg (.isb neg j As (e.dfl.drop (e.dfl.length - n))) ρ M with
  | stuck => rw [z] at ok; exact ok
  | exc c v M' => rw [z] at ok; exact ok
  | ok x M' =>
    obtain ⟨b, rfl⟩ := hbl _ _ z
    rw [z] at ok
    intro F' ι' H' ex r' v rv
    cases rv with
    | p rv =>
      cases rv
      exact ⟨b, rfl, ok F' ι' H' ex r'⟩
theorem isIns_ok {cf : Nat → List Str} (hcf : cf = g.cf) {F : Hp} {ι : List Addr} {M : Sto} {H : Hp} {x : V} {d : D} {c : Nat} {nm : Str} (rel : Rel g F ι M H) (r : RD g F ι x d) (e : isIns cf c nm d M = true) :
    ∃ a dx fs, x = .ref a ∧ H a = some (.ins (g.ca c) dx fs) ∧ fs.lookup nm = none := by
  subst hcf
  have look : ∀ (fs : List (Str × V)) (nm : Str), nm ∉ fs.map (·.1) → fs.lookup nm = none := by
    intro fs nm h
    induction fs with
    | nil => rfl
    | cons q fs ih =>
      obtain ⟨n, v⟩ := q
      simp only [List.map_cons, List.mem_cons, not_or] at h
      have hb : (nm == n) = false := beq_eq_false_iff_ne.mpr h.1
      simp only [List.lookup, hb]
      exact ih h.2
  unfold isIns at e
  split at e
  · simp only [Bool.and_eq_true, decide_eq_true_eq] at e
    obtain ⟨rfl, e⟩ := e
    cases r with
    | p r =>
      cases r with
      | obj hc ea hk ra => exact ⟨_, _, _, rfl, rel.sub _ _ ea, look _ _ (by rw [hk]; exact e)⟩
  · rename_i n
    split at e
    · rename_i c' fs hM
      simp only [Bool.and_eq_true, decide_eq_true_eq] at e
      obtain ⟨rfl, e⟩ := e
      cases r with
      | @ref _ a ea =>
        obtain ⟨_, hc, dx, ws, e1, e2, _⟩ := rel.cells n a _ ea hM
        exact ⟨a, dx, ws, rfl, e1, look _ _ (by rw [e2]; exact e)⟩
    · cases e
  · cases e
theorem e_meth (hK : X.K = g.K) (C : ClsOk g) (hcf : cg.cf = g.cf) (hr : Room k X.A) (hgd : X.A.guards = some []) (tk : Takes X W) {j c : Nat} {md : Md} {A : ME} {As : List ME} {n : Nat} {o : Expr} {as : List Expr} {apos pos : Pos} {e : Ent} {pl : Sem Bool} (E : EntOk g X (cg.Φ j) e) (hkd : e.kd = .meth c) (hlv : e.lvl ≤ k) (hs : noStar as = true)
    (hn : n ≤ e.dfl.length) (hlen : As.length + n + 1 = e.ps.length) (ho : PE X o (tE g cg W A)) (ha : PA X as (tAs g cg W As)) (has : as = [] → As = [])
    (ht : eval (.Call (.Attribute o e.name apos) as [] pos) X.env = (do
      let ov ← eval o X.env
      standAt apos.atName
      let (f, first) ← holding [ov] (getMethod ov e.name pl)
      callWith pos f first (backTo pos (starEach as X.env)) (backToKw pos (keywordEach [] X.env)))) :
    PE X (.Call (.Attribute o e.name apos) as [] pos) (tE g cg W (.meth c e.name j md A As (e.dfl.drop (e.dfl.length - n)))) := by
  obtain ⟨f, fd, F, DD, h⟩ := E
  rw [hkd] at h
  obtain ⟨hc, hm⟩ := h
  obtain ⟨dvs, ds, hb, hd, hrp⟩ := DD n hn
  have hb' : Binds X.K fd e.ps ds := by rw [hK]; exact hb
  refine ⟨fun pins s σ H Q I ⟨F0, ι, M, ρ, rel, sl, ok⟩ => ?_⟩
  simp only [ev_meth] at ok
  have key : tE g cg W A σ H fun x H1 => ∃ a dx fs, x = .ref a ∧ H1 a = some (.ins (g.ca c) dx fs) ∧ fs.lookup e.name = none ∧ tAs g cg W As σ H1 fun vs H2 => spF g (cg.Φ j) e.ps.length (.ref a :: (vs ++ dvs)) H2 Q (WE W σ) := by
    refine tE_bind rel sl ok fun v d F1 ι1 M1 H1 r1 s1 rv ok1 _ => ?_
    split at ok1
    · rename_i hi
      obtain ⟨a, dx, fs, rfl, ea, hl⟩ := isIns_ok hcf r1 rv hi
      refine ⟨a, dx, fs, rfl, ea, hl, F1, ι1, M1, ρ, r1, s1, ?_⟩
      have ok2 := ok1.bind
      cases z : evs cg As ρ M1 with
      | stuck => rw [z] at ok2; exact ok2
      | exc c v M' => rw [z] at ok2; exact ok2
      | ok ds' M' =>
        rw [z] at ok2
        intro F2 ι2 H2 e2 r2 vs rs
        obtain ⟨_, _, ok3⟩ := ok2 F2 ι2 H2 e2 r2
        have rs2 : RDs g F2 ι2 (.ref a :: (vs ++ dvs)) (d :: (ds' ++ (e.dfl.drop (e.dfl.length - n)).map D.p)) := .cons (rv.ext e2) (rs.append (hrp F2).rds)
        have := callF_ok r2 rs2 ok3
        have hl : (V.ref a :: (vs ++ dvs)).length = e.ps.length := by
          rw [List.length_cons, List.length_append, rs.length, evs_len As ρ M1 ds' M' z, (hrp F2).length, List.length_drop]
          omega
        rw [hl] at this
        exact this
    · exact ok1.elim
  have cl : Cls X.K (g.ca c) := by rw [hK]; exact C.cl c hc
  refine PySem.W.methodCall_KW (pl := pl) (thn (ho.run pins s σ H _ I key) fun u s1 ⟨x, H1, I1, rx, a, dx, fs, ex, ea, l, q⟩ => ?_) ht
  subst ex
  obtain rfl : u = Value.ref a := rx
  refine getmeth_ok I1 ea cl hm l ?_
  cases as with
  | nil =>
    obtain rfl := has rfl
    obtain ⟨F1, ι1, M1, ρ1, rel1, sl1, ok1⟩ := q
    have := Ok.here ok1 rel1 [] .nil
    exact PySem.W.callWith_K0 (first := [.ref a]) I1.kIn hm.kp (run_fnA (us := [.ref a]) (vs := [.ref a]) F (hr.mono hlv) hgd hb' hd (passAt tk σ) I1 (.cons rfl .nil) this)
  | cons b as =>
    refine PySem.W.callWith_K (first := [.ref a]) (h₀ := X.base) I.ok.mod.kin hm.kp (thn (ha.run pos pins s1 σ H1 _ I1 q) fun us s2 ⟨vs, H2, I2, r, q2⟩ => ⟨I2.kIn, ?_⟩) (star_ne (noStar_head hs)) (star_any (noStar_tail hs))
    exact run_fnA (us := .ref a :: us) (vs := .ref a :: vs) F (hr.mono hlv) hgd hb' hd (passAt tk σ) I2 (.cons rfl r) q2
/-- a getter's promise, read at an instance -/
theorem prop_G {C p gf a dx : Addr} {fs : List (Str × V)} {nm : Str} {fd : FuncData} {ps : List Str} {sp : Sp} {pins : List (Addr × Obj)} {σ : St} {H : Hp} {s : Shared} {Q : VK} {b : Bool} {E' : Value → Shared → Prop} (I : Inv X pins σ H s) (ea : H a = some (.ins C dx fs)) (cl : Cls X.K C) (hp : PropOf X.K C nm p gf)
    (F : FnG X.prog X.w X.K X.mg X.base (L2.CX X.prog X.w) k gf fd ps sp) (hr : Room (k + 1) X.A) (hgd : X.A.guards = some []) (hb : Binds X.K fd ps []) (h : sp [.ref a] H Q (WE Wf σ)) : wpAny (model X.prog X.w) X.A (getAttr (.ref a) nm b) (EP X pins σ Q) E' s := by
  obtain ⟨m0, O, _⟩ := ins_get I.hok ea
  obtain ⟨od, J, _⟩ := O.look
  obtain ⟨rest, hrec⟩ := hp.rec_
  have I1 := I.tok (s.toks + 1)
  have hl : ([Value.ref a] ++ []).length = ps.length := F.len _ _ _ _ h
  have hcs : (PySem.W.clsIn X.K C).isSome = true := by
    obtain ⟨cd, q, _⟩ := PySem.W.any_some cl.hd
    rw [q]; rfl
  have hg := PySem.W.plainGet_of (cl.get nm)
  refine PySem.W.get_bind I.kIn J hg.1 (PySem.W.findObj_data hcs hp.at_ hp.get hp.tak) hg.2 (wpAny_call (PySem.W.prop_get (s := { s with toks := s.toks + 1 }) I.kIn hrec ?_))
  refine codeAny_mono (F.run X.A.in1 X.stack _ H ⟨[.ref a], []⟩ [.ref a] [.ref a] Q (WE Wf σ) hr.in1 hgd I1.env0.in1 (hb _ [.ref a] I1.kIn hl) (.cons rfl .nil) h) fun r s' hq => ?_
  match r, hq with
  | .error er, hq => exact (passAt (X := X.nox) (W := Wf) takes0 σ pins H _ er s' (I1.wish _) hq).elim
  | .ok (.ret u), hq =>
    obtain ⟨v, H', I3, rv, q3⟩ := I1.after hq
    show wpAny _ _ (handedOut u) _ _ _
    rw [PySem.W.handedOut_of (handed_of rv)]
    exact wpAny_pure ⟨v, H', I3, rv, q3⟩
  | .ok .next, hq => exact hq.elim
  | .ok .brk, hq => exact hq.elim
  | .ok .cont, hq => exact hq.elim
theorem noex_ok {α : Type} {r : R α} {σ : St} {F : Hp} {ι : List Addr} {H : Hp} {kk : Kt α} (h : Ok g W σ F ι H r.noex kk) : Ok g Wf σ F ι H r kk := by
  cases r with
  | stuck => exact h
  | ok a M => exact h
  | exc c v M => exact h.elim
theorem e_prop (hK : X.K = g.K) (C : ClsOk g) (hcf : cg.cf = g.cf) (hr : Room k X.A) (hgd : X.A.guards = some []) {j c : Nat} {A : ME} {o : Expr} {pos : Pos} {e : Ent} (E : EntOk g X (cg.Φ j) e) (hkd : e.kd = .prop c) (hlv : e.lvl + 1 ≤ k) (hlen : 1 = e.ps.length)
    (hbase : attributeBase o e.name X.env (eval o X.env) = eval o X.env) (ho : PE X o (tE g cg W A)) : PE X (.Attribute o e.name pos) (tE g cg W (.prop c e.name j A)) := by
  obtain ⟨f, fd, F, DD, h⟩ := E
  rw [hkd] at h
  obtain ⟨hc, p, hp⟩ := h
  obtain ⟨dvs, ds, hb, hd, hrp⟩ := DD 0 (Nat.zero_le _)
  have hn : dvs = [] := by
    have := (hrp fun _ => none).length
    rw [List.length_drop] at this
    exact List.eq_nil_of_length_eq_zero (by omega)
  subst hn
  cases hd
  have hb' : Binds X.K fd e.ps [] := by rw [hK]; exact hb
  refine ⟨fun pins s σ H Q I ⟨F0, ι, M, ρ, rel, sl, ok⟩ => ?_⟩
  simp only [ev_prop] at ok
  have key : tE g cg W A σ H fun x H1 => ∃ a dx fs, x = .ref a ∧ H1 a = some (.ins (g.ca c) dx fs) ∧ spF g (cg.Φ j) e.ps.length [.ref a] H1 Q (WE Wf σ) := by
    refine tE_bind rel sl ok fun v d F1 ι1 M1 H1 r1 s1 rv ok1 _ => ?_
    unfold propR at ok1
    split at ok1
    · rename_i hi
      obtain ⟨a, dx, fs, rfl, ea, _⟩ := isIns_ok hcf r1 rv hi
      refine ⟨a, dx, fs, rfl, ea, ?_⟩
      have := callF_ok r1 (vs := [.ref a]) (ds := [d]) (.cons rv .nil) (noex_ok ok1)
      rw [← hlen]
      exact this
    · exact ok1.elim
  have cl : Cls X.K (g.ca c) := by rw [hK]; exact C.cl c hc
  refine attr_of hbase (thn (ho.run pins s σ H _ I key) fun u s1 ⟨x, H1, I1, rx, a, dx, fs, ex, ea, q⟩ => ?_)
  subst ex
  obtain rfl : u = Value.ref a := rx
  exact prop_G I1 ea cl hp F (hr.mono hlv) hgd hb' q
theorem upd2_ne {H : Hp} {x dx b : Addr} {o o' : HO} (h1 : b ≠ x) (h2 : b ≠ dx) : upd (upd H dx o) x o' b = H b := by rw [upd_ne h1, upd_ne h2]
/-- the heap with a new instance, for a callee that is given it alone -/
theorem Rel.inst {F : Hp} {ι : List Addr} {M : Sto} {H : Hp} {x dx : Addr} {c : Nat} (r : Rel g F ι M H) (hc : g.nc c = true) (hx : H x = none) (hdx : H dx = none) (hne : dx ≠ x) : Rel g F [x] [.ins c []] (upd (upd H dx (.own x)) x (.ins (g.ca c) dx [])) := by
  refine ⟨fun b u e => ?_, by simp, rfl, fun n a c' e1 e2 => ?_, fun a ha => ?_⟩
  · have h := r.sub b u e
    rw [upd2_ne (ne_of_none h hx) (ne_of_none h hdx)]; exact h
  · cases n with
    | zero =>
      simp at e1 e2
      subst e1; subst e2
      exact ⟨r.sub.free hx, hc, dx, [], upd_same, rfl, .nil⟩
    | succ n => simp at e1
  · simp at ha; subst ha; exact ⟨_, upd_same⟩
/-- .. and back: the others as they were -/
theorem Rel.inst_over {F F' : Hp} {ι ι' : List Addr} {M M' : Sto} {H H' : Hp} {x dx : Addr} {o : HO} (r : Rel g F ι M H) (hx : H x = none) (hdx : H dx = none) (hne : dx ≠ x) (e : Ext F [x] (upd (upd H dx (.own x)) x o) F' ι' H') (r' : Rel g F' ι' M' H') :
    Rel g F' ι M H' ∧ Ext F ι H F' ι H' ∧ (∀ b ∈ ι, b ≠ x) := by
  have hιx : ∀ b ∈ ι, b ≠ x := fun b hb z => by
    obtain ⟨u, q⟩ := r.there b hb
    rw [z, hx] at q; cases q
  have hιd : ∀ b ∈ ι, b ≠ dx := fun b hb z => by
    obtain ⟨u, q⟩ := r.there b hb
    rw [z, hdx] at q; cases q
  have hfrm : ∀ b u, H b = some u → H' b = some u := fun b u q => by
    have h1 := ne_of_none q hx
    exact e.frame b u (by rw [upd2_ne h1 (ne_of_none q hdx)]; exact q) (by simpa using h1)
  have hst : ∀ a ∈ ι, H' a = H a := fun a ha => by
    obtain ⟨u, q⟩ := r.there a ha
    rw [q]; exact hfrm a u q
  have hfz : ∀ b u, F' b = some u → F b = some u ∨ H b = none ∨ b ∈ ι := fun b u q => by
    rcases e.froz b u q with z | z | z
    · exact .inl z
    · refine .inr (.inl ?_)
      by_cases h1 : b = x
      · rw [h1]; exact hx
      · by_cases h2 : b = dx
        · rw [h2]; exact hdx
        · rw [upd2_ne h1 h2] at z; exact z
    · simp at z; subst z; exact .inr (.inl hx)
  have hfr : ∀ a ∈ ι, F a = none → F' a = none := fun a ha hn => by
    cases q : F' a with
    | none => rfl
    | some u =>
      obtain ⟨w, q'⟩ := r.there a ha
      rcases e.froz a u q with z | z | z
      · rw [z] at hn; cases hn
      · rw [upd2_ne (hιx a ha) (hιd a ha), q'] at z; cases z
      · simp at z; exact absurd z (hιx a ha)
  refine ⟨⟨r'.sub, r.nd, r.len, fun n a c h1 h2 => ?_, fun a ha => ?_⟩, ⟨e.sub, ⟨[], by simp⟩, fun b o q _ => hfrm b o q, fun a ha => .inl ha, hfz, fun a ha => ?_⟩, hιx⟩
  · have ha := List.mem_of_getElem? h1
    exact (r.cells n a c h1 h2).mono e.sub ⟨[], by simp⟩ (fun hd => hfr a ha ((r.cells n a c h1 h2).free hd)) (hst a ha)
  · obtain ⟨u, q⟩ := r.there a ha
    exact ⟨u, by rw [hst a ha]; exact q⟩
  · obtain ⟨u, q⟩ := r.there a ha
    exact ⟨u, by rw [hst a ha]; exact q⟩
/-- a cell that nobody else holds becomes pure -/
theorem Rel.froze {F0 F : Hp} {ι : List Addr} {M : Sto} {H0 H : Hp} {x : Addr} {o : HO} (r : Rel g F ι M H) (e : Ext F0 ι H0 F ι H) (h0 : H0 x = none) (hx : H x = some o) (hF : F x = none) (hι : ∀ b ∈ ι, b ≠ x) : Rel g (upd F x o) ι M H ∧ Ext F0 ι H0 (upd F x o) ι H := by
  have hs : Same F (upd F x o) := fun b u z => by rw [upd_ne (ne_of_none z hF)]; exact z
  refine ⟨⟨fun b u z => ?_, r.nd, r.len, fun n a c q1 q2 => ?_, r.there⟩, ⟨e.sub.trans hs, e.pre, e.frame, e.new, fun b u z => ?_, e.keep⟩⟩
  · by_cases hb : b = x
    · subst hb; rw [upd_same] at z; cases z; exact hx
    · rw [upd_ne hb] at z; exact r.sub b u z
  · have ha := hι a (List.mem_of_getElem? q1)
    exact (r.cells n a c q1 q2).mono hs ⟨[], by simp⟩ (fun hd => by rw [upd_ne ha]; exact (r.cells n a c q1 q2).free hd) rfl
  · by_cases hb : b = x
    · subst hb; exact .inr (.inl h0)
    · rw [upd_ne hb] at z; exact e.froz b u z
theorem makeF_ok {cf : Nat → List Str} (hcf : cf = g.cf) {F : Hp} {ι : List Addr} {M : Sto} {H : Hp} {σ : St} {c : Nat} (hc : g.nc c = true) {md : Md} {f : Fn} {ds : List D} {vs : List V} {Q : VK} (r : Rel g F ι M H) (rs : RDs g F ι vs ds) (h : Ok g W σ F ι H (makeF cf c md f ds M) (kE g Q))
    (x dx : Addr) (hx : H x = none) (hdx : H dx = none) (hne : dx ≠ x) : spF g f (V.ref x :: vs).length (.ref x :: vs) (upd (upd H dx (.own x)) x (.ins (g.ca c) dx [])) (fun v H2 => v = .non ∧ Q (.ref x) H2) (WE W σ) := by
  subst hcf
  refine ⟨rfl, ?_⟩
  cases md with
  | «pure» =>
    simp only [makeF] at h
    split at h
    · exact h.elim
    · rename_i xs hxs
      have hds := toPs_eq hxs
      subst hds
      refine ⟨F, [x], [.ins c []], .ref 0 :: xs.map D.p, r.inst hc hx hdx hne, .cons (.ref rfl) rs.rps.rds, ?_⟩
      split at h
      · rename_i c' fs hf
        rw [hf]
        split at h
        · rename_i ys hys
          split at h
          · rename_i hk
            intro F' ι' H' e r' v rv
            obtain ⟨r1, e1, hι⟩ := r.inst_over hx hdx hne e r'
            have hι' : ι' = [x] := by
              obtain ⟨more, z⟩ := e.pre
              have hl := r'.len
              rw [z] at hl ⊢
              cases more with
              | nil => rfl
              | cons _ _ => simp at hl
            subst hι'
            obtain ⟨hFx, hc', dx', ws, q1, q2, q3⟩ := r'.cells 0 x _ rfl rfl
            obtain ⟨r2, e2⟩ := r1.froze e1 hx q1 hFx hι
            refine ⟨?_, h _ ι H' e2 r2 _ (.p (.obj hc' upd_same (by rw [q2]; exact hk) ?_))⟩
            · cases rv with | p rv => cases rv; rfl
            · rw [toPs_eq hys] at q3
              exact q3.rps.mono (fun b u z => by rw [upd_ne (ne_of_none z hFx)]; exact z)
          · exact h.elim
        · exact h.elim
      · rename_i c0 y c1 hf
        rw [hf]
        intro F' ι' H' cls dd e r' xr
        obtain ⟨r1, e1, _⟩ := r.inst_over hx hdx hne e r'
        refine h F' ι H' cls dd e1 r1 (XRep.pureι (ι := ι') ?_ r.there)
        · obtain ⟨q1, q0, q2, q3⟩ := xr
          refine ⟨q1, q0, fun d hd => ⟨?_, (q2 d hd).2⟩, q3⟩
          have z := (q2 d hd).1
          have n1 : d ≠ x := fun y => by rw [y, upd_same] at z; cases z
          rw [upd_ne n1] at z
          have n2 : d ≠ dx := fun y => by rw [y, upd_same] at z; cases z
          rw [upd_ne n2] at z
          exact z
      · exact h.elim
  | full =>
    simp only [makeF] at h
    have hxι := r.notin hx
    have e0 : Ext F ι H F (ι ++ [x]) (upd (upd H dx (.own x)) x (.ins (g.ca c) dx [])) := by
      refine ⟨Same.refl F, ⟨[x], rfl⟩, fun b u q _ => by rw [upd2_ne (ne_of_none q hx) (ne_of_none q hdx)]; exact q, fun a ha => ?_, fun b u q => .inl q, fun a ha => ?_⟩
      · rcases List.mem_append.mp ha with z | z
        · exact .inl z
        · simp at z; subst z; exact .inr hx
      · obtain ⟨u, q⟩ := r.there a ha
        exact ⟨u, by rw [upd2_ne (ne_of_none q hx) (ne_of_none q hdx)]; exact q⟩
    have r0 : Rel g F (ι ++ [x]) (M ++ [.ins c []]) (upd (upd H dx (.own x)) x (.ins (g.ca c) dx [])) := by
      refine ⟨fun b u q => ?_, ?_, by simp [r.len], fun n a c' q1 q2 => ?_, fun a ha => ?_⟩
      · have hq := r.sub b u q
        rw [upd2_ne (ne_of_none hq hx) (ne_of_none hq hdx)]; exact hq
      · rw [List.nodup_append]
        exact ⟨r.nd, by simp, fun a ha b hb z => by simp at hb; subst hb; subst z; exact hxι ha⟩
      · by_cases hn : n < ι.length
        · rw [List.getElem?_append_left hn] at q1
          rw [List.getElem?_append_left (by rw [← r.len]; exact hn)] at q2
          obtain ⟨u, q⟩ := r.there a (List.mem_of_getElem? q1)
          exact (r.cells n a c' q1 q2).mono (Same.refl F) ⟨[x], rfl⟩ (fun hd => (r.cells n a c' q1 q2).free hd) (upd2_ne (ne_of_none q hx) (ne_of_none q hdx))
        · rw [List.getElem?_append_right (by omega)] at q1
          rw [List.getElem?_append_right (by rw [← r.len]; omega)] at q2
          have e1 : n - ι.length = 0 := by
            have := (List.getElem?_eq_some_iff.mp q1).1
            simp at this; omega
          rw [← r.len, e1] at q2
          rw [e1] at q1
          simp at q1 q2
          subst q1; subst q2
          exact ⟨r.sub.free hx, hc, dx, [], upd_same, rfl, .nil⟩
      · rcases List.mem_append.mp ha with z | z
        · obtain ⟨u, q⟩ := r.there a z
          exact ⟨u, by rw [upd2_ne (ne_of_none q hx) (ne_of_none q hdx)]; exact q⟩
        · simp at z; subst z; exact ⟨_, upd_same⟩
    refine ⟨F, ι ++ [x], M ++ [.ins c []], .ref M.length :: ds, r0, .cons (.ref (by rw [← r.len]; simp)) (rs.ext e0), ?_⟩
    refine ok_exc ((h.ext e0).bind.mono fun d F1 ι1 M1 H1 _ _ ⟨e1, r1, ok1⟩ v rv => ?_)
    split at ok1
    · cases rv with
      | p rv =>
        cases rv
        refine ⟨rfl, Ok.here ok1 r1 _ (.ref (pre_get e1.pre (by rw [← r.len]; simp)))⟩
    · exact ok1.elim
  | own => exact h.elim
  | bor => exact h.elim
  | bow => exact h.elim
  | «mut» => exact h.elim
theorem e_make (hK : X.K = g.K) (hcf : cg.cf = g.cf) (hr : Room k X.A) (hgd : X.A.guards = some []) (tk : Takes X W) {j c : Nat} {md : Md} {As : List ME} {n : Nat} {as : List Expr} {p pos : Pos} {e : Ent} (E : EntOk g X (cg.Φ j) e) (hkd : e.kd = .init c) (hlv : e.lvl + 1 ≤ k) (hg : Gl X e.name) (hs : noStar as = true)
    (hn : n ≤ e.dfl.length) (hlen : As.length + n + 1 = e.ps.length) (ha : PA X as (tAs g cg W As)) (has : as = [] → As = []) : PE X (.Call (.Name e.name p) as [] pos) (tE g cg W (.make c j md As (e.dfl.drop (e.dfl.length - n)))) := by
  obtain ⟨f, fd, F, DD, h⟩ := E
  rw [hkd] at h
  obtain ⟨hc, hm, hmk, hdb⟩ := h
  obtain ⟨dvs, ds, hb, hd, hrp⟩ := DD n hn
  have hb' : Binds X.K fd e.ps ds := by rw [hK]; exact hb
  refine ⟨fun pins s σ H Q I ⟨F0, ι, M, ρ, rel, sl, ok⟩ => ?_⟩
  simp only [ev_make] at ok
  have key : tAs g cg W As σ H fun vs H1 => ∀ x dx, H1 x = none → H1 dx = none → dx ≠ x → spF g (cg.Φ j) e.ps.length (.ref x :: (vs ++ dvs)) (upd (upd H1 dx (.own x)) x (.ins (g.ca c) dx [])) (fun v H2 => v = .non ∧ Q (.ref x) H2) (WE W σ) := by
    have ok2 := ok.bind
    refine ⟨F0, ι, M, ρ, rel, sl, ?_⟩
    cases z : evs cg As ρ M with
    | stuck => rw [z] at ok2; exact ok2
    | exc c v M' => rw [z] at ok2; exact ok2
    | ok ds' M' =>
      rw [z] at ok2
      intro F1 ι1 H1 e1 r1 vs rs x dx hx hdx hne
      obtain ⟨_, _, ok3⟩ := ok2 F1 ι1 H1 e1 r1
      have rs2 : RDs g F1 ι1 (vs ++ dvs) (ds' ++ (e.dfl.drop (e.dfl.length - n)).map D.p) := rs.append (hrp F1).rds
      have := makeF_ok hcf hc r1 rs2 ok3 x dx hx hdx hne
      have hl : (V.ref x :: (vs ++ dvs)).length = e.ps.length := by
        rw [List.length_cons, List.length_append, rs.length, evs_len As ρ M ds' M' z, (hrp F1).length, List.length_drop]
        omega
      rw [hl] at this
      exact this
  refine wpAny_Call_Name_kw (ld_glob I hg hm ?_ hdb)
  have hr' := hr.mono hlv
  cases as with
  | nil =>
    obtain rfl := has rfl
    obtain ⟨F1, ι1, M1, ρ1, rel1, sl1, ok1⟩ := key
    have := Ok.here ok1 rel1 [] .nil
    exact PySem.W.callWith_K0 I.kIn hmk.kp (run_makeA (us := []) hmk F hr' hgd hb' hd (passAt tk σ) I .nil this)
  | cons a as =>
    refine PySem.W.callWith_K (h₀ := X.base) I.ok.mod.kin hmk.kp (thn (ha.run pos pins s σ H _ I key) fun us s1 ⟨vs, H1, I1, r, q⟩ => ⟨I1.kIn, ?_⟩) (star_ne (noStar_head hs)) (star_any (noStar_tail hs))
    exact run_makeA hmk F hr' hgd hb' hd (passAt tk σ) I1 r q
theorem e_makeK (hK : X.K = g.K) (hcf : cg.cf = g.cf) (hr : Room k X.A) (hgd : X.A.guards = some []) (tk : Takes X W) {j c : Nat} {md : Md} {As Kes : List ME} {as : List Expr} {kws : List Keyword} {p pos : Pos} {e : Ent} {s : KSh} (E : EntK g X (cg.Φ j) e) (hkd : e.kd = .init c) (hlv : e.lvl + 1 ≤ k) (hg : Gl X e.name) (hs : noStar as = true)
    (hsh : s ∈ e.shp) (h1 : As.length + 1 = s.n) (hkw : kwB s.ks kws = true) (h2 : srcB s.src Kes.length = true) (h3 : Kes.length = s.ks.length) (h4 : s.n + s.src.length = e.ps.length) (ha : PA X as (tAs g cg W As)) (has : as = [] → As = []) (hk : PK X kws (tAs g cg W Kes)) : PE X (.Call (.Name e.name p) as kws pos) (tE g cg W (.makeK c j md As Kes s.src)) := by
  obtain ⟨f, fd, c', F, DD, hkd', hc, hm, hmk, hdb⟩ := E
  rw [hkd] at hkd'
  cases hkd'
  obtain ⟨mv, mvV, hb, hrp⟩ := DD s hsh
  rw [← h1] at hb
  have hb' : KBn X.K fd e.ps (As.length + 1) s.ks (fun us ws => us ++ pick s.src mv ws) (fun vs zs => vs ++ pick s.src mvV zs) := by rw [hK]; exact hb
  refine ⟨fun pins s0 σ H Q I ⟨F0, ι, M, ρ, rel, sl, ok⟩ => ?_⟩
  simp only [ev_makeK] at ok
  have key : tAs g cg W As σ H fun vs H1 => tAs g cg W Kes σ H1 fun zs H2 => vs.length = As.length ∧ zs.length = s.ks.length ∧ ∀ x dx, H2 x = none → H2 dx = none → dx ≠ x → spF g (cg.Φ j) e.ps.length ((V.ref x :: vs) ++ pick s.src mvV zs) (upd (upd H2 dx (.own x)) x (.ins (g.ca c) dx [])) (fun v H3 => v = .non ∧ Q (.ref x) H3) (WE W σ) := by
    have ok2 := ok.bind
    refine ⟨F0, ι, M, ρ, rel, sl, ?_⟩
    cases z : evs cg As ρ M with
    | stuck => rw [z] at ok2; exact ok2
    | exc c v M' => rw [z] at ok2; exact ok2
    | ok ds' M' =>
      rw [z] at ok2
      intro F1 ι1 H1 e1 r1 vs rs
      obtain ⟨_, _, ok3⟩ := ok2 F1 ι1 H1 e1 r1
      have ok4 := ok3.bind
      refine ⟨F1, ι1, M', ρ, r1, sl.ext e1, ?_⟩
      cases z2 : evs cg Kes ρ M' with
      | stuck => rw [z2] at ok4; exact ok4
      | exc c v M' => rw [z2] at ok4; exact ok4
      | ok es' M2 =>
        rw [z2] at ok4
        intro F2 ι2 H2 e2 r2 zs rz
        obtain ⟨_, _, ok5⟩ := ok4 F2 ι2 H2 e2 r2
        have l1 : vs.length = As.length := by rw [rs.length, evs_len As ρ M ds' M' z]
        have l2 : zs.length = Kes.length := by rw [rz.length, evs_len Kes ρ M' es' M2 z2]
        refine ⟨l1, by rw [l2, h3], fun x dx hx hdx hne => ?_⟩
        have rs2 : RDs g F2 ι2 (vs ++ pick s.src mvV zs) (ds' ++ pick s.src ((lefts s.src).map D.p) es') := (rs.ext e2).append (pick_rds rz (hrp F2).rds)
        have := makeF_ok hcf hc r2 rs2 ok5 x dx hx hdx hne
        have hl : (V.ref x :: (vs ++ pick s.src mvV zs)).length = e.ps.length := by
          rw [List.length_cons, List.length_append, pick_len zs (by rw [l2]; exact h2) (hrp F2).length]
          omega
        rw [hl] at this
        exact this
  refine wpAny_Call_Name_kw (ld_glob I hg hm ?_ hdb)
  have hr' := hr.mono hlv
  obtain ⟨q1, q2, q3⟩ := kwB_ok (pos := pos) (env := X.env) hkw
  cases as with
  | nil =>
    obtain rfl := has rfl
    obtain ⟨F1, ι1, M1, ρ1, rel1, sl1, ok1⟩ := key
    have := Ok.here ok1 rel1 [] .nil
    refine PySem.W.callWith_KW0 (h₀ := X.base) I.ok.mod.kin hmk.kp q1 ?_ (by rw [q3]; rfl)
    refine thn (hk.run pos pins s0 σ H _ I this) fun ws s2 ⟨zs, H2, I2, rz, l1, l2, q4⟩ => ⟨I2.kIn, ?_⟩
    rw [q2]
    exact run_makeAK (us := []) (vs := []) hmk F hr' hgd hb' (passAt tk σ) I2 .nil rz rfl l2 q4
  | cons a as =>
    refine PySem.W.callWith_KW (h₀ := X.base) I.ok.mod.kin hmk.kp q1 (thn (ha.run pos pins s0 σ H _ I key) fun us s1 ⟨vs, H1, I1, r, q⟩ => ?_) (by rw [star_any hs, q3]; rfl) (star_ne (noStar_head hs))
    refine thn (hk.run pos pins s1 σ H1 _ I1 q) fun ws s2 ⟨zs, H2, I2, rz, l1, l2, q4⟩ => ⟨I2.kIn, ?_⟩
    rw [q2]
    exact run_makeAK hmk F hr' hgd hb' (passAt tk σ) I2 r rz l1 l2 q4
end
end Mi

set_option maxRecDepth 100000
/-! An own exception class without own __init__, made without arguments. -/
namespace L2
open PySem PySem.Spec PyProof.Rows
/-- such a class -/
structure XbOk (K : PySem.W.Frag) (C : Addr) : Prop where
  ex : PySem.W.excIn K C [.type "ValueError", .type "Exception", .type "BaseException", .type "object"] "ValueError.__new__" = true
  kC : PySem.W.keepIn K (.ref C) = true
  sC : PySem.W.subIn K (.ref C) (.type "BaseException") = some true
  tC : PySem.W.typeIn K (.ref C) = some (.type "type")
def xbB (K : PySem.W.Frag) (C : Addr) : Bool := PySem.W.excIn K C [.type "ValueError", .type "Exception", .type "BaseException", .type "object"] "ValueError.__new__" && (PySem.W.keepIn K (.ref C) && (decide (PySem.W.subIn K (.ref C) (.type "BaseException") = some true) && decide (PySem.W.typeIn K (.ref C) = some (.type "type"))))
theorem xbB_ok {K : PySem.W.Frag} {C : Addr} (h : xbB K C = true) : XbOk K C := by
  unfold xbB at h
  simp only [Bool.and_eq_true, decide_eq_true_eq] at h
  exact ⟨h.1, h.2.1, h.2.2.1, h.2.2.2⟩
theorem pmk_own0 {X : Cx} {C : Addr} {x : Str} {p pos : Pos} (T : XbOk X.K C) (gC : X.mg x = some (.ref C)) (hg : Gl X x) (hdb : (x == ("__debug__" : Str)) = false) :
    PMk X (.Call (.Name x p) [] [] pos) (fun σ H Q => Q (.ref C) none H) := by
  intro pins s σ H Q I h
  refine wpAny_Call_Name_kw (ld_glob I hg gC ?_ hdb)
  refine PySem.W.callWith_K0 I.kIn T.kC ?_
  show wpAny _ _ (call (.ref C) []) _ _ _
  obtain ⟨bm, N, nm, qn, bs, hdct, sn, sub, ab, col, dd, k0, k1, k2, k3, k5, mN, hC, hN, hni, T2⟩ := exc_obj I.kIn T.ex
  refine wpAny_call_exc_subT PySem.F.excBase_ValueError T2 hC hN hni (fun h' e hm => ?_) (Nat.zero_le _)
  exact mk_of I hm (raises_own T.sC T.tC) h (I.hok.gone hm.new)
end L2

set_option maxRecDepth 100000
set_option maxHeartbeats 4000000
/-! The text is looked at: an expression of ours against one of the program. -/
namespace Mi
open PySem PySem.Spec L2
structure Sx where
  N : List Str
  sc : Scope
  fn : Str → Bool
  k : Nat
structure Tb where
  fns : List (Nat × Ent)
  consts : List (Str × P)
  cls : List (Nat × Str)
  flds : List Str
  xcs : List (Nat × Str)
  xfs : List (Nat × Str)
  nes : List Nat
  xbs : List Nat
def BL : List Str := ["len", "int", "max", "min", "sum", "abs", "list", "tuple", "str", "range", "enumerate", "isinstance", "repr", "dict", "set", "sorted", "bool", "ValueError"]
def visB (sc : Scope) (x : Str) : Bool := match sc.names.lookup x with
  | some .local => true
  | some .cell => true
  | some .free => true
  | _ => false
def glB (sc : Scope) (x : Str) : Bool := match sc.names.lookup x with
  | some .globalImplicit => true
  | _ => false
def eqC : P → P → Bool
  | .non, .non => true
  | .bl a, .bl b => a == b
  | .int i, .int j => decide (i = j)
  | .str x, .str y => decide (x = y)
  | _, _ => false
theorem eqC_ok : ∀ {a b : P}, eqC a b = true → a = b := by
  intro a b h
  cases a <;> cases b <;> simp_all [eqC]
def eqCs : List P → List P → Bool
  | [], [] => true
  | a :: as, b :: bs => eqC a b && eqCs as bs
  | _, _ => false
theorem eqCs_ok : ∀ {as bs : List P}, eqCs as bs = true → as = bs
  | [], [], _ => rfl
  | [], _ :: _, h => by cases h
  | _ :: _, [], h => by cases h
  | a :: as, b :: bs, h => by
    simp only [eqCs, Bool.and_eq_true] at h
    rw [eqC_ok h.1, eqCs_ok h.2]
def cOf : Const → Option P
  | .none => some .non
  | .bool b => some (.bl b)
  | .int i => some (.int i)
  | .str x => some (.str x)
  | _ => none
/-- an attribute may be asked of it -/
def okBase : Expr → Bool
  | .Call _ [] [] _ => false
  | _ => true
def notSet : Expr → Bool
  | .Set _ _ _ => false
  | _ => true
def notSlice : Expr → Bool
  | .Slice _ _ _ _ => false
  | _ => true
def tyN (T : Tb) : Ty → Option Str
  | .int => some "int" | .bool => some "bool" | .str => some "str" | .list => some "list" | .tuple => some "tuple" | .dict => some "dict" | .own c => match T.cls.lookup c with
    | some n => some n
    | none => T.xcs.lookup c
def ownOf (N : List Str) (t : Tg) : List (Str × Nat) := (tgs t).map fun i => (N.getD i "", i)
def blkS (S : Sx) (scope : Scope) : Sx := ⟨S.N, relS scope S.sc, fun x => scope.names.lookup x == some .cell, S.k⟩
/-- a test may be walked by its parts -/
def tst : ME → Bool
  | .not a => tst a
  | .and a b => tst a && tst b
  | .or a b => tst a && tst b
  | .ite _ _ _ => false
  | _ => true
def isNil {α : Type} : List α → Bool
  | [] => true
  | _ => false
/-- the entry of a call -/
def eqSrc : List (Sum P Nat) → List (Sum P Nat) → Bool
  | [], [] => true
  | .inl x :: r, .inl y :: t => eqC x y && eqSrc r t
  | .inr i :: r, .inr j :: t => decide (i = j) && eqSrc r t
  | _, _ => false
theorem eqSrc_ok : ∀ {a b : List (Sum P Nat)}, eqSrc a b = true → a = b
  | [], [], _ => rfl
  | .inl x :: r, .inl y :: t, h => by
    simp only [eqSrc, Bool.and_eq_true] at h
    rw [eqC_ok h.1, eqSrc_ok h.2]
  | .inr i :: r, .inr j :: t, h => by
    simp only [eqSrc, Bool.and_eq_true, decide_eq_true_eq] at h
    rw [h.1, eqSrc_ok h.2]
  | [], .inl _ :: _, h => by cases h
  | [], .inr _ :: _, h => by cases h
  | .inl _ :: _, [], h => by cases h
  | .inr _ :: _, [], h => by cases h
  | .inl _ :: _, .inr _ :: _, h => by cases h
  | .inr _ :: _, .inl _ :: _, h => by cases h
/-- the entry of a call with keywords -/
def entKB (T : Tb) (S : Sx) (f c : Nat) (n m : Nat) (src : List (Sum P Nat)) (kws : List Keyword) (x : Str) : Bool := match T.fns.lookup f with
  | some e => decide (e.kd = .init c) && (decide (e.lvl + 1 ≤ S.k) && (decide (e.name = x) && (decide (n + src.length = e.ps.length) && (srcB src m && e.shp.any fun s => decide (n = s.n) && (kwB s.ks kws && (decide (m = s.ks.length) && eqSrc src s.src))))))
  | none => false
def entB (T : Tb) (S : Sx) (f : Nat) (kd : Kd) (up : Nat) (dfl : List P) (n : Nat) (x : Str) : Bool := match T.fns.lookup f with
  | some e => e.shp.isEmpty && (decide (e.kd = kd) && (decide (e.lvl + up ≤ S.k) && (decide (e.name = x) && (decide (dfl.length ≤ e.dfl.length) && (eqCs dfl (e.dfl.drop (e.dfl.length - dfl.length)) && decide (n + dfl.length = e.ps.length))))))
  | none => false
/-- the parts of what is walked -/
def itE (S : Sx) (k : It) (tg iter : Expr) : Option (List Expr) := match k with
  | .seq => some [iter]
  | .seqM => some [iter]
  | .rng1 => match iter with
    | .Call (.Name x _) [l] [] _ => if (decide (x = "range") && (glB S.sc x && noStar [l])) = true then some [l] else none
    | _ => none
  | .rng2 => match iter with
    | .Call (.Name x _) [l, r] [] _ => if (decide (x = "range") && (glB S.sc x && noStar [l, r])) = true then some [l, r] else none
    | _ => none
  | .rngL => match iter with
    | .Call (.Name x _) [l, r] [] _ => if (decide (x = "range") && (glB S.sc x && noStar [l, r])) = true then some [l, r] else none
    | _ => none
  | .enum => match iter, tg with
    | .Call (.Name x _) [l] [] _, .Tuple _ _ _ => if (decide (x = "enumerate") && (glB S.sc x && noStar [l])) = true then some [l] else none
    | _, _ => none
  | _ => none
/-- the own method of a comparison -/
def cmpN : COp → Option Str
  | .eq => some "__eq__" | .ne => some "__eq__" | .lt => some "__lt__" | .le => some "__le__" | .gt => some "__gt__" | .ge => some "__ge__" | _ => none
def ocmpB (T : Tb) (S : Sx) (op : COp) (fs : List (Nat × Nat)) : Bool := match cmpN op with
  | some x => fs.all fun q => entB T S q.2 (.meth q.1) 2 [] 2 x && decide (op = .ne → q.1 ∈ T.nes)
  | none => false
/-- the keys and values of a display, flat -/
def flatK : List (Option Expr) → List Expr → Option (List Expr)
  | [], [] => some []
  | some k :: ks, v :: vs => (flatK ks vs).map fun l => k :: v :: l
  | _, _ => none
mutual
def mE (T : Tb) (S : Sx) : ME → Expr → Bool
  | .c x, e => match e with
    | .Constant c _ _ => match cOf c with
      | some y => eqC x y
      | none => false
    | _ => false
  | .v i, e => match e with
    | .Name x _ => decide (S.N[i]? = some x) && visB S.sc x
    | _ => false
  | .g y a, e => match e with
    | .Name x _ => decide (x = y) && (glB S.sc x && T.consts.any fun q => decide (q.1 = y) && eqC q.2 a)
    | _ => false
  | .bin op a b, e => match e with
    | .BinOp l o r _ => decide (o = opB op) && (mE T S a l && mE T S b r)
    | _ => false
  | .neg a, e => match e with
    | .UnaryOp .USub l _ => mE T S a l
    | _ => false
  | .not a, e => match e with
    | .UnaryOp .Not l _ => mE T S a l
    | _ => false
  | .and a b, e => match e with
    | .BoolOp .And (l :: l2 :: r) pos => mE T S a l && (match r with
      | [] => mE T S b l2
      | r0 :: rr => mE T S b (.BoolOp .And (l2 :: r0 :: rr) pos))
    | _ => false
  | .or a b, e => match e with
    | .BoolOp .Or (l :: l2 :: r) pos => mE T S a l && (match r with
      | [] => mE T S b l2
      | r0 :: rr => mE T S b (.BoolOp .Or (l2 :: r0 :: rr) pos))
    | _ => false
  | .cmp op a b, e => match e with
    | .Compare l [o] [r] _ => decide (o = opC op) && (notSet r && (mE T S a l && mE T S b r))
    | _ => false
  | .chain o1 o2 a b c, e => match e with
    | .Compare l [p1, p2] [m, r] _ => decide (p1 = opC o1) && (decide (p2 = opC o2) && (notSet r && (mE T S a l && (mE T S b m && mE T S c r))))
    | _ => false
  | .ite t a b, e => match e with
    | .IfExp c l r _ => tst t && (mE T S t c && (mE T S a l && mE T S b r))
    | _ => false
  | .tup es, e => match e with
    | .Tuple l _ _ => decide (es.length ≤ 1000) && (noStar l && mEs T S es l)
    | _ => false
  | .lst _ es, e => match e with
    | .List l _ => decide (es.length ≤ 1000) && (noStar l && mEs T S es l)
    | _ => false
  | .dnew, e => match e with
    | .Dict [] [] _ => true
    | _ => false
  | .ix a i, e => match e with
    | .Subscript l r _ => notSlice r && (mE T S a l && mE T S i r)
    | _ => false
  | .sl a lo hi, e => match e with
    | .Subscript l (.Slice lo' hi' none _) _ => mE T S a l && (mO T S lo lo' && mO T S hi hi')
    | _ => false
  | .rev a, e => match e with
    | .Subscript l (.Slice none none (some (.UnaryOp .USub (.Constant (.int 1) _ _) _)) _) _ => mE T S a l
    | _ => false
  | .revM a, e => match e with
    | .Subscript l (.Slice none none (some (.UnaryOp .USub (.Constant (.int 1) _ _) _)) _) _ => mE T S a l
    | _ => false
  | .fld a f, e => match e with
    | .Attribute l x _ => decide (x = f) && (okBase l && (decide (f ∈ T.flds) && mE T S a l))
    | _ => false
  | .isi a t, e => match e with
    | .Call (.Name x _) [l, .Name y _] [] _ => decide (x = "isinstance") && (glB S.sc x && (glB S.sc y && (decide (tyN T t = some y) && (noStar [l] && mE T S a l))))
    | _ => false
  | .call f _ es dfl, e => match e with
    | .Call (.Name x _) l [] _ => entB T S f .fn 0 dfl es.length x && (glB S.sc x && (noStar l && mEs T S es l))
    | _ => false
  | .meth c nm f _ a es dfl, e => match e with
    | .Call (.Attribute o x ap) l [] pos => entB T S f (.meth c) 0 dfl (es.length + 1) x && (decide (x = nm) && (okBase o && ((ap.endLine == pos.line) && (decide (l.length < 30) && (noStar l && (mE T S a o && mEs T S es l))))))
    | _ => false
  | .make c f _ es dfl, e => match e with
    | .Call (.Name x _) l [] _ => entB T S f (.init c) 1 dfl (es.length + 1) x && (glB S.sc x && (noStar l && mEs T S es l))
    | _ => false
  | .bi b es, e => match e with
    | .Call (.Name x _) l [] _ => decide (x = biN b) && (glB S.sc x && (!isNil l && (noStar l && mEs T S es l)))
    | _ => false
  | .mt b a es, e => match e with
    | .Call (.Attribute o x ap) l [] pos => okBase o && ((ap.endLine == pos.line) && (noStar l && (mE T S a o && (mEs T S es l && (match b with
      | .append => decide (x = "append") && decide (l.length = 1)
      | .pop0 => decide (x = "pop") && isNil l
      | .pop1 => decide (x = "pop") && decide (l.length = 1)
      | .dpop => decide (x = "pop") && decide (l.length = 1)
      | .bits => decide (x = "bit_length") && isNil l
      | .dget1 => decide (x = "get") && decide (l.length = 1)
      | .dget2 => decide (x = "get") && decide (l.length = 2)
      | .popI => decide (x = "pop") && decide (l.length = 1)
      | .clear => decide (x = "clear") && isNil l
      | .insert => decide (x = "insert") && decide (l.length = 2))))))
    | _ => false
  | .lrng1 _ a, e => match e with
    | .Call (.Name x _) [.Call (.Name y _) [l] [] _] [] _ => decide (x = "list") && (decide (y = "range") && (glB S.sc x && (glB S.sc y && (noStar [l] && mE T S a l))))
    | _ => false
  | .lrng2 _ a b, e => match e with
    | .Call (.Name x _) [.Call (.Name y _) [l, r] [] _] [] _ => decide (x = "list") && (decide (y = "range") && (glB S.sc x && (glB S.sc y && (noStar [l, r] && (mE T S a l && mE T S b r)))))
    | _ => false
  | .comp _ t k es cond e', e => match e with
    | .ListComp elt [q] scope _ => decide (q.is_async = 0) && (blkC S.N S.sc scope (ownOf S.N t) && (mTg S.N (relS scope S.sc) (fun x => scope.names.lookup x == some .cell) t q.target && (notSet q.iter && ((match itE S k q.target q.iter with
        | some l => mEs T S es l
        | none => false) && (mC T (blkS S scope) cond q.ifs && mE T (blkS S scope) e' elt)))))
    | _ => false
  | .sset a, e => match e with
    | .Call (.Name x _) [.Call (.Name y _) [l] [] _] [] _ => decide (x = "sorted") && (decide (y = "set") && (glB S.sc x && (glB S.sc y && (noStar [l] && mE T S a l))))
    | _ => false
  | .makeK c f _ es kes src, e => match e with
    | .Call (.Name x _) l kws _ => entKB T S f c (es.length + 1) kes.length src kws x && (glB S.sc x && (noStar l && (mEs T S es l && mEs T S kes (kws.map (·.value)))))
    | _ => false
  | .xmk c kw es, e => match e with
    | .Call (.Name x _) l [] _ => decide (kw = false) && (decide (T.xcs.lookup c = some x) && (glB S.sc x && (decide (l.length ≤ 1) && (noStar l && (mEs T S es l && (((T.xfs.lookup c).isSome && decide (1 ≤ S.k)) || (decide (l.length = 0) && decide (c ∈ T.xbs))))))))
    | .Call (.Name x _) [] [⟨some f, l, _⟩] _ => decide (kw = true) && (decide (T.xcs.lookup c = some x) && (glB S.sc x && (mEs T S es [l] && (decide (T.xfs.lookup c = some f) && decide (1 ≤ S.k)))))
    | _ => false
  | .isVE a, e => match e with
    | .Call (.Name x _) [l, .Name y _] [] _ => decide (x = "isinstance") && (decide (y = "ValueError") && (glB S.sc x && (glB S.sc y && (noStar [l] && mE T S a l))))
    | _ => false
  | .srtI a, e => match e with
    | .Call (.Name x _) [l] [] _ => decide (x = "sorted") && (glB S.sc x && (noStar [l] && mE T S a l))
    | _ => false
  | .isS a, e => match e with
    | .Call (.Name x _) [l, .Tuple [.Name y _, .Name z _] _ _] [] _ => decide (x = "isinstance") && (glB S.sc x && (decide (y = "int") && (glB S.sc y && (decide (z = "str") && (glB S.sc z && (noStar [l] && mE T S a l))))))
    | _ => false
  | .dct0, e => match e with
    | .Dict [] [] _ => true
    | _ => false
  | .dsp es, e => match e with
    | .Dict ks vs _ => (match flatK ks vs with
      | some l => decide (ks ≠ []) && (decide (ks.length ≤ 15) && mEs T S es l)
      | none => false)
    | _ => false
  | .isb k f es dfl, e => match e with
    | .Compare (.Call (.Name x _) l [] _) [o] [.Constant .none _ _] _ => decide (o = opC (if k = true then .isnn else .isn)) && (entB T S f .fn 0 dfl es.length x && (glB S.sc x && (noStar l && mEs T S es l)))
    | _ => false
  | .frz a, e => match e with
    | .Dict _ _ _ => mE T S a e
    | .List _ _ => mE T S a e
    | .Call _ _ _ _ => mE T S a e
    | _ => false
  | .slm a lo hi, e => match e with
    | .Subscript l (.Slice lo' hi' none _) _ => mE T S a l && (mO T S lo lo' && mO T S hi hi')
    | _ => false
  | .prop c nm f a, e => match e with
    | .Attribute l x _ => entB T S f (.prop c) 1 [] 1 x && (decide (x = nm) && (okBase l && mE T S a l))
    | _ => false
  | .ocmp op fs a b, e => match e with
    | .Compare l [o] [r] _ => decide (o = opC op) && (notSet r && (ocmpB T S op fs && (mE T S a l && mE T S b r)))
    | _ => false
def mEs (T : Tb) (S : Sx) : List ME → List Expr → Bool
  | [], [] => true
  | a :: as, e :: es => mE T S a e && mEs T S as es
  | _, _ => false
def mC (T : Tb) (S : Sx) : Option ME → List Expr → Bool
  | none, [] => true
  | some c, [d] => tst c && mE T S c d
  | _, _ => false
def mO (T : Tb) (S : Sx) : Option ME → Option Expr → Bool
  | none, none => true
  | some a, some e => mE T S a e
  | _, _ => false
end
end Mi

set_option maxRecDepth 100000
set_option maxHeartbeats 4000000
/-! Comparisons that own classes answer. -/
namespace PySem.W
open PySem PySem.Calls PyProof.Rows Builtin
section
variable {prog : Program} {w : World} {A : Around} {E : Value → Shared → Prop} {s : Shared} {K : Frag} {x C L f : Addr} {h₀ : Heap} {m : Str → Option Value} {ox : Obj} {od : Option Obj} {b tb : Value}
/-- a class without its own __ne__ asks its own __eq__ -/
theorem own_ne {Q : Value → Shared → Prop} (hu : A.units + 1 < cLine) (X : K.In s.heap) (I : InstAt s.heap x ox C od) (hb : Looks (model prog w) s.heap (typeOf b) tb) (hn : notFirst K C tb = true)
    (hne : findIn K (.ref C) "__ne__" = some (some (.builtin "object.__ne__"))) (hm : mroIn K C (.type "object") = some true) (hs : findIn K (.ref C) "__eq__" = some (some (.ref f))) (hf : isFn K (.ref f) = true)
    (h : wpAny (model prog w) A.in1 (call (.ref f) [.ref x, b]) (fun v s' => ∃ r, v = .bool r ∧ Q (.bool (!r)) s') E s) : wpAny (model prog w) A (richCompare .NotEq (.ref x) b) Q E s := by
  have asks : wpAny (model prog w) A (call (.builtin "object.__ne__") [.ref x, b]) (fun v s' => ∃ r, v = .bool r ∧ Q v s') E s := by
    refine wpAny_call (codeAny_call_builtin F.slot_object_ne.plain F.cmpEntry_ne (check_slot F.cmpKind_ne F.cmpSplit_ne (I.type.andThen (looks_mroIn X hm)) (F.cmpArgs_ne _ _) ?_))
    unfold Builtin.«object.__ne__»
    repeat (first
      | with_reducible refine wpAny_cRoomFor hu ?_
      | (refine wpAny_bind (m := callSpecialIfBound? (.ref x) (Str.ofString "__eq__") [b]) (ifBound_K X I hs hf (wpAny_mono h (fun v s' hv => by
          obtain ⟨r, rfl, q⟩ := hv
          repeat (first | exact ⟨_, rfl, q⟩ | exact wpAny_pure ⟨_, rfl, q⟩ | exact wpAny_truthy_bool ⟨_, rfl, q⟩ | (refine wpAny_bind (m := truthy (.bool _)) (wpAny_truthy_bool ?_)) | wp_step)) fun _ _ e => e)))
      | wp_step)
  have bound : wpAny (model prog w) A (callSpecialIfBound? (.ref x) "__ne__" [b]) (fun r s' => ∃ v, r = some (.bool v) ∧ Q (.bool v) s') E s := by
    simp only [callSpecialIfBound?, bindSpecialIfBound?]
    refine wpAny_holding (wpAny_bind (wpAny_bind (wpAny_bind (I.type.here ((looks_findIn X hne).here ?_)))))
    refine wpAny_bind (wpAny_askSetting (wpAny_ite ?_))
    have fin : wpAny (model prog w) A (call (.builtin "object.__ne__") ([.ref x] ++ [b]) >>= fun v => pure (some v)) (fun r s' => ∃ v, r = some (.bool v) ∧ Q (.bool v) s') E s := wpAny_bind (wpAny_mono asks (fun v s' ⟨r, e, q⟩ => wpAny_pure ⟨r, by rw [e], e ▸ q⟩) fun _ _ z => z)
    split
    · exact wpAny_bind (wpAny_of_eq (F.cmp_object.ne.bind _) (wpAny_pure (by exact fin)))
    · exact wpAny_tryCatch (wpAny_bind (wpAny_of_eq (F.cmp_object.ne.bind _) (wpAny_pure (by exact fin))))
  have one : wpAny (model prog w) A (tryCompare (.ref x) "__ne__" b) (fun r s' => ∃ v, r = some v ∧ Q v s') E s := by
    unfold tryCompare
    exact wpAny_bind (wpAny_mono bound (fun r s' ⟨v, e, q⟩ => by subst e; exact wpAny_pure ⟨_, rfl, q⟩) fun _ _ z => z)
  unfold richCompare
  simp only [oneThing_ref]
  refine wpAny_holding (wpAny_bind (wpAny_cRoomFor (Nat.lt_of_succ_lt hu) ?_))
  refine wpAny_bind (I.type.here (wpAny_bind (hb.here ?_)))
  split
  · rename_i q
    have e : subIn K tb (.ref C) = some false := by
      rcases Bool.or_eq_true_iff.mp hn with e | e
      · rw [beq_iff_eq.mp e] at q; simp at q
      · exact beq_iff_eq.mp e
    refine wpAny_bind ((looks_subIn X e).here ?_)
    simp only [Bool.false_eq_true, if_false]
    refine wpAny_bind (wpAny_mono one (fun r s' ⟨v, e, q⟩ => ?_) fun _ _ e => e)
    subst e
    exact wpAny_pure q
  · refine wpAny_bind (wpAny_pure ?_)
    simp only [Bool.false_eq_true, if_false]
    refine wpAny_bind (wpAny_mono one (fun r s' ⟨v, e, q⟩ => ?_) fun _ _ e => e)
    subst e
    exact wpAny_pure q
end
end PySem.W
namespace Mi
open PySem PySem.Spec L2
section
variable {X : Cx} {g : Gx} {cg : Cg} {W : WX} {k : Nat}
theorem kit_sub {K : PySem.W.Frag} {t : Value} {C : Addr} (h : PySem.W.kitOne K t (.ref C) = some false) : PySem.W.notFirst K C t = true := by
  unfold PySem.W.kitOne at h
  split at h
  · cases h
  · unfold PySem.W.kitCls at h
    simp only at h
    split at h
    · unfold PySem.W.notFirst
      rw [h]; simp
    · cases h
/-- the type of a value that an own comparison is asked with -/
theorem ty_first (hK : X.K = g.K) (C : ClsOk g) {pins : List (Addr × Obj)} {s : Shared} {σ : St} {H F : Hp} (I : Inv X pins σ H s) (sub : Same F H) {y : V} {u : Value} {p : P} (rp : RP g F y p) (ry : RelV y u) {c : Nat} (hc : g.nc c = true) :
    ∃ tb, PySem.W.Looks (model X.prog X.w) s.heap (typeOf u) tb ∧ PySem.W.notFirst X.K (g.ca c) tb = true := by
  have nt : ∀ n, n ∈ NT → PySem.W.notFirst X.K (g.ca c) (.type n) = true := fun n hn => by rw [hK]; exact kit_sub (C.k2 c n (Gx.kc_n hc) hn)
  have look : ∀ {a : Addr} {o : Obj}, s.heap.get? a = some o → PySem.W.Looks (model X.prog X.w) s.heap (typeOf (.ref a)) o.cls := fun e => (PySem.W.Looks.ld e).andThen .now
  cases rp with
  | non => cases ry; exact ⟨_, PySem.W.Looks.of_pure rfl, nt "NoneType" (by decide)⟩
  | bl b => cases ry; exact ⟨_, PySem.W.Looks.of_pure rfl, nt "bool" (by decide)⟩
  | int i => obtain ⟨t, rfl⟩ := ry; exact ⟨_, PySem.W.Looks.of_pure rfl, nt "int" (by decide)⟩
  | str x => obtain ⟨t, rfl⟩ := ry; exact ⟨_, PySem.W.Looks.of_pure rfl, nt "str" (by decide)⟩
  | @tup a vs xs e r =>
    obtain rfl : u = .ref a := ry
    obtain ⟨_, _, _, o, h1, h2, _⟩ := (show ObjOk X.prog X.w H s.heap a (.tup vs) from I.hok a _ (sub _ _ e))
    exact ⟨_, look h1, by rw [h2]; exact nt "tuple" (by decide)⟩
  | @lst a vs xs e r =>
    obtain rfl : u = .ref a := ry
    obtain ⟨_, _, n, _, h1⟩ := (show ObjOk X.prog X.w H s.heap a (.lst vs) from I.hok a _ (sub _ _ e))
    exact ⟨_, look h1, nt "list" (by decide)⟩
  | @dK a ws kvs e _ r =>
    obtain rfl : u = .ref a := ry
    obtain ⟨_, _, vs, _, o, es, ep, h1, h2, _⟩ := (show ObjOk X.prog X.w H s.heap a (.dK ws) from I.hok a _ (sub _ _ e))
    exact ⟨_, look h1, by rw [h2.1]; exact nt "dict" (by decide)⟩
  | @obj a dx c' ws xs hc' e _ r =>
    obtain rfl : u = .ref a := ry
    obtain ⟨mA, O, _⟩ := ins_get I.hok (sub _ _ e)
    obtain ⟨od, J, _⟩ := O.look
    refine ⟨_, J.type, ?_⟩
    by_cases z : c' = c
    · subst z; unfold PySem.W.notFirst; simp
    · rw [hK]
      refine kit_sub ?_
      rw [C.k1 c' c hc' (Gx.kc_n hc)]
      simp [z]
  | @scr a ns e =>
    obtain rfl : u = .ref a := ry
    obtain ⟨_, _, p, _⟩ := I.list (show SqL X.K H a (ns.map V.int) by rw [hK]; exact sub.seq e)
    obtain ⟨o, h1, h2, _⟩ := p.isList
    exact ⟨_, look h1, by rw [h2]; exact nt "list" (by decide)⟩
end
end Mi

set_option maxRecDepth 100000
set_option maxHeartbeats 4000000
/-! Equality of lists, tuples in which instances stand that answer == by a def of their class. -/
namespace MiEq
open PySem PySem.SeqAt PySem.Spec
open AutoSeq1 (wpAny_loadPart')
open MeetsSeq MeetsSeq2 MeetsSeq3 SeqRoads2 GQ
section
variable {prog : Program} {w : World} {A : Around} {R : Result → Shared → Prop}
theorem ne_loopG (l b : Addr) (N : Nat) (I : Nat → Shared → Prop) (hl : ListI prog w A (fun e s' => R (.error e) s') l b N I)
    (fin : ∀ s, I N s → R (.ok (.ret (.bool false))) s) (k : Nat) :
    ∀ i : Nat, N - i = k → i ≤ N → ∀ s, I i s →
      wpAny (model prog w) A.in1 (Builtin.«list.__eq__.loop» ⟨[.ref l, .ref b, rawInt i, rawInt 3], []⟩) (FinOf prog w A R) (fun e s' => R (.error e) s') s := by
  induction k with
  | zero =>
    intro i hk hi s h
    obtain ⟨items, items2, n, n2, hl1, hb1, hs1, hs2, _⟩ := hl _ _ h
    have hi' : i = N := by omega
    have hR : R (.ok (.ret (.bool false))) s := fin s (hi' ▸ h)
    obtain ⟨hp, g, d, tk, os⟩ := s
    wp_walk using wpAny_loadPart' hl1, wpAny_loadPart' hb1
    have hi1 : items[((i : Nat) : Int).toNat]? = none := by simp; omega
    have hi2 : items2[((i : Nat) : Int).toNat]? = none := by simp; omega
    rw [hi1, hi2]
    wp_walk using wpAny_loadPart' hl1, wpAny_loadPart' hb1
    show R (.ok (.ret (.bool (items.size != items2.size)))) _
    rw [hs1, hs2]
    simpa using hR
  | succ k ih =>
    intro i hk hi s h
    obtain ⟨items, items2, n, n2, hl1, hb1, hs1, hs2, turn⟩ := hl _ _ h
    have hlt : i < items.size := by omega
    have hlt2 : i < items2.size := by omega
    have ht := turn hlt hlt2
    obtain ⟨hp, g, d, tk, os⟩ := s
    wp_walk using wpAny_loadPart' hl1, wpAny_loadPart' hb1
    have hi1 : items[((i : Nat) : Int).toNat]? = some items[i] := by simp [hlt]
    have hi2 : items2[((i : Nat) : Int).toNat]? = some items2[i] := by simp [hlt2]
    have hc : ((i : Int) + 1) = ((i + 1 : Nat) : Int) := by omega
    rw [hi1, hi2]
    refine wpAny_bind (wpAny_mono ht (fun r s2 h2 => ?_) fun _ _ x => x)
    obtain ⟨hr, h2⟩ := h2
    subst hr
    have hrec := ih (i + 1) (by omega) (by omega) s2 h2
    obtain ⟨hp2, g2, d2, tk2, os2⟩ := s2
    wp_walk
    rw [hc]
    exact ⟨plainId_quiet plain_eq_loop _, codeAny_builtin entry_eq_loop (by
      rw [Around.under_plainId plain_eq_loop _]
      exact hrec)⟩
theorem list_neG (l b : Addr) (N : Nat) (I : Nat → Shared → Prop) (hl : ListI prog w A (fun e s' => R (.error e) s') l b N I)
    (fin : ∀ s, I N s → R (.ok (.ret (.bool false))) s) {s : Shared} (h : I 0 s) :
    wpAny (model prog w) A.in1 (Builtin.«list.__ne__» ⟨[.ref l, .ref b], []⟩) (FinOf prog w A R) (fun e s' => R (.error e) s') s := by
  obtain ⟨items, items2, n, n2, hl1, hb1, hs1, hs2, _⟩ := hl _ _ h
  have hrec := ne_loopG (A := A) (R := R) l b N I hl fin _ 0 rfl (Nat.zero_le _) s h
  obtain ⟨hp, g, d, tk, os⟩ := s
  have f3 := AutoSeq1.sub_list_list
  have hne : ¬ (items.size != items2.size) = true := by simp [hs1, hs2]
  wp_walk using wpAny_loadPart' hl1, wpAny_loadPart' hb1
  exact ⟨plainId_quiet plain_eq_loop _, codeAny_builtin entry_eq_loop (by
    rw [Around.under_plainId plain_eq_loop _]
    exact hrec)⟩
theorem tuple_neG (l b : Addr) (items items2 : Array Value) (n n2 : Nat) (dd dd2 : Option Addr) (sl sl2 : Array (Option Value)) (hsz : items.size = items2.size) (I : Nat → Shared → Prop)
    (turn : ∀ i (h1 : i < items.size) (h2 : i < items2.size) s, I i s → wpAny (model prog w) A.in1 (eqBool items[i] items2[i]) (fun r s' => r = true ∧ I (i + 1) s') (fun e s' => R (.error e) s') s)
    (fin : ∀ s, I items.size s → R (.ok (.ret (.bool false))) s) {s : Shared} (hl1 : s.heap.get? l = some { cls := .type "tuple", dict := dd, data := .seq items n, slots := sl }) (hb1 : s.heap.get? b = some { cls := .type "tuple", dict := dd2, data := .seq items2 n2, slots := sl2 }) (h : I 0 s) :
    wpAny (model prog w) A.in1 (Builtin.«tuple.__ne__» ⟨[.ref l, .ref b], []⟩) (FinOf prog w A R) (fun e s' => R (.error e) s') s := by
  have f2 := AutoSeq1.sub_tuple_tuple
  have hZ : (items.toList.zip items2.toList).length = items.size := by simp [hsz]
  have h0 := h
  obtain ⟨hp, g, d, tk, os⟩ := s
  wp_walk using wpAny_loadPart' hl1, wpAny_loadPart' hb1, wpAny_forIn_list _ (fun rest b s' => b.1 = none ∧ ∃ i, rest = (items.toList.zip items2.toList).drop i ∧ i ≤ items.size ∧ I i s') _
  case turn =>
    rintro ⟨y, x⟩ rest b s' ⟨hb', i, hz, hi, hI⟩
    have hlt : i < (items.toList.zip items2.toList).length := by
      rcases Nat.lt_or_ge i (items.toList.zip items2.toList).length with h' | h'
      · exact h'
      · rw [List.drop_of_length_le h'] at hz; cases hz
    have h1 : i < items.size := hZ ▸ hlt
    have h2 : i < items2.size := hsz ▸ h1
    rw [List.drop_eq_getElem_cons hlt] at hz
    injection hz with hyx hrest
    have hy : y = items[i] := by have := congrArg Prod.fst hyx; simpa using this
    have hx : x = items2[i] := by have := congrArg Prod.snd hyx; simpa using this
    subst hy hx
    refine wpAny_bind (wpAny_mono (turn i h1 h2 s' hI) (fun r s2 q2 => ?_) fun _ _ x => x)
    obtain ⟨hr, q2⟩ := q2
    subst hr
    wp_walk
    exact ⟨rfl, i + 1, hrest, h1, q2⟩
  case fin =>
    rintro ⟨b1, b2⟩ s' ⟨hb', i, hz, hi, hI⟩
    simp only at hb'
    subst hb'
    have hge : items.size ≤ i := by
      rcases Nat.lt_or_ge i (items.toList.zip items2.toList).length with h' | h'
      · rw [List.drop_eq_getElem_cons h'] at hz; cases hz
      · exact hZ ▸ h'
    have hi' : i = items.size := by omega
    have hR : R (.ok (.ret (.bool false))) s' := fin s' (hi' ▸ hI)
    wp_walk
    simpa [Builtin.Tuple.tupleCompareSizes, hsz] using hR
  case h =>
    exact ⟨rfl, 0, rfl, Nat.zero_le _, h0⟩
end
section
variable {prog : Program} {w : World} {A : Around} {E : Value → Shared → Prop} {s : Shared}
theorem rc_nelistG {l b : Addr} {N : Nat} {Q : Value → Shared → Prop} (hu : A.units < cLine) (I : Nat → Shared → Prop) (hl : ListI prog w A E l b N I)
    (fin : ∀ s, I N s → Q (.bool false) s) (h : I 0 s) : wpAny (model prog w) A (richCompare .NotEq (.ref l) (.ref b)) Q E s := by
  obtain ⟨items, items2, n, n2, hl1, hb1, _, _, _⟩ := hl _ _ h
  refine wpAny_richCompare_same_room (op := .NotEq) ⟨_, hl1, rfl⟩ ⟨_, hb1, rfl⟩ F.slot_list_ne (call_here F.slot_list_ne ⟨_, hl1, rfl⟩ F.entry_list_ne (F.args_list_ne_2 _ _) ?_) hu
  exact list_neG (R := wants (fun v s' => v ≠ .notImplemented ∧ Q v s') E) l b N I hl (fun s' q => ⟨(fun x => nomatch x), fin s' q⟩) h
theorem rc_netupG {l b : Addr} {items items2 : Array Value} {Q : Value → Shared → Prop} (hsz : items.size = items2.size) (hu : A.units < cLine) (I : Nat → Shared → Prop)
    (hl : s.heap.IsTuple l items) (hb : s.heap.IsTuple b items2)
    (turn : ∀ i (h1 : i < items.size) (h2 : i < items2.size) s, I i s → wpAny (model prog w) A.in1 (eqBool items[i] items2[i]) (fun r s' => r = true ∧ I (i + 1) s') E s)
    (fin : ∀ s, I items.size s → Q (.bool false) s) (h : I 0 s) : wpAny (model prog w) A (richCompare .NotEq (.ref l) (.ref b)) Q E s := by
  obtain ⟨⟨cls, dd, data, sl⟩, ho, hc, n, hd⟩ := id hl
  obtain ⟨⟨cls2, dd2, data2, sl2⟩, ho2, hc2, n2, hd2⟩ := id hb
  simp only at hc hd hc2 hd2
  subst hc hd hc2 hd2
  refine wpAny_richCompare_same_room (op := .NotEq) ⟨_, ho, rfl⟩ ⟨_, ho2, rfl⟩ F.slot_tuple_ne (call_here F.slot_tuple_ne ⟨_, ho, rfl⟩ F.entry_tuple_ne (F.args_tuple_ne_2 _ _) ?_) hu
  exact tuple_neG (R := wants (fun v s' => v ≠ .notImplemented ∧ Q v s') E) l b items items2 n n2 dd dd2 sl sl2 hsz I turn (fun s' q => ⟨(fun x => nomatch x), fin s' q⟩) ho ho2 h
end
section
variable {prog : Program} {w : World} {K : Type} [DecidableEq K] {knd : KeyKind prog w K} {A : Around} {s : Shared}
theorem rcP_nedicts {a b : Addr} {ka kb : List (K × Value)} {r : Bool} (ha : (a == sysModules) = false) (hb : (b == sysModules) = false)
    (da : s.heap.DictOf knd a ka) (db : s.heap.DictOf knd b kb) (hu : A.units < cLine) (hits : ka.length = kb.length → PySem.W.KeqHitsP prog w A.in1 s kb ka r) (E Q : Value → Shared → Prop) (h : Q (.bool (!(ka.length == kb.length && r))) s) : wpAny (model prog w) A (richCompare .NotEq (.ref a) (.ref b)) Q E s := by
  refine wpAny_richCompare_same_room (op := .NotEq) da.typeIs db.typeIs PySem.F.slot_dict_ne (wpAny_call_entry PySem.F.slot_dict_ne da.typeIs PySem.F.entry_dict_ne ?_ (PySem.F.args_dict_ne_2 _ _)) hu
  show wpAny _ _ (Builtin.Dict.dictSlotArgs "__ne__" ⟨[.ref a, .ref b], []⟩ >>= _) _ _ s
  refine wpAny_bind ?_
  unfold Builtin.Dict.dictSlotArgs
  refine wpAny_bind (wpAny_notOrdered_dict da.typeIs ?_)
  show wpAny _ _ (pure (Value.ref a, Value.ref b)) _ _ s
  refine wpAny_pure ?_
  refine wpAny_bind (wpAny_isInstance (T := "dict") db.typeIs PySem.F.sub_dict_dict ?_)
  simp only [Bool.not_true, Bool.false_eq_true, if_false]
  refine wpAny_bind (wpAny_pure (wpAny_bind (wpAny_pure ?_)))
  refine wpAny_bind (PySem.W.samePairsP ha hb da db hits ?_)
  refine wpAny_pure ⟨_, rfl, ?_, ?_⟩
  · exact fun x => nomatch x
  · simpa using h
end
end MiEq
namespace Mi
open PySem PySem.Spec L2
section
variable {X : Cx} {g : Gx} {cg : Cg} {k : Nat} {fs : List (Nat × Nat)}
/-- below the running body, no repr under way -/
structure SbG (X : Cx) (d : Nat) (A : Around) : Prop where
  hd : A.handled = none
  dp : A.depth = X.A.depth
  un : A.units ≤ X.A.units + d
  fr : A.frames = X.A.frames
  grd : A.guards = some []
theorem SbG.in1 {d : Nat} {A : Around} (s : SbG X d A) : SbG X (d + 1) A.in1 := ⟨s.hd, s.dp, by have := s.un; show A.units + 1 ≤ _; omega, s.fr, s.grd⟩
theorem SbG.room {d j : Nat} {A : Around} (s : SbG X d A) (hr : Room k X.A) (hd : d ≤ 16) (hj : j + 2 ≤ k) : Room j A :=
  ⟨s.hd, by have := hr.dp; rw [s.dp]; omega, by have := hr.un; have := s.un; omega⟩
theorem SbG.units {d : Nat} {A : Around} (s : SbG X d A) (hr : Room k X.A) (hd : d ≤ 16) : A.units + 64 < cLine := by
  have := hr.un; have := s.un; omega
def EqQ (X : Cx) (d : Nat) (D : Eqv) : Prop :=
  ∀ (A : Around) (pins : List (Addr × Obj)) (s : Shared) (σ : St) (H : Hp) (x y : V) (u v : Value), SbG X d A → Inv X pins σ H s → RelV x u → RelV y v → D x y H →
    wpAny (model X.prog X.w) A (eqBool u v) (fun r s' => r = true ∧ ∃ H', Inv X pins σ H' s' ∧ L2.Ext H H') X.xe s
def RcQ (X : Cx) (d : Nat) (D : Eqv) : Prop :=
  ∀ (A : Around) (pins : List (Addr × Obj)) (s : Shared) (σ : St) (H : Hp) (x y : V) (u v : Value), SbG X d A → Inv X pins σ H s → RelV x u → RelV y v → D x y H →
    wpAny (model X.prog X.w) A (richCompare .Eq u v) (fun r s' => r = .bool true ∧ ∃ H', Inv X pins σ H' s' ∧ L2.Ext H H') X.xe s
def NcQ (X : Cx) (d : Nat) (D : Eqv) : Prop :=
  ∀ (A : Around) (pins : List (Addr × Obj)) (s : Shared) (σ : St) (H : Hp) (x y : V) (u v : Value), SbG X d A → Inv X pins σ H s → RelV x u → RelV y v → D x y H →
    wpAny (model X.prog X.w) A (richCompare .NotEq u v) (fun r s' => r = .bool false ∧ ∃ H', Inv X pins σ H' s' ∧ L2.Ext H H') X.xe s
variable {d : Nat} {D : Eqv}
theorem turnQ (hD : Mon D) (h : EqQ X (d + 1) D) {A : Around} (sb : SbG X d A) {pins : List (Addr × Obj)} {σ : St} {H : Hp} {xs ys : List V} {its its2 : List Value} (p : Prs D xs ys H) (r : Vals xs its) (r2 : Vals ys its2)
    (i : Nat) (h1 : i < its.toArray.size) (h2 : i < its2.toArray.size) (s' : Shared) (l : LoopI X pins σ H s') :
    wpAny (model X.prog X.w) A.in1 (eqBool its.toArray[i] its2.toArray[i]) (fun r s2 => r = true ∧ LoopI X pins σ H s2) X.xe s' := by
  obtain ⟨H1, I1, e1⟩ := l
  have g1 : its[i]? = some its.toArray[i] := by
    have h1' : i < its.length := by simpa using h1
    rw [List.getElem?_eq_getElem h1'] <;> simp
  have g2 : its2[i]? = some its2.toArray[i] := by
    have h2' : i < its2.length := by simpa using h2
    rw [List.getElem?_eq_getElem h2'] <;> simp
  have k1 : i < xs.length := by rw [r.length]; simpa using h1
  have k2 : i < ys.length := by rw [r2.length]; simpa using h2
  obtain ⟨u, hu, ru⟩ := r.get (List.getElem?_eq_getElem k1)
  obtain ⟨v, hv, rv⟩ := r2.get (List.getElem?_eq_getElem k2)
  rw [g1] at hu
  rw [g2] at hv
  rw [Option.some.inj hu, Option.some.inj hv]
  refine wpAny_mono (h A.in1 pins s' σ H1 _ _ u v sb.in1 I1 ru rv (hD _ _ _ _ e1 (p.2 i _ _ (List.getElem?_eq_getElem k1) (List.getElem?_eq_getElem k2)))) (fun r s2 q => ?_) fun _ _ x => x
  obtain ⟨hr, H2, I2, e2⟩ := q
  exact ⟨hr, H2, I2, e1.trans e2⟩
theorem listI_of (hD : Mon D) (h : EqQ X (d + 1) D) {A : Around} (sb : SbG X d A) {pins : List (Addr × Obj)} {σ : St} {H : Hp} {a b : Addr} {xs ys : List V} (ha : H a = some (.lst xs)) (hb : H b = some (.lst ys)) (p : Prs D xs ys H) :
    GQ.ListI X.prog X.w A X.xe a b xs.length (fun _ s' => LoopI X pins σ H s') := fun i s' q => by
  obtain ⟨H1, I1, e1⟩ := id q
  obtain ⟨z, its, k, r, e⟩ := I1.hok a _ (e1 _ _ ha)
  obtain ⟨z2, its2, k2, r2, e2⟩ := I1.hok b _ (e1 _ _ hb)
  refine ⟨its.toArray, its2.toArray, k, k2, e, e2, by rw [List.size_toArray, ← r.length], by rw [List.size_toArray, ← r2.length, ← p.1], fun h1 h2 => ?_⟩
  exact turnQ hD h sb p r r2 i h1 h2 s' q
theorem rcQ_list (hr : Room k X.A) (hd : d ≤ 16) (hD : Mon D) (h : EqQ X (d + 1) D) : RcQ X d (DList D) ∧ NcQ X d (DList D) := by
  constructor
  · intro A pins s σ H x y u v sb I rx ry q
    obtain ⟨a, b, xs, ys, rfl, rfl, ha, hb, p⟩ := q
    cases rx
    cases ry
    have := sb.units hr hd
    exact GQ.rc_listG (N := xs.length) (by omega) (fun _ s' => LoopI X pins σ H s') (listI_of hD h sb ha hb p) (fun s' q => ⟨rfl, q⟩) ⟨H, I, L2.Ext.rfl'⟩
  · intro A pins s σ H x y u v sb I rx ry q
    obtain ⟨a, b, xs, ys, rfl, rfl, ha, hb, p⟩ := q
    cases rx
    cases ry
    have := sb.units hr hd
    exact MiEq.rc_nelistG (N := xs.length) (by omega) (fun _ s' => LoopI X pins σ H s') (listI_of hD h sb ha hb p) (fun s' q => ⟨rfl, q⟩) ⟨H, I, L2.Ext.rfl'⟩
theorem rcQ_tup (hr : Room k X.A) (hd : d ≤ 16) (hD : Mon D) (h : EqQ X (d + 1) D) : RcQ X d (DTup X.K D) ∧ NcQ X d (DTup X.K D) := by
  constructor
  · intro A pins s σ H x y u v sb I rx ry q
    obtain ⟨a, b, xs, ys, rfl, rfl, ha, hb, p⟩ := q
    cases rx
    cases ry
    obtain ⟨its, r, e, z⟩ := I.tuple ha
    obtain ⟨its2, r2, e2, z2⟩ := I.tuple hb
    have hsz : its.toArray.size = its2.toArray.size := by rw [List.size_toArray, List.size_toArray, ← r.length, ← r2.length]; exact p.1
    have := sb.units hr hd
    exact GQ.rc_tupG hsz (by omega) (fun _ s' => LoopI X pins σ H s') e e2 (fun i h1 h2 s' q => turnQ hD h sb p r r2 i h1 h2 s' q) (fun s' q => ⟨rfl, q⟩) ⟨H, I, L2.Ext.rfl'⟩
  · intro A pins s σ H x y u v sb I rx ry q
    obtain ⟨a, b, xs, ys, rfl, rfl, ha, hb, p⟩ := q
    cases rx
    cases ry
    obtain ⟨its, r, e, z⟩ := I.tuple ha
    obtain ⟨its2, r2, e2, z2⟩ := I.tuple hb
    have hsz : its.toArray.size = its2.toArray.size := by rw [List.size_toArray, List.size_toArray, ← r.length, ← r2.length]; exact p.1
    have := sb.units hr hd
    exact MiEq.rc_netupG hsz (by omega) (fun _ s' => LoopI X pins σ H s') e e2 (fun i h1 h2 s' q => turnQ hD h sb p r r2 i h1 h2 s' q) (fun s' q => ⟨rfl, q⟩) ⟨H, I, L2.Ext.rfl'⟩
theorem RcQ.eqQ (h : RcQ X d D) (hr : ∀ x y H, D x y H → ∃ a b, x = .ref a ∧ y = .ref b) : EqQ X d D := by
  intro A pins s σ H x y u v sb I rx ry q
  obtain ⟨a, b, rfl, rfl⟩ := hr _ _ _ q
  cases rx
  cases ry
  by_cases hab : a = b
  · subst hab
    exact SeqAt.EqAt.same (A := A) (s := s) (.ref a) X.prog X.w X.xe _ ⟨rfl, H, I, L2.Ext.rfl'⟩
  · refine GQ.eqBool_refG hab (wpAny_mono (h A pins s σ H (.ref a) (.ref b) _ _ sb I rfl rfl q) (fun r s' q => ?_) fun _ _ x => x)
    obtain ⟨hr', q⟩ := q
    exact ⟨true, hr', rfl, q⟩
/-- two empty dicts -/
def DDk : Eqv := fun x y H => ∃ a b, x = .ref a ∧ y = .ref b ∧ H a = some (.dK []) ∧ H b = some (.dK [])
theorem kv_nil {vs : List (Key × Value)} (h : KV [] vs) : vs = [] := by
  have := h.length
  exact List.eq_nil_of_length_eq_zero this.symm
theorem rcQ_dk (hr : Room k X.A) (hd : d ≤ 16) : RcQ X d DDk ∧ NcQ X d DDk := by
  constructor
  · intro A pins s σ H x y u v sb I rx ry q
    obtain ⟨a, b, rfl, rfl, ha, hb⟩ := q
    cases rx
    cases ry
    obtain ⟨_, ya, va, ra, da⟩ := (show ObjOk X.prog X.w H s.heap a (.dK []) from I.hok a _ ha)
    obtain ⟨_, yb, vb, rb, db⟩ := (show ObjOk X.prog X.w H s.heap b (.dK []) from I.hok b _ hb)
    have e1 := kv_nil ra
    have e2 := kv_nil rb
    subst e1; subst e2
    have := sb.units hr hd
    exact PySem.W.rcP_dicts (knd := mixKind X.prog X.w) (r := true) ya yb da db (by omega) (fun _ => .nil) _ _ ⟨rfl, H, I, L2.Ext.rfl'⟩
  · intro A pins s σ H x y u v sb I rx ry q
    obtain ⟨a, b, rfl, rfl, ha, hb⟩ := q
    cases rx
    cases ry
    obtain ⟨_, ya, va, ra, da⟩ := (show ObjOk X.prog X.w H s.heap a (.dK []) from I.hok a _ ha)
    obtain ⟨_, yb, vb, rb, db⟩ := (show ObjOk X.prog X.w H s.heap b (.dK []) from I.hok b _ hb)
    have e1 := kv_nil ra
    have e2 := kv_nil rb
    subst e1; subst e2
    have := sb.units hr hd
    exact MiEq.rcP_nedicts (knd := mixKind X.prog X.w) (r := true) ya yb da db (by omega) (fun _ => .nil) _ _ ⟨rfl, H, I, L2.Ext.rfl'⟩
/-- two values, read as data, are equal -/
def DQ (g : Gx) (cg : Cg) (fs : List (Nat × Nat)) (n : Nat) : Eqv := fun x y H => ∃ a b, RP g H x a ∧ RP g H y b ∧ eqW cg fs n a b = true
theorem mon_DQ (n : Nat) : Mon (DQ g cg fs n) := fun x y H H' e d => by
  obtain ⟨a, b, r1, r2, h⟩ := d
  exact ⟨a, b, r1.mono e, r2.mono e, h⟩
theorem prs_of {H : Hp} {n : Nat} : ∀ {vs ws : List V} {xs ys : List P}, RPs g H vs xs → RPs g H ws ys → xs.length = ys.length → eqWs (eqW cg fs n) xs ys = true → Prs (DQ g cg fs n) vs ws H
  | [], _, _, ys, .nil, r2, hl, _ => by
    cases r2 with
    | nil => exact Prs.nil
    | cons => cases hl
  | v :: vs, _, _, ys, .cons p1 t1, r2, hl, h => by
    cases r2 with
    | nil => cases hl
    | cons p2 t2 =>
      simp only [eqWs, Bool.and_eq_true] at h
      exact Prs.cons ⟨_, _, p1, p2, h.1⟩ (prs_of t1 t2 (by simpa using hl) h.2)
theorem rel0 (H : Hp) : Rel g H [] [] H := ⟨Same.refl H, List.nodup_nil, rfl, fun n a c e => by simp at e, fun a h => by simp at h⟩
/-- the def that answers == -/
def EqDef (g : Gx) (X : Cx) (cg : Cg) (k : Nat) (q : Nat × Nat) : Prop := ∃ e, EntOk g X (cg.Φ q.2) e ∧ e.kd = .meth q.1 ∧ e.lvl + 2 ≤ k ∧ e.name = "__eq__" ∧ 2 = e.ps.length
theorem rcQ_obj (hK : X.K = g.K) (C : ClsOk g) (hr : Room k X.A) (hd : d ≤ 16) {q : Nat × Nat} (he : EqDef g X cg k q) :
    RcQ X d (fun x y H => ∃ xs c' ys, RP g H x (.obj q.1 xs) ∧ RP g H y (.obj c' ys) ∧ isTr (callF .pure (cg.Φ q.2) [.p (.obj q.1 xs), .p (.obj c' ys)] []) = true) := by
  intro A pins s σ H x y u v sb I rx ry hq
  obtain ⟨xs, c', ys, r1, r2, ht⟩ := hq
  obtain ⟨e, ⟨fa, fd, FF, DD, hk⟩, e1, e2, e3, e4⟩ := he
  rw [e1] at hk
  obtain ⟨hc, hmeth⟩ := hk
  obtain ⟨dvs, ds, hb, hd', hrp⟩ := DD 0 (Nat.zero_le _)
  have hn : dvs = [] := by
    have := (hrp fun _ => none).length
    rw [List.length_drop] at this
    exact List.eq_nil_of_length_eq_zero (by omega)
  subst hn
  cases hd'
  have hb' : Binds X.K fd e.ps [] := by rw [hK]; exact hb
  obtain ⟨M', hcall⟩ : ∃ M', callF .pure (cg.Φ q.2) [.p (.obj q.1 xs), .p (.obj c' ys)] [] = .ok (.p (.bl true)) M' := by
    unfold isTr at ht
    split at ht
    · rename_i M' h; exact ⟨M', h⟩
    · cases ht
  have okc : Ok g Wf σ H [] H (callF .pure (cg.Φ q.2) [.p (.obj q.1 xs), .p (.obj c' ys)] []) (kE g fun v' H' => v' = .bl true ∧ L2.Ext H H') := by
    rw [hcall]
    intro F' ι' H' e r v' rv
    refine ⟨?_, fun a o h => e.frame a o h (by simp)⟩
    cases rv with | p rv => cases rv; rfl
  have sp := callF_ok (rel0 (g := g) H) (vs := [x, y]) (.cons (.p r1) (.cons (.p r2) .nil)) okc
  rw [show ([x, y] : List V).length = e.ps.length from e4] at sp
  obtain ⟨tb, hl, hfst⟩ := ty_first hK C I (Same.refl H) r2 ry hc
  cases r1 with
  | @obj a da _ ws _ hc' ea hk' ra =>
    obtain rfl : u = Value.ref a := rx
    obtain ⟨mA, O, _⟩ := ins_get I.hok ea
    obtain ⟨od, J, _⟩ := O.look
    have vals : Vals [V.ref a, y] [Value.ref a, v] := .cons rfl (.cons ry .nil)
    obtain ⟨m, hF⟩ := I.fr
    have hu := sb.units hr hd
    refine PySem.W.cmp_K (op := .Eq) (by omega) hF I.ok.mod.kin J hl hfst (by show PySem.W.findIn X.K _ "__eq__" = _; rw [← e3]; exact hmeth.at_) hmeth.fn ?_
    have e0 : Env0 X.prog X.w X.K X.mg X.base A X.stack s H := by
      have e := I.env0
      exact ⟨by rw [sb.fr]; exact e.frames, e.mod, e.bs, e.bsz, e.funs, e.frf, e.hok, e.bare⟩
    have hl2 : ([Value.ref a, v] ++ ([] : List Value)).length = e.ps.length := by rw [List.append_nil, ← vals.length]; exact FF.len _ _ _ _ sp
    refine wpAny_call (codeAny_mono (FF.run A X.stack s H ⟨[.ref a, v], []⟩ [.ref a, v] [.ref a, y] _ (WE Wf σ) (sb.room hr hd e2) sb.grd e0 (by have := hb' s [.ref a, v] I.kIn hl2; rwa [List.append_nil] at this) vals sp) fun r s' hq => ?_)
    match r, hq with
    | .error er, hq => exact (passAt (X := X.nox) (W := Wf) takes0 σ pins H _ er s' (I.wish _) hq).elim
    | .ok (.ret u), hq =>
      obtain ⟨z, H', I', rz, ez, ex⟩ := I.after hq
      subst ez
      cases rz
      exact ⟨rfl, H', I', ex⟩
    | .ok .next, hq => exact hq.elim
    | .ok .brk, hq => exact hq.elim
    | .ok .cont, hq => exact hq.elim
theorem eqQ_atom (hr : Room k X.A) (hd : d ≤ 16) : EqQ X d (fun x y H => ∃ a b, RP g H x a ∧ RP g H y b ∧ eqWa a b = true) := by
  intro A pins s σ H x y u v sb I rx ry h
  obtain ⟨a, b, r1, r2, e⟩ := h
  unfold eqWa at e
  simp only [Bool.and_eq_true, decide_eq_true_eq] at e
  have hu := sb.units hr hd
  have : SeqAt.EqAt A s u v true := eq_nil (n := 0) (RP.rx I (Same.refl H) r1 rx) (RP.rx I (Same.refl H) r2 ry) (by omega) (by rw [if_pos ⟨e.1, e.2.1⟩, e.2.2])
  exact this X.prog X.w X.xe _ ⟨rfl, H, I, L2.Ext.rfl'⟩
theorem lookup_mem {c f : Nat} {fs : List (Nat × Nat)} (h : fs.lookup c = some f) : (c, f) ∈ fs := by
  induction fs with
  | nil => cases h
  | cons q r ih =>
    rw [List.lookup_cons] at h
    cases z : c == q.1 with
    | true =>
      rw [z] at h; cases h
      have := beq_iff_eq.mp z
      subst this
      exact List.mem_cons_self
    | false => rw [z] at h; exact List.mem_cons_of_mem _ (ih h)
theorem eqQ (hK : X.K = g.K) (C : ClsOk g) (hr : Room k X.A) (he : ∀ q ∈ fs, EqDef g X cg k q) : ∀ (n d : Nat), n + d ≤ 16 → EqQ X d (DQ g cg fs n)
  | 0, d, hd => fun A pins s σ H x y u v sb I rx ry h => by
    obtain ⟨a, b, r1, r2, e⟩ := h
    exact eqQ_atom (g := g) hr (by omega) A pins s σ H x y u v sb I rx ry ⟨a, b, r1, r2, e⟩
  | n + 1, d, hd => fun A pins s σ H x y u v sb I rx ry h => by
    have ih := eqQ hK C hr he n (d + 1) (by omega)
    obtain ⟨a, b, r1, r2, e⟩ := h
    unfold eqW at e
    split at e
    · rename_i xs ys
      simp only [Bool.and_eq_true, decide_eq_true_eq] at e
      cases r1 with
      | lst q1 t1 =>
        cases r2 with
        | lst q2 t2 =>
          exact (rcQ_list hr (by omega) (mon_DQ n) ih).1.eqQ (fun _ _ _ d => let ⟨a, b, _, _, hx, hy, _⟩ := d; ⟨a, b, hx, hy⟩) A pins s σ H _ _ u v sb I rx ry ⟨_, _, _, _, rfl, rfl, q1, q2, prs_of t1 t2 e.1 e.2⟩
    · rename_i xs ys
      simp only [Bool.and_eq_true, decide_eq_true_eq] at e
      cases r1 with
      | tup q1 t1 =>
        cases r2 with
        | tup q2 t2 =>
          exact (rcQ_tup hr (by omega) (mon_DQ n) ih).1.eqQ (fun _ _ _ d => let ⟨a, b, _, _, hx, hy, _⟩ := d; ⟨a, b, hx, hy⟩) A pins s σ H _ _ u v sb I rx ry ⟨_, _, _, _, rfl, rfl, SqT.of q1, SqT.of q2, prs_of t1 t2 e.1 e.2⟩
    · cases r1 with
      | dK q1 z1 t1 =>
        cases r2 with
        | dK q2 z2 t2 =>
          have w1 := List.map_eq_nil_iff.mp z1
          have w2 := List.map_eq_nil_iff.mp z2
          subst w1; subst w2
          exact (rcQ_dk hr (by omega)).1.eqQ (fun _ _ _ d => let ⟨a, b, hx, hy, _⟩ := d; ⟨a, b, hx, hy⟩) A pins s σ H _ _ u v sb I rx ry ⟨_, _, rfl, rfl, q1, q2⟩
    · rename_i c xs c' ys
      split at e
      · rename_i f hf
        refine (rcQ_obj hK C hr (by omega) (he _ (lookup_mem hf))).eqQ (fun x y H d => ?_) A pins s σ H x y u v sb I rx ry ⟨xs, c', ys, r1, r2, e⟩
        obtain ⟨_, _, _, q1, q2, _⟩ := d
        cases q1
        cases q2
        exact ⟨_, _, rfl, rfl⟩
      · cases e
    · exact eqQ_atom (g := g) hr (by omega) A pins s σ H x y u v sb I rx ry ⟨a, b, r1, r2, e⟩
end
section
variable {g : Gx} {F : Hp} {ι : List Addr} {M : Sto} {H : Hp}
/-- what is read of a value, as it stands in the heap -/
theorem rd_rp {cf : Nat → List Str} (hcf : cf = g.cf) (r : Rel g F ι M H) : ∀ (k : Nat) {v : V} {d : D} {x : P}, RD g F ι v d → rd cf 0 M k d = some x → RP g H v x := by
  have pcase : ∀ {v : V} {y x : P}, RD g F ι v (.p y) → some y = some x → RP g H v x := fun h e => by
    cases e
    cases h with
    | p h => exact h.mono r.sub
  intro k
  induction k with
  | zero =>
    intro v d x h e
    cases d with
    | p y => exact pcase h e
    | ref m => cases e
    | tup ds => cases e
  | succ k ih =>
    have all : ∀ {ds : List D} {vs : List V} {xs : List P}, RDs g F ι vs ds → mapO (rd cf 0 M k) ds = some xs → RPs g H vs xs := by
      intro ds
      induction ds with
      | nil =>
        intro vs xs h e
        cases h; cases e
        exact .nil
      | cons d ds ih2 =>
        intro vs xs h e
        unfold mapO at e
        cases e1 : rd cf 0 M k d with
        | none => rw [e1] at e; cases e
        | some y =>
          rw [e1] at e
          simp only [Option.map_eq_some_iff] at e
          obtain ⟨zs, e2, rfl⟩ := e
          cases h with
          | cons h1 h2 => exact .cons (ih h1 e1) (ih2 h2 e2)
    have allk : ∀ {α : Type} {kvs : List (α × D)} {vs : List V} {xs : List (α × P)}, RDs g F ι vs (kvs.map (·.2)) → mapO (fun q : α × D => (rd cf 0 M k q.2).map fun x => (q.1, x)) kvs = some xs → RPs g H vs (xs.map (·.2)) ∧ xs.map (·.1) = kvs.map (·.1) := by
      intro α kvs
      induction kvs with
      | nil =>
        intro vs xs h e
        cases h; cases e
        exact ⟨.nil, rfl⟩
      | cons q ds ih2 =>
        intro vs xs h e
        unfold mapO at e
        cases e1 : rd cf 0 M k q.2 with
        | none => rw [e1] at e; cases e
        | some y =>
          rw [e1] at e
          simp only [Option.map_some, Option.map_eq_some_iff] at e
          obtain ⟨zs, e2, rfl⟩ := e
          cases h with
          | cons h1 h2 =>
            obtain ⟨i1, i2⟩ := ih2 h2 e2
            exact ⟨.cons (ih h1 e1) i1, by simp [i2]⟩
    intro v d x h e
    cases d with
    | p y => exact pcase h (by simpa [rd] using e)
    | ref m =>
      cases h with
      | @ref _ a ea =>
        simp only [rd] at e
        split at e
        · cases e
        · split at e
          · rename_i ds q
            simp only [Option.map_eq_some_iff] at e
            obtain ⟨xs, e1, rfl⟩ := e
            obtain ⟨_, vs, e2, e3⟩ := r.cells _ a _ ea q
            exact .lst e2 (all e3 e1)
          · rename_i kvs q
            simp only [Option.map_eq_some_iff] at e
            obtain ⟨xs, e1, rfl⟩ := e
            obtain ⟨_, ws, e2, e3, e4⟩ := r.cells _ a _ ea q
            obtain ⟨i1, i2⟩ := allk e4 e1
            exact .dK e2 (by rw [e3, i2]) i1
          · rename_i c fs' q
            split at e
            · rename_i hf
              simp only [Option.map_eq_some_iff] at e
              obtain ⟨xs, e1, rfl⟩ := e
              obtain ⟨_, hc, dx, ws, e2, e3, e4⟩ := r.cells _ a _ ea q
              refine .obj hc e2 (by rw [e3, hf, hcf]) ?_
              have : ∀ {fs' : List (Str × D)} {vs : List V} {xs : List P}, RDs g F ι vs (fs'.map (·.2)) → mapO (fun q : Str × D => rd cf 0 M k q.2) fs' = some xs → RPs g H vs xs := by
                intro fs'
                induction fs' with
                | nil => intro vs xs h e; cases h; cases e; exact .nil
                | cons q ds ih2 =>
                  intro vs xs h e
                  unfold mapO at e
                  cases e1 : rd cf 0 M k q.2 with
                  | none => rw [e1] at e; cases e
                  | some y =>
                    rw [e1] at e
                    simp only [Option.map_eq_some_iff] at e
                    obtain ⟨zs, e2, rfl⟩ := e
                    cases h with
                    | cons h1 h2 => exact .cons (ih h1 e1) (ih2 h2 e2)
              exact this e4 e1
            · cases e
          · cases e
    | tup ds =>
      cases h with
      | @tup a _ _ ea rs =>
        simp only [rd, Option.map_eq_some_iff] at e
        obtain ⟨xs, e1, rfl⟩ := e
        exact .tup (r.sub _ _ ea) (all rs e1)
theorem Rel.up {H' : Hp} (r : Rel g F ι M H) (e : L2.Ext H H') : Rel g F ι M H' ∧ Ext F ι H F ι H' := by
  have keep : ∀ a ∈ ι, H' a = H a := fun a ha => by
    obtain ⟨o, ho⟩ := r.there a ha
    rw [ho, e _ _ ho]
  refine ⟨⟨r.sub.trans e, r.nd, r.len, fun n a c h1 h2 => ?_, fun a ha => ?_⟩, ⟨Same.refl F, ⟨[], by simp⟩, fun b o h _ => e _ _ h, fun _ h => .inl h, fun _ _ h => .inl h, fun a ha => ?_⟩⟩
  · have q := r.cells n a c h1 h2
    have ha : a ∈ ι := List.mem_of_getElem? h1
    refine q.mono (Same.refl F) ⟨[], by simp⟩ (fun hc => ?_) (keep a ha)
    cases c with
    | dead => exact absurd rfl hc
    | lst => exact q.1
    | dK => exact q.1
    | ins => exact q.1
    | xd => exact q.1
    | xc => exact q.1
  · obtain ⟨o, ho⟩ := r.there a ha
    exact ⟨o, e _ _ ho⟩
  · obtain ⟨o, ho⟩ := r.there a ha
    exact ⟨o, e _ _ ho⟩
end
section
variable {X : Cx} {g : Gx} {cg : Cg} {k : Nat} {fs : List (Nat × Nat)}
/-- what a comparison that is known to be true does -/
theorem eqX_op (hK : X.K = g.K) (C : ClsOk g) (hr : Room k X.A) (hgd : X.A.guards = some []) (hcf : cg.cf = g.cf) (he : ∀ q ∈ fs, EqDef g X cg k q)
    {F : Hp} {ι : List Addr} {M : Sto} {H : Hp} {pins : List (Addr × Obj)} {σ : St} {s : Shared} {x y : V} {u v : Value} {dx dy : D} (I : Inv X pins σ H s) (rel : Rel g F ι M H) (r1 : RD g F ι x dx) (r2 : RD g F ι y dy) (rx : RelV x u) (ry : RelV y v) (h : eqX cg fs dx dy M = true) :
    wpAny (model X.prog X.w) X.A (richCompare .Eq u v) (fun r s' => r = .bool true ∧ ∃ H', Inv X pins σ H' s' ∧ L2.Ext H H') X.xe s ∧
    wpAny (model X.prog X.w) X.A (richCompare .NotEq u v) (fun r s' => r = .bool false ∧ ∃ H', Inv X pins σ H' s' ∧ L2.Ext H H') X.xe s := by
  unfold eqX at h
  split at h
  · rename_i a b ha hb
    simp only [Bool.and_eq_true, decide_eq_true_eq] at h
    obtain ⟨h0, h4, e⟩ := h
    have p1 := rd_rp hcf rel FU r1 ha
    have p2 := rd_rp hcf rel FU r2 hb
    have sb : SbG X 0 X.A := ⟨hr.hd, rfl, by omega, rfl, hgd⟩
    have ih := eqQ hK C hr he 7 1 (by omega)
    unfold FU eqW at e
    split at e
    · rename_i xs ys
      simp only [Bool.and_eq_true, decide_eq_true_eq] at e
      cases p1 with
      | lst q1 t1 =>
        cases p2 with
        | lst q2 t2 =>
          have z := rcQ_list (d := 0) hr (by omega) (mon_DQ 7) ih
          have dd : DList (DQ g cg fs 7) _ _ H := ⟨_, _, _, _, rfl, rfl, q1, q2, prs_of t1 t2 e.1 e.2⟩
          exact ⟨z.1 X.A pins s σ H _ _ u v sb I rx ry dd, z.2 X.A pins s σ H _ _ u v sb I rx ry dd⟩
    · rename_i xs ys
      simp only [Bool.and_eq_true, decide_eq_true_eq] at e
      cases p1 with
      | tup q1 t1 =>
        cases p2 with
        | tup q2 t2 =>
          have z := rcQ_tup (d := 0) hr (by omega) (mon_DQ 7) ih
          have dd : DTup X.K (DQ g cg fs 7) _ _ H := ⟨_, _, _, _, rfl, rfl, SqT.of q1, SqT.of q2, prs_of t1 t2 e.1 e.2⟩
          exact ⟨z.1 X.A pins s σ H _ _ u v sb I rx ry dd, z.2 X.A pins s σ H _ _ u v sb I rx ry dd⟩
    · cases p1 with
      | dK q1 z1 t1 =>
        cases p2 with
        | dK q2 z2 t2 =>
          have w1 := List.map_eq_nil_iff.mp z1
          have w2 := List.map_eq_nil_iff.mp z2
          subst w1; subst w2
          have z := rcQ_dk (X := X) (d := 0) hr (by omega)
          exact ⟨z.1 X.A pins s σ H _ _ u v sb I rx ry ⟨_, _, rfl, rfl, q1, q2⟩, z.2 X.A pins s σ H _ _ u v sb I rx ry ⟨_, _, rfl, rfl, q1, q2⟩⟩
    · exact absurd rfl h4
    · unfold eqWa at e
      simp only [Bool.and_eq_true, decide_eq_true_eq] at e
      exact absurd e.1 h0
  · cases h
end
end Mi

set_option maxRecDepth 100000
set_option maxHeartbeats 4000000
/-! A comparison that is handed on to the instance on the right. -/
namespace MiEq
open PySem PySem.SeqAt PySem.Spec
open AutoSeq1 (wpAny_loadPart')
open MeetsSeq
section
variable {C dx : Addr}
theorem iblD (b : Bool) (l : Addr) :
    Meets (Builtin.«int.__eq__» ⟨[.bool b, .ref l], []⟩) (fun _ R s => s.heap.get? l = some (PySem.W.instObj C dx) ∧ R (.ok (.ret .notImplemented)) s) :=
  .of_wp fun prog w A R s h => by obtain ⟨hp, g, d, tk, os⟩ := s; obtain ⟨hl, h⟩ := h; unfold PySem.W.instObj at hl; wp_walk using wpAny_loadPart' hl, wpAny_load hl; exact ⟨_, rfl, h⟩
theorem iinD (b : Int) (u : Tok) (l : Addr) :
    Meets (Builtin.«int.__eq__» ⟨[.int b u, .ref l], []⟩) (fun _ R s => s.heap.get? l = some (PySem.W.instObj C dx) ∧ R (.ok (.ret .notImplemented)) s) :=
  .of_wp fun prog w A R s h => by obtain ⟨hp, g, d, tk, os⟩ := s; obtain ⟨hl, h⟩ := h; unfold PySem.W.instObj at hl; wp_walk using wpAny_loadPart' hl, wpAny_load hl; exact ⟨_, rfl, h⟩
theorem istD (b : Str) (u : Tok) (l : Addr) :
    Meets (Builtin.«str.__eq__» ⟨[.str b u, .ref l], []⟩) (fun _ R s => s.heap.get? l = some (PySem.W.instObj C dx) ∧ R (.ok (.ret .notImplemented)) s) :=
  .of_wp fun prog w A R s h => by obtain ⟨hp, g, d, tk, os⟩ := s; obtain ⟨hl, h⟩ := h; unfold PySem.W.instObj at hl; wp_walk using wpAny_loadPart' hl, wpAny_load hl; exact ⟨_, rfl, h⟩
end
section
variable {prog : Program} {w : World} {A : Around} {E : Value → Shared → Prop} {s : Shared} {K : PySem.W.Frag} {x C dx : Addr} {ox : Obj} {od : Option Obj}
theorem ilsD {R : Result → Shared → Prop} {l b : Addr} {items : Array Value} {n : Nat} {dd : Option Addr} {sl : Array (Option Value)} (hl : s.heap.get? l = some { cls := .type "list", dict := dd, data := .seq items n, slots := sl })
    (hi : ∀ Q : Bool → Shared → Prop, Q false s → wpAny (model prog w) A.in1 (isInstance (.ref b) (.type "list")) Q (fun e s' => R (.error e) s') s) (h : R (.ok (.ret .notImplemented)) s) :
    wpAny (model prog w) A.in1 (Builtin.«list.__eq__» ⟨[.ref l, .ref b], []⟩) (GQ.FinOf prog w A R) (fun e s' => R (.error e) s') s := by
  obtain ⟨hp, g, d, tk, os⟩ := s
  wp_walk using wpAny_loadPart' hl, hi
  exact h
theorem itpD {R : Result → Shared → Prop} {l b : Addr} {items : Array Value} {n : Nat} {dd : Option Addr} {sl : Array (Option Value)} (hl : s.heap.get? l = some { cls := .type "tuple", dict := dd, data := .seq items n, slots := sl })
    (hi : ∀ Q : Bool → Shared → Prop, Q false s → wpAny (model prog w) A.in1 (isInstance (.ref b) (.type "tuple")) Q (fun e s' => R (.error e) s') s) (h : R (.ok (.ret .notImplemented)) s) :
    wpAny (model prog w) A.in1 (Builtin.«tuple.__eq__» ⟨[.ref l, .ref b], []⟩) (GQ.FinOf prog w A R) (fun e s' => R (.error e) s') s := by
  obtain ⟨hp, g, d, tk, os⟩ := s
  wp_walk using wpAny_loadPart' hl, hi
  exact h
theorem isInst_lk {M : Model} {T : String} {Q : Bool → Shared → Prop} (I : PySem.W.InstAt s.heap x ox C od) (e : PySem.W.Looks M s.heap (isSubtype (.ref C) (.type T)) false) (h : Q false s) : wpAny M A (isInstance (.ref x) (.type T)) Q E s := by
  unfold isInstance
  exact wpAny_bind (I.type.here (e.here h))
theorem idcD {l : Addr} (hl : IsDc s.heap l) (I : PySem.W.InstAt s.heap x ox C od) (e : PySem.W.Looks (model prog w) s.heap (isSubtype (.ref C) (.type "dict")) false) (Q' : Value → Shared → Prop) (hq : Q' .notImplemented s) :
    wpAny (model prog w) A (call (.builtin "dict.__eq__") [.ref l, .ref x]) Q' E s := by
  refine wpAny_call_entry PySem.F.slot_dict_eq hl.ty PySem.F.entry_dict_eq ?_ (PySem.F.args_dict_eq_2 _ _)
  show wpAny _ _ (Builtin.Dict.dictSlotArgs "__eq__" ⟨[.ref l, .ref x], []⟩ >>= _) _ _ s
  refine wpAny_bind ?_
  unfold Builtin.Dict.dictSlotArgs
  refine wpAny_bind (wpAny_notOrdered_dict hl.ty ?_)
  show wpAny _ _ (pure (Value.ref l, Value.ref x)) _ _ s
  refine wpAny_pure ?_
  refine wpAny_bind (isInst_lk I e ?_)
  simp only [Bool.not_false, if_true]
  refine wpAny_bind (wpAny_rule ?_)
  exact wpAny_pure ⟨_, rfl, hq⟩
/-- the left one declines, the instance on the right answers -/
theorem rc_refl {u : Value} {T id : String} {f : Addr} {Q : Value → Shared → Prop} (hu : A.units < cLine) (X : K.In s.heap) (I : PySem.W.InstAt s.heap x ox C od) (hT : s.TypeIs u T) (hs : PySem.W.Looks (model prog w) s.heap (isSubtype (.ref C) (.type T)) false)
    (slot : Slot T (cmpInfo .Eq).2.1 id) (hd : ∀ Q' : Value → Shared → Prop, Q' .notImplemented s → wpAny (model prog w) A (call (.builtin id) [u, .ref x]) Q' E s)
    (hf0 : PySem.W.findIn K (.ref C) "__eq__" = some (some (.ref f))) (hf : PySem.W.isFn K (.ref f) = true)
    (h : wpAny (model prog w) A (call (.ref f) [.ref x, u]) (PySem.W.CmpBack Q) E s) : wpAny (model prog w) A (richCompare .Eq u (.ref x)) Q E s := by
  have one : wpAny (model prog w) A (tryCompare (.ref x) (cmpInfo .Eq).2.2 u) (fun r s' => ∃ v, r = some v ∧ Q v s') E s := by
    unfold tryCompare
    refine wpAny_bind (PySem.W.ifBound_K X I hf0 hf (wpAny_mono h (fun v s' hv => ?_) fun _ _ e => e))
    cases v <;> first | exact hv.elim | exact wpAny_pure ⟨_, rfl, hv⟩
  rcases hi : cmpInfo CmpOp.Eq with ⟨sym, nf, nr⟩
  rw [hi] at slot one
  simp only [richCompare, hi, hT.oneThing_none]
  try with_reducible refine wpAny_holding ?_
  refine wpAny_bind (wpAny_cRoomFor_or (.inr hu) ?_)
  refine wpAny_bind (wpAny_typeOf hT (wpAny_bind (I.type.here ?_)))
  have hne : (Value.type T != Value.ref C) = true := rfl
  simp only [hne, if_true]
  refine wpAny_bind (hs.here ?_)
  simp only [Bool.false_eq_true, if_false, Bool.not_false, if_true]
  refine wpAny_bind (m := tryCompare u _ (.ref x)) (wpAny_tryCompare_declines hT slot (hd _ ⟨rfl, ?_⟩))
  refine wpAny_bind (m := tryCompare (.ref x) _ u) (wpAny_mono one (fun r s' z => ?_) fun _ _ e => e)
  obtain ⟨v, rfl, hq⟩ := z
  exact wpAny_pure hq
end
end MiEq
namespace Mi
open PySem PySem.Spec L2
section
variable {X : Cx} {g : Gx}
/-- a value that is no instance declines -/
theorem declines {H : Hp} {pins : List (Addr × Obj)} {σ : St} {s : Shared} (C : ClsOk g) (hK : X.K = g.K) (I : Inv X pins σ H s) {A : Around} {c : Nat} (hc : g.nc c = true) {b dx : Addr} {od : Option Obj} (J : PySem.W.InstAt s.heap b (PySem.W.instObj (g.ca c) dx) (g.ca c) od) {y : V} {u : Value} {p : P} (rp : RP g H y p) (ry : RelV y u) (hp : p.kd < 4) {E : Value → Shared → Prop} :
    ∃ (T id : String), s.TypeIs u T ∧ PySem.W.Looks (model X.prog X.w) s.heap (isSubtype (.ref (g.ca c)) (.type T)) false ∧ Slot T (cmpInfo .Eq).2.1 id ∧ ∀ Q' : Value → Shared → Prop, Q' .notImplemented s → wpAny (model X.prog X.w) A (call (.builtin id) [u, .ref b]) Q' E s := by
  have lk : ∀ n, n ∈ NT → PySem.W.Looks (model X.prog X.w) s.heap (isSubtype (.ref (g.ca c)) (.type n)) false := fun n hn => by
    have e := C.k3 c n hc hn
    unfold PySem.W.kitOne at e
    split at e
    · cases e
    · exact (PySem.W.kit_cls (by rw [← hK]; exact I.kIn) e).2.2
  have hat := J.at_
  cases rp with
  | non =>
    cases ry
    exact ⟨_, _, rfl, lk "NoneType" (by decide), PySem.F.slot_NoneType_eq, fun Q' hq => PySem.call_gives PySem.F.slot_NoneType_eq rfl PySem.F.entry_NoneType_eq (PySem.F.args_NoneType_eq_2 _ _) (PySem.SeqAt.NoneType___eq___none_ref_0 b) hq⟩
  | bl x =>
    cases ry
    exact ⟨_, _, rfl, lk "bool" (by decide), PySem.F.slot_bool_eq, fun Q' hq => PySem.call_meets PySem.F.slot_bool_eq rfl PySem.F.entry_int_eq (PySem.F.args_int_eq_2 _ _) (MiEq.iblD x b) ⟨hat, hq⟩⟩
  | int i =>
    obtain ⟨t, rfl⟩ := ry
    exact ⟨_, _, typeIs_int s i t, lk "int" (by decide), PySem.F.slot_int_eq, fun Q' hq => PySem.call_meets PySem.F.slot_int_eq (typeIs_int s i t) PySem.F.entry_int_eq (PySem.F.args_int_eq_2 _ _) (MiEq.iinD i t b) ⟨hat, hq⟩⟩
  | str x =>
    obtain ⟨t, rfl⟩ := ry
    exact ⟨_, _, typeIs_str s x t, lk "str" (by decide), PySem.F.slot_str_eq, fun Q' hq => PySem.call_meets PySem.F.slot_str_eq (typeIs_str s x t) PySem.F.entry_str_eq (PySem.F.args_str_eq_2 _ _) (MiEq.istD x t b) ⟨hat, hq⟩⟩
  | @tup a vs xs e r =>
    obtain rfl : u = .ref a := ry
    obtain ⟨its, rv, ⟨o, ho, hcl, n, hd⟩, _⟩ := I.tuple (SqT.of e)
    obtain ⟨cls, dd, data, sl⟩ := o
    simp only at hcl hd
    subst hcl hd
    exact ⟨_, _, ⟨_, ho, rfl⟩, lk "tuple" (by decide), PySem.F.slot_tuple_eq, fun Q' hq => GQ.call_here PySem.F.slot_tuple_eq ⟨_, ho, rfl⟩ PySem.F.entry_tuple_eq (PySem.F.args_tuple_eq_2 _ _) (MiEq.itpD (R := wants Q' E) ho (fun Q q => MiEq.isInst_lk J (lk "tuple" (by decide)) q) hq)⟩
  | @lst a vs xs e r =>
    obtain rfl : u = .ref a := ry
    obtain ⟨its, rv, ⟨o, n, ho, hcl, _, hd⟩, _⟩ := I.list (SqL.of e)
    obtain ⟨cls, dd, data, sl⟩ := o
    simp only at hcl hd
    subst hcl hd
    exact ⟨_, _, ⟨_, ho, rfl⟩, lk "list" (by decide), PySem.F.slot_list_eq, fun Q' hq => GQ.call_here PySem.F.slot_list_eq ⟨_, ho, rfl⟩ PySem.F.entry_list_eq (PySem.F.args_list_eq_2 _ _) (MiEq.ilsD (R := wants Q' E) ho (fun Q q => MiEq.isInst_lk J (lk "list" (by decide)) q) hq)⟩
  | @dK a ws kvs e _ r =>
    obtain rfl : u = .ref a := ry
    obtain ⟨_, _, vs, _, o, es, ep, h1, h2, h3, _⟩ := dk_of I.hok e
    have hdc : MiEq.IsDc s.heap a := ⟨o, es, ep, h1, h2.1, h3⟩
    exact ⟨_, _, hdc.ty, lk "dict" (by decide), PySem.F.slot_dict_eq, fun Q' hq => MiEq.idcD hdc J (lk "dict" (by decide)) Q' hq⟩
  | obj => simp [P.kd] at hp
  | scr => simp [P.kd] at hp
end
end Mi

set_option maxRecDepth 100000
set_option maxHeartbeats 4000000
/-! Comparisons that own classes answer: the rule. -/
namespace Mi
open PySem PySem.Spec L2
section
variable {X : Cx} {g : Gx} {cg : Cg} {W : WX} {k : Nat}
def rO2 (g : Gx) (cg : Cg) (op : COp) (fs : List (Nat × Nat)) : R2 := fun x y H Q => ∃ F ι M dx dy, Rel g F ι M H ∧ RD g F ι x dx ∧ RD g F ι y dy ∧ Ok g Wf [] F ι H (ocmpR cg op fs dx dy M) (kE g Q)
theorem run_in1 {f : Addr} {fd : FuncData} {ps : List Str} {sp : Sp} {pins : List (Addr × Obj)} {σ : St} {H : Hp} {s : Shared} {Q : VK} {us : List Value} {vs : List V} {E' : Value → Shared → Prop} (F : FnG X.prog X.w X.K X.mg X.base (L2.CX X.prog X.w) k f fd ps sp) (hr : Room (k + 1) X.A) (hgd : X.A.guards = some []) (hb : Binds X.K fd ps []) (I : Inv X pins σ H s) (r : Vals vs us) (h : sp vs H Q (WE Wf σ)) :
    wpAny (model X.prog X.w) X.A.in1 (call (.ref f) us) (EP X pins σ Q) E' s := by
  have hl : (us ++ []).length = ps.length := by rw [List.append_nil, ← r.length]; exact F.len _ _ _ _ h
  refine wpAny_call (codeAny_mono (F.run X.A.in1 X.stack s H ⟨us, []⟩ us vs Q (WE Wf σ) hr.in1 hgd I.env0.in1 (by have := hb s us I.kIn hl; rwa [List.append_nil] at this) r h) fun r s' hq => ?_)
  match r, hq with
  | .error er, hq => exact (passAt (X := X.nox) (W := Wf) takes0 σ pins H _ er s' (I.wish _) hq).elim
  | .ok (.ret u), hq => exact I.after hq
  | .ok .next, hq => exact hq.elim
  | .ok .brk, hq => exact hq.elim
  | .ok .cont, hq => exact hq.elim
theorem ocmp_op (hK : X.K = g.K) (C : ClsOk g) (hr : Room k X.A) (hgd : X.A.guards = some []) {op : COp} {fs : List (Nat × Nat)} {nm : Str} (hnm : cmpN op = some nm) (hcf : cg.cf = g.cf)
    (he : ∀ q ∈ fs, ∃ e, EntOk g X (cg.Φ q.2) e ∧ e.kd = .meth q.1 ∧ e.lvl + 2 ≤ k ∧ e.name = nm ∧ 2 = e.ps.length) (hne : op = .ne → ∀ q ∈ fs, PySem.W.findIn g.K (.ref (g.ca q.1)) "__ne__" = some (some (.builtin "object.__ne__"))) : OpR X (compareOp (opC op)) (rO2 g cg op fs) := by
  intro pins s σ H x y v u Q I rx ry h
  obtain ⟨F, ι, M, dx, dy, rel, r1, r2, ok⟩ := h
  unfold ocmpR at ok
  split at ok
  · rename_i c hx
    split at ok
    · rename_i f hf
      split at ok
      · rename_i b M' hcall
        cases dx with
        | ref n => cases hx
        | tup ds => cases hx
        | p px =>
          cases px with
          | obj c' xs =>
            cases hx
            have hm := List.mem_of_find?_eq_some (p := fun q : Nat × Nat => c == q.1) (l := fs) (a := (c, f)) (by
              clear hcall ok
              induction fs with
              | nil => cases hf
              | cons q r ih =>
                rw [List.lookup_cons] at hf
                rw [List.find?_cons]
                cases z : c == q.1 with
                | true => rw [z] at hf; cases hf; have := beq_iff_eq.mp z; subst this; rfl
                | false => rw [z] at hf; exact ih (fun q hq => he q (List.mem_cons_of_mem _ hq)) (fun h q hq => hne h q (List.mem_cons_of_mem _ hq)) hf)
            obtain ⟨e, ⟨fa, fd, FF, DD, hk⟩, e1, e2, e3, e4⟩ := he _ hm
            rw [e1] at hk
            obtain ⟨hc, hmeth⟩ := hk
            obtain ⟨dvs, ds, hb, hd, hrp⟩ := DD 0 (Nat.zero_le _)
            have hn : dvs = [] := by
              have := (hrp fun _ => none).length
              rw [List.length_drop] at this
              exact List.eq_nil_of_length_eq_zero (by omega)
            subst hn
            cases hd
            have hb' : Binds X.K fd e.ps [] := by rw [hK]; exact hb
            have okc : Ok g Wf σ F ι H (callF .pure (cg.Φ f) [.p (.obj c xs), dy] M) (kE g fun v' H' => v' = .bl b ∧ Q (.bl (oneg op b)) H') := by
              rw [hcall]
              intro F' ι' H' e r v' rv
              refine ⟨?_, ok F' ι' H' e r _ (.p (.bl _))⟩
              cases rv with | p rv => cases rv; rfl
            have sp := callF_ok rel (vs := [x, y]) (ds := [.p (.obj c xs), dy]) (.cons r1 (.cons r2 .nil)) okc
            rw [show ([x, y] : List V).length = e.ps.length from e4] at sp
            have rp2 : ∃ p, dy = .p p := by
              cases dy with
              | p q => exact ⟨q, rfl⟩
              | ref n => simp [callF, toPs] at hcall
              | tup ds => simp [callF, toPs] at hcall
            obtain ⟨py, rfl⟩ := rp2
            cases r1 with
            | p r1 =>
              cases r1 with
              | @obj a da _ ws _ hc' ea hk' ra =>
                obtain rfl : v = Value.ref a := rx
                cases r2 with
                | p r2 =>
                  obtain ⟨mA, O, _⟩ := ins_get I.hok (rel.sub _ _ ea)
                  obtain ⟨od, J, _⟩ := O.look
                  obtain ⟨tb, hl, hfst⟩ := ty_first hK C I rel.sub r2 ry hc
                  have vals : Vals [V.ref a, y] [Value.ref a, u] := .cons rfl (.cons ry .nil)
                  obtain ⟨m, hF⟩ := I.fr
                  have plain : ∀ cop : CmpOp, opC op = cop → (PySem.cmpInfo cop).2.1 = nm → op ≠ .ne → wpAny (model X.prog X.w) X.A (richCompare cop (.ref a) u) (EP X pins σ Q) X.xe s := by
                    intro cop h1 h2 h3
                    refine PySem.W.cmp_K (op := cop) hr.units0 hF I.ok.mod.kin J hl hfst (by rw [h2, ← e3]; exact hmeth.at_) hmeth.fn ?_
                    refine wpAny_mono (run_fnA (us := [.ref a, u]) (vs := [.ref a, y]) FF (hr.mono (by omega)) hgd hb' .nil (passAt (W := Wf) takes0 σ) I vals (by simpa using sp)) (fun r s' z => ?_) fun _ _ z => z
                    obtain ⟨v', H', I', rv, rfl, q⟩ := z
                    cases rv
                    exact ⟨.bl b, H', I', rfl, by have : oneg op b = b := by cases op <;> first | rfl | exact absurd rfl h3
                                                  rwa [this] at q⟩
                  cases op with
                  | eq => cases hnm; exact plain .Eq rfl rfl (fun z => nomatch z)
                  | lt => cases hnm; exact plain .Lt rfl rfl (fun z => nomatch z)
                  | le => cases hnm; exact plain .LtE rfl rfl (fun z => nomatch z)
                  | gt => cases hnm; exact plain .Gt rfl rfl (fun z => nomatch z)
                  | ge => cases hnm; exact plain .GtE rfl rfl (fun z => nomatch z)
                  | ne =>
                    cases hnm
                    show wpAny (model X.prog X.w) X.A (richCompare .NotEq (.ref a) u) (EP X pins σ Q) X.xe s
                    refine PySem.W.own_ne (Nat.lt_of_le_of_lt (Nat.add_le_add_left (by decide : 1 ≤ 64) _) hr.units) I.kIn J hl hfst (by rw [hK]; exact hne rfl _ hm) (by rw [hK]; exact C.c4 c hc) (by rw [← e3]; exact hmeth.at_) hmeth.fn ?_
                    refine wpAny_mono (run_in1 (us := [.ref a, u]) (vs := [.ref a, y]) FF (hr.mono (by omega)) hgd hb' I vals sp) (fun r s' z => ?_) fun _ _ z => z
                    obtain ⟨v', H', I', rv, rfl, q⟩ := z
                    cases rv
                    exact ⟨b, rfl, .bl (!b), H', I', rfl, q⟩
                  | _ => cases hnm
          | _ => cases hx
      · exact ok.elim
    · exact ok.elim
  · split at ok
    · rename_i c hy
      split at ok
      · rename_i hq
        obtain ⟨rfl, hoff⟩ := hq
        split at ok
        · rename_i f hf
          split at ok
          · rename_i b M' hcall
            cases dy with
            | ref n => cases hy
            | tup ds => cases hy
            | p py =>
              cases py with
              | obj c' ys =>
                cases hy
                cases dx with
                | ref n => cases hoff
                | tup ds => cases hoff
                | p px =>
                  have hk : px.kd < 4 := of_decide_eq_true hoff
                  obtain ⟨e, ⟨fa, fd, FF, DD, hkd⟩, e1, e2, e3, e4⟩ := he _ (lookup_mem hf)
                  rw [e1] at hkd
                  obtain ⟨hc, hmeth⟩ := hkd
                  obtain ⟨dvs, ds, hb, hd, hrp⟩ := DD 0 (Nat.zero_le _)
                  have hn : dvs = [] := by
                    have := (hrp fun _ => none).length
                    rw [List.length_drop] at this
                    exact List.eq_nil_of_length_eq_zero (by omega)
                  subst hn
                  cases hd
                  have hb' : Binds X.K fd e.ps [] := by rw [hK]; exact hb
                  have okc : Ok g Wf σ F ι H (callF .pure (cg.Φ f) [.p (.obj c ys), .p px] M) (kE g fun v' H' => v' = .bl b ∧ Q (.bl b) H') := by
                    rw [hcall]
                    intro F' ι' H' e r v' rv
                    refine ⟨?_, ok F' ι' H' e r _ (.p (.bl _))⟩
                    cases rv with | p rv => cases rv; rfl
                  have sp := callF_ok rel (vs := [y, x]) (ds := [.p (.obj c ys), .p px]) (.cons r2 (.cons r1 .nil)) okc
                  rw [show ([y, x] : List V).length = e.ps.length from e4] at sp
                  cases r1 with
                  | p r1 =>
                    cases r2 with
                    | p r2 =>
                      cases r2 with
                      | @obj a da _ ws _ hc' ea hk' ra =>
                        obtain rfl : u = Value.ref a := ry
                        obtain ⟨mA, O, _⟩ := ins_get I.hok (rel.sub _ _ ea)
                        obtain ⟨od, J, _⟩ := O.look
                        obtain ⟨T, id, hT, hsub, slot, hdec⟩ := declines C hK I (A := X.A) hc J (r1.mono rel.sub) rx hk (E := X.xe)
                        have vals : Vals [V.ref a, x] [Value.ref a, v] := .cons rfl (.cons rx .nil)
                        have hnm' : nm = "__eq__" := by cases hnm; rfl
                        show wpAny (model X.prog X.w) X.A (richCompare .Eq v (.ref a)) (EP X pins σ Q) X.xe s
                        refine MiEq.rc_refl (K := X.K) hr.units0 I.kIn J hT hsub slot hdec (by rw [← hnm', ← e3]; exact hmeth.at_) hmeth.fn ?_
                        refine wpAny_mono (run_fnA (us := [.ref a, v]) (vs := [.ref a, x]) FF (hr.mono (by omega)) hgd hb' .nil (passAt (W := Wf) takes0 σ) I vals (by simpa using sp)) (fun r s' z => ?_) fun _ _ z => z
                        obtain ⟨v', H', I', rv, rfl, q⟩ := z
                        cases rv
                        exact ⟨.bl b, H', I', rfl, q⟩
              | _ => cases hy
          · exact ok.elim
        · exact ok.elim
      · exact ok.elim
    · split at ok
      · rename_i b e
        exact cmp_op (g := g) (cf := cg.cf) hK hr op pins s σ H x y v u Q I rx ry ⟨F, ι, M, dx, dy, b, rel, r1, r2, e, Ok.here ok rel _ (.p (.bl b))⟩
      · split at ok
        · rename_i hq
          have hq2 := hq.2
          have he' : ∀ q ∈ fs, EqDef g X cg k q := fun q hqm => by
            obtain ⟨e, e0, e1, e2, e3, e4⟩ := he q hqm
            refine ⟨e, e0, e1, e2, ?_, e4⟩
            rw [e3]
            rcases hq.1 with rfl | rfl <;> (cases hnm; rfl)
          have z := eqX_op hK C hr hgd hcf he' I rel r1 r2 rx ry hq2
          have back : ∀ (b : Bool) (H' : Hp), L2.Ext H H' → oneg op true = b → Q (.bl b) H' := fun b H' e hb => by
            subst hb
            obtain ⟨u1, u2⟩ := rel.up e
            exact ok F ι H' u2 u1 _ (.p (.bl _))
          rcases hq.1 with rfl | rfl
          · show wpAny (model X.prog X.w) X.A (richCompare .Eq v u) (EP X pins σ Q) X.xe s
            refine wpAny_mono z.1 (fun r s' w => ?_) fun _ _ w => w
            obtain ⟨rfl, H', I', ex⟩ := w
            exact ⟨.bl true, H', I', rfl, back true H' ex rfl⟩
          · show wpAny (model X.prog X.w) X.A (richCompare .NotEq v u) (EP X pins σ Q) X.xe s
            refine wpAny_mono z.2 (fun r s' w => ?_) fun _ _ w => w
            obtain ⟨rfl, H', I', ex⟩ := w
            exact ⟨.bl false, H', I', rfl, back false H' ex rfl⟩
        · exact ok.elim
theorem ocmpR_noex {op : COp} {fs : List (Nat × Nat)} {x y : D} {M : Sto} (c : Nat) (v : D) (M' : Sto) : ocmpR cg op fs x y M ≠ .exc c v M' := by
  unfold ocmpR
  split
  · split
    · split <;> exact fun h => nomatch h
    · exact fun h => nomatch h
  · split
    · split
      · split
        · split <;> exact fun h => nomatch h
        · exact fun h => nomatch h
      · exact fun h => nomatch h
    · split
      · exact fun h => nomatch h
      · split <;> exact fun h => nomatch h
theorem e_ocmp (hK : X.K = g.K) (C : ClsOk g) (hr : Room k X.A) (hgd : X.A.guards = some []) {op : COp} {fs : List (Nat × Nat)} {nm : Str} (hnm : cmpN op = some nm) (hcf : cg.cf = g.cf)
    (he : ∀ q ∈ fs, ∃ e, EntOk g X (cg.Φ q.2) e ∧ e.kd = .meth q.1 ∧ e.lvl + 2 ≤ k ∧ e.name = nm ∧ 2 = e.ps.length) (hne : op = .ne → ∀ q ∈ fs, PySem.W.findIn g.K (.ref (g.ca q.1)) "__ne__" = some (some (.builtin "object.__ne__")))
    {A B : ME} {a b : Expr} {pos : Pos} (hm : behindInMarks (opC op) b = false) (ha : PE X a (tE g cg W A)) (hb : PE X b (tE g cg W B)) : PE X (.Compare a [opC op] [b] pos) (tE g cg W (.ocmp op fs A B)) := by
  refine PE.weak (pe_cmpR (ocmp_op hK C hr hgd hnm hcf he hne) ha hb hm) fun σ H Q ⟨F, ι, M, ρ, r, s, ok⟩ => ?_
  refine tE_bind r s ok fun v d F1 ι1 M1 H1 r1 s1 rv ok1 _ => tE_bind r1 s1 ok1 fun w d' F2 ι2 M2 H2 r2 s2 rw' ok2 e2 => ?_
  exact ⟨F2, ι2, M2, d, d', r2, rv.ext e2, rw', ok2.noex fun c v M => ocmpR_noex c v M⟩
theorem ocmpR_bool (op : COp) (fs : List (Nat × Nat)) (x y : D) (M : Sto) : ocmpR cg op fs x y M = .stuck ∨ ∃ b M', ocmpR cg op fs x y M = .ok (.p (.bl b)) M' := by
  unfold ocmpR
  split
  · split
    · split
      · exact .inr ⟨_, _, rfl⟩
      · exact .inl rfl
    · exact .inl rfl
  · split
    · split
      · split
        · split
          · exact .inr ⟨_, _, rfl⟩
          · exact .inl rfl
        · exact .inl rfl
      · exact .inl rfl
    · split
      · exact .inr ⟨_, _, rfl⟩
      · split
        · exact .inr ⟨_, _, rfl⟩
        · exact .inl rfl
theorem t_ocmp (hK : X.K = g.K) (C : ClsOk g) (hr : Room k X.A) (hgd : X.A.guards = some []) {op : COp} {fs : List (Nat × Nat)} {nm : Str} (hnm : cmpN op = some nm) (hcf : cg.cf = g.cf)
    (he : ∀ q ∈ fs, ∃ e, EntOk g X (cg.Φ q.2) e ∧ e.kd = .meth q.1 ∧ e.lvl + 2 ≤ k ∧ e.name = nm ∧ 2 = e.ps.length) (hne : op = .ne → ∀ q ∈ fs, PySem.W.findIn g.K (.ref (g.ca q.1)) "__ne__" = some (some (.builtin "object.__ne__")))
    {A B : ME} {a b : Expr} {pos : Pos} (hm : behindInMarks (opC op) b = false) (ha : PE X a (tE g cg W A)) (hb : PE X b (tE g cg W B)) : PT X (.Compare a [opC op] [b] pos) (tT g cg W (.ocmp op fs A B)) := by
  refine PT.weak (pt_cmpR (ocmp_op hK C hr hgd hnm hcf he hne) ha hb hm) fun σ H Q ⟨F, ι, M, ρ, r, s, ok⟩ => ?_
  simp only [evT_ocmp, ev_ocmp, R.bind_assoc] at ok
  refine tE_bind r s ok fun v d F1 ι1 M1 H1 r1 s1 rv ok1 _ => tE_bind r1 s1 ok1 fun w d' F2 ι2 M2 H2 r2 s2 rw' ok2 e2 => ?_
  refine ⟨F2, ι2, M2, d, d', r2, rv.ext e2, rw', ?_⟩
  rcases ocmpR_bool (cg := cg) op fs d d' M2 with z | ⟨b, M', z⟩
  · rw [z] at ok2; exact ok2.elim
  · rw [z] at ok2 ⊢
    intro F' ι' H' e r v' rv'
    refine ⟨b, ?_, ok2 F' ι' H' e r⟩
    cases rv' with | p rv' => cases rv'; rfl
end
end Mi

set_option maxRecDepth 100000
set_option maxHeartbeats 4000000
/-! What was looked at is so: expressions. -/
namespace Mi
open PySem PySem.Spec L2
def dbgB (x : Str) : Bool := (x == ("__debug__" : Str)) || (x == ("__classdict__" : Str))
/-- what a body's context gives -/
structure Cok (g : Gx) (cg : Cg) (T : Tb) (W : WX) (S : Sx) (X : Cx) : Prop where
  hK : X.K = g.K
  hcf : cg.cf = g.cf
  hN : X.N = S.N
  hsc : X.env.scope = S.sc
  hfn : X.fn = S.fn
  nd : S.N.Nodup
  dbg : ∀ x ∈ S.N, dbgB x = false
  calm : X.calm = true
  room : Room S.k X.A
  takes : Takes X W
  own : PassesOwn (model X.prog X.w) X.A X.env X.xe
  C : ClsOk g
  blt : ∀ n ∈ BL, X.mg n = none
  ents : ∀ j e, T.fns.lookup j = some e → e.lvl ≤ S.k → EntAll g X (cg.Φ j) e
  consts : ∀ q ∈ T.consts, ∃ v u, X.mg q.1 = some u ∧ RelV v u ∧ (∀ F, RP g F v q.2) ∧ (q.1 == ("__debug__" : Str)) = false
  cls : ∀ c n, T.cls.lookup c = some n → g.nc c = true ∧ X.mg n = some (.ref (g.ca c)) ∧ (n == ("__debug__" : Str)) = false
  flds : ∀ f ∈ T.flds, ∀ c, g.nc c = true → NoAttr g.K (g.ca c) f
  grd : X.A.guards = some []
  xcls : ∀ c n, T.xcs.lookup c = some n → g.xc c = true ∧ X.mg n = some (.ref (g.ca c)) ∧ (n == ("__debug__" : Str)) = false
  xfld : ∀ c f, T.xfs.lookup c = some f → g.cf c = [f]
  xtxt : ∀ c f, g.xc c = true → g.cf c = [f] → ∃ fI q, PySem.OwnX.XTxt X.K X.prog (g.ca c) fI q f
  nes : ∀ c ∈ T.nes, PySem.W.findIn g.K (.ref (g.ca c)) "__ne__" = some (some (.builtin "object.__ne__"))
  xbs : ∀ c ∈ T.xbs, XbOk X.K (g.ca c) ∧ g.cf c = []
section
variable {g : Gx} {cg : Cg} {T : Tb} {W : WX} {S : Sx} {X : Cx}
theorem own_get (c : Cok g cg T W S X) {k : Nat} {n : Str} (h : tyN T (.own k) = some n) : g.kc k = true ∧ X.mg n = some (.ref (g.ca k)) ∧ (n == ("__debug__" : Str)) = false := by
  unfold tyN at h
  split at h <;> try (cases h)
  all_goals (rename_i cc hcc; try (cases hcc))
  cases z : T.cls.lookup k with
  | some m =>
    rw [z] at h
    cases h
    obtain ⟨h1, h2⟩ := c.cls k _ z
    exact ⟨Gx.kc_n h1, h2⟩
  | none =>
    rw [z] at h
    obtain ⟨h1, h2⟩ := c.xcls k _ h
    exact ⟨Gx.kc_x h1, h2⟩
theorem visB_ok {sc : Scope} {x : Str} (h : visB sc x = true) : Vis sc x := by
  unfold visB at h
  split at h
  · exact .inl (by assumption)
  · exact .inr (.inl (by assumption))
  · exact .inr (.inr (by assumption))
  · cases h
theorem glB_ok {sc : Scope} {x : Str} (c : X.env.scope = sc) (h : glB sc x = true) : Gl X x := by
  unfold glB at h
  split at h
  · show X.env.kindOf x = _
    unfold Env.kindOf
    rw [c]; assumption
  · cases h
theorem Cok.blk (c : Cok g cg T W S X) (s : Shared) (H : Hp) (scope : Scope) (C : Addr) (cl : List (Str × Addr)) (fp : List Addr) : Cok g cg T Wf (blkS S scope) (X.blk s H scope (compEnvC scope cl C X.env) fp) where
  hK := c.hK
  hcf := c.hcf
  hN := c.hN
  hsc := by
    show relS scope X.env.scope = relS scope S.sc
    rw [c.hsc]
  hfn := rfl
  nd := c.nd
  dbg := c.dbg
  calm := c.calm
  room := c.room
  takes := takes0
  own := PassesOwn.never
  C := c.C
  blt := c.blt
  ents := c.ents
  consts := c.consts
  cls := c.cls
  flds := c.flds
  grd := c.grd
  xcls := c.xcls
  xfld := c.xfld
  xtxt := c.xtxt
  nes := c.nes
  xbs := c.xbs
theorem base_ok {o : Expr} {a : Str} {env : PySem.Env} (h : okBase o = true) : attributeBase o a env (eval o env) = eval o env := by
  cases o with
  | Call f as ks pos =>
    cases as with
    | nil =>
      cases ks with
      | nil => cases h
      | cons _ _ => cases f <;> rfl
    | cons _ _ => cases f <;> rfl
  | _ => rfl
theorem notSet_marks {op : CmpOp} {r : Expr} (h : notSet r = true) : behindInMarks op r = false := by
  cases r <;> first | rfl | cases h
theorem notSet_fold {iter : Expr} {env : PySem.Env} (h : notSet iter = true) (x : Value) : foldedSetIterable iter env x = pure x := by
  cases iter <;> first | rfl | cases h
theorem notSlice_plain {r : Expr} (h : notSlice r = true) : PlainIx r := by
  cases r <;> first | (intro o i; rfl) | cases h
theorem entB_ok (c : Cok g cg T W S X) {f : Nat} {kd : Kd} {up : Nat} {dfl : List P} {n : Nat} {x : Str} (h : entB T S f kd up dfl n x = true) : ∃ e, EntOk g X (cg.Φ f) e ∧ e.kd = kd ∧ e.lvl + up ≤ S.k ∧ e.name = x ∧ dfl.length ≤ e.dfl.length ∧ dfl = e.dfl.drop (e.dfl.length - dfl.length) ∧ n + dfl.length = e.ps.length := by
  unfold entB at h
  split at h
  · rename_i e he
    simp only [Bool.and_eq_true, decide_eq_true_eq] at h
    obtain ⟨h0, h1, h2, h3, h4, h5, h6⟩ := h
    exact ⟨e, (c.ents f e he (by omega)).1 (List.isEmpty_iff.mp h0), h1, h2, h3, h4, eqCs_ok h5, h6⟩
  · cases h
theorem entKB_ok (c : Cok g cg T W S X) {f cc n m : Nat} {src : List (Sum P Nat)} {kws : List Keyword} {x : Str} (h : entKB T S f cc n m src kws x = true) : ∃ e s, EntK g X (cg.Φ f) e ∧ e.kd = .init cc ∧ e.lvl + 1 ≤ S.k ∧ e.name = x ∧ s ∈ e.shp ∧ n = s.n ∧ kwB s.ks kws = true ∧ srcB s.src m = true ∧ m = s.ks.length ∧ s.n + s.src.length = e.ps.length ∧ src = s.src := by
  unfold entKB at h
  split at h
  · rename_i e he
    simp only [Bool.and_eq_true, decide_eq_true_eq, List.any_eq_true] at h
    obtain ⟨h1, h2, h3, h4, h5, s, hs, h6, h7, h8, h9⟩ := h
    have h9 := eqSrc_ok h9
    subst h9
    have hne : e.shp ≠ [] := fun z => by rw [z] at hs; cases hs
    exact ⟨e, s, (c.ents f e he (by omega)).2 hne, h1, h2, h3, hs, h6, h7, h5, h8, by rw [← h6]; exact h4, rfl⟩
  · cases h
theorem cOf_pe {c : Const} {y : P} {k : Nat} {pos : Pos} (h : cOf c = some y) : ∃ v, PE X (.Constant c k pos) (tC v) ∧ ∀ F, RP g F v y := by
  cases c with
  | none => cases h; exact ⟨_, pe_non, fun _ => .non⟩
  | bool b => cases h; exact ⟨_, pe_bl, fun _ => .bl b⟩
  | int i => cases h; exact ⟨_, pe_int, fun _ => .int i⟩
  | str x => cases h; exact ⟨_, pe_str, fun _ => .str x⟩
  | _ => cases h
/-- both readings of an expression -/
structure SB (g : Gx) (cg : Cg) (T : Tb) (m : ME) : Prop where
  e : ∀ {W : WX} {S : Sx} {X : Cx}, Cok g cg T W S X → ∀ ex, mE T S m ex = true → PE X ex (tE g cg W m)
  t : ∀ {W : WX} {S : Sx} {X : Cx}, Cok g cg T W S X → ∀ ex, mE T S m ex = true → tst m = true → PT X ex (tT g cg W m) ∧ ∀ op vs pos, ex = .BoolOp op vs pos → PW X ex (tT g cg W m)
theorem SB.plain {m : ME} (hm : ∀ (ρ : Env) (M : Sto), evT cg m ρ M = (ev cg m ρ M).bind fun x M => truR x M)
    (hx : ∀ {S : Sx} (ex : Expr), mE T S m ex = true → (∀ (env : PySem.Env) whole, isTrue ex env whole = (do let v ← whole; standAt ex.pos; holding [v] (truthy v))) ∧ ∀ op vs pos, ex ≠ .BoolOp op vs pos)
    (he : ∀ {W : WX} {S : Sx} {X : Cx}, Cok g cg T W S X → ∀ ex, mE T S m ex = true → PE X ex (tE g cg W m)) : SB g cg T m :=
  ⟨he, fun c ex h _ => ⟨t_any c.hK hm (he c ex h) ((hx ex h).1 _), fun op vs pos z => absurd z ((hx ex h).2 op vs pos)⟩⟩
theorem sb_c (x : P) : SB g cg T (.c x) := by
  refine SB.plain (fun _ _ => rfl) (fun ex h => ?_) (fun c ex h => ?_)
  · simp only [mE] at h; split at h
    · exact ⟨fun _ _ => rfl, fun _ _ _ z => nomatch z⟩
    · cases h
  · simp only [mE] at h; split at h
    · split at h
      · rename_i y hy
        obtain ⟨v, hp, hv⟩ := cOf_pe hy
        rw [eqC_ok h]
        exact e_c hv hp
      · cases h
    · cases h
theorem sb_v (i : Nat) : SB g cg T (.v i) := by
  refine SB.plain (fun _ _ => rfl) (fun ex h => ?_) (fun c ex h => ?_)
  · simp only [mE] at h; split at h
    · exact ⟨fun _ _ => rfl, fun _ _ _ z => nomatch z⟩
    · cases h
  · simp only [mE] at h; split at h
    · rename_i x pos
      simp only [Bool.and_eq_true, decide_eq_true_eq] at h
      have hd := c.dbg x (List.mem_of_getElem? h.1)
      simp only [dbgB, Bool.or_eq_false_iff] at hd
      exact e_v (pe_var (by rw [c.hN]; exact h.1) (by rw [c.hsc]; exact visB_ok h.2) hd.1 hd.2)
    · cases h
theorem sb_g (y : Str) (a : P) : SB g cg T (.g y a) := by
  refine SB.plain (fun _ _ => rfl) (fun ex h => ?_) (fun c ex h => ?_)
  · simp only [mE] at h; split at h
    · exact ⟨fun _ _ => rfl, fun _ _ _ z => nomatch z⟩
    · cases h
  · simp only [mE] at h; split at h
    · simp only [Bool.and_eq_true, decide_eq_true_eq, List.any_eq_true] at h
      obtain ⟨rfl, h2, q, hq, h3, h4⟩ := h
      obtain ⟨v, u, k1, k2, k3, k4⟩ := c.consts q hq
      rw [h3] at k1 k4
      rw [← eqC_ok h4]
      exact e_g k3 (pe_glob (glB_ok c.hsc h2) k1 k2 k4)
    · cases h
theorem sb_bin {op : BOp} {a b : ME} (ha : SB g cg T a) (hb : SB g cg T b) : SB g cg T (.bin op a b) := by
  refine SB.plain (fun _ _ => rfl) (fun ex h => ?_) (fun c ex h => ?_)
  · simp only [mE] at h; split at h
    · exact ⟨fun _ _ => rfl, fun _ _ _ z => nomatch z⟩
    · cases h
  · simp only [mE] at h; split at h
    · simp only [Bool.and_eq_true, decide_eq_true_eq] at h
      obtain ⟨rfl, h1, h2⟩ := h
      exact e_bin c.hK (ha.e c _ h1) (hb.e c _ h2)
    · cases h
theorem sb_neg {a : ME} (ha : SB g cg T a) : SB g cg T (.neg a) := by
  refine SB.plain (fun _ _ => rfl) (fun ex h => ?_) (fun c ex h => ?_)
  · simp only [mE] at h; split at h
    · exact ⟨fun _ _ => rfl, fun _ _ _ z => nomatch z⟩
    · cases h
  · simp only [mE] at h; split at h
    · exact e_neg (ha.e c _ h)
    · cases h
theorem sb_not {a : ME} (ha : SB g cg T a) : SB g cg T (.not a) := by
  refine ⟨fun c ex h => ?_, fun c ex h ht => ?_⟩
  · simp only [mE] at h; split at h
    · exact e_not c.hK (ha.e c _ h)
    · cases h
  · simp only [mE] at h; split at h
    · exact ⟨t_not (ha.t c _ h (by simpa only [tst] using ht)).1, fun _ _ _ z => nomatch z⟩
    · cases h
theorem sb_and {a b : ME} (ha : SB g cg T a) (hb : SB g cg T b) : SB g cg T (.and a b) := by
  refine ⟨fun c ex h => ?_, fun c ex h ht => ?_⟩
  · simp only [mE] at h; split at h
    · rename_i l l2 r pos
      rw [Bool.and_eq_true] at h
      refine e_and c.hK (ha.e c _ h.1) ?_
      cases r with
      | nil => exact pe_one (hb.e c _ h.2)
      | cons r0 rr => exact hb.e c _ h.2
    · cases h
  · simp only [mE] at h; split at h
    · rename_i l l2 r pos
      rw [Bool.and_eq_true] at h
      simp only [tst, Bool.and_eq_true] at ht
      have hw : PW _ _ (tT g cg _ (.and a b)) := w_and (rest := r) (pos := pos) (ha.t c _ h.1 ht.1).1 (by
        cases r with
        | nil => exact pw_and1 (hb.t c _ h.2 ht.2).1
        | cons r0 rr => exact (hb.t c _ h.2 ht.2).2 _ _ _ rfl)
      exact ⟨hw.pt, fun _ _ _ _ => hw⟩
    · cases h
theorem sb_or {a b : ME} (ha : SB g cg T a) (hb : SB g cg T b) : SB g cg T (.or a b) := by
  refine ⟨fun c ex h => ?_, fun c ex h ht => ?_⟩
  · simp only [mE] at h; split at h
    · rename_i l l2 r pos
      rw [Bool.and_eq_true] at h
      refine e_or c.hK (ha.e c _ h.1) ?_
      cases r with
      | nil => exact pe_one (hb.e c _ h.2)
      | cons r0 rr => exact hb.e c _ h.2
    · cases h
  · simp only [mE] at h; split at h
    · rename_i l l2 r pos
      rw [Bool.and_eq_true] at h
      simp only [tst, Bool.and_eq_true] at ht
      have hw : PW _ _ (tT g cg _ (.or a b)) := w_or (rest := r) (pos := pos) (ha.t c _ h.1 ht.1).1 (by
        cases r with
        | nil => exact pw_or1 (hb.t c _ h.2 ht.2).1
        | cons r0 rr => exact (hb.t c _ h.2 ht.2).2 _ _ _ rfl)
      exact ⟨hw.pt, fun _ _ _ _ => hw⟩
    · cases h
theorem sb_cmp {op : COp} {a b : ME} (ha : SB g cg T a) (hb : SB g cg T b) : SB g cg T (.cmp op a b) := by
  refine ⟨fun c ex h => ?_, fun c ex h ht => ?_⟩
  · simp only [mE] at h; split at h
    · simp only [Bool.and_eq_true, decide_eq_true_eq] at h
      obtain ⟨rfl, h0, h1, h2⟩ := h
      exact e_cmp c.hK c.room (notSet_marks h0) (ha.e c _ h1) (hb.e c _ h2)
    · cases h
  · simp only [mE] at h; split at h
    · simp only [Bool.and_eq_true, decide_eq_true_eq] at h
      obtain ⟨rfl, h0, h1, h2⟩ := h
      exact ⟨t_cmp c.hK c.room (notSet_marks h0) (ha.e c _ h1) (hb.e c _ h2), fun _ _ _ z => nomatch z⟩
    · cases h
theorem sb_chain {o1 o2 : COp} {a b d : ME} (ha : SB g cg T a) (hb : SB g cg T b) (hd : SB g cg T d) : SB g cg T (.chain o1 o2 a b d) := by
  refine ⟨fun c ex h => ?_, fun c ex h ht => ?_⟩
  · simp only [mE] at h; split at h
    · simp only [Bool.and_eq_true, decide_eq_true_eq] at h
      obtain ⟨rfl, rfl, h0, h1, h2, h3⟩ := h
      exact e_chain c.hK c.room (by show behindInMarks _ _ = false; exact notSet_marks h0) (ha.e c _ h1) (hb.e c _ h2) (hd.e c _ h3)
    · cases h
  · simp only [mE] at h; split at h
    · simp only [Bool.and_eq_true, decide_eq_true_eq] at h
      obtain ⟨rfl, rfl, h0, h1, h2, h3⟩ := h
      exact ⟨t_chain c.hK c.room (by show behindInMarks _ _ = false; exact notSet_marks h0) (ha.e c _ h1) (hb.e c _ h2) (hd.e c _ h3), fun _ _ _ z => nomatch z⟩
    · cases h
theorem sb_ite {t a b : ME} (ht : SB g cg T t) (ha : SB g cg T a) (hb : SB g cg T b) : SB g cg T (.ite t a b) := by
  refine ⟨fun c ex h => ?_, fun c ex h ht => by cases ht⟩
  simp only [mE] at h; split at h
  · simp only [Bool.and_eq_true] at h
    obtain ⟨h0, h1, h2, h3⟩ := h
    exact e_ite (ht.t c _ h1 h0).1 (ha.e c _ h2) (hb.e c _ h3)
  · cases h
/-- a list of expressions -/
def SBs (g : Gx) (cg : Cg) (T : Tb) (ms : List ME) : Prop := ∀ m ∈ ms, SB g cg T m
theorem sbs_pa {ms : List ME} (hm : SBs g cg T ms) (c : Cok g cg T W S X) : ∀ {es : List Expr}, mEs T S ms es = true → noStar es = true → PA X es (tAs g cg W ms) := by
  induction ms with
  | nil =>
    intro es h _
    cases es with
    | nil => exact a_nil
    | cons _ _ => cases h
  | cons m ms ih =>
    intro es h hs
    cases es with
    | nil => cases h
    | cons e es =>
      simp only [mEs, Bool.and_eq_true] at h
      exact a_cons (noStar_head hs) ((hm m List.mem_cons_self).e c _ h.1) (ih (fun m' h' => hm m' (List.mem_cons_of_mem _ h')) h.2 (noStar_tail hs))
theorem sbs_pk {ms : List ME} (hm : SBs g cg T ms) (c : Cok g cg T W S X) : ∀ {kws : List Keyword}, mEs T S ms (kws.map (·.value)) = true → PK X kws (tAs g cg W ms) := by
  induction ms with
  | nil =>
    intro es h
    cases es with
    | nil => exact k_nil
    | cons _ _ => cases h
  | cons m ms ih =>
    intro es h
    cases es with
    | nil => cases h
    | cons e es =>
      simp only [List.map_cons, mEs, Bool.and_eq_true] at h
      obtain ⟨nm, e, kp⟩ := e
      exact k_cons ((hm m List.mem_cons_self).e c _ h.1) (ih (fun m' h' => hm m' (List.mem_cons_of_mem _ h')) h.2)
theorem mEs_len {ms : List ME} : ∀ {es : List Expr}, mEs T S ms es = true → es.length = ms.length := by
  induction ms with
  | nil => intro es h; cases es with | nil => rfl | cons _ _ => cases h
  | cons m ms ih =>
    intro es h
    cases es with
    | nil => cases h
    | cons e es =>
      simp only [mEs, Bool.and_eq_true] at h
      simp [ih h.2]
theorem sb_tup {es : List ME} (hs : SBs g cg T es) : SB g cg T (.tup es) := by
  refine SB.plain (fun _ _ => rfl) (fun ex h => ?_) (fun c ex h => ?_)
  · simp only [mE] at h; split at h
    · exact ⟨fun _ _ => rfl, fun _ _ _ z => nomatch z⟩
    · cases h
  · simp only [mE] at h; split at h
    · simp only [Bool.and_eq_true, decide_eq_true_eq] at h
      exact e_tup h.1 (sbs_pa hs c h.2.2 h.2.1) (evs_len es)
    · cases h
theorem sb_lst {m : Bool} {es : List ME} (hs : SBs g cg T es) : SB g cg T (.lst m es) := by
  refine SB.plain (fun _ _ => rfl) (fun ex h => ?_) (fun c ex h => ?_)
  · simp only [mE] at h; split at h
    · exact ⟨fun _ _ => rfl, fun _ _ _ z => nomatch z⟩
    · cases h
  · simp only [mE] at h; split at h
    · simp only [Bool.and_eq_true, decide_eq_true_eq] at h
      exact e_lst h.1 (sbs_pa hs c h.2.2 h.2.1)
    · cases h
theorem sb_dnew : SB g cg T .dnew := by
  refine SB.plain (fun _ _ => rfl) (fun ex h => ?_) (fun c ex h => ?_)
  · simp only [mE] at h; split at h
    · exact ⟨fun _ _ => rfl, fun _ _ _ z => nomatch z⟩
    · cases h
  · simp only [mE] at h; split at h
    · exact e_dnew
    · cases h
theorem sb_dct0 : SB g cg T .dct0 := by
  refine SB.plain (fun _ _ => rfl) (fun ex h => ?_) (fun c ex h => ?_)
  · simp only [mE] at h; split at h
    · exact ⟨fun _ _ => rfl, fun _ _ _ z => nomatch z⟩
    · cases h
  · simp only [mE] at h; split at h
    · exact e_dct0
    · cases h
theorem sbs_pps : ∀ {es : List ME} {ks : List (Option Expr)} {vs : List Expr} {l : List Expr} {pos : Pos}, SBs g cg T es → Cok g cg T W S X → flatK ks vs = some l → mEs T S es l = true → PPs X pos ks vs (tPr g cg W es) ∧ evenL es = true ∧ ks.all (·.isSome) = true ∧ ks.length = vs.length
  | es, [], [], l, pos, hs, c, h, hm => by
    cases h
    cases es with
    | nil => exact ⟨pps_nil, rfl, rfl, rfl⟩
    | cons _ _ => cases hm
  | es, some k :: ks, v :: vs, l, pos, hs, c, h, hm => by
    simp only [flatK, Option.map_eq_some_iff] at h
    obtain ⟨l', h1, rfl⟩ := h
    match es, hs, hm with
    | [], _, hm => cases hm
    | [a], _, hm => simp only [mEs, Bool.and_false] at hm; cases hm
    | a :: b :: es, hs, hm =>
      simp only [mEs, Bool.and_eq_true] at hm
      obtain ⟨i1, i2, i3, i4⟩ := sbs_pps (pos := pos) (fun m h' => hs m (List.mem_cons_of_mem _ (List.mem_cons_of_mem _ h'))) c h1 hm.2.2
      exact ⟨pps_cons ((hs a List.mem_cons_self).e c _ hm.1) ((hs b (List.mem_cons_of_mem _ List.mem_cons_self)).e c _ hm.2.1) i1, i2, by simp [i3], by simp [i4]⟩
  | es, none :: ks, vs, l, pos, hs, c, h, hm => by cases vs <;> cases h
  | es, some k :: ks, [], l, pos, hs, c, h, hm => by cases h
  | es, [], v :: vs, l, pos, hs, c, h, hm => by cases h
theorem sb_dsp {es : List ME} (hs : SBs g cg T es) : SB g cg T (.dsp es) := by
  refine SB.plain (fun _ _ => rfl) (fun ex h => ?_) (fun c ex h => ?_)
  · simp only [mE] at h; split at h
    · exact ⟨fun _ _ => rfl, fun _ _ _ z => nomatch z⟩
    · cases h
  · simp only [mE] at h; split at h
    · split at h
      · rename_i l hl
        simp only [Bool.and_eq_true, decide_eq_true_eq] at h
        obtain ⟨p1, p2, p3, p4⟩ := sbs_pps hs c hl h.2.2
        exact e_dsp p1 p2 p3 p4 h.1 h.2.1
      · cases h
    · cases h
theorem sb_frz {a : ME} (ha : SB g cg T a) : SB g cg T (.frz a) := by
  refine SB.plain (fun _ _ => rfl) (fun ex h => ?_) (fun c ex h => ?_)
  · simp only [mE] at h; split at h
    · exact ⟨fun _ _ => rfl, fun _ _ _ z => nomatch z⟩
    · exact ⟨fun _ _ => rfl, fun _ _ _ z => nomatch z⟩
    · exact ⟨fun _ _ => rfl, fun _ _ _ z => nomatch z⟩
    · cases h
  · simp only [mE] at h; split at h
    · exact e_frz (ha.e c _ h)
    · exact e_frz (ha.e c _ h)
    · exact e_frz (ha.e c _ h)
    · cases h
theorem sb_ix {a i : ME} (ha : SB g cg T a) (hi : SB g cg T i) : SB g cg T (.ix a i) := by
  refine SB.plain (fun _ _ => rfl) (fun ex h => ?_) (fun c ex h => ?_)
  · simp only [mE] at h; split at h
    · exact ⟨fun _ _ => rfl, fun _ _ _ z => nomatch z⟩
    · cases h
  · simp only [mE] at h; split at h
    · simp only [Bool.and_eq_true] at h
      exact e_ix c.hK c.room (notSlice_plain h.1) (ha.e c _ h.2.1) (hi.e c _ h.2.2)
    · cases h
theorem sb_o {o : Option ME} (ho : ∀ m, o = some m → SB g cg T m) (c : Cok g cg T W S X) {e : Option Expr} (h : mO T S o e = true) : PO X e (tO g cg W o) := by
  cases o with
  | none => cases e with | none => exact o_none | some _ => cases h
  | some m => cases e with | none => cases h | some e => exact o_some ((ho m rfl).e c _ h)
theorem sb_sl {a : ME} {lo hi : Option ME} (ha : SB g cg T a) (hl : ∀ m, lo = some m → SB g cg T m) (hh : ∀ m, hi = some m → SB g cg T m) : SB g cg T (.sl a lo hi) := by
  refine SB.plain (fun _ _ => rfl) (fun ex h => ?_) (fun c ex h => ?_)
  · simp only [mE] at h; split at h
    · exact ⟨fun _ _ => rfl, fun _ _ _ z => nomatch z⟩
    · cases h
  · simp only [mE] at h; split at h
    · simp only [Bool.and_eq_true] at h
      exact e_sl c.hK (ha.e c _ h.1) (sb_o hl c h.2.1) (sb_o hh c h.2.2)
    · cases h
theorem sb_slm {a : ME} {lo hi : Option ME} (ha : SB g cg T a) (hl : ∀ m, lo = some m → SB g cg T m) (hh : ∀ m, hi = some m → SB g cg T m) : SB g cg T (.slm a lo hi) := by
  refine SB.plain (fun _ _ => rfl) (fun ex h => ?_) (fun c ex h => ?_)
  · simp only [mE] at h; split at h
    · exact ⟨fun _ _ => rfl, fun _ _ _ z => nomatch z⟩
    · cases h
  · simp only [mE] at h; split at h
    · simp only [Bool.and_eq_true] at h
      exact e_slm c.hK (ha.e c _ h.1) (sb_o hl c h.2.1) (sb_o hh c h.2.2)
    · cases h
theorem sb_rev {a : ME} (ha : SB g cg T a) : SB g cg T (.rev a) := by
  refine SB.plain (fun _ _ => rfl) (fun ex h => ?_) (fun c ex h => ?_)
  · simp only [mE] at h; split at h
    · exact ⟨fun _ _ => rfl, fun _ _ _ z => nomatch z⟩
    · cases h
  · simp only [mE] at h; split at h
    · exact e_rev c.hK (ha.e c _ h)
    · cases h
theorem sb_revM {a : ME} (ha : SB g cg T a) : SB g cg T (.revM a) := by
  refine SB.plain (fun _ _ => rfl) (fun ex h => ?_) (fun c ex h => ?_)
  · simp only [mE] at h; split at h
    · exact ⟨fun _ _ => rfl, fun _ _ _ z => nomatch z⟩
    · cases h
  · simp only [mE] at h; split at h
    · exact e_revM c.hK (ha.e c _ h)
    · cases h
theorem sb_fld {a : ME} {f : Str} (ha : SB g cg T a) : SB g cg T (.fld a f) := by
  refine SB.plain (fun _ _ => rfl) (fun ex h => ?_) (fun c ex h => ?_)
  · simp only [mE] at h; split at h
    · exact ⟨fun _ _ => rfl, fun _ _ _ z => nomatch z⟩
    · cases h
  · simp only [mE] at h; split at h
    · simp only [Bool.and_eq_true, decide_eq_true_eq] at h
      obtain ⟨rfl, h1, h2, h3⟩ := h
      exact e_fld c.hK c.C c.hcf (base_ok h1) (c.flds _ h2) (ha.e c _ h3)
    · cases h
theorem sb_isi {a : ME} {t : Ty} (ha : SB g cg T a) : SB g cg T (.isi a t) := by
  refine SB.plain (fun _ _ => rfl) (fun ex h => ?_) (fun c ex h => ?_)
  · simp only [mE] at h; split at h
    · exact ⟨fun _ _ => rfl, fun _ _ _ z => nomatch z⟩
    · cases h
  · simp only [mE] at h; split at h
    · simp only [Bool.and_eq_true, decide_eq_true_eq] at h
      obtain ⟨rfl, h1, h2, h3, h4, h5⟩ := h
      have hb : ∀ (n : String) (y : Str) (pos : Pos), y ∈ BL → glB _ y = true → bootBuiltins y = some (.type n) → y ≠ "__name__" → (y == ("__debug__" : Str)) = false → PE _ (.Name y pos) (tC (.ty n)) :=
        fun n y pos hy hg hv hn hd => pe_bltn (glB_ok c.hsc hg) (c.blt y hy) hv rfl hn hd
      refine e_isi c.hK c.C ?_ (noStar_head h4) (fun _ _ z => nomatch z) (glB_ok c.hsc h1) (c.blt _ (by decide +kernel)) (ha.e c _ h5) ?_
      · intro cc hcc
        subst hcc
        exact (own_get c h3).1
      · cases t with
        | own cc =>
          obtain ⟨_, k1, k2⟩ := own_get c h3
          exact pe_glob (glB_ok c.hsc h2) k1 rfl k2
        | int => cases h3; exact hb _ _ _ (by decide +kernel) h2 (by decide +kernel) (by decide) (by decide)
        | bool => cases h3; exact hb _ _ _ (by decide +kernel) h2 (by decide +kernel) (by decide) (by decide)
        | str => cases h3; exact hb _ _ _ (by decide +kernel) h2 (by decide +kernel) (by decide) (by decide)
        | list => cases h3; exact hb _ _ _ (by decide +kernel) h2 (by decide +kernel) (by decide) (by decide)
        | tuple => cases h3; exact hb _ _ _ (by decide +kernel) h2 (by decide +kernel) (by decide) (by decide)
        | dict => cases h3; exact hb _ _ _ (by decide +kernel) h2 (by decide +kernel) (by decide) (by decide)
    · cases h
end
end Mi

set_option maxRecDepth 100000
set_option maxHeartbeats 4000000
/-! The set of a list of ints, and its members by order. -/
namespace Mi
open PySem L2 PySem.Spec PyProof.Rows
/-- an empty set as it is laid -/
abbrev mtSet (w : World) : Obj := { cls := .type "set", dict := none, data := .set #[] 0 (.fresh 0 0 (!w.params.followText "set-order")) }
section
variable {P : Program} {w : World} {A : Around} {E : Value → Shared → Prop} {s : Shared}
theorem int_there {its : Array Value} {ns : List Int} (hv : IntsAre its.toList ns) {i : Nat} {v : Value} (e : its[i]? = some v) : ∃ k t, ns[i]? = some k ∧ v = .int k t := by
  obtain ⟨t, q⟩ := PyProof.Rows.IntsAre.int_at hv i v (by rw [Array.getElem?_toList]; exact e)
  have lt : i < ns.length := by
    have z := IntsAre.length hv
    rw [Array.length_toList] at z
    have := (Array.getElem?_eq_some_iff.mp e).1
    omega
  rw [List.getD_eq_getElem?_getD, List.getElem?_eq_getElem lt] at q
  exact ⟨_, t, List.getElem?_eq_getElem lt, q⟩
set_option maxHeartbeats 8000000 in
theorem set_fill {l n0 : Addr} {its : Array Value} {ns : List Int} {R : PySem.Fin → Shared → Prop} (calm : A.handled = none) (isl : s.heap.IsList l its) (hv : IntsAre its.toList ns) (few : ns.length + 1 < scanBound) (en0 : n0 = s.heap.objs.size)
    (fin : ∀ (h' : Heap) (tk c : Nat), SetR w h' n0 (fun j => decide (j ∈ ns)) c → c ≤ ns.length → (∀ b o, s.heap.get? b = some o → h'.get? b = some o) → R (.done (.ret .none)) { s with heap := h', toks := tk }) :
    wpAny (model P w) A (Builtin.«set.__init__» ⟨[.ref n0, .ref l], []⟩) R E { s with heap := s.heap.push (mtSet w) } := by
  have isz : its.size = ns.length := by
    have q := IntsAre.length hv
    rw [Array.length_toList] at q
    exact q
  have atS : (s.heap.push (mtSet w)).get? n0 = some (mtSet w) := by rw [en0]; exact Heap.get?_push_size _ rfl
  obtain ⟨⟨oc, od, odt, osl⟩, ol, c1, nl, c2⟩ := isl
  simp only at c1 c2
  subst c1 c2
  have ol' := Heap.get?_push_of_some (mtSet w) ol
  have isl' : (s.heap.push (mtSet w)).IsList l its := ⟨_, ol', rfl, nl, rfl⟩
  have b1 := F.sub_list_set
  have b2 := F.sub_list_frozenset
  have b3 : (Value.type "list" == Value.type "dict") = false := by decide
  have tyS : Shared.TypeIs { s with heap := s.heap.push (mtSet w) } (.ref n0) "set" := ⟨_, atS, rfl⟩
  have ll : l < s.heap.objs.size := Heap.lt_size ol
  have sz1 : (s.heap.push (mtSet w)).objs.size = s.heap.objs.size + 1 := Heap.size_push ..
  unfold Builtin.«set.__init__» noKeywords Builtin.Frozenset.updateFrom
  generalize hPI : pyIter = PI
  wp_walk
  subst hPI
  refine wpAny_pyIter_list isl' (wpAny_bind (wpAny_runValue ?_))
  have calm1 : A.in1.handled = none := by simp [calm]
  have apart : l ≠ (s.heap.push (mtSet w)).objs.size := by rw [sz1]; exact Nat.ne_of_lt (Nat.lt_succ_of_lt ll)
  have off : n0 ∉ [(s.heap.push (mtSet w)).objs.size, l] := by
    rw [sz1, en0]
    simp only [List.mem_cons, List.not_mem_nil, or_false, not_or]
    exact ⟨Nat.ne_of_lt (Nat.lt_succ_self _), Nat.ne_of_gt ll⟩
  refine set_update_ints ((Walks.list calm1 _ l apart its).toS) n0 off ns isz few (fun i v e => int_there hv e) its.size 0 _ rfl (Nat.zero_le _) ⟨⟨_, Heap.get?_push_size _ rfl, rfl, rfl⟩, isl'.push _⟩ ⟨0, Nat.le_refl 0, setR_new_at (Heap.get?_push_of_some _ atS)⟩ ?_
  rintro ⟨h', g', d', tk', os'⟩ c mv hc hS
  obtain rfl : g' = s.gens := mv.gens
  obtain rfl : d' = s.drawn := mv.drawn
  obtain rfl : os' = s.os := mv.os
  refine wpAny_pure (wpAny_pure (fin h' tk' c hS (by rw [← isz]; exact hc) fun b o e => ?_))
  have bl := Heap.lt_size e
  refine mv.heap b o ?_ (Heap.get?_push_of_some _ (Heap.get?_push_of_some _ e))
  show b ∉ [n0, (s.heap.push (mtSet w)).objs.size]
  rw [sz1, en0]
  simp only [List.mem_cons, List.not_mem_nil, or_false, not_or]
  exact ⟨Nat.ne_of_lt bl, Nat.ne_of_lt (Nat.lt_succ_of_lt bl)⟩
set_option maxHeartbeats 8000000 in
theorem set_ints {l : Addr} {its : Array Value} {ns : List Int} {Q : Value → Shared → Prop} (calm : A.handled = none) (isl : s.heap.IsList l its) (hv : IntsAre its.toList ns) (few : ns.length + 1 < scanBound)
    (fin : ∀ (h' : Heap) (tk c : Nat), SetR w h' s.heap.objs.size (fun j => decide (j ∈ ns)) c → c ≤ ns.length → (∀ b o, s.heap.get? b = some o → h'.get? b = some o) → Q (.ref s.heap.objs.size) { s with heap := h', toks := tk }) :
    wpAny (model P w) A (call (.type "set") [.ref l]) Q E s := by
  obtain ⟨cc, tl, hmro⟩ := F.called_set.mro
  have k1 := F.called_set.made
  have k2 := F.called_set.sub
  have k3 := F.called_set.notType
  have k4 := F.called_set.canCreate
  have k5 := F.typeCall_set_1 (.ref l)
  refine wpAny_call (codeAny_of_tree (show wpAny _ _ (callAny (.type "set") _) _ _ _ from wpAny_pure ⟨Code.quiet_builtin _ (by decide +kernel), codeAny_builtin F.entry_type_call ?_⟩))
  rw [Around.under_plain (weight_type_call_type "set" [.ref l] []) rfl]
  repeat (any_goals (first | assumption | wp_step))
  refine codeAny_mono (code_set_led1 (.ref l) (E := E) (Q₁ := fun v s₁ => v = .ref s.heap.objs.size ∧ s₁ = { s with heap := s.heap.push (mtSet w) }) ⟨rfl, rfl⟩) fun r s₁ hr => ?_
  rcases r with e | fl
  · exact hr
  · cases fl with
    | ret v =>
      obtain ⟨rfl, rfl⟩ := hr
      have atS : (s.heap.push (mtSet w)).get? s.heap.objs.size = some (mtSet w) := Heap.get?_push_size _ rfl
      have tyS : Shared.TypeIs { s with heap := s.heap.push (mtSet w) } (.ref s.heap.objs.size) "set" := ⟨_, atS, rfl⟩
      have k6 := F.called_set.init.lookup
      have k7 := F.called_set.init.bind (.ref s.heap.objs.size)
      repeat (any_goals (first | assumption | wp_step))
      refine codeAny_mono (codeAny_call_builtin (R := wants (fun v s₂ => v = .none ∧ ∃ h' tk c, s₂ = { s with heap := h', toks := tk } ∧ SetR w h' s.heap.objs.size (fun j => decide (j ∈ ns)) c ∧ c ≤ ns.length ∧ ∀ b o, s.heap.get? b = some o → h'.get? b = some o) E)
        F.called_set.init.plain F.entry_set_init (check_set_init_1 tyS (set_fill (by simp [calm]) isl hv few rfl fun h' tk c a b d => ⟨rfl, h', tk, c, rfl, a, b, d⟩))) fun r₂ s₂ hr₂ => ?_
      rcases r₂ with e | fl₂
      · exact hr₂
      · cases fl₂ with
        | ret v =>
          obtain ⟨rfl, h', tk, c, rfl, a, b, d⟩ := hr₂
          repeat (any_goals (first | assumption | wp_step))
          exact fin h' tk c a b d
        | _ => exact hr₂.elim
    | _ => exact hr.elim
end
/-- set(xs), ints -/
def rSetL (K : PySem.W.Frag) (w : World) : List V → Hp → VK → Prop := fun vs H Q => ∃ (a : Addr) (ns : List Int), vs = [V.ref a] ∧ SqL K H a (ns.map V.int) ∧ ns.length < 64 ∧
  ∀ (p : Addr) (c : Nat), H p = none → c ≤ ns.length → Q (.ref p) (upd H p (SetO w p (fun j => decide (j ∈ ns)) c))
theorem cr_setL {X : Cx} (hc : X.calm = true) : CallR X (.type "set") (rSetL X.K X.w) := by
  intro pins s σ H vs us Q I r h
  obtain ⟨a, ns, rfl, hs, h64, q⟩ := h
  obtain ⟨its, rv, hl, _⟩ := I.list hs
  rw [Vals.ref1 r]
  refine set_ints (I.ok.hd hc) hl.isList (by simpa using rv.ints) (by unfold scanBound; omega) fun h' tk c R hle keep => ?_
  exact ⟨.ref _, upd H s.heap.objs.size (SetO X.w s.heap.objs.size (fun j => decide (j ∈ ns)) c), I.laid (t' := tk) keep (Nat.le_refl _) (setO_new R), rfl, q _ _ (I.hok.fresh (Nat.le_refl _)) hle⟩
end Mi

/-! An exception that is made and kept as a value. -/
namespace L2
open PySem PySem.Spec PyProof.Rows
theorem pe_mk {X : Cx} {e : Expr} {t : St → Hp → XK → Prop} (h : PMk X e t) : PE X e (fun σ H Q => t σ H fun cls d H' => ∀ a, H' a = none → Q (.ref a) (upd H' a (exK a cls d))) := by
  refine ⟨fun pins s σ H Q I q => thn (h pins s σ H _ I q) fun u s' hu => ?_⟩
  obtain ⟨a, oe, vs, sI, H', cls, d, rfl, J, k, hne, ha, hz, hd, h1, na, os, ag, r, q⟩ := hu
  have J2 := J.laidN (t' := s'.toks) (o := exK a cls d) k hne na ⟨⟨oe, vs, ha, hz, hd⟩, ⟨oe, ha⟩, fun h1 h2 ⟨oe, vs, e, z, d⟩ k => ⟨oe, vs, k _ e, z, d⟩⟩
  refine ⟨.ref a, _, ⟨J2.ok, by rw [os]; exact J2.os, ag, J2.base, J2.loc, J2.cell, J2.free, J2.freeC, J2.pin, J2.hok, J2.len⟩, rfl, q a na⟩
end L2

set_option maxRecDepth 100000
set_option maxHeartbeats 4000000
/-! An own exception made with its value by keyword, or without a value. -/
namespace PySem
namespace OwnX
open PySem.W PySem.Calls PyProof.Rows PySem.HandSPX
section
variable {M : Model} {A : Around} {E : Value → Shared → Prop} {h : Heap} {g : Array GenState} {d : Drawn} {t : Nat} {os : OsState}
variable {nm q : Str} {C N : Addr} {bs bm bmB : List Value} {hdct : Bool} {sn : List Str} {sub : List Value} {ab : Bool} {col : Option Bool} {dd : Option Addr} {k0 k1 k2 k3 k5 : Option Value} {B newId initId : String}
theorem check_new_kw (F : ExcBaseFacts B newId initId bmB) (hT : ∀ X : String, bm.contains (.type X) = bmB.contains (.type X)) {kw : List (Str × Value)} {Q : Unit → Shared → Prop}
    (hC : h.get? C = some (excClassObj nm q C N bs bm hdct sn sub ab col dd k0 k1 k2 k3 k5 newId)) (hq : Q () ⟨h, g, d, t, os⟩) : wpAny M A (checkBuiltinCall newId ⟨[.ref C], kw⟩) Q E ⟨h, g, d, t, os⟩ := by
  have hcont : (Value.ref C :: bm).contains (.type B) = true := by rw [List.contains_cons, hT, F.hasB, Bool.or_true]
  have hstar := F.noStar
  simp only [checkBuiltinCall, F.newKind, F.newSplit, F.newRow]
  repeat (first | refine wpAny_loadPart_at hC ?_ | (refine wpAny_isSubtype_exc hC ?_; rw [hcont]) | refine wpAny_staticBase_exc hC ?_ | refine wpAny_madeBy_exc hC ?_ | simp only [bne_self_eq_false, Bool.false_eq_true, if_false] | wp_step)
  exact hq
end
section
variable {prog : Program} {w : World} {A : Around} {E : Value → Shared → Prop} {R : Result → Shared → Prop} {h : Heap} {g : Array GenState} {d : Drawn} {t : Nat} {os : OsState}
variable {nm q : Str} {C N : Addr} {bs bm bmB : List Value} {hdct : Bool} {sn : List Str} {sub : List Value} {ab : Bool} {col : Option Bool} {dd : Option Addr} {k0 k1 k2 k3 k5 : Option Value} {B newId initId : String}
theorem new_kw (F : ExcBaseFacts B newId initId bmB) (hT : ∀ X : String, bm.contains (.type X) = bmB.contains (.type X)) {kw : List (Str × Value)}
    (hC : h.get? C = some (excClassObj nm q C N bs bm hdct sn sub ab col dd k0 k1 k2 k3 k5 newId))
    (hq : R (.ok (.ret (.ref (h.objs.size + 1)))) ⟨(h.push { cls := .type "tuple", data := .seq [].toArray }).push
      { cls := .ref C, data := .fields #[.ref h.objs.size, .none, .none, .none, .bool false, .none] }, g, d, t, os⟩) (hrest : ([] : List Value).length ≤ sizeLine) :
    codeAny (model prog w) A (.builtin newId ⟨[.ref C], kw⟩) R ⟨h, g, d, t, os⟩ := by
  have hends := F.ends
  have hcB : (Value.ref C :: bm).contains (.type B) = true := by rw [List.contains_cons, hT, F.hasB, Bool.or_true]
  have hcA : (Value.ref C :: bm).contains (.type "AttributeError") = false := by rw [List.contains_cons, hT, F.noAttr]; rfl
  have hcN : (Value.ref C :: bm).contains (.type "NameError") = false := by rw [List.contains_cons, hT, F.noName]; rfl
  refine codeAny_builtinAt F.entry ?_
  unfold Builtin.«BaseException.__new__»
  refine wpAt_bind ?_
  show wpAt _ _ _ (stack >>= _) _ _ _
  refine wpAt_bind (wpAt_stack fun p below => wpAt_of_wpAny ?_)
  wp_walk
  refine wpAt_of_wpAny ?_
  rw [F.owner]
  repeat (first | with_reducible refine wpAny_madeHere_exc F.canon hC ?_ | with_reducible refine wpAny_loadPart_at hC ?_ | (with_reducible refine wpAny_isSubtype_exc hC ?_; first | rw [hcB] | rw [hcA] | rw [hcN]) | wp_step)
  show R _ _
  rw [Heap.size_push]
  exact hq
theorem type_call_kw (F : ExcBaseFacts B newId initId bmB) (hT : ∀ X : String, bm.contains (.type X) = bmB.contains (.type X)) {kw : List (Str × Value)} {fI : Addr} {Q : Fin → Shared → Prop}
    (hC : h.get? C = some (excClassObj nm q C N bs bm hdct sn sub ab col dd k0 k1 k2 k3 k5 newId))
    (hi : W.Looks (model prog w) h (typeLookup (.ref C) "__init__") (some (.ref fI))) (hb : ∀ self, W.Looks (model prog w) h (bindSpecial (.ref fI) self) (.ref fI, [self]))
    (hq : codeAny (model prog w) A (.call (.ref fI) ⟨[.ref (h.objs.size + 1)], kw⟩)
      (fun r s' => match r with | .ok (.ret v) => v = .none ∧ Q (.done (.ret (.ref (h.objs.size + 1)))) s' | .ok _ => False | .error e => E e s')
      ⟨(h.push (W.kdv_tup [])).push (excO C h.objs.size), g, d, t, os⟩) :
    wpAny (model prog w) A (Builtin.«type.__call__» ⟨[.ref C], kw⟩) Q E ⟨h, g, d, t, os⟩ := by
  repeat (first | with_reducible refine wpAny_loadPart_at hC ?_ | with_reducible refine wpAny_madeBy_exc hC ?_ | wp_step)
  refine codeAny_call_builtin_code (Code.quiet_builtin _ F.quiet) (check_new_kw F hT hC ?_)
  refine new_kw F hT hC ?_ (Nat.zero_le _)
  show wpAny _ _ _ _ _ _
  have k : ∀ b o, h.get? b = some o → ((h.push (W.kdv_tup [])).push (excO C h.objs.size)).get? b = some o := fun b o e => Heap.get?_push_of_some _ (Heap.get?_push_of_some _ e)
  have hC₁ := k _ _ hC
  have hget : ((h.push (W.kdv_tup [])).push (excO C h.objs.size)).get? (h.objs.size + 1) = some (excO C h.objs.size) := by heap_get
  have hcC : (Value.ref C :: bm).contains (.ref C) = true := by simp
  have i1 := hi.keeps k
  have b1 := (hb (.ref (h.objs.size + 1))).keeps k
  unfold isInstance
  repeat (first | with_reducible refine wpAny_loadPart_at hget ?_ | (with_reducible refine wpAny_isSubtype_exc hC₁ ?_; rw [hcC]) | wp_step)
  show wpAny _ _ (typeLookup (.ref C) _) _ _ _
  refine i1.at ?_
  refine wpAny_holding (wpAny_bind (b1.at ?_))
  refine wpAny_bind (wpAny_call (codeAny_mono hq fun r s' z => ?_))
  rcases r with e | (v | _ | _ | _) <;> first | exact z | exact z.elim | skip
  obtain ⟨rfl, z⟩ := z
  first
    | exact wpAny_pure (wpAny_pure z)
    | (wp_walk; exact z)
theorem call_kw (F : ExcBaseFacts B newId initId bmB) (hT : ∀ X : String, bm.contains (.type X) = bmB.contains (.type X)) {kw : List (Str × Value)} {fI : Addr}
    (hC : h.get? C = some (excClassObj nm q C N bs bm hdct sn sub ab col dd k0 k1 k2 k3 k5 newId))
    (hi : W.Looks (model prog w) h (typeLookup (.ref C) "__init__") (some (.ref fI))) (hb : ∀ self, W.Looks (model prog w) h (bindSpecial (.ref fI) self) (.ref fI, [self]))
    (hq : codeAny (model prog w) (A.under (.builtin "type.__call__" ⟨[.ref C], kw⟩)) (.call (.ref fI) ⟨[.ref (h.objs.size + 1)], kw⟩) (W.InitBack (h.objs.size + 1) R)
      ⟨(h.push (W.kdv_tup [])).push (excO C h.objs.size), g, d, t, os⟩) :
    codeAny (model prog w) A (.call (.ref C) ⟨[], kw⟩) R ⟨h, g, d, t, os⟩ := by
  have f1 := tc_lookup
  have f2 := tc_bind (.ref C)
  have hTy : (⟨h, g, d, t, os⟩ : Shared).TypeIs (.ref C) "type" := ⟨_, hC, rfl⟩
  refine codeAny_of_tree ?_
  show wpAny _ _ (callAny (.ref C) _) _ _ _
  repeat (any_goals (first | assumption | with_reducible refine wpAny_loadPart_at hC ?_ | wp_step))
  refine ⟨rfl, ?_⟩
  refine codeAny_call_builtin_at (Code.quiet_builtin _ (by decide +kernel)) entry_typeCall (wpAny_check_type_call_sub hC (type_call_kw F hT hC hi hb ?_))
  refine codeAny_mono hq fun r s' z => ?_
  rcases r with e | (v | _ | _ | _) <;> exact z
end
section
variable {prog : Program} {w : World} {A : Around} {E : Value → Shared → Prop} {R : Result → Shared → Prop} {s : Shared} {K : Frag} {mg : Str → Option Value} {C fI : Addr} {q f : Str}
theorem own_madeK (T : XTxt K prog C fI q f) {v : Value} {kw : List (Str × Value)} (hB : ∀ (s' : Shared) (x : Addr), K.In s'.heap → XBnd K s' f ⟨[.ref x], kw⟩ x v) (X : K.In s.heap) (Md : L2.Mod K mg s.heap) (hroom : A.depth + 1 < recursionLimit)
    (hq : ∀ h' tk e d, OwnMade s.heap h' e C d f v → R (.ok (.ret (.ref e))) { s with heap := h', toks := tk }) :
    codeAny (model prog w) A (.call (.ref C) ⟨[], kw⟩) R s := by
  obtain ⟨nm, qq, N, bs, bm, sn, sub, ab, col, dd, k0, k1, k2, k3, k5, hC, hbm, _⟩ := T.cls
  obtain ⟨hp, g, dr, tk, os⟩ := s
  have k : ∀ b o, hp.get? b = some o → ((hp.push (kdv_tup [])).push (excO C hp.objs.size)).get? b = some o := fun b o e => Heap.get?_push_of_some _ (Heap.get?_push_of_some _ e)
  have hget : ((hp.push (kdv_tup [])).push (excO C hp.objs.size)).get? (hp.objs.size + 1) = some (excO C hp.objs.size) := by heap_get
  have hnx : K.lookup (hp.objs.size + 1) = none := by
    cases e : K.lookup (hp.objs.size + 1) with
    | none => rfl
    | some o =>
      have z : hp.get? (hp.objs.size + 1) = some o := X _ _ e
      exact absurd (Nat.lt_of_succ_lt (Heap.lt_size z)) (Nat.lt_irrefl _)
  refine call_kw F.excBase_ValueError (fun X => refsVE_contains X bm hbm) (X _ _ hC) (looks_findIn X T.iC) (fun self => bind_fn X self T.tC) ?_
  refine own_initB (mg := mg) (s := ⟨(hp.push (kdv_tup [])).push (excO C hp.objs.size), g, dr, tk, os⟩) T (X.keeps k) (Mod.up (base := hp) Md k) hget hnx ?_ (hB _ _ (X.keeps k)) fun h' tk' dx t1 ⟨k', hx, dn, dne, hns⟩ => ?_
  · show A.depth + 1 < recursionLimit
    exact hroom
  · have old : ∀ b o, hp.get? b = some o → h'.get? b = some o := fun b o e => k' b o (Nat.ne_of_lt (Nat.lt_succ_of_lt (Heap.lt_size e))) (k b o e)
    have z : hp.objs.size + 1 + 1 ≤ dx := by
      first
        | (simpa only [Heap.size_push] using dn)
        | exact dn
        | (have q := dn; rw [Heap.size_push, Heap.size_push] at q; exact q)
    exact ⟨rfl, hq h' tk' (hp.objs.size + 1) dx ⟨old, Nat.le_succ _, ⟨_, _, hx, rfl, rfl, rfl, rfl⟩, Nat.le_trans (Nat.le_trans (Nat.le_succ _) (Nat.le_succ _)) z, dne, hns⟩⟩
end
end OwnX
end PySem
namespace L2
open PySem PySem.Spec PyProof.Rows
section
variable {X : Cx} {C fI : Addr} {x q f : Str}
theorem mkp_own {pins : List (Addr × Obj)} {σ : St} {H1 : Hp} {s1 : Shared} {v : V} {v' : Value} {kw : List (Str × Value)} {k : Nat} {Q : XK} (T : PySem.OwnX.XTxt X.K X.prog C fI q f) (hr : Room k X.A) (hB : ∀ (s' : Shared) (x : Addr), X.K.In s'.heap → PySem.OwnX.XBnd X.K s' f ⟨[.ref x], kw⟩ x v') (I1 : Inv X pins σ H1 s1) (rv : RelV v v')
    (q1 : ∀ d, H1 d = none → Q (.ref C) (some d) (upd H1 d (.xd [(f, v)]))) : wpAny (model X.prog X.w) X.A (call (.ref C) [] kw) (MkP X pins σ Q) X.xe s1 := by
  have hmod : Mod X.K X.mg s1.heap := PySem.OwnX.Mod.up (base := s1.heap) I1.ok.mod I1.bk
  obtain ⟨hp, g, dr, tk, os⟩ := s1
  refine wpAny_call (PySem.OwnX.own_madeK (mg := X.mg) T hB I1.kIn hmod (by have := hr.dp; omega) fun h' tk' e d M => ?_)
  show MkP X pins σ Q (.ref e) ⟨h', g, dr, tk', os⟩
  obtain ⟨oe, fv, hoe, hc, hd, hdat, h1⟩ := M.obj
  have hns := M.ns
  obtain ⟨G', g1, g2⟩ := restrict h' fun b => decide (b ≠ e)
  have gk : ∀ b, b ≠ e → G'.get? b = h'.get? b := fun b hb => g1 b (decide_eq_true hb)
  have ge : G'.get? e = none := g2 e (by simp)
  have old : ∀ b o, hp.get? b = some o → G'.get? b = some o := fun b o q => (gk b (Nat.ne_of_lt (Nat.lt_of_lt_of_le (Heap.lt_size q) M.new))).trans (M.keep b o q)
  have ob : ObjOk X.prog X.w (upd H1 d (.xd [(f, v)])) G' d (.xd [(f, v)]) :=
    ⟨_, hns.at (fun o q => (gk d M.dne).trans q), fun f => relO_own rv f⟩
  have J : Inv X pins σ (upd H1 d (.xd [(f, v)])) ⟨G', g, dr, tk', os⟩ := I1.laid (t' := tk') old M.dbig ob
  refine ⟨e, oe, fv, ⟨G', g, dr, tk', os⟩, _, .ref C, some d, rfl, J, fun b o q => ?_, ge, hoe, ⟨hc, hd⟩, hdat, h1, ?_, rfl, I1.bare, raises_own T.exC T.tyC, q1 d (I1.hok.fresh M.dbig)⟩
  · by_cases hb : b = e
    · have q' : G'.get? b = some o := q
      rw [hb, ge] at q'; cases q'
    · exact (gk b hb).symm.trans q
  · rw [upd_ne (Ne.symm M.dne)]
    exact I1.hok.fresh M.new
/-- C() -/
theorem pmk_ownN {p pos : Pos} {k : Nat} (T : PySem.OwnX.XTxt X.K X.prog C fI q f) (hr : Room k X.A) (gC : X.mg x = some (.ref C)) (hdb : (x == ("__debug__" : Str)) = false) (hg : Gl X x) :
    PMk X (.Call (.Name x p) [] [] pos) (fun σ H Q => ∀ d, H d = none → Q (.ref C) (some d) (upd H d (.xd [(f, .non)]))) := by
  intro pins s σ H Q I h
  refine wpAny_Call_Name_kw (ld_glob I hg gC ?_ hdb)
  refine PySem.W.callWith_K0 I.kIn T.kC ?_
  exact mkp_own (v := .non) (v' := .none) (kw := []) T hr (fun s' x X' => PySem.OwnX.xbnd0 T.fn_ X') I rfl h
/-- C(f=e) -/
theorem pmk_ownK {a : Expr} {tk : TA} {p pos kp : Pos} {k : Nat} (T : PySem.OwnX.XTxt X.K X.prog C fI q f) (hr : Room k X.A) (gC : X.mg x = some (.ref C)) (hdb : (x == ("__debug__" : Str)) = false) (ha : PK X [⟨some f, a, kp⟩] tk) (hg : Gl X x) :
    PMk X (.Call (.Name x p) [] [⟨some f, a, kp⟩] pos) (tMkOwn C f tk) := by
  intro pins s σ H Q I h
  refine wpAny_Call_Name_kw (ld_glob I hg gC ?_ hdb)
  refine PySem.W.callWith_KW0 (h₀ := X.base) I.ok.mod.kin T.kC rfl ?_ rfl
  refine thn (ha.run pos pins s σ H _ I h) fun ws s2 hh => ?_
  obtain ⟨vs, H2, I2, rz, v, ev, q1⟩ := hh
  subst ev
  refine ⟨I2.kIn, ?_⟩
  cases rz with
  | cons rv rn =>
    rename_i v' us'
    cases rn
    exact mkp_own (v := v) (v' := v') (kw := [(f, v')]) T hr (fun s' x X' => PySem.OwnX.xbndK T.fn_ X') I2 rv q1
end
end L2

set_option maxRecDepth 100000
set_option maxHeartbeats 4000000
namespace Mi
open PySem PySem.Spec L2
section
variable {g : Gx} {cg : Cg} {T : Tb} {W : WX} {S : Sx} {X : Cx}
theorem nil_of {ms : List ME} {es : List Expr} (h : mEs T S ms es = true) : es = [] → ms = [] := fun z => by
  have := mEs_len h
  rw [z] at this
  exact List.eq_nil_of_length_eq_zero this.symm
theorem sb_call {f : Nat} {m : Md} {es : List ME} {dfl : List P} (hs : SBs g cg T es) : SB g cg T (.call f m es dfl) := by
  refine SB.plain (fun _ _ => rfl) (fun ex h => ?_) (fun c ex h => ?_)
  · simp only [mE] at h; split at h
    · exact ⟨fun _ _ => rfl, fun _ _ _ z => nomatch z⟩
    · cases h
  · simp only [mE] at h; split at h
    · simp only [Bool.and_eq_true] at h
      obtain ⟨h1, h2, h3, h4⟩ := h
      obtain ⟨e, E, k1, k2, rfl, k4, k5, k6⟩ := entB_ok c h1
      rw [k5]
      exact e_call c.hK c.room c.grd c.takes E k1 (by omega) (glB_ok c.hsc h2) h3 k4 (by omega) (sbs_pa hs c h4 h3) (nil_of h4)
    · cases h
theorem sb_isb {k : Bool} {f : Nat} {es : List ME} {dfl : List P} (hs : SBs g cg T es) : SB g cg T (.isb k f es dfl) := by
  refine ⟨fun c ex h => ?_, fun c ex h ht => ?_⟩
  · simp only [mE] at h; split at h
    · simp only [Bool.and_eq_true, decide_eq_true_eq] at h
      obtain ⟨rfl, h1, h2, h3, h4⟩ := h
      obtain ⟨e, E, k1, k2, rfl, k4, k5, k6⟩ := entB_ok c h1
      rw [k5]
      exact (e_isb c.hK c.room c.grd c.takes E k1 (by omega) (glB_ok c.hsc h2) h3 k4 (by omega) (sbs_pa hs c h4 h3) (nil_of h4)).1
    · cases h
  · simp only [mE] at h; split at h
    · simp only [Bool.and_eq_true, decide_eq_true_eq] at h
      obtain ⟨rfl, h1, h2, h3, h4⟩ := h
      obtain ⟨e, E, k1, k2, rfl, k4, k5, k6⟩ := entB_ok c h1
      rw [k5]
      refine ⟨?_, fun _ _ _ z => nomatch z⟩
      exact (e_isb c.hK c.room c.grd c.takes E k1 (by omega) (glB_ok c.hsc h2) h3 k4 (by omega) (sbs_pa hs c h4 h3) (nil_of h4)).2
    · cases h
theorem sb_make {cc f : Nat} {m : Md} {es : List ME} {dfl : List P} (hs : SBs g cg T es) : SB g cg T (.make cc f m es dfl) := by
  refine SB.plain (fun _ _ => rfl) (fun ex h => ?_) (fun c ex h => ?_)
  · simp only [mE] at h; split at h
    · exact ⟨fun _ _ => rfl, fun _ _ _ z => nomatch z⟩
    · cases h
  · simp only [mE] at h; split at h
    · simp only [Bool.and_eq_true] at h
      obtain ⟨h1, h2, h3, h4⟩ := h
      obtain ⟨e, E, k1, k2, rfl, k4, k5, k6⟩ := entB_ok c h1
      rw [k5]
      exact e_make c.hK c.hcf c.room c.grd c.takes E k1 k2 (glB_ok c.hsc h2) h3 k4 (by omega) (sbs_pa hs c h4 h3) (nil_of h4)
    · cases h
theorem sb_makeK {cc f : Nat} {m : Md} {es kes : List ME} {src : List (Sum P Nat)} (hs : SBs g cg T es) (hk : SBs g cg T kes) : SB g cg T (.makeK cc f m es kes src) := by
  refine SB.plain (fun _ _ => rfl) (fun ex h => ?_) (fun c ex h => ?_)
  · simp only [mE] at h; split at h
    · exact ⟨fun _ _ => rfl, fun _ _ _ z => nomatch z⟩
    · cases h
  · simp only [mE] at h; split at h
    · simp only [Bool.and_eq_true] at h
      obtain ⟨h1, h2, h3, h4, h5⟩ := h
      obtain ⟨e, s, E, k1, k2, rfl, k3, k4, k5, k6, k7, k8, rfl⟩ := entKB_ok c h1
      exact e_makeK c.hK c.hcf c.room c.grd c.takes E k1 k2 (glB_ok c.hsc h2) h3 k3 k4 k5 k6 k7 k8 (sbs_pa hs c h4 h3) (nil_of h4) (sbs_pk hk c h5)
    · cases h
theorem meth_tree {o : Expr} {x : Str} {ap pos : Pos} {l : List Expr} {env : PySem.Env} (hb : okBase o = true) (hl : (ap.endLine == pos.line) = true) (hn : l.length < 30) (hs : noStar l = true) : ∃ pl, eval (.Call (.Attribute o x ap) l [] pos) env = (do
      let ov ← eval o env
      standAt ap.atName
      let (f, first) ← holding [ov] (getMethod ov x pl)
      callWith pos f first (backTo pos (starEach l env)) (backToKw pos (keywordEach [] env))) := by
  refine ⟨(do return (← importBound o env).getD true), ?_⟩
  have h1 := base_ok (a := x) (env := env) hb
  have hf : methodCallForm (l.length + ([] : List Keyword).length) (backTo pos (starEach l env)) (backToKw pos (keywordEach [] env)) = true := star_few hs hn
  rw [arm_eval_Call, h1]
  unfold methodCall calleeOf methodCallPos
  simp only [hf, hl, if_true, Bool.not_true, Bool.or_true, pure_bind]
theorem sb_meth {cc : Nat} {nm : Str} {f : Nat} {m : Md} {a : ME} {es : List ME} {dfl : List P} (ha : SB g cg T a) (hs : SBs g cg T es) : SB g cg T (.meth cc nm f m a es dfl) := by
  refine SB.plain (fun _ _ => rfl) (fun ex h => ?_) (fun c ex h => ?_)
  · simp only [mE] at h; split at h
    · exact ⟨fun _ _ => rfl, fun _ _ _ z => nomatch z⟩
    · cases h
  · simp only [mE] at h; split at h
    · simp only [Bool.and_eq_true, decide_eq_true_eq] at h
      obtain ⟨h1, rfl, h3, h4, h5, h6, h7, h8⟩ := h
      obtain ⟨e, E, k1, k2, rfl, k4, k5, k6⟩ := entB_ok c h1
      rw [k5]
      obtain ⟨pl, ht⟩ := meth_tree (env := _) h3 h4 h5 h6
      exact e_meth c.hK c.C c.hcf c.room c.grd c.takes E k1 (by omega) h6 k4 (by omega) (ha.e c _ h7) (sbs_pa hs c h8 h6) (nil_of h8) ht
    · cases h
theorem biN_mem (b : Bi) : biN b ∈ BL := by cases b <;> decide +kernel
theorem sb_bi {b : Bi} {es : List ME} (hs : SBs g cg T es) : SB g cg T (.bi b es) := by
  refine SB.plain (fun _ _ => rfl) (fun ex h => ?_) (fun c ex h => ?_)
  · simp only [mE] at h; split at h
    · exact ⟨fun _ _ => rfl, fun _ _ _ z => nomatch z⟩
    · cases h
  · simp only [mE] at h; split at h
    · rename_i x _ l _
      simp only [Bool.and_eq_true, decide_eq_true_eq] at h
      obtain ⟨rfl, h1, h2, h3, h4⟩ := h
      cases l with
      | nil => cases h2
      | cons a as => exact e_bi c.room c.grd c.hK c.calm h3 (glB_ok c.hsc h1) (c.blt _ (biN_mem b)) (sbs_pa hs c h4 h3)
    · cases h
theorem len1 {α : Type} {l : List α} (h : l.length = 1) : ∃ a, l = [a] := by
  cases l with
  | nil => cases h
  | cons a t => cases t with | nil => exact ⟨a, rfl⟩ | cons _ _ => simp at h
theorem len2 {α : Type} {l : List α} (h : l.length = 2) : ∃ a b, l = [a, b] := by
  cases l with
  | nil => cases h
  | cons a t => cases t with
    | nil => simp at h
    | cons b t => cases t with | nil => exact ⟨a, b, rfl⟩ | cons _ _ => simp at h
theorem sb_mt {b : Mt} {a : ME} {es : List ME} (ha : SB g cg T a) (hs : SBs g cg T es) : SB g cg T (.mt b a es) := by
  refine SB.plain (fun _ _ => rfl) (fun ex h => ?_) (fun c ex h => ?_)
  · simp only [mE] at h; split at h
    · exact ⟨fun _ _ => rfl, fun _ _ _ z => nomatch z⟩
    · cases h
  · simp only [mE] at h; split at h
    · rename_i o x ap l pos
      rw [Bool.and_eq_true, Bool.and_eq_true, Bool.and_eq_true, Bool.and_eq_true, Bool.and_eq_true] at h
      obtain ⟨h1, h2, h3, h4, h5, h6⟩ := h
      have hp := sbs_pa hs c h5 h3
      have hl := mEs_len h5
      have ho := ha.e c _ h4
      cases b with
      | append =>
        simp only [Bool.and_eq_true, decide_eq_true_eq] at h6
        obtain ⟨rfl, h6⟩ := h6
        obtain ⟨e1, rfl⟩ := len1 h6
        exact e_append (base_ok h1) h2 h3 (by simp) ho hp
      | pop0 =>
        simp only [Bool.and_eq_true, decide_eq_true_eq] at h6
        obtain ⟨rfl, h6⟩ := h6
        cases l with
        | nil =>
          obtain rfl := nil_of h5 rfl
          exact e_pop0 (base_ok h1) h2 ho
        | cons _ _ => cases h6
      | pop1 =>
        simp only [Bool.and_eq_true, decide_eq_true_eq] at h6
        obtain ⟨rfl, h6⟩ := h6
        obtain ⟨e1, rfl⟩ := len1 h6
        exact e_pop1 (base_ok h1) h2 h3 (by simp) ho hp
      | bits =>
        simp only [Bool.and_eq_true, decide_eq_true_eq] at h6
        obtain ⟨rfl, h6⟩ := h6
        cases l with
        | nil =>
          obtain rfl := nil_of h5 rfl
          exact e_bits (base_ok h1) h2 ho
        | cons _ _ => cases h6
      | dget1 =>
        simp only [Bool.and_eq_true, decide_eq_true_eq] at h6
        obtain ⟨rfl, h6⟩ := h6
        obtain ⟨e1, rfl⟩ := len1 h6
        obtain ⟨m1, rfl⟩ := len1 (by rw [← hl]; rfl : es.length = 1)
        simp only [mEs, Bool.and_eq_true] at h5
        exact e_dget1 c.room (base_ok h1) h2 h3 ho ((hs m1 (by simp)).e c _ h5.1)
      | dget2 =>
        simp only [Bool.and_eq_true, decide_eq_true_eq] at h6
        obtain ⟨rfl, h6⟩ := h6
        obtain ⟨e1, e2, rfl⟩ := len2 h6
        obtain ⟨m1, m2, rfl⟩ := len2 (by rw [← hl]; rfl : es.length = 2)
        simp only [mEs, Bool.and_eq_true] at h5
        exact e_dget2 c.room (base_ok h1) h2 h3 ho ((hs m1 (by simp)).e c _ h5.1) ((hs m2 (by simp)).e c _ h5.2.1)
      | popI =>
        simp only [Bool.and_eq_true, decide_eq_true_eq] at h6
        obtain ⟨rfl, h6⟩ := h6
        obtain ⟨e1, rfl⟩ := len1 h6
        exact e_popI (base_ok h1) h2 h3 (by simp) ho hp
      | insert =>
        simp only [Bool.and_eq_true, decide_eq_true_eq] at h6
        obtain ⟨rfl, h6⟩ := h6
        obtain ⟨e1, e2, rfl⟩ := len2 h6
        exact e_insert (base_ok h1) h2 h3 (by simp) ho hp
      | clear =>
        simp only [Bool.and_eq_true, decide_eq_true_eq] at h6
        obtain ⟨rfl, h6⟩ := h6
        cases l with
        | nil =>
          obtain rfl := nil_of h5 rfl
          exact e_clear (base_ok h1) h2 ho
        | cons _ _ => cases h6
      | dpop =>
        simp only [Bool.and_eq_true, decide_eq_true_eq] at h6
        obtain ⟨rfl, h6⟩ := h6
        obtain ⟨e1, rfl⟩ := len1 h6
        obtain ⟨m1, rfl⟩ := len1 (by rw [← hl]; rfl : es.length = 1)
        simp only [mEs, Bool.and_eq_true] at h5
        exact e_dpop (base_ok h1) h2 h3 ho ((hs m1 (by simp)).e c _ h5.1)
    · cases h
theorem e_lrng1 (hK : X.K = g.K) (hc : X.calm = true) {m : Bool} {A : ME} {a : Expr} {p1 p2 pos pos2 : Pos} (hs : noStar [a] = true) (h1 : Gl X "list") (h2 : X.mg "list" = none) (h3 : Gl X "range") (h4 : X.mg "range" = none) (ha : PE X a (tE g cg W A)) :
    PE X (.Call (.Name "list" p1) [.Call (.Name "range" p2) [a] [] pos2] [] pos) (tE g cg W (.lrng1 m A)) := by
  refine PE.weak (pe_listRg hc h1 h2 (prg_1 h3 h4 ha (by rw [noStar_each hs]; rfl)) rfl) fun σ H Q ⟨F, ι, M, ρ, r, s, ok⟩ => ?_
  refine tE_bind r s ok fun v d F1 ι1 M1 H1 r1 s1 rv ok1 _ => ?_
  simp only [items] at ok1
  cases hi : itR1 d with
  | none => rw [hi] at ok1; exact ok1.elim
  | some its =>
    rw [hi] at ok1
    unfold itR1 at hi
    split at hi
    · rename_i n
      split at hi
      · rename_i hn
        cases hi
        obtain rfl := rp_int rv
        refine ⟨n, rfl, ⟨by omega, by omega, by omega, by omega, by omega⟩, fun q hq => ?_⟩
        refine newL_ok r1 (ok1.noex fun c v M => newL_noex c v M) ?_ hq
        unfold rgV
        have e0 : (n - 0).toNat = n.toNat := by omega
        rw [e0]
        generalize n.toNat = k
        have : ∀ l : List Nat, RDs g F1 ι1 (l.map fun i => V.int (0 + (i : Nat))) (l.map fun i => D.p (.int (i : Nat))) := fun l => by
          induction l with
          | nil => exact .nil
          | cons i l ih => exact .cons (by show RD g F1 ι1 (V.int (0 + (i : Nat))) (D.p (.int (i : Nat))); rw [Int.zero_add]; exact .p (.int _)) ih
        exact this _
      · cases hi
    · cases hi
theorem e_lrng2 (hK : X.K = g.K) (hc : X.calm = true) {m : Bool} {A B : ME} {a b : Expr} {p1 p2 pos pos2 : Pos} (hs : noStar [a, b] = true) (h1 : Gl X "list") (h2 : X.mg "list" = none) (h3 : Gl X "range") (h4 : X.mg "range" = none) (ha : PE X a (tE g cg W A)) (hb : PE X b (tE g cg W B)) :
    PE X (.Call (.Name "list" p1) [.Call (.Name "range" p2) [a, b] [] pos2] [] pos) (tE g cg W (.lrng2 m A B)) := by
  refine PE.weak (pe_listRg hc h1 h2 (prg_2 h3 h4 ha hb (by rw [star_ne (noStar_head hs)]) (by rw [star_ne (noStar_head (noStar_tail hs))]) (star_any (noStar_tail hs))) rfl) fun σ H Q ⟨F, ι, M, ρ, r, s, ok⟩ => ?_
  refine tE_bind r s ok fun v d F1 ι1 M1 H1 r1 s1 rv ok1 _ => tE_bind r1 s1 ok1 fun w d' F2 ι2 M2 H2 r2 s2 rw' ok2 e2 => ?_
  simp only [items] at ok2
  cases hi : itR2 d d' with
  | none => rw [hi] at ok2; exact ok2.elim
  | some its =>
    rw [hi] at ok2
    unfold itR2 at hi
    split at hi
    · rename_i n n'
      split at hi
      · rename_i hn
        cases hi
        obtain rfl := rp_int rv
        obtain rfl := rp_int rw'
        refine ⟨n, n', rfl, rfl, ⟨by omega, by omega, by omega, by omega, by omega⟩, fun q hq => ?_⟩
        refine newL_ok r2 (ok2.noex fun c v M => newL_noex c v M) ?_ hq
        unfold rgV
        have : ∀ l : List Nat, RDs g F2 ι2 (l.map fun i => V.int (n + (i : Nat))) (l.map fun i => D.p (.int (n + (i : Nat)))) := fun l => by
          induction l with
          | nil => exact .nil
          | cons i l ih => exact .cons (.p (.int _)) ih
        exact this _
      · cases hi
    · cases hi
theorem insS_mem {k j : Int} : ∀ l : List Int, j ∈ insS k l ↔ j = k ∨ j ∈ l
  | [] => by simp [insS]
  | x :: r => by
    unfold insS
    split
    · simp
    · split
      · rename_i h; subst h; simp
      · simp only [List.mem_cons, insS_mem r]
        constructor
        · rintro (h | h | h)
          · exact .inr (.inl h)
          · exact .inl h
          · exact .inr (.inr h)
        · rintro (h | h | h)
          · exact .inr (.inl h)
          · exact .inl h
          · exact .inr (.inr h)
theorem insS_up {k : Int} : ∀ {l : List Int}, l.Pairwise (· < ·) → (insS k l).Pairwise (· < ·)
  | [], _ => by simp [insS]
  | x :: r, h => by
    have h1 := List.pairwise_cons.mp h
    unfold insS
    split
    · rename_i hk
      refine List.pairwise_cons.mpr ⟨fun y hy => ?_, h⟩
      rcases List.mem_cons.mp hy with e | e
      · omega
      · have := h1.1 y e; omega
    · split
      · exact h
      · rename_i hk hk2
        refine List.pairwise_cons.mpr ⟨fun y hy => ?_, insS_up h1.2⟩
        rcases (insS_mem r).mp hy with e | e
        · omega
        · exact h1.1 y e
theorem sdd_mem {j : Int} : ∀ ns : List Int, j ∈ sdd ns ↔ j ∈ ns
  | [] => Iff.rfl
  | x :: r => by
    show j ∈ insS x (sdd r) ↔ _
    rw [insS_mem, sdd_mem r, List.mem_cons]
theorem sdd_up : ∀ ns : List Int, (sdd ns).Pairwise (· < ·)
  | [] => List.Pairwise.nil
  | x :: r => insS_up (sdd_up r)
theorem up_uniq : ∀ {l m : List Int}, l.Pairwise (· < ·) → m.Pairwise (· < ·) → (∀ k, k ∈ l ↔ k ∈ m) → l = m
  | [], [], _, _, _ => rfl
  | [], y :: m, _, _, h => by have := (h y).mpr List.mem_cons_self; cases this
  | x :: l, [], _, _, h => by have := (h x).mp List.mem_cons_self; cases this
  | x :: l, y :: m, h1, h2, h => by
    have a1 := List.pairwise_cons.mp h1
    have a2 := List.pairwise_cons.mp h2
    have e : x = y := by
      rcases List.mem_cons.mp ((h x).mp List.mem_cons_self) with e | e
      · exact e
      · rcases List.mem_cons.mp ((h y).mpr List.mem_cons_self) with e' | e'
        · exact e'.symm
        · have := a2.1 x e
          have := a1.1 y e'
          omega
    subst e
    have : l = m := up_uniq a1.2 a2.2 fun k => by
      constructor
      · intro hk
        rcases List.mem_cons.mp ((h k).mp (List.mem_cons_of_mem _ hk)) with e | e
        · subst e; have := a1.1 k hk; omega
        · exact e
      · intro hk
        rcases List.mem_cons.mp ((h k).mpr (List.mem_cons_of_mem _ hk)) with e | e
        · subst e; have := a2.1 k hk; omega
        · exact e
    rw [this]
theorem rds_ints {F : Hp} {ι : List Addr} : ∀ ns : List Int, RDs g F ι (ns.map V.int) (ns.map fun n => D.p (.int n))
  | [] => .nil
  | n :: r => .cons (.p (.int n)) (rds_ints r)
theorem toPs_intsE : ∀ ns : List Int, toPs (ns.map fun n => D.p (.int n)) = some (ns.map P.int)
  | [] => rfl
  | n :: r => by
    have := toPs_intsE r
    simp only [List.map_cons, toPs, toP, this, Option.map_some]
theorem e_sset (hK : X.K = g.K) (hc : X.calm = true) {A : ME} {a : Expr} {p1 p2 pos pos2 : Pos} (hs : noStar [a] = true) (h1 : Gl X "sorted") (h2 : X.mg "sorted" = none) (h3 : Gl X "set") (h4 : X.mg "set" = none) (ha : PE X a (tE g cg W A)) :
    PE X (.Call (.Name "sorted" p1) [.Call (.Name "set" p2) [a] [] pos2] [] pos) (tE g cg W (.sset A)) := by
  have st := pe_callTy (p := p2) (pos := pos2) (cr_setL hc) h3 h4 (by decide +kernel) (pa_cons ha pa_nil (star_ne (noStar_head hs))) (by decide) (by decide) (star_ne (noStar_head hs)) rfl
  refine PE.weak (pe_callB (p := p1) (pos := pos) (cr_sortedSet hc) h1 h2 (by decide +kernel) (pa_cons st pa_nil rfl) (by decide) (by decide) rfl rfl) fun σ H Q ⟨F, ι, M, ρ, r, s, ok⟩ => ?_
  refine tE_bind r s ok fun v d F1 ι1 M1 H1 r1 s1 rv ok1 _ => ?_
  unfold ssetR at ok1
  split at ok1
  · rename_i ns e
    split at ok1
    · rename_i h64
      obtain ⟨ds, e1, e2⟩ := bind_lst e
      obtain ⟨p, ws, rfl, ea, ra⟩ := lstD_ok r1 rv e1
      obtain rfl := allInts_ok ra e2
      refine ⟨p, ns, rfl, SqL.of ea, h64, fun q c hq hcc => ?_⟩
      obtain ⟨r2, x2⟩ := r1.laidF (o := SetO X.w q (fun j => decide (j ∈ ns)) c) hq
      refine ⟨q, _, c, rfl, upd_same, by omega, fun ms p2 m1 m2 m3 m4 => ?_⟩
      have em : ms = sdd ns := up_uniq m1 (sdd_up ns) fun k => by rw [m2, sdd_mem]; simp
      subst em
      refine newL_ok (m := false) r2 ?_ (rds_ints _) m4
      simp only [newL, toPs_intsE]
      exact (ok1.ext x2).noex fun c v M h => nomatch h
    · exact ok1.elim
  · exact ok1.elim
theorem insI_perm (k : Int) : ∀ l : List Int, (insI k l).Perm (k :: l)
  | [] => .refl _
  | x :: r => by
    unfold insI
    split
    · exact .refl _
    · exact ((insI_perm k r).cons x).trans (.swap k x r)
theorem isrt_perm : ∀ ns : List Int, (isrt ns).Perm ns
  | [] => .refl _
  | n :: r => (insI_perm n (isrt r)).trans ((isrt_perm r).cons n)
theorem insI_up (k : Int) : ∀ {l : List Int}, l.Pairwise (· ≤ ·) → (insI k l).Pairwise (· ≤ ·)
  | [], _ => by simp [insI]
  | x :: r, h => by
    unfold insI
    have h' := List.pairwise_cons.mp h
    split
    · rename_i hk
      exact List.pairwise_cons.mpr ⟨fun y hy => by
        rcases List.mem_cons.mp hy with rfl | hy
        · exact hk
        · exact Int.le_trans hk (h'.1 y hy), h⟩
    · rename_i hk
      refine List.pairwise_cons.mpr ⟨fun y hy => ?_, insI_up k h'.2⟩
      rcases List.mem_cons.mp ((insI_perm k r).mem_iff.mp hy) with rfl | hy
      · omega
      · exact h'.1 y hy
theorem isrt_up : ∀ ns : List Int, (isrt ns).Pairwise (· ≤ ·)
  | [] => .nil
  | n :: r => insI_up n (isrt_up r)
theorem srt_uniq : ∀ {l m : List Int}, l.Perm m → l.Pairwise (· ≤ ·) → m.Pairwise (· ≤ ·) → l = m
  | [], m, h, _, _ => h.nil_eq
  | x :: l, [], h, _, _ => absurd h.length_eq (by simp)
  | x :: l, y :: m, h, h1, h2 => by
    have a1 := List.pairwise_cons.mp h1
    have a2 := List.pairwise_cons.mp h2
    have e : x = y := by
      have b1 : x ∈ y :: m := h.mem_iff.mp List.mem_cons_self
      have b2 : y ∈ x :: l := h.mem_iff.mpr List.mem_cons_self
      rcases List.mem_cons.mp b1 with e | b1
      · exact e
      · rcases List.mem_cons.mp b2 with e | b2
        · exact e.symm
        · have := a1.1 y b2
          have := a2.1 x b1
          omega
    subst e
    rw [srt_uniq h.cons_inv a1.2 a2.2]
theorem e_srtI (hK : X.K = g.K) {A : ME} {a : Expr} {p1 pos : Pos} (hs : noStar [a] = true) (h1 : Gl X "sorted") (h2 : X.mg "sorted" = none) (ha : PE X a (tE g cg W A)) :
    PE X (.Call (.Name "sorted" p1) [a] [] pos) (tE g cg W (.srtI A)) := by
  refine PE.weak (pe_callB (p := p1) (pos := pos) cr_sortedI h1 h2 (by decide +kernel) (pa_cons ha pa_nil (star_ne (noStar_head hs))) (by decide) (by decide) (star_ne (noStar_head hs)) rfl) fun σ H Q ⟨F, ι, M, ρ, r, s, ok⟩ => ?_
  refine tE_bind r s ok fun v d F1 ι1 M1 H1 r1 s1 rv ok1 _ => ?_
  unfold srtR at ok1
  split at ok1
  · rename_i ns e
    obtain ⟨ds, e1, e2⟩ := bind_lst e
    obtain ⟨p, ws, rfl, ea, ra⟩ := lstD_ok r1 rv e1
    obtain rfl := allInts_ok ra e2
    refine ⟨p, ns, rfl, SqL.of ea, fun ms p2 m1 m2 m4 => ?_⟩
    have em : ms = isrt ns := srt_uniq (m1.trans (isrt_perm ns).symm) m2 (isrt_up ns)
    subst em
    refine newL_ok (m := false) r1 ?_ (rds_ints _) m4
    simp only [newL, toPs_intsE]
    exact ok1.noex fun c v M h => nomatch h
  · exact ok1.elim
theorem isS_any {K : PySem.W.Frag} {d : D} {b : Bool} (e : isIS d = some b) {F : Hp} {v : V} (rv : RD g F ι v d) : ∃ t, (∀ H, TyOf K H v t) ∧ PySem.W.kitAny K t [.type "int", .type "str"] = some b := by
  have one : ∀ {n s : String} {r : Bool}, kitB n s = some r → PySem.W.kitOne K (.type n) (.type s) = some r := fun h => kit_ty h
  cases rv with
  | p rx =>
    cases rx with
    | non => cases e; exact ⟨_, fun H => .non, kitAny_cons (one (r := false) (by decide +kernel)) (fun _ => kitAny_cons (one (r := false) (by decide +kernel)) (fun _ => kitAny_nil) (fun z => nomatch z)) (fun z => nomatch z)⟩
    | bl y => cases e; exact ⟨_, fun H => .bl y, kitAny_cons (one (r := true) (by decide +kernel)) (fun z => nomatch z) (fun _ => rfl)⟩
    | int y => cases e; exact ⟨_, fun H => .int y, kitAny_cons (one (r := true) (by decide +kernel)) (fun z => nomatch z) (fun _ => rfl)⟩
    | str y => cases e; exact ⟨_, fun H => .str y, kitAny_cons (one (r := false) (by decide +kernel)) (fun _ => kitAny_cons (one (r := true) (by decide +kernel)) (fun z => nomatch z) (fun _ => rfl)) (fun z => nomatch z)⟩
    | _ => cases e
  | _ => cases e
theorem e_isS {A : ME} {a : Expr} {p q1 q2 tp pos : Pos} {n : Nat} (hs : noStar [a] = true) (h1 : Gl X "isinstance") (h2 : X.mg "isinstance" = none) (h3 : Gl X "int") (h4 : X.mg "int" = none) (h5 : Gl X "str") (h6 : X.mg "str" = none) (ha : PE X a (tE g cg W A)) :
    PE X (.Call (.Name "isinstance" p) [a, .Tuple [.Name "int" q1, .Name "str" q2] n tp] [] pos) (tE g cg W (.isS A)) := by
  have pi : PE X (.Name "int" q1) (tC (.ty "int")) := pe_bltn h3 h4 (by decide +kernel) rfl (by decide) (by decide)
  have ps : PE X (.Name "str" q2) (tC (.ty "str")) := pe_bltn h5 h6 (by decide +kernel) rfl (by decide) (by decide)
  have pt : PE X (.Tuple [.Name "int" q1, .Name "str" q2] n tp) _ := pe_tup (pa_cons pi (pa_cons ps pa_nil rfl) rfl)
  refine PE.weak (pe_callB (p := p) (pos := pos) call_isiT h1 h2 (by decide +kernel) (pa_cons ha (pa_cons pt pa_nil rfl) (star_ne (noStar_head hs))) (by decide) (by decide) (star_ne (noStar_head hs)) (by rw [star_ne (e := Expr.Tuple [.Name "int" q1, .Name "str" q2] n tp) (fun _ _ z => nomatch z)]; rfl)) fun σ H Q ⟨F, ι, M, ρ, r, s, ok⟩ => ?_
  refine tE_bind r s ok fun v d F1 ι1 M1 H1 r1 s1 rv ok1 _ => ?_
  cases e : isIS d with
  | none => rw [e] at ok1; exact ok1.elim
  | some b =>
    rw [e] at ok1
    refine ⟨by decide, fun q hq => ?_⟩
    obtain ⟨r2, e2⟩ := r1.laidF (o := .tup [.ty "int", .ty "str"]) hq
    obtain ⟨t, k1, k2⟩ := isS_any (K := X.K) e rv
    exact ⟨v, q, _, t, [.type "int", .type "str"], b, rfl, upd_same, .cons (.ty _) (.cons (.ty _) .nil), .base (k1 _), k2, (ok1.ext e2).here r2 _ (.p (.bl b))⟩
theorem sb_isS {a : ME} (ha : SB g cg T a) : SB g cg T (.isS a) := by
  refine SB.plain (fun _ _ => rfl) (fun ex h => ?_) (fun c ex h => ?_)
  · simp only [mE] at h; split at h
    · exact ⟨fun _ _ => rfl, fun _ _ _ z => nomatch z⟩
    · cases h
  · simp only [mE] at h; split at h
    · simp only [Bool.and_eq_true, decide_eq_true_eq] at h
      obtain ⟨rfl, h1, rfl, h2, rfl, h3, h4, h5⟩ := h
      exact e_isS h4 (glB_ok c.hsc h1) (c.blt _ (by decide +kernel)) (glB_ok c.hsc h2) (c.blt _ (by decide +kernel)) (glB_ok c.hsc h3) (c.blt _ (by decide +kernel)) (ha.e c _ h5)
    · cases h
theorem e_isVE (hK : X.K = g.K) (C : ClsOk g) {A : ME} {a b : Expr} {p pos : Pos} (na : ∀ v p, a ≠ .Starred v p) (nb : ∀ v p, b ≠ .Starred v p) (hg : Gl X "isinstance") (hm : X.mg "isinstance" = none) (ha : PE X a (tE g cg W A)) (hb : PE X b (tC (.ty "ValueError"))) :
    PE X (.Call (.Name "isinstance" p) [a, b] [] pos) (tE g cg W (.isVE A)) := by
  have hc : CallR X (.builtin "isinstance") (fun vs H Q => ∃ x F ι M d b, vs = [x, .ty "ValueError"] ∧ Rel g F ι M H ∧ RD g F ι x d ∧ isVal d M = some b ∧ Q (.bl b) H) := by
    intro pins s σ H vs us Q I r h
    obtain ⟨x, F, ι, M, d, b, rfl, rel, rx, e, q⟩ := h
    exact isVal_call hK C I r rel rx e q
  refine PE.weak (pe_callB hc hg hm (by decide +kernel) (pa_cons ha (pa_cons hb pa_nil (star_ne nb)) (star_ne na)) (by decide) (by decide) (star_ne na) (by rw [star_ne nb]; rfl)) fun σ H Q ⟨F, ι, M, ρ, r, s, ok⟩ => ?_
  refine tE_bind r s ok fun v d F1 ι1 M1 H1 r1 s1 rv ok1 _ => ?_
  obtain ⟨b, e, q⟩ := lift_ok r1 ok1
  exact ⟨v, F1, ι1, M1, d, b, rfl, r1, rv, e, q⟩
theorem sb_isVE {a : ME} (ha : SB g cg T a) : SB g cg T (.isVE a) := by
  refine SB.plain (fun _ _ => rfl) (fun ex h => ?_) (fun c ex h => ?_)
  · simp only [mE] at h; split at h
    · exact ⟨fun _ _ => rfl, fun _ _ _ z => nomatch z⟩
    · cases h
  · simp only [mE] at h; split at h
    · simp only [Bool.and_eq_true, decide_eq_true_eq] at h
      obtain ⟨rfl, rfl, h1, h2, h3, h4⟩ := h
      exact e_isVE c.hK c.C (noStar_head h3) (fun _ _ z => nomatch z) (glB_ok c.hsc h1) (c.blt _ (by decide +kernel)) (ha.e c _ h4) (pe_bltn (glB_ok c.hsc h2) (c.blt _ (by decide +kernel)) (by decide +kernel) rfl (by decide) (by decide))
    · cases h
section
variable {g : Gx} {F F' : Hp} {ι ι' : List Addr} {M : Sto} {H H' : Hp}
theorem Rel.took {p : Addr} {o : HO} {c : Cell} (r : Rel g F ι M H) (hp : H p = some o) (hι : p ∉ ι) (hc : CellOk g F (ι ++ [p]) H p c) : Rel g F (ι ++ [p]) (M ++ [c]) H := by
  refine ⟨r.sub, ?_, by simp [r.len], fun n a c' h1 h2 => ?_, fun a ha => ?_⟩
  · rw [List.nodup_append]
    exact ⟨r.nd, by simp, fun a ha b hb z => by simp at hb; subst hb; subst z; exact hι ha⟩
  · by_cases hn : n < ι.length
    · rw [List.getElem?_append_left hn] at h1
      rw [List.getElem?_append_left (by rw [← r.len]; exact hn)] at h2
      exact (r.cells n a c' h1 h2).mono (Same.refl F) ⟨[p], rfl⟩ (fun hd => (r.cells n a c' h1 h2).free hd) rfl
    · rw [List.getElem?_append_right (by omega)] at h1
      rw [List.getElem?_append_right (by rw [← r.len]; omega)] at h2
      have e1 : n - ι.length = 0 := by
        have := (List.getElem?_eq_some_iff.mp h1).1
        simp at this; omega
      rw [← r.len, e1] at h2
      rw [e1] at h1
      simp at h1 h2
      subst h1; subst h2
      exact hc
  · rcases List.mem_append.mp ha with h | h
    · exact r.there a h
    · simp at h; subst h; exact ⟨o, hp⟩
theorem Ext.took {p : Addr} {o : HO} (e : Ext F ι H F' ι' H') (h0 : H p = none) (hp : H' p = some o) : Ext F ι H F' (ι' ++ [p]) H' := by
  obtain ⟨more, rfl⟩ := e.pre
  refine ⟨e.sub, ⟨more ++ [p], by simp⟩, e.frame, fun a ha => ?_, e.froz, e.keep⟩
  rcases List.mem_append.mp ha with z | z
  · exact e.new a z
  · simp at z; subst z; exact .inr h0
end
/-- the cells of a made exception -/
theorem xmk_cells {F1 : Hp} {ι1 : List Addr} {M1 : Sto} {H1 : Hp} {c : Nat} {f : Str} {v : V} {d : Mi.D} {Q : VK} {σ : St} (r1 : Rel g F1 ι1 M1 H1) (rv : RD g F1 ι1 v d) (hxc : g.xc c = true) (hcf : g.cf c = [f])
    (ok1 : Ok g W σ F1 ι1 H1 (.ok (.ref (M1.length + 1)) (M1 ++ [.xd f d] ++ [.xc c (some M1.length)])) (kE g Q)) (dd : Addr) (hd : H1 dd = none) (a : Addr) (ha : upd H1 dd (.xd [(f, v)]) a = none) : Q (.ref a) (upd (upd H1 dd (.xd [(f, v)])) a (exK a (.ref (g.ca c)) (some dd))) := by
  have e2 : Ext F1 ι1 H1 F1 ι1 (upd H1 dd (.xd [(f, v)])) := by
    refine ⟨Same.refl F1, ⟨[], by simp⟩, fun b o q _ => by rw [upd_ne (ne_of_none q hd)]; exact q, fun a ha => .inl ha, fun b o q => .inl q, fun a ha => ?_⟩
    obtain ⟨u, q⟩ := r1.there a ha
    exact ⟨u, by rw [upd_ne (ne_of_none q hd)]; exact q⟩
  have hι : dd ∉ ι1 := fun hm => by
    obtain ⟨u, q⟩ := r1.there dd hm
    rw [hd] at q; cases q
  have hF : F1 dd = none := r1.sub.free hd
  have r2 : Rel g F1 ι1 M1 (upd H1 dd (.xd [(f, v)])) := by
    refine ⟨fun b o q => ?_, r1.nd, r1.len, fun n a c h1 h2 => ?_, e2.keep⟩
    · have := r1.sub b o q
      rw [upd_ne (ne_of_none this hd)]; exact this
    · have ne : a ≠ dd := fun z => hι (z ▸ List.mem_of_getElem? h1)
      exact (r1.cells n a c h1 h2).mono (Same.refl F1) ⟨[], by simp⟩ (fun hd' => (r1.cells n a c h1 h2).free hd') (upd_ne ne)
  have h3 : upd H1 dd (.xd [(f, v)]) dd = some (.xd [(f, v)]) := upd_same
  have c1 : CellOk g F1 (ι1 ++ [dd]) (upd H1 dd (.xd [(f, v)])) dd (.xd f d) := ⟨hF, v, h3, rv.mono (Same.refl F1) ⟨[dd], rfl⟩⟩
  have r3 := r2.took h3 hι c1
  have e3 := e2.took hd h3
  have hFa : F1 a = none := r2.sub.free ha
  obtain ⟨r4, e4⟩ := r3.laidC (o := exK a (.ref (g.ca c)) (some dd)) (c := .xc c (some M1.length)) ha fun H2 z => ⟨hFa, hxc, some dd, z, dd, rfl, by rw [← r1.len]; simp⟩
  exact ok1 F1 (ι1 ++ [dd] ++ [a]) _ (e3.trans e4) r4 _ (.ref (by rw [← r1.len]; simp))
theorem e_xmk1 {c k : Nat} {A : ME} {fI : Addr} {x q f : Str} {a : Expr} {p pos : Pos} (hcg : cg.cf = g.cf) (hr : Room k X.A) (T : PySem.OwnX.XTxt X.K X.prog (g.ca c) fI q f) (hxc : g.xc c = true) (hcf : g.cf c = [f]) (gC : X.mg x = some (.ref (g.ca c))) (hdb : (x == ("__debug__" : Str)) = false) (hg : Gl X x)
    (hs : noStar [a] = true) (ha : PE X a (tE g cg W A)) : PE X (.Call (.Name x p) [a] [] pos) (tE g cg W (.xmk c false [A])) := by
  refine PE.weak (pe_mk (pmk_ownX T hr gC hdb (pa_cons ha pa_nil (star_ne (noStar_head hs))) hg (star_ne (noStar_head hs)) (by rfl))) fun σ H Q ⟨F, ι, M, ρ, r, s, ok⟩ => ?_
  rw [ev_xmk, evs_cons, R.bind_assoc] at ok
  refine tE_bind r s ok fun v d F1 ι1 M1 H1 r1 s1 rv ok1 _ => ?_
  have ok1 : Ok g W σ F1 ι1 H1 (xmkR cg.cf c [d] M1) (kE g Q) := ok1
  rw [hcg] at ok1
  unfold xmkR at ok1
  rw [hcf] at ok1
  exact ⟨v, rfl, fun dd hd a ha => xmk_cells r1 rv hxc hcf ok1 dd hd a ha⟩
theorem e_xmkK {c k : Nat} {A : ME} {fI : Addr} {x q f : Str} {a : Expr} {p pos kp : Pos} (hcg : cg.cf = g.cf) (hr : Room k X.A) (T : PySem.OwnX.XTxt X.K X.prog (g.ca c) fI q f) (hxc : g.xc c = true) (hcf : g.cf c = [f]) (gC : X.mg x = some (.ref (g.ca c))) (hdb : (x == ("__debug__" : Str)) = false) (hg : Gl X x)
    (ha : PE X a (tE g cg W A)) : PE X (.Call (.Name x p) [] [⟨some f, a, kp⟩] pos) (tE g cg W (.xmk c true [A])) := by
  refine PE.weak (pe_mk (pmk_ownK T hr gC hdb (pk_cons ha pk_nil) hg)) fun σ H Q ⟨F, ι, M, ρ, r, s, ok⟩ => ?_
  rw [ev_xmk, evs_cons, R.bind_assoc] at ok
  refine tE_bind r s ok fun v d F1 ι1 M1 H1 r1 s1 rv ok1 _ => ?_
  have ok1 : Ok g W σ F1 ι1 H1 (xmkR cg.cf c [d] M1) (kE g Q) := ok1
  rw [hcg] at ok1
  unfold xmkR at ok1
  rw [hcf] at ok1
  exact ⟨v, rfl, fun dd hd a ha => xmk_cells r1 rv hxc hcf ok1 dd hd a ha⟩
theorem e_xmkN {c k : Nat} {kw : Bool} {fI : Addr} {x q f : Str} {p pos : Pos} (hcg : cg.cf = g.cf) (hr : Room k X.A) (T : PySem.OwnX.XTxt X.K X.prog (g.ca c) fI q f) (hxc : g.xc c = true) (hcf : g.cf c = [f]) (gC : X.mg x = some (.ref (g.ca c))) (hdb : (x == ("__debug__" : Str)) = false) (hg : Gl X x) :
    PE X (.Call (.Name x p) [] [] pos) (tE g cg W (.xmk c kw [])) := by
  refine PE.weak (pe_mk (pmk_ownN T hr gC hdb hg)) fun σ H Q ⟨F, ι, M, ρ, r, s, ok⟩ => ?_
  have ok1 : Ok g W σ F ι H (xmkR cg.cf c [] M) (kE g Q) := ok
  rw [hcg] at ok1
  unfold xmkR at ok1
  rw [hcf] at ok1
  exact fun dd hd a ha => xmk_cells r (.p .non) hxc hcf ok1 dd hd a ha
theorem e_xmk0 {c : Nat} {kw : Bool} {x : Str} {p pos : Pos} (hcg : cg.cf = g.cf) (T : XbOk X.K (g.ca c)) (hxc : g.xc c = true) (hcf : g.cf c = []) (gC : X.mg x = some (.ref (g.ca c))) (hdb : (x == ("__debug__" : Str)) = false) (hg : Gl X x) :
    PE X (.Call (.Name x p) [] [] pos) (tE g cg W (.xmk c kw [])) := by
  refine PE.weak (pe_mk (pmk_own0 T gC hg hdb)) fun σ H Q ⟨F, ι, M, ρ, r, s, ok⟩ => ?_
  have ok1 : Ok g W σ F ι H (xmkR cg.cf c [] M) (kE g Q) := ok
  rw [hcg] at ok1
  unfold xmkR at ok1
  rw [hcf] at ok1
  intro a ha
  obtain ⟨r2, e2⟩ := r.laidC (o := exK a (.ref (g.ca c)) none) (c := .xc c none) ha fun H2 z => ⟨r.sub.free ha, hxc, none, z, rfl, hcf⟩
  exact ok1 F (ι ++ [a]) _ e2 r2 _ (.ref (by rw [← r.len]; simp))
theorem sb_xmk {c : Nat} {kw : Bool} {es : List ME} (hs : SBs g cg T es) : SB g cg T (.xmk c kw es) := by
  refine SB.plain (fun _ _ => rfl) (fun ex h => ?_) (fun c' ex h => ?_)
  · simp only [mE] at h; split at h
    · exact ⟨fun _ _ => rfl, fun _ _ _ z => nomatch z⟩
    · exact ⟨fun _ _ => rfl, fun _ _ _ z => nomatch z⟩
    · cases h
  · simp only [mE] at h; split at h
    · rename_i x p l pos
      simp only [Bool.and_eq_true, decide_eq_true_eq] at h
      obtain ⟨rfl, h1, h2, h3, h4, h5, h6⟩ := h
      obtain ⟨q1, q2, q3⟩ := c'.xcls c _ h1
      match es, l, h5, h3, h4, h6, hs with
      | [], [], _, _, _, h6, _ =>
        simp only [Bool.or_eq_true, Bool.and_eq_true, decide_eq_true_eq] at h6
        rcases h6 with ⟨h6, h7⟩ | ⟨_, h6⟩
        · obtain ⟨f, hf⟩ := Option.isSome_iff_exists.mp h6
          have q4 := c'.xfld c f hf
          obtain ⟨fI, q, T'⟩ := c'.xtxt c f q1 q4
          exact e_xmkN c'.hcf c'.room T' q1 q4 q2 q3 (glB_ok c'.hsc h2)
        · obtain ⟨q4, q5⟩ := c'.xbs c h6
          exact e_xmk0 c'.hcf q4 q1 q5 q2 q3 (glB_ok c'.hsc h2)
      | [A], [a], h5, _, h4, h6, hs =>
        simp only [mEs, Bool.and_eq_true] at h5
        simp only [Bool.or_eq_true, Bool.and_eq_true, decide_eq_true_eq, List.length_cons, List.length_nil] at h6
        rcases h6 with ⟨h6, h7⟩ | ⟨h6, _⟩
        · obtain ⟨f, hf⟩ := Option.isSome_iff_exists.mp h6
          have q4 := c'.xfld c f hf
          obtain ⟨fI, q, T'⟩ := c'.xtxt c f q1 q4
          exact e_xmk1 c'.hcf c'.room T' q1 q4 q2 q3 (glB_ok c'.hsc h2) h4 ((hs A (by simp)).e c' _ h5.1)
        · omega
      | [], _ :: _, h5, _, _, _, _ => cases h5
      | _ :: _, [], h5, _, _, _, _ => cases h5
      | _ :: _ :: _, [_], h5, _, _, _, _ => simp [mEs] at h5
      | _ :: _, _ :: _ :: _, _, h3, _, _, _ => simp at h3
    · rename_i x p f a kp pos
      simp only [Bool.and_eq_true, decide_eq_true_eq] at h
      obtain ⟨rfl, h1, h2, h5, h6, h7⟩ := h
      obtain ⟨q1, q2, q3⟩ := c'.xcls c _ h1
      have q4 := c'.xfld c f h6
      obtain ⟨fI, q, T'⟩ := c'.xtxt c f q1 q4
      match es, h5, hs with
      | [A], h5, hs =>
        simp only [mEs, Bool.and_eq_true] at h5
        exact e_xmkK c'.hcf c'.room T' q1 q4 q2 q3 (glB_ok c'.hsc h2) ((hs A (by simp)).e c' _ h5.1)
      | [], h5, _ => cases h5
      | _ :: _ :: _, h5, _ => simp [mEs] at h5
    · cases h
theorem sb_srtI {a : ME} (ha : SB g cg T a) : SB g cg T (.srtI a) := by
  refine SB.plain (fun _ _ => rfl) (fun ex h => ?_) (fun c ex h => ?_)
  · simp only [mE] at h; split at h
    · exact ⟨fun _ _ => rfl, fun _ _ _ z => nomatch z⟩
    · cases h
  · simp only [mE] at h; split at h
    · simp only [Bool.and_eq_true, decide_eq_true_eq] at h
      obtain ⟨rfl, h1, h3, h4⟩ := h
      exact e_srtI c.hK h3 (glB_ok c.hsc h1) (c.blt _ (by decide +kernel)) (ha.e c _ h4)
    · cases h
theorem sb_sset {a : ME} (ha : SB g cg T a) : SB g cg T (.sset a) := by
  refine SB.plain (fun _ _ => rfl) (fun ex h => ?_) (fun c ex h => ?_)
  · simp only [mE] at h; split at h
    · exact ⟨fun _ _ => rfl, fun _ _ _ z => nomatch z⟩
    · cases h
  · simp only [mE] at h; split at h
    · simp only [Bool.and_eq_true, decide_eq_true_eq] at h
      obtain ⟨rfl, rfl, h1, h2, h3, h4⟩ := h
      exact e_sset c.hK c.calm h3 (glB_ok c.hsc h1) (c.blt _ (by decide +kernel)) (glB_ok c.hsc h2) (c.blt _ (by decide +kernel)) (ha.e c _ h4)
    · cases h
theorem sb_lrng1 {m : Bool} {a : ME} (ha : SB g cg T a) : SB g cg T (.lrng1 m a) := by
  refine SB.plain (fun _ _ => rfl) (fun ex h => ?_) (fun c ex h => ?_)
  · simp only [mE] at h; split at h
    · exact ⟨fun _ _ => rfl, fun _ _ _ z => nomatch z⟩
    · cases h
  · simp only [mE] at h; split at h
    · simp only [Bool.and_eq_true, decide_eq_true_eq] at h
      obtain ⟨rfl, rfl, h1, h2, h3, h4⟩ := h
      exact e_lrng1 c.hK c.calm h3 (glB_ok c.hsc h1) (c.blt _ (by decide +kernel)) (glB_ok c.hsc h2) (c.blt _ (by decide +kernel)) (ha.e c _ h4)
    · cases h
theorem sb_lrng2 {m : Bool} {a b : ME} (ha : SB g cg T a) (hb : SB g cg T b) : SB g cg T (.lrng2 m a b) := by
  refine SB.plain (fun _ _ => rfl) (fun ex h => ?_) (fun c ex h => ?_)
  · simp only [mE] at h; split at h
    · exact ⟨fun _ _ => rfl, fun _ _ _ z => nomatch z⟩
    · cases h
  · simp only [mE] at h; split at h
    · simp only [Bool.and_eq_true, decide_eq_true_eq] at h
      obtain ⟨rfl, rfl, h1, h2, h3, h4, h5⟩ := h
      exact e_lrng2 c.hK c.calm h3 (glB_ok c.hsc h1) (c.blt _ (by decide +kernel)) (glB_ok c.hsc h2) (c.blt _ (by decide +kernel)) (ha.e c _ h4) (hb.e c _ h5)
    · cases h
/-- what is walked -/
theorem it_ok (c : Cok g cg T W S X) {k : It} {es : List ME} (hs : SBs g cg T es) {tg iter : Expr} {l : List Expr} (h1 : itE S k tg iter = some l) (h2 : mEs T S es l = true) : PI X tg iter (tI g cg W k es) := by
  unfold itE at h1
  split at h1
  · cases h1
    obtain ⟨m, rfl⟩ := len1 (mEs_len h2).symm
    simp only [mEs, Bool.and_eq_true] at h2
    exact i_seq c.hK ((hs m (by simp)).e c _ h2.1)
  · cases h1
    obtain ⟨m, rfl⟩ := len1 (mEs_len h2).symm
    simp only [mEs, Bool.and_eq_true] at h2
    exact i_seqM c.hK ((hs m (by simp)).e c _ h2.1)
  · split at h1
    · split at h1
      · rename_i hh
        cases h1
        simp only [Bool.and_eq_true, decide_eq_true_eq] at hh
        obtain ⟨rfl, k1, k2⟩ := hh
        obtain ⟨m, rfl⟩ := len1 (mEs_len h2).symm
        exact i_rng1 k2 (glB_ok c.hsc k1) (c.blt _ (by decide +kernel)) (sbs_pa hs c h2 k2)
      · cases h1
    · cases h1
  · split at h1
    · split at h1
      · rename_i hh
        cases h1
        simp only [Bool.and_eq_true, decide_eq_true_eq] at hh
        obtain ⟨rfl, k1, k2⟩ := hh
        obtain ⟨m, m', rfl⟩ := len2 (mEs_len h2).symm
        exact i_rng2 k2 (glB_ok c.hsc k1) (c.blt _ (by decide +kernel)) (sbs_pa hs c h2 k2)
      · cases h1
    · cases h1
  · split at h1
    · split at h1
      · rename_i hh
        cases h1
        simp only [Bool.and_eq_true, decide_eq_true_eq] at hh
        obtain ⟨rfl, k1, k2⟩ := hh
        obtain ⟨m, m', rfl⟩ := len2 (mEs_len h2).symm
        exact i_rngL k2 (glB_ok c.hsc k1) (c.blt _ (by decide +kernel)) (sbs_pa hs c h2 k2)
      · cases h1
    · cases h1
  · split at h1
    · split at h1
      · rename_i hh
        cases h1
        simp only [Bool.and_eq_true, decide_eq_true_eq] at hh
        obtain ⟨rfl, k1, k2⟩ := hh
        obtain ⟨m, rfl⟩ := len1 (mEs_len h2).symm
        exact i_enum c.hK k2 (glB_ok c.hsc k1) (c.blt _ (by decide +kernel)) (sbs_pa hs c h2 k2)
      · cases h1
    · cases h1
  · cases h1
theorem own_map (N : List Str) (t : Tg) : (ownOf N t).map (·.2) = tgs t := by
  unfold ownOf
  rw [List.map_map]
  induction tgs t with
  | nil => rfl
  | cons i r ih => rw [List.map_cons, ih]; rfl
/-- the parts of a comprehension -/
structure CompOk (g : Gx) (cg : Cg) (T : Tb) (W : WX) (S : Sx) (X : Cx) (t : Tg) (k : It) (es : List ME) (cond : Option ME) (e : ME) (elt tg iter : Expr) (ifs : List Expr) (scope : Scope) : Prop where
  pi : PI X tg iter (tI g cg W k es)
  blk : BlkOk X.N X.env.scope scope (ownOf S.N t)
  tg : ∀ (s : Shared) (H : Hp) (C : Addr) (cl : List (Str × Addr)) (fp : List Addr), PG (X.blk s H scope (compEnvC scope cl C X.env) fp) tg (gOf X.K t)
  ts : ∀ (s : Shared) (H : Hp) (C : Addr) (cl : List (Str × Addr)) (fp : List Addr), PTs (X.blk s H scope (compEnvC scope cl C X.env) fp) ifs (tTO g cg Wf cond)
  el : ∀ (s : Shared) (H : Hp) (C : Addr) (cl : List (Str × Addr)) (fp : List Addr), PE (X.blk s H scope (compEnvC scope cl C X.env) fp) elt (tE g cg Wf e)
  fold : ∀ x, foldedSetIterable iter X.env x = pure x
theorem comp_parts {m : Bool} {t : Tg} {k : It} {es : List ME} {cond : Option ME} {e : ME} (hs : SBs g cg T es) (hc : ∀ m, cond = some m → SB g cg T m) (he : SB g cg T e) (c : Cok g cg T W S X) {elt tg iter : Expr} {ifs : List Expr} {az : Int} {scope : Scope} {pos : Pos}
    (h : mE T S (.comp m t k es cond e) (.ListComp elt [⟨tg, iter, ifs, az⟩] scope pos) = true) : az = 0 ∧ CompOk g cg T W S X t k es cond e elt tg iter ifs scope := by
  simp only [mE, Bool.and_eq_true, decide_eq_true_eq] at h
  obtain ⟨h0, h1, h2, h3, h4, h5, h6⟩ := h
  refine ⟨h0, ⟨?_, ?_, fun s H C cl fp => ?_, fun s H C cl fp => ?_, fun s H C cl fp => ?_, notSet_fold h3⟩⟩
  · split at h4
    · rename_i l hl
      exact it_ok c hs hl h4
    · cases h4
  · rw [c.hN, c.hsc]; exact blkOk_by h1
  · have cb := c.blk s H scope C cl fp
    exact tg_ok cb.hN cb.hsc cb.hfn cb.calm cb.nd h2
  · have cb := c.blk s H scope C cl fp
    cases cond with
    | none => cases ifs with | nil => exact pts_nil | cons _ _ => cases h5
    | some d =>
      cases ifs with
      | nil => cases h5
      | cons i r =>
        cases r with
        | cons _ _ => cases h5
        | nil =>
          simp only [mC, Bool.and_eq_true] at h5
          exact pts_one ((hc _ rfl).t cb _ h5.2 h5.1).1
  · exact he.e (c.blk s H scope C cl fp) _ h6
theorem sb_comp {m : Bool} {t : Tg} {k : It} {es : List ME} {cond : Option ME} {e : ME} (hs : SBs g cg T es) (hc : ∀ m, cond = some m → SB g cg T m) (he : SB g cg T e) : SB g cg T (.comp m t k es cond e) := by
  refine SB.plain (fun _ _ => rfl) (fun ex h => ?_) (fun {W S X} c ex h => ?_)
  · simp only [mE] at h; split at h
    · exact ⟨fun _ _ => rfl, fun _ _ _ z => nomatch z⟩
    · cases h
  · have h' := h
    simp only [mE] at h; split at h
    · rename_i elt q scope pos
      obtain ⟨tg, iter, ifs, az⟩ := q
      obtain ⟨rfl, q⟩ := comp_parts hs hc he c h'
      have := pe_lc c.calm (by rw [c.hN]; exact c.nd) q.pi q.blk q.tg q.ts q.el q.fold (pos := pos)
      rw [own_map] at this
      exact PE.weak this fun σ H Q ⟨F, ι, M, ρ, r, s, ok⟩ => e_comp ⟨F, ι, M, r, s, ok⟩
    · cases h
theorem sb_prop {cc : Nat} {nm : Str} {f : Nat} {a : ME} (ha : SB g cg T a) : SB g cg T (.prop cc nm f a) := by
  refine SB.plain (fun _ _ => rfl) (fun ex h => ?_) (fun c ex h => ?_)
  · simp only [mE] at h; split at h
    · exact ⟨fun _ _ => rfl, fun _ _ _ z => nomatch z⟩
    · cases h
  · simp only [mE] at h; split at h
    · simp only [Bool.and_eq_true, decide_eq_true_eq] at h
      obtain ⟨h1, rfl, h3, h4⟩ := h
      obtain ⟨e, E, k1, k2, rfl, k4, k5, k6⟩ := entB_ok c h1
      exact e_prop c.hK c.C c.hcf c.room c.grd E k1 k2 k6 (base_ok h3) (ha.e c _ h4)
    · cases h
theorem ocmpB_ok (c : Cok g cg T W S X) {op : COp} {fs : List (Nat × Nat)} (h9 : ocmpB T S op fs = true) : ∃ nm, cmpN op = some nm ∧ (∀ q ∈ fs, ∃ e, EntOk g X (cg.Φ q.2) e ∧ e.kd = .meth q.1 ∧ e.lvl + 2 ≤ S.k ∧ e.name = nm ∧ 2 = e.ps.length) ∧ (op = .ne → ∀ q ∈ fs, PySem.W.findIn g.K (.ref (g.ca q.1)) "__ne__" = some (some (.builtin "object.__ne__"))) := by
  unfold ocmpB at h9
  split at h9
  · rename_i nm hnm
    simp only [List.all_eq_true, Bool.and_eq_true, decide_eq_true_eq] at h9
    refine ⟨nm, hnm, fun q hq => ?_, fun z q hq => c.nes _ ((h9 q hq).2 z)⟩
    obtain ⟨e, E, k1, k2, k3, k4, k5, k6⟩ := entB_ok c (h9 q hq).1
    exact ⟨e, E, k1, k2, k3, k6⟩
  · cases h9
theorem sb_ocmp {op : COp} {fs : List (Nat × Nat)} {a b : ME} (ha : SB g cg T a) (hb : SB g cg T b) : SB g cg T (.ocmp op fs a b) := by
  refine ⟨fun c ex h => ?_, fun c ex h ht => ?_⟩
  · simp only [mE] at h; split at h
    · simp only [Bool.and_eq_true, decide_eq_true_eq] at h
      obtain ⟨rfl, h0, h9, h1, h2⟩ := h
      obtain ⟨nm, hnm, he, hne⟩ := ocmpB_ok c h9
      exact e_ocmp c.hK c.C c.room c.grd hnm c.hcf he hne (notSet_marks h0) (ha.e c _ h1) (hb.e c _ h2)
    · cases h
  · simp only [mE] at h; split at h
    · simp only [Bool.and_eq_true, decide_eq_true_eq] at h
      obtain ⟨rfl, h0, h9, h1, h2⟩ := h
      obtain ⟨nm, hnm, he, hne⟩ := ocmpB_ok c h9
      exact ⟨t_ocmp c.hK c.C c.room c.grd hnm c.hcf he hne (notSet_marks h0) (ha.e c _ h1) (hb.e c _ h2), fun _ _ _ z => nomatch z⟩
    · cases h
mutual
theorem sb_all : ∀ m : ME, SB g cg T m
  | .c x => sb_c x
  | .v i => sb_v i
  | .g y a => sb_g y a
  | .bin _ a b => sb_bin (sb_all a) (sb_all b)
  | .neg a => sb_neg (sb_all a)
  | .not a => sb_not (sb_all a)
  | .and a b => sb_and (sb_all a) (sb_all b)
  | .or a b => sb_or (sb_all a) (sb_all b)
  | .cmp _ a b => sb_cmp (sb_all a) (sb_all b)
  | .chain _ _ a b c => sb_chain (sb_all a) (sb_all b) (sb_all c)
  | .ite t a b => sb_ite (sb_all t) (sb_all a) (sb_all b)
  | .tup es => sb_tup (sb_alls es)
  | .lst _ es => sb_lst (sb_alls es)
  | .dnew => sb_dnew
  | .ix a i => sb_ix (sb_all a) (sb_all i)
  | .sl a lo hi => sb_sl (sb_all a) (sb_opt lo) (sb_opt hi)
  | .rev a => sb_rev (sb_all a)
  | .revM a => sb_revM (sb_all a)
  | .fld a _ => sb_fld (sb_all a)
  | .isi a _ => sb_isi (sb_all a)
  | .call _ _ es _ => sb_call (sb_alls es)
  | .meth _ _ _ _ a es _ => sb_meth (sb_all a) (sb_alls es)
  | .make _ _ _ es _ => sb_make (sb_alls es)
  | .makeK _ _ _ es kes _ => sb_makeK (sb_alls es) (sb_alls kes)
  | .bi _ es => sb_bi (sb_alls es)
  | .mt _ a es => sb_mt (sb_all a) (sb_alls es)
  | .lrng1 _ a => sb_lrng1 (sb_all a)
  | .lrng2 _ a b => sb_lrng2 (sb_all a) (sb_all b)
  | .comp _ _ _ es cond e => sb_comp (sb_alls es) (sb_opt cond) (sb_all e)
  | .prop _ _ _ a => sb_prop (sb_all a)
  | .sset a => sb_sset (sb_all a)
  | .srtI a => sb_srtI (sb_all a)
  | .xmk _ _ es => sb_xmk (sb_alls es)
  | .isVE a => sb_isVE (sb_all a)
  | .isS a => sb_isS (sb_all a)
  | .dct0 => sb_dct0
  | .dsp es => sb_dsp (sb_alls es)
  | .frz a => sb_frz (sb_all a)
  | .isb _ _ es _ => sb_isb (sb_alls es)
  | .slm a lo hi => sb_slm (sb_all a) (sb_opt lo) (sb_opt hi)
  | .ocmp _ _ a b => sb_ocmp (sb_all a) (sb_all b)
theorem sb_alls : ∀ ms : List ME, SBs g cg T ms
  | [] => fun _ h => by cases h
  | m :: ms => by
    have h1 := sb_all m
    have h2 := sb_alls ms
    intro m' h
    rcases List.mem_cons.mp h with e | h
    · rw [e]; exact h1
    · exact h2 m' h
theorem sb_opt : ∀ (o : Option ME), ∀ m : ME, o = some m → SB g cg T m
  | none => fun _ h => by cases h
  | some a => by
    have h1 := sb_all a
    intro m h
    cases h
    exact h1
end
end
end Mi

set_option maxRecDepth 100000
set_option maxHeartbeats 4000000
/-! Statements: what an answer promises, one rule a form. -/
namespace Mi
open PySem PySem.Spec L2
def OkS (g : Gx) (W : WX) (D : Ends) (F : Hp) (ι : List Addr) (H : Hp) (r : RS) : Prop := match r with
  | .stuck => False
  | .nx ρ' M' => ∀ F' ι' H' σ', Ext F ι H F' ι' H' → Rel g F' ι' M' H' → RSl g F' ι' σ' ρ' → D.nx σ' H'
  | .rt d M' => ∀ F' ι' H' v, Ext F ι H F' ι' H' → Rel g F' ι' M' H' → RD g F' ι' v d → D.rt v H'
  | .bk ρ' M' => ∀ F' ι' H' σ', Ext F ι H F' ι' H' → Rel g F' ι' M' H' → RSl g F' ι' σ' ρ' → D.bk σ' H'
  | .ct ρ' M' => ∀ F' ι' H' σ', Ext F ι H F' ι' H' → Rel g F' ι' M' H' → RSl g F' ι' σ' ρ' → D.ct σ' H'
  | .exc c x ρ' M' => ∀ F' ι' H' σ' cls dd, Ext F ι H F' ι' H' → Rel g F' ι' M' H' → RSl g F' ι' σ' ρ' → XRep g F' ι' H H' cls dd c x → W cls dd σ' H'
def tS (g : Gx) (cg : Cg) (W : WX) (s : MS) : TS := fun D σ H => ∃ F ι M ρ, Rel g F ι M H ∧ RSl g F ι σ ρ ∧ OkS g W D F ι H (ex cg s ρ M)
def tSs (g : Gx) (cg : Cg) (W : WX) (s : List MS) : TS := fun D σ H => ∃ F ι M ρ, Rel g F ι M H ∧ RSl g F ι σ ρ ∧ OkS g W D F ι H (exs cg s ρ M)
theorem PS.weak {X : Cx} {e : Stmt} {t t' : TS} (h : PS X e t) (k : ∀ D σ H, t' D σ H → t D σ H) : PS X e t' := ⟨fun pins s σ H D I q => h.run pins s σ H D I (k D σ H q)⟩
theorem PSs.weak {X : Cx} {e : List Stmt} {t t' : TS} (h : PSs X e t) (k : ∀ D σ H, t' D σ H → t D σ H) : PSs X e t' := ⟨fun pins s σ H D I q => h.run pins s σ H D I (k D σ H q)⟩
section
variable {X : Cx} {g : Gx} {cg : Cg} {W : WX} {k : Nat} {σ : St} {F F1 : Hp} {ι ι1 : List Addr} {H H1 : Hp} {D : Ends}
theorem OkS.ext {r : RS} (h : OkS g W D F ι H r) (e : Ext F ι H F1 ι1 H1) : OkS g W D F1 ι1 H1 r := by
  cases r with
  | stuck => exact h
  | nx ρ M => exact fun F' ι' H' σ' e' => h F' ι' H' σ' (e.trans e')
  | rt d M => exact fun F' ι' H' σ' e' => h F' ι' H' σ' (e.trans e')
  | bk ρ M => exact fun F' ι' H' σ' e' => h F' ι' H' σ' (e.trans e')
  | ct ρ M => exact fun F' ι' H' σ' e' => h F' ι' H' σ' (e.trans e')
  | exc c x ρ M => exact fun F' ι' H' σ' cls dd e' r' s' xr => h F' ι' H' σ' cls dd (e.trans e') r' s' (xr.back e)
theorem OkS.th {α : Type} {r : R α} {ρ : Env} {f : α → Sto → RS} (s : RSl g F ι σ ρ) (h : OkS g W D F ι H (r.th ρ f)) : Ok g W σ F ι H r (fun a F1 ι1 M1 H1 => Ext F ι H F1 ι1 H1 ∧ Rel g F1 ι1 M1 H1 ∧ OkS g W D F1 ι1 H1 (f a M1)) := by
  cases r with
  | stuck => exact h
  | ok a M => exact fun F' ι' H' e q => ⟨e, q, OkS.ext h e⟩
  | exc c x M => exact fun F' ι' H' cls dd e r x => h F' ι' H' σ cls dd e r (s.ext e) x
theorem sE_bind {e : ME} {ρ : Env} {M : Sto} {f : Mi.D → Sto → RS} {Q : VK} (r : Rel g F ι M H) (s : RSl g F ι σ ρ) (h : OkS g W D F ι H ((ev cg e ρ M).th ρ f))
    (hk : ∀ v d F1 ι1 M1 H1, Rel g F1 ι1 M1 H1 → RSl g F1 ι1 σ ρ → RD g F1 ι1 v d → OkS g W D F1 ι1 H1 (f d M1) → Ext F ι H F1 ι1 H1 → Q v H1) : tE g cg W e σ H Q :=
  ⟨F, ι, M, ρ, r, s, (h.th s).mono fun d F1 ι1 M1 H1 _ _ ⟨e1, r1, o1⟩ v rv => hk v d F1 ι1 M1 H1 r1 (s.ext e1) rv o1 e1⟩
theorem sA_bind {es : List ME} {ρ : Env} {M : Sto} {f : List Mi.D → Sto → RS} {Q : List V → Hp → Prop} (r : Rel g F ι M H) (s : RSl g F ι σ ρ) (h : OkS g W D F ι H ((evs cg es ρ M).th ρ f))
    (hk : ∀ vs ds F1 ι1 M1 H1, Rel g F1 ι1 M1 H1 → RSl g F1 ι1 σ ρ → RDs g F1 ι1 vs ds → OkS g W D F1 ι1 H1 (f ds M1) → Ext F ι H F1 ι1 H1 → Q vs H1) : tAs g cg W es σ H Q :=
  ⟨F, ι, M, ρ, r, s, (h.th s).mono fun d F1 ι1 M1 H1 _ _ ⟨e1, r1, o1⟩ v rv => hk v d F1 ι1 M1 H1 r1 (s.ext e1) rv o1 e1⟩
theorem sT_bind {e : ME} {ρ : Env} {M : Sto} {f : Bool → Sto → RS} {Q : Bool → Hp → Prop} (r : Rel g F ι M H) (s : RSl g F ι σ ρ) (h : OkS g W D F ι H ((evT cg e ρ M).th ρ f))
    (hk : ∀ b F1 ι1 M1 H1, Rel g F1 ι1 M1 H1 → RSl g F1 ι1 σ ρ → OkS g W D F1 ι1 H1 (f b M1) → Ext F ι H F1 ι1 H1 → Q b H1) : tT g cg W e σ H Q :=
  ⟨F, ι, M, ρ, r, s, (h.th s).mono fun d F1 ι1 M1 H1 _ _ ⟨e1, r1, o1⟩ => hk d F1 ι1 M1 H1 r1 (s.ext e1) o1 e1⟩
theorem OkS.here {ρ : Env} {M : Sto} (h : OkS g W D F ι H (.nx ρ M)) (r : Rel g F ι M H) (s : RSl g F ι σ ρ) : D.nx σ H := h F ι H σ (Ext.refl r) r s
/-! ### small statements -/
theorem s_ex {A : ME} {a : Expr} {pos : Pos} (hs : swapsWith a none pos.line X.env = pure false) (ha : PE X a (tE g cg W A)) : PS X (.Expr a pos) (tS g cg W (.ex A)) := by
  refine PS.weak (ps_expr ha hs) fun D σ H ⟨F, ι, M, ρ, r, s, ok⟩ => ?_
  exact sE_bind r s ok fun v d F1 ι1 M1 H1 r1 s1 rv ok1 _ => ok1.here r1 s1
theorem s_ret0 {pos : Pos} : PS X (.Return none pos) (tS g cg W (.ret none)) :=
  PS.weak ps_retN fun D σ H ⟨F, ι, M, ρ, r, s, ok⟩ => ok F ι H .non (Ext.refl r) r (.p .non)
theorem s_ret {A : ME} {a : Expr} {pos : Pos} (ha : PE X a (tE g cg W A)) : PS X (.Return (some a) pos) (tS g cg W (.ret (some A))) := by
  refine PS.weak (ps_ret ha) fun D σ H ⟨F, ι, M, ρ, r, s, ok⟩ => ?_
  exact sE_bind r s ok fun v d F1 ι1 M1 H1 r1 s1 rv ok1 _ => ok1 F1 ι1 H1 v (Ext.refl r1) r1 rv
theorem s_pass {pos : Pos} : PS X (.Pass pos) (tS g cg W .pass) := PS.weak ps_pass fun D σ H ⟨F, ι, M, ρ, r, s, ok⟩ => ok F ι H σ (Ext.refl r) r s
theorem s_brk {pos : Pos} : PS X (.Break pos) (tS g cg W .brk) := PS.weak ps_break fun D σ H ⟨F, ι, M, ρ, r, s, ok⟩ => ok F ι H σ (Ext.refl r) r s
theorem s_cont {pos : Pos} : PS X (.Continue pos) (tS g cg W .cont) := PS.weak ps_continue fun D σ H ⟨F, ι, M, ρ, r, s, ok⟩ => ok F ι H σ (Ext.refl r) r s
theorem s_never {st : Stmt} : PS X st (tS g cg W .never) := PS.weak ps_never fun D σ H ⟨F, ι, M, ρ, r, s, ok⟩ => ok
/-! ### stores -/
theorem s_asg {t : Tg} {A : ME} {tg a : Expr} {pos : Pos} (hg : PG X tg (gOf X.K t)) (h1 : swapsWithSole [tg] a pos.line X.env = pure false) (h2 : swappedStores [tg] a X.env = pure none) (h3 : (assignEach [tg] X.env).map (·.2) = [assign tg X.env]) (ha : PE X a (tE g cg W A)) :
    PS X (.Assign [tg] a pos) (tS g cg W (.asg t A)) := by
  refine PS.weak (ps_asg ha hg h1 h2 h3) fun D σ H ⟨F, ι, M, ρ, r, s, ok⟩ => ?_
  refine sE_bind r s ok fun v d F1 ι1 M1 H1 r1 s1 rv ok1 _ => ?_
  cases e : bindT t d ρ with
  | none => rw [e] at ok1; exact ok1.elim
  | some ρ' =>
    rw [e] at ok1
    exact gOf_ok r1 rv e s1 fun σ' s' _ => OkS.here (ρ := ρ') (M := M1) ok1 r1 s'
/-- name = [a comprehension], stored within its frame -/
theorem s_setLc (hc : X.calm = true) (hN : X.N.Nodup) {i : Nat} {y : Str} {py spos pos : Pos} {m : Bool} {t : Tg} {kk : It} {es : List ME} {cond : Option ME} {e : ME} {elt tg iter : Expr} {ifs : List Expr} {scope : Scope} {T : Tb} {S : Sx}
    (hy : X.N[i]? = some y) (hyl : X.env.scope.names.lookup y = some .local) (hsw : swapsWith (.ListComp elt [⟨tg, iter, ifs, 0⟩] scope pos) (some (.Name y py)) spos.line X.env = pure true) (q : CompOk g cg T W S X t kk es cond e elt tg iter ifs scope) :
    PS X (.Assign [.Name y py] (.ListComp elt [⟨tg, iter, ifs, 0⟩] scope pos) spos) (tS g cg W (.asg (.one i) (.comp m t kk es cond e))) := by
  have := ps_setLc (i := i) (spos := spos) hc hN hy hyl hsw q.pi q.blk q.tg q.ts q.el q.fold
  rw [own_map] at this
  refine PS.weak this fun D σ H ⟨F, ι, M, ρ, r, s, ok⟩ => ?_
  refine e_comp (m := m) (W := W) ⟨F, ι, M, r, s, ?_⟩
  have ok2 := OkS.th s ok
  refine ok2.mono fun d F1 ι1 M1 H1 _ _ ⟨e1, r1, o1⟩ v rv => ?_
  exact OkS.here (ρ := ρ.set i (some d)) (M := M1) o1 r1 ((s.ext e1).set rv)
theorem s_par2 (hc : X.calm = true) (hN : X.N.Nodup) {i j : Nat} {x y : Str} {a b : Expr} {As : List ME} {px py pt pos : Pos} {kt k2 pt2} (hi : X.N[i]? = some x) (hj : X.N[j]? = some y) (hij : i ≠ j)
    (hx : X.env.scope.names.lookup x = some .local) (hy : X.env.scope.names.lookup y = some .local) (ha : PA X [a, b] (tAs g cg W As)) (hw : swappedStores [.Tuple [.Name x px, .Name y py] kt pt] (.Tuple [a, b] k2 pt2) X.env = pure (some [x, y])) :
    PS X (.Assign [.Tuple [.Name x px, .Name y py] kt pt] (.Tuple [a, b] k2 pt2) pos) (tS g cg W (.par [i, j] As)) := by
  refine PS.weak (ps_par hc hN hi hj hij hx hy ha hw) fun D σ H ⟨F, ι, M, ρ, r, s, ok⟩ => ?_
  refine sA_bind r s ok fun vs ds F1 ι1 M1 H1 r1 s1 rs ok1 _ => ?_
  cases rs with
  | nil => exact ok1.elim
  | cons q1 rs =>
    cases rs with
    | nil => exact ok1.elim
    | cons q2 rs =>
      cases rs with
      | cons _ _ => exact ok1.elim
      | nil => exact ⟨_, _, rfl, OkS.here (ρ := (ρ.set i (some _)).set j (some _)) (M := M1) ok1 r1 ((s1.set q1).set q2)⟩
theorem s_par3 (hc : X.calm = true) (hN : X.N.Nodup) {i j l : Nat} {x y z : Str} {a b c : Expr} {As : List ME} {px py pz pt pos : Pos} {kt k2 pt2} (hi : X.N[i]? = some x) (hj : X.N[j]? = some y) (hl : X.N[l]? = some z) (hij : i ≠ j) (hil : i ≠ l) (hjl : j ≠ l)
    (hx : X.env.scope.names.lookup x = some .local) (hy : X.env.scope.names.lookup y = some .local) (hz : X.env.scope.names.lookup z = some .local) (ha : PA X [a, b, c] (tAs g cg W As)) (hw : swappedStores [.Tuple [.Name x px, .Name y py, .Name z pz] kt pt] (.Tuple [a, b, c] k2 pt2) X.env = pure (some [x, y, z])) :
    PS X (.Assign [.Tuple [.Name x px, .Name y py, .Name z pz] kt pt] (.Tuple [a, b, c] k2 pt2) pos) (tS g cg W (.par [i, j, l] As)) := by
  refine PS.weak (ps_par3 hc hN hi hj hl hij hil hjl hx hy hz ha hw) fun D σ H ⟨F, ι, M, ρ, r, s, ok⟩ => ?_
  refine sA_bind r s ok fun vs ds F1 ι1 M1 H1 r1 s1 rs ok1 _ => ?_
  cases rs with
  | nil => exact ok1.elim
  | cons q1 rs =>
    cases rs with
    | nil => exact ok1.elim
    | cons q2 rs =>
      cases rs with
      | nil => exact ok1.elim
      | cons q3 rs =>
        cases rs with
        | cons _ _ => exact ok1.elim
        | nil => exact ⟨_, _, _, rfl, OkS.here (ρ := ((ρ.set i (some _)).set j (some _)).set l (some _)) (M := M1) ok1 r1 (((s1.set q1).set q2).set q3)⟩
/-- o[i] = v by values -/
def rSet (g : Gx) : TSet := fun o i v H Q => ∃ F ι M do_ di dv, Rel g F ι M H ∧ RD g F ι o do_ ∧ RD g F ι i di ∧ RD g F ι v dv ∧ ∃ M', setIx do_ di dv M = some M' ∧ ∀ H', Ext F ι H F ι H' → Rel g F ι M' H' → Q H'
theorem put_rds {ws : List (Key × V)} {kvs : List (Key × Mi.D)} (key : Key) {v : V} {d : Mi.D} (r : RD g F ι v d) (h1 : ws.map (·.1) = kvs.map (·.1)) (h2 : RDs g F ι (ws.map (·.2)) (kvs.map (·.2))) :
    (putK ws key v).map (·.1) = (put key d kvs).map (·.1) ∧ RDs g F ι ((putK ws key v).map (·.2)) ((put key d kvs).map (·.2)) := by
  have ha : (ws.any fun kv => decide (kv.1 = key)) = (kvs.any fun kv => decide (kv.1 = key)) := by
    have e1 : (ws.any fun kv => decide (kv.1 = key)) = (ws.map (·.1)).any fun q => decide (q = key) := by rw [List.any_map]; rfl
    have e2 : (kvs.any fun kv => decide (kv.1 = key)) = (kvs.map (·.1)).any fun q => decide (q = key) := by rw [List.any_map]; rfl
    rw [e1, e2, h1]
  unfold putK put
  rw [ha]
  split
  · rename_i hh
    clear ha hh
    induction ws generalizing kvs with
    | nil =>
      cases kvs with
      | nil => exact ⟨rfl, .nil⟩
      | cons q t => cases h1
    | cons w ws ih =>
      cases kvs with
      | nil => cases h1
      | cons q kvs =>
        simp only [List.map_cons, List.cons.injEq] at h1
        cases h2 with
        | cons q1 q2 =>
          obtain ⟨i1, i2⟩ := ih h1.2 q2
          simp only [List.map_cons]
          by_cases e : w.1 = key
          · have e' : q.1 = key := h1.1 ▸ e
            simp only [if_pos e, if_pos e', List.cons.injEq]
            exact ⟨⟨h1.1, i1⟩, .cons r i2⟩
          · have e' : ¬ q.1 = key := fun z => e (h1.1 ▸ z)
            simp only [if_neg e, if_neg e', List.cons.injEq]
            exact ⟨⟨h1.1, i1⟩, .cons q1 i2⟩
  · refine ⟨?_, ?_⟩
    · rw [List.map_append, List.map_append, h1]; rfl
    · rw [List.map_append, List.map_append]
      exact h2.append (.cons r .nil)
theorem set_any (hr : Room k X.A) : PSet X (rSet g) := by
  intro pins s σ H o i v ov iv u Q I ro ri rv h
  obtain ⟨F, ι, M, dO, di, dv, rel, r1, r2, r3, M', e, q⟩ := h
  unfold setIx at e
  split at e
  · rename_i n key
    cases r1 with
    | @ref _ a ea =>
      split at e
      · rename_i xs hM
        split at e
        · rename_i z
          simp only [Option.map_eq_some_iff] at e
          obtain ⟨j, e1, rfl⟩ := e
          obtain rfl := rp_int r2
          obtain ⟨hF, vs, e2, e3⟩ := rel.cells n a _ ea hM
          refine set_list pins s σ H _ _ v ov iv u Q I ro ri rv ⟨a, vs, z, j, rfl, rfl, e2, by rw [e3.length]; exact e1, ?_⟩
          obtain ⟨rel', e'⟩ := rel.write (o := .lst (vs.set j v)) (c' := .lst (xs.set j dv)) ea hM (fun z => nomatch z) fun H' q => ⟨hF, _, q, e3.set r3⟩
          exact q _ e' rel'
        · cases e
      · rename_i kvs hM
        split at e
        · rename_i kk hk
          split at e
          · rename_i hl
            cases e
            cases r2 with
            | p r2 =>
              obtain rfl := key_ok r2 hk
              obtain ⟨hF, ws, e2, e3, e4⟩ := rel.cells n a _ ea hM
              obtain rfl : ov = Value.ref a := ro
              have hz := LIM_le
              have hlen : ws.length = kvs.length := by have := congrArg List.length e3; simpa using this
              obtain ⟨p1, p2⟩ := put_rds kk r3 e3 e4
              obtain ⟨rel', e'⟩ := rel.write (o := .dK (putK ws kk v)) (c' := .dK (put kk dv kvs)) ea hM (fun z => nomatch z) fun H' q => ⟨hF, _, q, p1, p2⟩
              exact d_setItem (hu_of hr) I (DPut.k (k := kk) e2 (by omega)) ri rv fun s3 I3 => ⟨_, I3, q _ e' rel'⟩
          · cases e
        · cases e
      · cases e
  · cases e
theorem s_sub (hr : Room k X.A) {A B C : ME} {o i a : Expr} {pos' pos : Pos} (hns : notSlice i = true) (ho : PE X o (tE g cg W A)) (hi : PE X i (tE g cg W B)) (ha : PE X a (tE g cg W C)) : PS X (.Assign [.Subscript o i pos'] a pos) (tS g cg W (.sub A B C)) := by
  refine PS.weak (ps_asg ha (pg_sub (pos := pos') ho hi (set_any (g := g) hr) (by intro v; cases i <;> first | rfl | cases hns)) (by cases a <;> rfl) (by cases a <;> rfl) rfl) fun D σ H ⟨F, ι, M, ρ, r, s, ok⟩ => ?_
  refine sE_bind r s ok fun v d F1 ι1 M1 H1 r1 s1 rv ok1 _ => ?_
  refine sE_bind r1 s1 ok1 fun w d2 F2 ι2 M2 H2 r2 s2 rw' ok2 e2 => ?_
  refine sE_bind r2 s2 ok2 fun u d3 F3 ι3 M3 H3 r3 s3 ru ok3 e3 => ?_
  cases z : setIx d2 d3 d M3 with
  | none => rw [z] at ok3; exact ok3.elim
  | some M' =>
    rw [z] at ok3
    exact ⟨F3, ι3, M3, d2, d3, d, r3, rw'.ext e3, ru, (rv.ext e2).ext e3, M', z, fun H' e' r' => ok3 F3 ι3 H' σ e' r' (s3.ext e')⟩
theorem putF_rds {ws : List (Str × V)} {fs : List (Str × Mi.D)} (f : Str) {v : V} {d : Mi.D} (r : RD g F ι v d) (h1 : ws.map (·.1) = fs.map (·.1)) (h2 : RDs g F ι (ws.map (·.2)) (fs.map (·.2))) :
    (putF f v ws).map (·.1) = (putA f d fs).map (·.1) ∧ RDs g F ι ((putF f v ws).map (·.2)) ((putA f d fs).map (·.2)) := by
  induction ws generalizing fs with
  | nil =>
    cases fs with
    | nil => exact ⟨rfl, .cons r .nil⟩
    | cons q t => cases h1
  | cons w ws ih =>
    cases fs with
    | nil => cases h1
    | cons q fs =>
      simp only [List.map_cons, List.cons.injEq] at h1
      cases h2 with
      | cons q1 q2 =>
        obtain ⟨i1, i2⟩ := ih h1.2 q2
        obtain ⟨wn, wv⟩ := w
        obtain ⟨qn, qd⟩ := q
        simp only at h1
        obtain ⟨rfl, h1⟩ := h1
        simp only [putF, putA]
        by_cases e : wn = f
        · simp only [if_pos e, List.map_cons, List.cons.injEq]
          exact ⟨⟨trivial, h1⟩, .cons r q2⟩
        · simp only [if_neg e, List.map_cons, List.cons.injEq]
          exact ⟨⟨trivial, i1⟩, .cons q1 i2⟩
theorem s_setf (hK : X.K = g.K) (C : ClsOk g) {A B : ME} {o a : Expr} {f : Str} {pos' pos : Pos} (hf : ∀ c, g.nc c = true → NoAttr g.K (g.ca c) f) (ho : PE X o (tE g cg W A)) (ha : PE X a (tE g cg W B)) : PS X (.Assign [.Attribute o f pos'] a pos) (tS g cg W (.setf A f B)) := by
  refine PS.weak (ps_fld ho ha (by cases a <;> rfl)) fun D σ H ⟨F, ι, M, ρ, r, s, ok⟩ => ?_
  refine sE_bind r s ok fun v d F1 ι1 M1 H1 r1 s1 rv ok1 _ => ?_
  refine sE_bind r1 s1 ok1 fun w d2 F2 ι2 M2 H2 r2 s2 rw' ok2 e2 => ?_
  cases z : setF d2 f d M2 with
  | none => rw [z] at ok2; exact ok2.elim
  | some M' =>
    rw [z] at ok2
    unfold setF at z
    split at z
    · rename_i n
      split at z
      · rename_i c fs hM
        split at z
        · rename_i hl
          cases z
          cases rw' with
          | @ref _ p ea =>
            obtain ⟨hF, hc, dx, ws, q1, q2, q3⟩ := r2.cells n p _ ea hM
            obtain ⟨p1, p2⟩ := putF_rds f (rv.ext e2) q2 q3
            have hlen : ws.length = fs.length := by have := congrArg List.length q2; simpa using this
            refine ⟨p, g.ca c, dx, ws, rfl, q1, by rw [hK]; exact C.cl c hc, by rw [hK]; exact hf c hc, by omega, ?_⟩
            obtain ⟨rel', e'⟩ := r2.write (o := .ins (g.ca c) dx (putF f v ws)) (c' := .ins c (putA f d fs)) ea hM (fun z => nomatch z) fun H' q => ⟨hF, hc, dx, _, q, p1, p2⟩
            exact ok2 _ ι2 _ σ e' rel' (s2.ext e')
        · cases z
      · cases z
    · cases z
theorem s_augf (hK : X.K = g.K) (C : ClsOk g) (hcf : cg.cf = g.cf) {A B : ME} {o a : Expr} {f : Str} {pos' pos : Pos} (hf : ∀ c, g.nc c = true → NoAttr g.K (g.ca c) f) (ho : PE X o (tE g cg W A)) (ha : PE X a (tE g cg W B)) : PS X (.AugAssign (.Attribute o f pos') .Add a pos) (tS g cg W (.augf A f B)) := by
  refine PS.weak (ps_fldaug ho ha in_add) fun D σ H ⟨F, ι, M, ρ, r, s, ok⟩ => ?_
  refine sE_bind r s ok fun v d F1 ι1 M1 H1 r1 s1 rv ok1 _ => ?_
  cases z : augG d f M1 with
  | none => rw [z] at ok1; exact ok1.elim
  | some q =>
    rw [z] at ok1
    unfold augG at z
    split at z
    · rename_i n
      split at z
      · rename_i c fs hM
        split at z
        · rename_i i hl
          cases z
          have hfo : fldOf cg.cf (.ref n) f M1 = some (.p (.int i)) := by
            unfold fldOf
            simp only [hM, hl]
          cases rv with
          | @ref _ p ea =>
            obtain ⟨hF, hc, dx, ws, q1, q2, q3⟩ := r1.cells n p _ ea hM
            rcases fldOf_ok hcf r1 (.ref ea) hfo with ⟨p', c', dx', ws', w, hc', e1, ea', hl', rw'⟩ | ⟨p', c', dd, w, hc', hcc, e1, ea', ed, rw'⟩
            · cases e1
              injection (Option.some.inj (q1.symm.trans ea')) with a1 a2 a3
              subst a2
              subst a3
              cases rw' with
              | p rw' =>
                cases rw'
                refine ⟨p, g.ca c, dx, ws, _, rfl, q1, by rw [hK]; exact C.cl c hc, by rw [hK]; exact hf c hc, hl', ?_⟩
                refine sE_bind r1 s1 ok1 fun w d2 F2 ι2 M2 H2 r2 s2 rw2 ok2 e2 => ?_
                cases y : augP (.ref n) f (c, i) d2 M2 with
                | none => rw [y] at ok2; exact ok2.elim
                | some M' =>
                  rw [y] at ok2
                  unfold augP at y
                  split at y
                  · rename_i n' b e3
                    cases e3
                    split at y
                    · rename_i c2 fs2 hM2
                      split at y
                      · rename_i hh
                        obtain ⟨h1, h2⟩ := hh
                        have h1 : c2 = c := h1
                        subst h1
                        cases y
                        cases rw2 with
                        | p rw2 =>
                          cases rw2
                          have ea2 := pre_get e2.pre ea
                          obtain ⟨hF2, hc2, dx2, ws2, p1, p2, p3⟩ := r2.cells n p _ ea2 hM2
                          obtain ⟨t1, t2⟩ := putF_rds f (v := V.int (i + b)) (d := Mi.D.p (.int (i + b))) (.p (.int (i + b))) p2 p3
                          have hlen : ws2.length = fs2.length := by have := congrArg List.length p2; simpa using this
                          refine ⟨i, b, rfl, rfl, dx2, ws2, p1, by omega, ?_⟩
                          obtain ⟨rel', e'⟩ := r2.write (o := .ins (g.ca c2) dx2 (putF f (V.int (i + b)) ws2)) (c' := .ins c2 (putA f (.p (.int (i + b))) fs2)) ea2 hM2 (fun z => nomatch z) fun H' q => ⟨hF2, hc2, dx2, _, q, t1, t2⟩
                          exact ok2 _ ι2 _ σ e' rel' (s2.ext e')
                      · cases y
                    · cases y
                  · cases y
            · cases e1
              exact absurd (q1.symm.trans ea') (fun z => nomatch z)
        · cases z
      · cases z
    · cases z
/-- x += e -/
def ipA (g : Gx) : TIp := fun x y H Q => (∃ i j, x = .int i ∧ y = .int j ∧ Q (.int (i + j)) H) ∨ ∃ l b xs zs, x = .ref l ∧ y = .ref b ∧ H l = some (.lst xs) ∧ H b = some (.lst zs) ∧ xs.length + zs.length ≤ sizeLine ∧ Q (.ref l) (upd H l (.lst (xs ++ zs)))
theorem ipA_ok : PIp X .Add (ipA g) := by
  intro pins s σ H x y v u Q I r1 r2 h
  rcases h with h | h
  · exact ip_add pins s σ H x y v u Q I r1 r2 h
  · exact iop_ext pins s σ H x y v u Q I r1 r2 h
theorem s_aug {N : List Str} {sc : Scope} {fn : Str → Bool} (hN : X.N = N) (hsc : X.env.scope = sc) (hfn : X.fn = fn) (nd : N.Nodup) {i : Nat} {x : Str} {A : ME} {a : Expr} {pos' pos : Pos} (h : mN N sc fn i (.Name x pos') = true) (ha : PE X a (tE g cg W A)) : PS X (.AugAssign (.Name x pos') .Add a pos) (tS g cg W (.aug i A)) := by
  simp only [mN, Bool.and_eq_true, decide_eq_true_eq, Bool.or_eq_true] at h
  obtain ⟨h1, h2, h3⟩ := h
  have hf : X.fn x = true ∨ X.env.scope.names.lookup x = some .local := by
    rcases h3 with h3 | h3
    · exact .inl (by rw [hfn]; exact h3)
    · exact .inr (by rw [hsc]; exact lclB_ok h3)
  refine PS.weak (ps_aug (i := i) (by rw [hN]; exact nd) (by rw [hN]; exact h1) (by rw [hsc]; exact locB_ok h2) ha (ipA_ok (g := g)) hf) fun D σ H ⟨F, ι, M, ρ, r, s, ok⟩ => ?_
  simp only [ex] at ok
  split at ok
  · rename_i d hd
    obtain ⟨v, hv, rv⟩ := s.at_ i d hd
    refine ⟨v, hv, ?_⟩
    refine sE_bind r s ok fun w d2 F1 ι1 M1 H1 r1 s1 rw' ok1 e1 => ?_
    have rv1 := rv.ext e1
    unfold augD at ok1
    split at ok1
    · split at ok1
      · obtain rfl := rp_int rv1
        obtain rfl := rp_int rw'
        exact .inl ⟨_, _, rfl, rfl, OkS.here ok1 r1 (s1.set (.p (.int _)))⟩
      · exact ok1.elim
    · rename_i n
      split at ok1
      · rename_i xs hM
        split at ok1
        · rename_i ys hl
          split at ok1
          · rename_i hlen
            cases rv1 with
            | @ref _ p ea =>
              obtain ⟨hF, vs, q1, q2⟩ := r1.cells n p _ ea hM
              obtain ⟨b, ws, rfl, eb, rb⟩ := lstD_ok r1 rw' hl
              have hz := LIM_le
              refine .inr ⟨p, b, vs, ws, rfl, rfl, q1, eb, by rw [q2.length, rb.length]; omega, ?_⟩
              obtain ⟨rel', e'⟩ := r1.write (o := .lst (vs ++ ws)) (c' := .lst (xs ++ ys)) ea hM (fun z => nomatch z) fun H' q => ⟨hF, _, q, q2.append rb⟩
              exact ok1 _ ι1 _ _ e' rel' ((s1.ext e').set (.ref (pre_get e'.pre ea)))
          · exact ok1.elim
        · exact ok1.elim
      · exact ok1.elim
    · exact ok1.elim
  · exact ok.elim
end
end Mi

set_option maxRecDepth 100000
set_option maxHeartbeats 4000000
/-! Blocks, loops; statements of the text. -/
namespace Mi
open PySem PySem.Spec L2
section
variable {X : Cx} {g : Gx} {cg : Cg} {W : WX} {k : Nat}
theorem ss_nil : PSs X [] (tSs g cg W []) := PSs.weak pss_nil fun D σ H ⟨F, ι, M, ρ, r, s, ok⟩ => OkS.here ok r s
theorem ss_cons {m : MS} {ms : List MS} {st : Stmt} {sts : List Stmt} (h1 : PS X st (tS g cg W m)) (h2 : PSs X sts (tSs g cg W ms)) : PSs X (st :: sts) (tSs g cg W (m :: ms)) := by
  refine PSs.weak (pss_cons h1 h2) fun D σ H ⟨F, ι, M, ρ, r, s, ok⟩ => ?_
  refine ⟨F, ι, M, ρ, r, s, ?_⟩
  simp only [exs] at ok
  cases z : ex cg m ρ M with
  | stuck => rw [z] at ok; exact ok
  | nx ρ' M' =>
    rw [z] at ok
    exact fun F' ι' H' σ' e r' s' => ⟨F', ι', M', ρ', r', s', OkS.ext ok e⟩
  | rt d M' => rw [z] at ok; exact ok
  | bk ρ' M' => rw [z] at ok; exact ok
  | ct ρ' M' => rw [z] at ok; exact ok
  | exc c x ρ' M' => rw [z] at ok; exact ok
theorem ss_fz {i : Nat} {ms : List MS} {sts : List Stmt} (h2 : PSs X sts (tSs g cg W ms)) : PSs X sts (tSs g cg W (.fz i :: ms)) := by
  refine PSs.weak h2 fun D σ H ⟨F, ι, M, ρ, r, s, ok⟩ => ?_
  simp only [exs, ex] at ok
  split at ok
  · rename_i n hρ
    split at ok
    · rename_i ds hM
      split at ok
      · rename_i xs hx
        simp only [RS.bind_nx] at ok
        obtain ⟨v, hv, rv⟩ := s.at_ i _ hρ
        cases rv with
        | @ref _ a ea =>
          obtain ⟨hF, vs, q1, q2⟩ := r.cells n a _ ea hM
          have hs : Same F (upd F a (.lst vs)) := fun b u z => by rw [upd_ne (ne_of_none z hF)]; exact z
          have ha := List.mem_of_getElem? ea
          have e' : Ext F ι H (upd F a (.lst vs)) ι H := by
            refine ⟨hs, ⟨[], by simp⟩, fun b o q _ => q, fun b hb => .inl hb, fun b o q => ?_, r.there⟩
            by_cases hb : b = a
            · subst hb; exact .inr (.inr ha)
            · rw [upd_ne hb] at q; exact .inl q
          refine ⟨upd F a (.lst vs), ι, M.set n .dead, ρ.set i (some (.p (.lst xs))), ⟨fun b u z => ?_, r.nd, by simp [r.len], fun m b c e1 e2 => ?_, r.there⟩, ?_, OkS.ext ok e'⟩
          · by_cases hb : b = a
            · subst hb; rw [upd_same] at z; cases z; exact q1
            · rw [upd_ne hb] at z; exact r.sub b u z
          · by_cases hm : n = m
            · subst hm
              rw [List.getElem?_set_self (List.getElem?_eq_some_iff.mp hM).1] at e2
              cases e2
              trivial
            · rw [List.getElem?_set_ne hm] at e2
              have hne : b ≠ a := fun z => hm (nodup_get r.nd ea (z ▸ e1))
              exact (r.cells m b c e1 e2).mono hs ⟨[], by simp⟩ (fun hd => by rw [upd_ne hne]; exact (r.cells m b c e1 e2).free hd) rfl
          · have s2 := s.ext e'
            refine ⟨by rw [List.length_set]; exact s2.len, fun j d hj => ?_⟩
            by_cases hij : i = j
            · subst hij
              have hl : i < ρ.length := by
                have := (List.getElem?_eq_some_iff.mp hj).1
                simpa using this
              rw [List.getElem?_set_self hl] at hj
              cases hj
              refine ⟨_, hv, .p (.lst upd_same ?_)⟩
              rw [toPs_eq hx] at q2
              exact q2.rps.mono hs
            · rw [List.getElem?_set_ne hij] at hj
              exact s2.at_ j d hj
      · exact ok.elim
    · rename_i ds hM
      split at ok
      · rename_i xs hx
        simp only [RS.bind_nx] at ok
        obtain ⟨v, hv, rv⟩ := s.at_ i _ hρ
        cases rv with
        | @ref _ a ea =>
          obtain ⟨hF, vs, q1, q0, q2⟩ := r.cells n a _ ea hM
          have e2 := toPs_eq hx
          have hl : ds.length = xs.length := by have := congrArg List.length e2; simpa using this
          rw [e2] at q2
          have z1 : ((ds.map (·.1)).zip xs).map (·.1) = ds.map (·.1) := by rw [List.map_fst_zip]; simp [hl]
          have z2 : ((ds.map (·.1)).zip xs).map (·.2) = xs := by rw [List.map_snd_zip]; simp [hl]
          have hs : Same F (upd F a (.dK vs)) := fun b u z => by rw [upd_ne (ne_of_none z hF)]; exact z
          have ha := List.mem_of_getElem? ea
          have e' : Ext F ι H (upd F a (.dK vs)) ι H := by
            refine ⟨hs, ⟨[], by simp⟩, fun b o q _ => q, fun b hb => .inl hb, fun b o q => ?_, r.there⟩
            by_cases hb : b = a
            · subst hb; exact .inr (.inr ha)
            · rw [upd_ne hb] at q; exact .inl q
          refine ⟨upd F a (.dK vs), ι, M.set n .dead, ρ.set i (some (.p (.dK ((ds.map (·.1)).zip xs)))), ⟨fun b u z => ?_, r.nd, by simp [r.len], fun m b c e1 e2 => ?_, r.there⟩, ?_, OkS.ext ok e'⟩
          · by_cases hb : b = a
            · subst hb; rw [upd_same] at z; cases z; exact q1
            · rw [upd_ne hb] at z; exact r.sub b u z
          · by_cases hm : n = m
            · subst hm
              rw [List.getElem?_set_self (List.getElem?_eq_some_iff.mp hM).1] at e2
              cases e2
              trivial
            · rw [List.getElem?_set_ne hm] at e2
              have hne : b ≠ a := fun z => hm (nodup_get r.nd ea (z ▸ e1))
              exact (r.cells m b c e1 e2).mono hs ⟨[], by simp⟩ (fun hd => by rw [upd_ne hne]; exact (r.cells m b c e1 e2).free hd) rfl
          · have s2 := s.ext e'
            refine ⟨by rw [List.length_set]; exact s2.len, fun j d hj => ?_⟩
            by_cases hij : i = j
            · subst hij
              have hl : i < ρ.length := by
                have := (List.getElem?_eq_some_iff.mp hj).1
                simpa using this
              rw [List.getElem?_set_self hl] at hj
              cases hj
              exact ⟨_, hv, .p (.dK upd_same (by rw [z1]; exact q0) (by rw [z2]; exact q2.rps.mono hs))⟩
            · rw [List.getElem?_set_ne hij] at hj
              exact s2.at_ j d hj
      · exact ok.elim
    · exact ok.elim
  · exact ok.elim
theorem putA_rds {F : Hp} {ι : List Addr} {ws : List (Str × V)} {f : Str} {m : Nat} {a : Addr} {xs : List P} (ha : ι[m]? = some a) (r : RP g F (.ref a) (.lst xs)) : ∀ {fs : List (Str × Mi.D)}, ws.map (·.1) = fs.map (·.1) → RDs g F ι (ws.map (·.2)) (fs.map (·.2)) → fs.lookup f = some (.ref m) →
    ws.map (·.1) = (putA f (.p (.lst xs)) fs).map (·.1) ∧ RDs g F ι (ws.map (·.2)) ((putA f (.p (.lst xs)) fs).map (·.2)) := by
  induction ws with
  | nil =>
    intro fs h1 h2 h3
    cases fs with
    | nil => cases h3
    | cons _ _ => cases h1
  | cons w ws ih =>
    intro fs h1 h2 h3
    cases fs with
    | nil => cases h1
    | cons q fs =>
      obtain ⟨qn, qd⟩ := q
      obtain ⟨wn, wv⟩ := w
      simp only [List.map_cons, List.cons.injEq] at h1
      cases h2 with
      | cons q1 q2 =>
        unfold putA
        by_cases e : qn = f
        · subst e
          rw [List.lookup_cons_self] at h3
          cases h3
          rw [if_pos rfl]
          refine ⟨by simp only [List.map_cons, h1.1, h1.2], .cons ?_ q2⟩
          cases q1 with
          | ref ea => rw [ha] at ea; cases ea; exact .p r
        · rw [if_neg e]
          have hb : (f == qn) = false := beq_eq_false_iff_ne.mpr fun z => e z.symm
          have h3' : fs.lookup f = some (.ref m) := by
            rw [List.lookup_cons, hb] at h3
            exact h3
          obtain ⟨i1, i2⟩ := ih h1.2 q2 h3'
          exact ⟨by simp only [List.map_cons, h1.1, i1], .cons q1 i2⟩
theorem ss_fzf {i : Nat} {f : Str} {ms : List MS} {sts : List Stmt} (h2 : PSs X sts (tSs g cg W ms)) : PSs X sts (tSs g cg W (.fzf i f :: ms)) := by
  refine PSs.weak h2 fun D σ H ⟨F, ι, M, ρ, r, s, ok⟩ => ?_
  simp only [exs, ex] at ok
  split at ok
  · rename_i n hρ
    split at ok
    · rename_i c fs hMn
      split at ok
      · rename_i m hf
        split at ok
        · rename_i ds hM
          split at ok
          · rename_i xs hx
            simp only [RS.bind_nx] at ok
            obtain ⟨v, hv, rv⟩ := s.at_ i _ hρ
            cases rv with
            | @ref _ b eb =>
              have hml : m < ι.length := by rw [r.len]; exact (List.getElem?_eq_some_iff.mp hM).1
              obtain ⟨a, ea⟩ : ∃ a, ι[m]? = some a := ⟨ι[m], by simp [hml]⟩
              obtain ⟨hF, vs, q1, q2⟩ := r.cells m a _ ea hM
              have hnm : n ≠ m := fun z => by subst z; rw [hM] at hMn; cases hMn
              have hba : b ≠ a := fun z => hnm (nodup_get r.nd eb (z ▸ ea))
              have hs : Same F (upd F a (.lst vs)) := fun b u z => by rw [upd_ne (ne_of_none z hF)]; exact z
              have ha := List.mem_of_getElem? ea
              have e' : Ext F ι H (upd F a (.lst vs)) ι H := by
                refine ⟨hs, ⟨[], by simp⟩, fun b o q _ => q, fun b hb => .inl hb, fun b o q => ?_, r.there⟩
                by_cases hb : b = a
                · subst hb; exact .inr (.inr ha)
                · rw [upd_ne hb] at q; exact .inl q
              have rp : RP g (upd F a (.lst vs)) (.ref a) (.lst xs) := .lst upd_same (by rw [toPs_eq hx] at q2; exact q2.rps.mono hs)
              refine ⟨upd F a (.lst vs), ι, (M.set n (.ins c (putA f (.p (.lst xs)) fs))).set m .dead, ρ, ⟨fun b u z => ?_, r.nd, by simp [r.len], fun k b' c' e1 e2 => ?_, r.there⟩, s.ext e', OkS.ext ok e'⟩
              · by_cases hb : b = a
                · subst hb; rw [upd_same] at z; cases z; exact q1
                · rw [upd_ne hb] at z; exact r.sub b u z
              · by_cases hm : m = k
                · subst hm
                  rw [List.getElem?_set_self (by rw [List.length_set]; exact (List.getElem?_eq_some_iff.mp hM).1)] at e2
                  cases e2
                  trivial
                · rw [List.getElem?_set_ne hm] at e2
                  have hne : b' ≠ a := fun z => hm (nodup_get r.nd ea (z ▸ e1))
                  by_cases hn : n = k
                  · subst hn
                    rw [List.getElem?_set_self (List.getElem?_eq_some_iff.mp hMn).1] at e2
                    cases e2
                    rw [eb] at e1
                    cases e1
                    obtain ⟨w1, w2, dx, ws, w3, w4, w5⟩ := r.cells n b _ eb hMn
                    obtain ⟨p1, p2⟩ := putA_rds ea rp w4 (w5.mono hs ⟨[], by simp⟩) hf
                    exact ⟨by rw [upd_ne hba]; exact w1, w2, dx, ws, w3, p1, p2⟩
                  · rw [List.getElem?_set_ne hn] at e2
                    exact (r.cells k b' c' e1 e2).mono hs ⟨[], by simp⟩ (fun hd => by rw [upd_ne hne]; exact (r.cells k b' c' e1 e2).free hd) rfl
          · exact ok.elim
        · exact ok.elim
      · exact ok.elim
    · exact ok.elim
  · exact ok.elim
theorem s_ifs {t : ME} {a b : List MS} {c : Expr} {x y : List Stmt} {pos : Pos} (hc : PT X c (tT g cg W t)) (ha : PSs X x (tSs g cg W a)) (hb : PSs X y (tSs g cg W b)) : PS X (.If c x y pos) (tS g cg W (.ifs t a b)) := by
  refine PS.weak (ps_if hc ha hb) fun D σ H ⟨F, ι, M, ρ, r, s, ok⟩ => ?_
  simp only [ex] at ok
  refine sT_bind r s ok fun b F1 ι1 M1 H1 r1 s1 ok1 _ => ?_
  cases b with
  | true => exact iteT ⟨F1, ι1, M1, ρ, r1, s1, ok1⟩
  | false => exact iteF ⟨F1, ι1, M1, ρ, r1, s1, ok1⟩
theorem forL_W {t : Tg} {body : Env → Sto → RS} {its : List D} : ∀ (r : Nat) (ρ : Env) (M : Sto), r ≤ its.length → forL t body (its.drop (its.length - r)) ρ M = forW none its t body r ρ M
  | 0, ρ, M, _ => by rw [Nat.sub_zero, List.drop_length]; rfl
  | r + 1, ρ, M, h => by
    obtain ⟨d, e1, e2⟩ := drop_at h
    rw [e2]
    simp only [forL, forW, live, Option.bind, e1]
    cases bindT t d ρ with
    | none => rfl
    | some ρ' =>
      simp only
      cases body ρ' M with
      | nx ρ M => exact forL_W r _ _ (by omega)
      | ct ρ M => exact forL_W r _ _ (by omega)
      | _ => rfl
theorem forK_W {w : Option Nat} {t : Tg} {body : Env → Sto → RS} {its : List D} {ρ : Env} {M : Sto} : forK w t body its ρ M = forW w its t body its.length ρ M := by
  cases w with
  | none => have := forL_W (t := t) (body := body) (its := its) its.length ρ M (Nat.le_refl _); rw [Nat.sub_self, List.drop_zero] at this; exact this
  | some n => rfl
theorem s_for (hp : PassesOwn (model X.prog X.w) X.A X.env X.xe) (hc : X.calm = true) {t : Tg} {kk : It} {es : List ME} {b : List MS} {tg iter : Expr} {body : List Stmt} {pos : Pos} (hf : ∀ x, foldedSetIterable iter X.env x = pure x) (hi : PI X tg iter (tI g cg W kk es)) (hg : PG X tg (gOf X.K t)) (hb : PSs X body (tSs g cg W b)) :
    PS X (.For tg iter body [] pos) (tS g cg W (.for_ t kk es b)) := by
  refine PS.weak (ps_for hp hc hi hg hb hf) fun D σ H ⟨F, ι, M, ρ, r, s, ok⟩ => ?_
  simp only [ex] at ok
  refine ⟨F, ι, M, ρ, r, s, (OkS.th s ok).mono fun ds F1 ι1 M1 H1 _ _ ⟨e1, r1, ok1⟩ => ?_⟩
  have s1 := s.ext e1
  cases hit : items kk ds M1 with
  | none => rw [hit] at ok1; exact ok1.elim
  | some its =>
    rw [hit] at ok1
    simp only at ok1
    rw [forK_W] at ok1
    revert ok1
    generalize wat kk ds = w0
    intro ok1
    refine ⟨its, rfl, fun _ J ⟨G, Y, w, wG, wY⟩ => ?_⟩
    refine for_it w (fun i σ' H' => ∃ F' ι' M' ρ', Ext F1 ι1 H1 F' ι' H' ∧ Rel g F' ι' M' H' ∧ RSl g F' ι' σ' ρ' ∧ OkS g W D F' ι' H' (forW w0 its t (fun ρ M => exs cg b ρ M) (its.length - i) ρ' M')) ⟨F1, ι1, M1, ρ, Ext.refl r1, r1, s1, ok1⟩ ?_ ?_ ?_
    · rintro i σ' H' _ ⟨F', ι', M', ρ', ex, r', _, okf⟩
      cases hl : live w0 its M' with
      | some ds => exact wG F' ι' M' H' _ ex.sub ex.pre r' hl
      | none => cases hn : its.length - i <;> rw [hn] at okf <;> unfold forW at okf <;> rw [hl] at okf <;> exact okf.elim
    · rintro i x σ' H' H2 hi' ⟨F', ι', M', ρ', ex, r', s', okf⟩ y
      rw [show its.length - i = its.length - (i + 1) + 1 by omega] at okf
      unfold forW at okf
      rw [show its.length - (its.length - (i + 1) + 1) = i by omega] at okf
      cases hl : live w0 its M' with
      | none => rw [hl] at okf; exact okf.elim
      | some es =>
      rw [hl] at okf
      simp only [Option.bind] at okf
      cases hd : es[i]? with
      | none => rw [hd] at okf; exact okf.elim
      | some d =>
      rw [hd] at okf
      obtain ⟨F2, ex2, r2, rx⟩ := wY i d F' ι' M' H' x H2 es hl hd ex.sub ex.pre r' y
      simp only at okf
      cases hbt : bindT t d ρ' with
      | none => rw [hbt] at okf; exact okf.elim
      | some ρ2 =>
        rw [hbt] at okf
        have okf2 := OkS.ext okf ex2
        refine gOf_ok r2 rx hbt (s'.ext ex2) fun σ2 s2 _ => ⟨F2, ι', M', ρ2, r2, s2, ?_⟩
        simp only at okf2
        cases hbd : exs cg b ρ2 M' with
        | stuck => rw [hbd] at okf2; exact okf2
        | nx ρ3 M3 =>
          rw [hbd] at okf2
          exact fun F3 ι3 H3 σ3 e3 r3 s3 => ⟨F3, ι3, M3, ρ3, (ex.trans ex2).trans e3, r3, s3, OkS.ext okf2 e3⟩
        | ct ρ3 M3 =>
          rw [hbd] at okf2
          exact fun F3 ι3 H3 σ3 e3 r3 s3 => ⟨F3, ι3, M3, ρ3, (ex.trans ex2).trans e3, r3, s3, OkS.ext okf2 e3⟩
        | bk ρ3 M3 => rw [hbd] at okf2; exact okf2
        | rt d3 M3 => rw [hbd] at okf2; exact okf2
        | exc c v ρ3 M3 => rw [hbd] at okf2; exact okf2
    · rintro σ' H' ⟨F', ι', M', ρ', ex, r', s', okf⟩
      rw [Nat.sub_self] at okf
      unfold forW at okf
      cases hl : live w0 its M' with
      | none => rw [hl] at okf; exact okf.elim
      | some es => rw [hl] at okf; exact OkS.here okf r' s'
theorem s_whl (hp : PassesOwn (model X.prog X.w) X.A X.env X.xe) {t : ME} {b : List MS} {c : Expr} {body : List Stmt} {pos : Pos} (hc : PT X c (tT g cg W t)) (hb : PSs X body (tSs g cg W b)) : PS X (.While c body [] pos) (tS g cg W (.whl t b)) := by
  refine PS.weak (ps_while hp hc hb) fun D σ H ⟨F, ι, M, ρ, r, s, ok⟩ => ?_
  simp only [ex] at ok
  refine ⟨fun m σ H => ∃ F ι M ρ, Rel g F ι M H ∧ RSl g F ι σ ρ ∧ OkS g W D F ι H (whileL (fun ρ M => evT cg t ρ M) (fun ρ M => exs cg b ρ M) m ρ M), ⟨WF, F, ι, M, ρ, r, s, ok⟩, ?_⟩
  rintro m σ H ⟨F, ι, M, ρ, r, s, ok⟩
  cases m with
  | zero => exact ok.elim
  | succ m =>
    simp only [whileL] at ok
    refine ⟨F, ι, M, ρ, r, s, ?_⟩
    cases ht : evT cg t ρ M with
    | stuck => rw [ht] at ok; exact ok
    | exc c v M' => rw [ht] at ok; exact fun F' ι' H' cls dd e r' x => ok F' ι' H' σ cls dd e r' (s.ext e) x
    | ok q M' =>
      rw [ht] at ok
      intro F1 ι1 H1 e1 r1
      have s1 := s.ext e1
      cases q with
      | false =>
        have ok1 : OkS g W D F1 ι1 H1 (.nx ρ M') := OkS.ext ok e1
        have h2 : D.nx σ H1 := OkS.here ok1 r1 s1
        simp only [kT, Bool.false_eq_true, if_false]
        exact h2
      | true =>
        simp only [kT, if_true]
        refine ⟨fun σ' H' => ∃ F' ι' M' ρ', Rel g F' ι' M' H' ∧ RSl g F' ι' σ' ρ' ∧ OkS g W D F' ι' H' (whileL (fun ρ M => evT cg t ρ M) (fun ρ M => exs cg b ρ M) m ρ' M'), fun σ' H' h => ⟨m, Nat.lt_succ_self m, h⟩, F1, ι1, M', ρ, r1, s1, ?_⟩
        have ok1 := OkS.ext ok e1
        simp only at ok1
        cases hbd : exs cg b ρ M' with
        | stuck => rw [hbd] at ok1; exact ok1
        | nx ρ3 M3 =>
          rw [hbd] at ok1
          exact fun F3 ι3 H3 σ3 e3 r3 s3 => ⟨F3, ι3, M3, ρ3, r3, s3, OkS.ext ok1 e3⟩
        | ct ρ3 M3 =>
          rw [hbd] at ok1
          exact fun F3 ι3 H3 σ3 e3 r3 s3 => ⟨F3, ι3, M3, ρ3, r3, s3, OkS.ext ok1 e3⟩
        | bk ρ3 M3 => rw [hbd] at ok1; exact ok1
        | rt d3 M3 => rw [hbd] at ok1; exact ok1
        | exc c v ρ3 M3 => rw [hbd] at ok1; exact ok1
end
/-! ### the text -/
/-- y = [..] is stored within the comprehension's frame -/
def swapC (sc : Scope) (y : Str) (py : Pos) (scope : Scope) (vp : Pos) : Bool :=
  lclB sc y && ((py.line == vp.line) && !(scope.names.any fun (n, k) => n == y && (k == .local || k == .cell)))
/-- a, b = x, y is stored from the right -/
def swB (sc : Scope) (ts vs : List Expr) : Option (Option (List Str)) :=
  if (!(ts.length == 2 || ts.length == 3) || vs.length != ts.length) = true then some none
  else if noStar vs = false then none
  else
    let line := (ts.head?.map (·.pos.line)).getD 0
    let names := ts.filterMap fun
      | .Name id pos => if (sc.names.lookup id == some .local && pos.line == line) = true then some id else none
      | _ => none
    if (names.length != ts.length || names.eraseDups.length != names.length) = true then some none
    else if vs.all (foldedForSure 8) = true then some none
    else if vs.all (constantsAlone 8) = true then none
    else some (some names)
def noSw (sc : Scope) (tg v : Expr) : Bool := match v with
  | .ListComp _ _ scope vp => match tg with
    | .Name y py => !swapC sc y py scope vp
    | _ => true
  | .SetComp _ _ _ _ => false
  | .DictComp _ _ _ _ _ => false
  | .Tuple vs _ _ => match tg with
    | .Tuple ts _ _ => decide (swB sc ts vs = some none)
    | _ => true
  | _ => true
def notComp : Expr → Bool
  | .ListComp _ _ _ _ => false
  | .SetComp _ _ _ _ => false
  | .DictComp _ _ _ _ _ => false
  | _ => true
def lcls (sc : Scope) : List Expr → Bool
  | [] => true
  | .Name x _ :: r => lclB sc x && lcls sc r
  | _ => false
def namesOf : List Expr → List Str
  | [] => []
  | .Name x _ :: r => x :: namesOf r
  | _ :: r => namesOf r
def isFz : MS → Bool
  | .fz _ => true
  | .fzf _ _ => true
  | _ => false
/-! ### exceptions -/
section
variable {X : Cx} {g : Gx} {cg : Cg} {W : WX} {k : Nat} {F F' : Hp} {ι ι' : List Addr} {H H' : Hp} {M : Sto}
theorem s_rais {c : Nat} {A : ME} {fI : Addr} {x q f : Str} {a : Expr} {p pos pos2 : Pos} (hK : X.K = g.K) (hr : Room k X.A) (tk : Takes X W) (hc : X.calm = true) (T : PySem.OwnX.XTxt X.K X.prog (g.ca c) fI q f) (hxc : g.xc c = true) (hcf : g.cf c = [f]) (gC : X.mg x = some (.ref (g.ca c))) (hdb : (x == ("__debug__" : Str)) = false) (hg : Gl X x)
    (hs : noStar [a] = true) (ha : PE X a (tE g cg W A)) : PS X (.Raise (some (.Call (.Name x p) [a] [] pos)) none pos2) (tS g cg W (.rais c A)) := by
  refine PS.weak (ps_raise hc tk (pmk_ownX T hr gC hdb (pa_cons ha pa_nil (star_ne (noStar_head hs))) hg (star_ne (noStar_head hs)) (by rfl))) fun D σ H ⟨F, ι, M, ρ, r, s, ok⟩ => ?_
  refine sE_bind (Q := fun v H1 => _) r s ok fun v d F1 ι1 M1 H1 r1 s1 rv ok1 e1 => ?_
  refine ⟨v, rfl, fun dd hd => ?_⟩
  have e2 : Ext F1 ι1 H1 F1 ι1 (upd H1 dd (.xd [(f, v)])) := by
    refine ⟨Same.refl F1, ⟨[], by simp⟩, fun b o q _ => by rw [upd_ne (ne_of_none q hd)]; exact q, fun a ha => .inl ha, fun b o q => .inl q, fun a ha => ?_⟩
    obtain ⟨u, q⟩ := r1.there a ha
    exact ⟨u, by rw [upd_ne (ne_of_none q hd)]; exact q⟩
  have hι : dd ∉ ι1 := fun hm => by
    obtain ⟨u, q⟩ := r1.there dd hm
    rw [hd] at q; cases q
  have r2 : Rel g F1 ι1 M1 (upd H1 dd (.xd [(f, v)])) := by
    refine ⟨fun b o q => ?_, r1.nd, r1.len, fun n a c h1 h2 => ?_, e2.keep⟩
    · have := r1.sub b o q
      rw [upd_ne (ne_of_none this hd)]; exact this
    · have ne : a ≠ dd := fun z => hι (z ▸ List.mem_of_getElem? h1)
      exact (r1.cells n a c h1 h2).mono (Same.refl F1) ⟨[], by simp⟩ (fun hd' => (r1.cells n a c h1 h2).free hd') (upd_ne ne)
  exact ok1 F1 ι1 _ σ _ _ e2 r2 s1 ⟨rfl, hxc, fun d' hd' => by cases hd'; exact ⟨hd, hι, r1.sub.free hd⟩, .inr ⟨dd, v, f, rfl, hcf, upd_same, rv⟩⟩
theorem s_rais0 {c : Nat} {x : Str} {p pos pos2 : Pos} (tk : Takes X W) (hc : X.calm = true) (T : XbOk X.K (g.ca c)) (hxc : g.xc c = true) (hcf : g.cf c = []) (gC : X.mg x = some (.ref (g.ca c))) (hdb : (x == ("__debug__" : Str)) = false) (hg : Gl X x) :
    PS X (.Raise (some (.Call (.Name x p) [] [] pos)) none pos2) (tS g cg W (.rais0 c)) := by
  refine PS.weak (ps_raise hc tk (pmk_own0 T gC hg hdb)) fun D σ H ⟨F, ι, M, ρ, r, s, ok⟩ => ?_
  exact ok F ι H σ _ _ (Ext.refl r) r s ⟨rfl, hxc, fun d' hd' => by (cases hd'), .inl ⟨hcf, rfl, rfl⟩⟩
theorem set_get {α : Type} {l : List (Option α)} {i : Nat} {v : α} (h : i < l.length) : (l.set i (some v))[i]? = some (some v) := List.getElem?_set_self h
theorem s_try {b : List MS} {kk n x : Nat} {y nm z : Str} {body : List Stmt} {np pz pn ps pos' pos : Pos} (C : ClsOk g) (hcfg : cg.cf = g.cf) (hK : X.K = g.K) (T1 : Top1 X) (hN : X.N.Nodup) (hi : X.N[n]? = some nm) (hln : X.env.kindOf nm = some .local) (hx : X.N[x]? = some z) (hlz : X.env.scope.names.lookup z = some .local) (hdn : dbgB nm = false)
    (hkc : g.xc kk = true) (gC : X.mg y = some (.ref (g.ca kk))) (hg : Gl X y) (hdb : (y == ("__debug__" : Str)) = false)
    (hb : ∀ (W' : WX) (pn : List (Addr × Obj)) (xe : Value → Shared → Prop), Takes (X.tr pn xe) W' → PassesOwn (model X.prog X.w) X.A X.env xe → PSs (X.tr pn xe) body (tSs g cg W' b)) :
    PS X (.Try body [.ExceptHandler (some (.Name y np)) (some nm) [.Assign [.Name z pz] (.Name nm pn) ps] pos'] [] [] pos) (tS g cg W (.tryx b kk n x)) := by
  have hd1 : (nm == ("__debug__" : Str)) = false := by
    simp only [dbgB, Bool.or_eq_false_iff] at hdn
    exact hdn.1
  have hd2 : (nm == ("__classdict__" : Str)) = false := by
    simp only [dbgB, Bool.or_eq_false_iff] at hdn
    exact hdn.2
  refine PS.weak (ps_try_keep (i := n) (ts := fun a cls d D σ H => ∃ v, σ[n]? = some (some v) ∧ D.nx (σ.set x (some v)) H) T1 hN hi hln ⟨hg, hdb, .inl gC⟩ hb (fun a oe cls d pn' _ _ => ?_)) fun D σ H ⟨F, ι, M, ρ, r, s, ok⟩ => ?_
  · exact PSs.weak (pss_one (ps_set (X := X.suite a ((a, oe) :: pn')) (i := x) hN hx (.inl hlz) (pe_var (i := n) hi (.inl hln) hd1 hd2) (by rfl) (.inr hlz))) fun D σ H ⟨v, h1, h2⟩ => ⟨v, h1, h2⟩
  · refine ⟨F, ι, M, ρ, r, s, ?_⟩
    simp only [ex] at ok
    cases q : exs cg b ρ M with
    | stuck => rw [q] at ok; exact ok
    | nx ρ' M' => rw [q] at ok; exact ok
    | rt d M' => rw [q] at ok; exact ok
    | bk ρ' M' => rw [q] at ok; exact ok
    | ct ρ' M' => rw [q] at ok; exact ok
    | exc c v ρ' M' =>
      rw [q] at ok
      simp only [catchX] at ok
      intro F' ι' H' σ' cls dd e' r' s' xr
      obtain ⟨rfl, hxc, hfr, hrep⟩ := id xr
      cases hb : xsub c kk with
      | false => rw [hb] at ok; exact ok.elim
      | true =>
        rw [if_pos hb] at ok
        refine ⟨by rw [hK, ← hb]; exact C.xm c kk hxc hkc, ?_⟩
        split at ok
        · rename_i hnx
          obtain ⟨l1, l2, l3⟩ := hnx
          intro a ha
          have len := s'.len
          refine ⟨.ref a, set_get (by omega), ?_⟩
          show H' a = none → D.nx _ _
          intro _
          have hH0 : H a = none := by
            cases w : H a with
            | none => rfl
            | some o =>
              by_cases hm : a ∈ ι
              · obtain ⟨o', z⟩ := e'.keep a hm
                rw [ha] at z; cases z
              · rw [e'.frame a o w hm] at ha; cases ha
          have hFa : F' a = none := r'.sub.free ha
          rcases hrep with ⟨h1, h2, h3⟩ | ⟨d, u, f, h1, h2, h3, h4⟩
          · rw [hcfg, h1] at ok
            obtain ⟨r2, e2⟩ := r'.laidC (o := exK a (.ref (g.ca c)) dd) (c := .xc c none) ha fun H2 z => ⟨hFa, hxc, dd, z, h2, h1⟩
            refine ok F' (ι' ++ [a]) _ _ (e'.trans e2) r2 ?_
            have sl : RSl g F' (ι' ++ [a]) σ' ρ' := s'.ext e2
            have rr : RD g F' (ι' ++ [a]) (.ref a) (.ref M'.length) := .ref (by rw [← r'.len]; simp)
            exact ((sl.set rr).set rr).setNone n
          · subst h1
            rw [hcfg, h2] at ok
            obtain ⟨q0, q1, q2⟩ := hfr d rfl
            have hda : d ≠ a := fun z => by rw [z, ha] at h3; cases h3
            have c1 : CellOk g F' (ι' ++ [d]) H' d (.xd f v) := ⟨q2, u, h3, h4.mono (Same.refl F') ⟨[d], rfl⟩⟩
            have r1 := r'.took h3 q1 c1
            have e1 := e'.took q0 h3
            obtain ⟨r2, e2⟩ := r1.laidC (o := exK a (.ref (g.ca c)) (some d)) (c := .xc c (some M'.length)) ha fun H2 z => ⟨hFa, hxc, some d, z, d, rfl, by rw [← r'.len]; simp⟩
            refine ok F' (ι' ++ [d] ++ [a]) _ _ (e1.trans e2) r2 ?_
            have sl : RSl g F' (ι' ++ [d] ++ [a]) σ' ρ' := ⟨s'.len, fun i d' h => by
              obtain ⟨w, z1, z2⟩ := s'.at_ i d' h
              exact ⟨w, z1, z2.mono (Same.refl F') ⟨[d] ++ [a], by simp⟩⟩⟩
            have rr : RD g F' (ι' ++ [d] ++ [a]) (.ref a) (.ref (M'.length + 1)) := .ref (by rw [← r'.len]; simp)
            exact ((sl.set rr).set rr).setNone n
        · exact ok.elim
end
mutual
def mS (T : Tb) (S : Sx) : MS → Stmt → Bool
  | .ex e, st => match st with
    | .Expr x _ => notComp x && mE T S e x
    | _ => false
  | .asg t e, st => match st with
    | .Assign [tg] v _ => mTg S.N S.sc S.fn t tg && (mE T S e v && (noSw S.sc tg v || (match t, tg, v with
      | .one i, .Name y py, .ListComp _ _ scope vp => decide (S.N[i]? = some y) && swapC S.sc y py scope vp
      | _, _, _ => false)))
    | _ => false
  | .par is es, st => match st with
    | .Assign [.Tuple ts _ _] (.Tuple vs _ _) _ => mNs S.N S.sc S.fn is ts && (lcls S.sc ts && (decide is.Nodup && (noStar vs && (mEs T S es vs && decide (swB S.sc ts vs = some (some (namesOf ts)))))))
    | _ => false
  | .sub o i e, st => match st with
    | .Assign [.Subscript a b _] v _ => notSlice b && (mE T S o a && (mE T S i b && mE T S e v))
    | _ => false
  | .qs i o k a b, st => match st with
    | .Assign [.Tuple [tx, .Subscript to ti _] _ _] (.Tuple [u, v] _ _) _ => mN S.N S.sc S.fn i tx && (notSlice ti && (noStar [u, v] && (mE T S a u && (mE T S b v && (mE T S o to && (mE T S k ti && decide (swB S.sc [tx, .Subscript to ti default] [u, v] = some none)))))))
    | _ => false
  | .qs2 o k u j a b, st => match st with
    | .Assign [.Tuple [.Subscript to ti _, .Subscript tu tj _] _ _] (.Tuple [x, y] _ _) _ => notSlice ti && (notSlice tj && (noStar [x, y] && (mE T S a x && (mE T S b y && (mE T S o to && (mE T S k ti && (mE T S u tu && (mE T S j tj && decide (swB S.sc [.Subscript to ti default, .Subscript tu tj default] [x, y] = some none)))))))))
    | _ => false
  | .setf o f e, st => match st with
    | .Assign [.Attribute a x _] v _ => decide (x = f) && (decide (f ∈ T.flds) && (mE T S o a && mE T S e v))
    | _ => false
  | .augf o f e, st => match st with
    | .AugAssign (.Attribute a x _) .Add v _ => decide (x = f) && (decide (f ∈ T.flds) && (mE T S o a && mE T S e v))
    | _ => false
  | .aug i e, st => match st with
    | .AugAssign (.Name x p) .Add v _ => mN S.N S.sc S.fn i (.Name x p) && mE T S e v
    | _ => false
  | .ifs t a b, st => match st with
    | .If c x y _ => tst t && (mE T S t c && (mSs T S a x && mSs T S b y))
    | _ => false
  | .for_ t k es b, st => match st with
    | .For tg iter body [] _ => mTg S.N S.sc S.fn t tg && (notSet iter && ((match itE S k tg iter with
      | some l => mEs T S es l
      | none => false) && mSs T S b body))
    | _ => false
  | .whl t b, st => match st with
    | .While c body [] _ => tst t && (mE T S t c && mSs T S b body)
    | _ => false
  | .ret e, st => match st with
    | .Return x _ => mO T S e x
    | _ => false
  | .pass, st => match st with
    | .Pass _ => true
    | _ => false
  | .brk, st => match st with
    | .Break _ => true
    | _ => false
  | .cont, st => match st with
    | .Continue _ => true
    | _ => false
  | .fz _, _ => false
  | .fzf _ _, _ => false
  | .rais c e, st => match st with
    | .Raise (some (.Call (.Name x _) [a] [] _)) none _ => decide (T.xcs.lookup c = some x) && ((T.xfs.lookup c).isSome && (decide (1 ≤ S.k) && (glB S.sc x && (noStar [a] && mE T S e a))))
    | _ => false
  | .rais0 c, st => match st with
    | .Raise (some (.Call (.Name x _) [] [] _)) none _ => decide (T.xcs.lookup c = some x) && (decide (c ∈ T.xbs) && glB S.sc x)
    | _ => false
  | .tryx b k n x, st => match st with
    | .Try body [.ExceptHandler (some (.Name y _)) (some nm) [.Assign [.Name z pz] (.Name nm2 _) _] _] [] [] _ => decide (T.xcs.lookup k = some y) && (glB S.sc y && (decide (S.N[n]? = some nm) && (lclB S.sc nm && (decide (nm2 = nm) && (lclB S.sc z && (decide (S.N[x]? = some z) && mSs T S b body))))))
    | _ => false
  | .never, _ => true
def mSs (T : Tb) (S : Sx) : List MS → List Stmt → Bool
  | [], sts => isNil sts
  | m :: ms, sts => bif isFz m then mSs T S ms sts else match sts with
      | [] => false
      | st :: sts => mS T S m st && mSs T S ms sts
end
end Mi

set_option maxRecDepth 100000
set_option maxHeartbeats 4000000
/-! What was looked at is so: statements. -/
namespace Mi
open PySem PySem.Spec L2
theorem noStar_any {vs : List Expr} (h : noStar vs = true) : (vs.any fun | .Starred .. => true | _ => false) = false := by
  induction vs with
  | nil => rfl
  | cons v vs ih =>
    cases v <;> first | (simp only [noStar] at h; cases h) | (simp only [List.any_cons, Bool.false_or]; exact ih h)
theorem bk_fun {env : PySem.Env} (hk : env.scope.kind = .function) : env.blockKind = .function := by unfold Env.blockKind; rw [hk]; rfl
theorem sw_stores {env : PySem.Env} {ts vs : List Expr} {kt pt k2 pt2} {r : Option (List Str)} (hk : env.scope.kind = .function) (h : swB env.scope ts vs = some r) : swappedStores [.Tuple ts kt pt] (.Tuple vs k2 pt2) env = pure r := by
  have hb := bk_fun hk
  unfold swB at h
  unfold swappedStores
  simp only [hb, bne_self_eq_false, Bool.or_false]
  split at h
  · rename_i hc
    cases h
    rw [if_pos hc]
  · rename_i hc
    rw [if_neg hc]
    split at h
    · cases h
    · rename_i hs
      have hst := noStar_any (vs := vs) (by cases z : noStar vs; exact absurd z hs; rfl)
      refine (if_neg (fun z => Bool.false_ne_true (hst.symm.trans z))).trans ?_
      dsimp only at h
      split at h
      · rename_i h1
        cases h
        exact if_pos h1
      · rename_i h1
        refine (if_neg h1).trans ?_
        split at h
        · rename_i h2
          cases h
          exact if_pos h2
        · rename_i h2
          refine (if_neg h2).trans ?_
          split at h
          · cases h
          · rename_i h3
            cases h
            exact if_neg h3
section
variable {g : Gx} {cg : Cg} {T : Tb}
/-- a def's own frame -/
structure Fx (X : Cx) : Prop where
  kind : X.env.scope.kind = .function
  stk : X.stack = X.env :: X.outer
  frm : X.env.frame = some X.env.locals
  nex : X.ex = []
def SS (g : Gx) (cg : Cg) (T : Tb) (m : MS) : Prop := ∀ {W : WX} {S : Sx} {X : Cx}, Cok g cg T W S X → Fx X → ∀ st, mS T S m st = true → PS X st (tS g cg W m)
def SSs (g : Gx) (cg : Cg) (T : Tb) (ms : List MS) : Prop := ∀ {W : WX} {S : Sx} {X : Cx}, Cok g cg T W S X → Fx X → ∀ sts, mSs T S ms sts = true → PSs X sts (tSs g cg W ms)
theorem swapC_eq {env : PySem.Env} {y : Str} {py pos : Pos} {scope : Scope} (hk : env.scope.kind = .function) {elt : Expr} {gs : List Comprehension} {l : Nat} : swapsWith (.ListComp elt gs scope pos) (some (.Name y py)) l env = pure (swapC env.scope y py scope pos) := by
  have hb := bk_fun hk
  have e1 : (env.kindOf y == some .local) = lclB env.scope y := by
    unfold lclB Env.kindOf
    cases env.scope.names.lookup y with
    | none => rfl
    | some q => cases q <;> rfl
  unfold swapsWith swapC
  simp only [hb, e1, Expr.pos]
  rw [show ((ScopeKind.function == ScopeKind.function) = true) from rfl, Bool.true_and, Bool.and_assoc]
theorem ss_ex (e : ME) : SS g cg T (.ex e) := by
  intro W S X c hk st h
  simp only [mS] at h
  split at h
  · rename_i x pos
    simp only [Bool.and_eq_true] at h
    exact s_ex (by cases x <;> first | rfl | cases h.1) ((sb_all e).e c x h.2)
  · cases h
theorem ss_ret (e : Option ME) : SS g cg T (.ret e) := by
  intro W S X c hk st h
  simp only [mS] at h
  split at h
  · rename_i x pos
    cases e with
    | none =>
      cases x with
      | none => exact s_ret0
      | some _ => simp only [mO] at h; cases h
    | some e =>
      cases x with
      | none => simp only [mO] at h; cases h
      | some x => simp only [mO] at h; exact s_ret ((sb_all e).e c x h)
  · cases h
theorem ss_asg (t : Tg) (e : ME) : SS g cg T (.asg t e) := by
  intro W S X c hk st h
  simp only [mS] at h
  split at h
  · rename_i tg v pos
    simp only [Bool.and_eq_true, Bool.or_eq_true] at h
    obtain ⟨h1, h2, h3⟩ := h
    rcases h3 with h3 | h3
    · refine s_asg (tg_ok c.hN c.hsc c.hfn c.calm c.nd h1) ?_ ?_ ?_ ((sb_all e).e c v h2)
      · show swapsWith v (some tg) pos.line X.env = pure false
        cases v with
        | ListComp elt gs scope vp =>
          cases tg with
          | Name y py =>
            rw [swapC_eq hk.kind, c.hsc]
            simp only [noSw, Bool.not_eq_true'] at h3
            rw [h3]
          | _ => rfl
        | SetComp _ _ _ _ => cases h3
        | DictComp _ _ _ _ _ => cases h3
        | _ => rfl
      · cases v with
        | Tuple vs k2 pt2 =>
          cases tg with
          | Tuple ts kt pt =>
            simp only [noSw, decide_eq_true_eq] at h3
            exact sw_stores hk.kind (by rw [c.hsc]; exact h3)
          | List ts pt => cases t <;> cases h1
          | _ => rfl
        | _ => cases tg <;> rfl
      · cases tg with
        | Starred _ _ => cases t <;> cases h1
        | _ => rfl
    · split at h3
      · rename_i i y py elt gs scope vp
        simp only [Bool.and_eq_true, decide_eq_true_eq] at h3
        obtain ⟨h4, h5⟩ := h3
        cases e with
        | comp m t k es cond e =>
          cases gs with
          | nil => simp only [mE] at h2; cases h2
          | cons q gs =>
            cases gs with
            | cons _ _ => simp only [mE] at h2; cases h2
            | nil =>
              obtain ⟨tg, iter, ifs, az⟩ := q
              obtain ⟨rfl, q⟩ := comp_parts (sb_alls es) (sb_opt cond) (sb_all e) c h2
              refine s_setLc (T := T) (S := S) c.calm (by rw [c.hN]; exact c.nd) (by rw [c.hN]; exact h4) (by rw [c.hsc]; simp only [swapC, Bool.and_eq_true] at h5; exact lclB_ok h5.1) (by rw [swapC_eq hk.kind, c.hsc, h5]) q
        | _ => simp only [mE] at h2; cases h2
      · cases h3
  · cases h
theorem lcls_ok {sc : Scope} {x : Str} {p : Pos} {r : List Expr} (h : lcls sc (.Name x p :: r) = true) : sc.names.lookup x = some .local ∧ lcls sc r = true := by
  simp only [lcls, Bool.and_eq_true] at h
  exact ⟨lclB_ok h.1, h.2⟩
theorem swB_len {sc : Scope} {ts vs : List Expr} {q : List Str} (h : swB sc ts vs = some (some q)) : (ts.length = 2 ∨ ts.length = 3) ∧ vs.length = ts.length := by
  unfold swB at h
  split at h
  · cases h
  · rename_i hc
    simp only [Bool.or_eq_true, Bool.not_eq_true', Bool.or_eq_false_iff, beq_eq_false_iff_ne, bne_iff_ne, ne_eq, not_or, not_and, Decidable.not_not] at hc
    exact ⟨by by_cases z : ts.length = 2; exact .inl z; exact .inr (hc.1 z), hc.2⟩
theorem lenTwo {α : Type} {l : List α} (h : l.length = 2) : ∃ a b, l = [a, b] := match l, h with
  | [a, b], _ => ⟨a, b, rfl⟩
theorem lenThree {α : Type} {l : List α} (h : l.length = 3) : ∃ a b c, l = [a, b, c] := match l, h with
  | [a, b, c], _ => ⟨a, b, c, rfl⟩
theorem ss_par (is : List Nat) (es : List ME) : SS g cg T (.par is es) := by
  intro W S X c hk st h
  simp only [mS] at h
  split at h
  · rename_i ts kt pt vs k2 pt2 pos
    simp only [Bool.and_eq_true, decide_eq_true_eq] at h
    obtain ⟨h1, h2, h3, h4, h5, h6⟩ := h
    have hw := sw_stores (kt := kt) (pt := pt) (k2 := k2) (pt2 := pt2) hk.kind (by rw [c.hsc]; exact h6)
    obtain ⟨hl, hv⟩ := swB_len h6
    have hi := mNs_len h1
    have hnm := mNs_names h1
    have pa := sbs_pa (sb_alls es) c h5 h4
    rcases hl with hl | hl
    · obtain ⟨t1, t2, rfl⟩ := lenTwo hl
      obtain ⟨v1, v2, rfl⟩ := lenTwo (hv.trans hl)
      obtain ⟨i1, i2, rfl⟩ := lenTwo (hi.symm.trans hl)
      obtain ⟨x1, p1, rfl⟩ := hnm t1 (by simp)
      obtain ⟨x2, p2, rfl⟩ := hnm t2 (by simp)
      obtain ⟨l1, h2⟩ := lcls_ok h2
      obtain ⟨l2, h2⟩ := lcls_ok h2
      simp only [mNs, mN, Bool.and_eq_true, decide_eq_true_eq] at h1
      simp only [List.nodup_cons, List.mem_singleton] at h3
      exact s_par2 c.calm (by rw [c.hN]; exact c.nd) (by rw [c.hN]; exact h1.1.1) (by rw [c.hN]; exact h1.2.1.1) h3.1 (by rw [c.hsc]; exact l1) (by rw [c.hsc]; exact l2) pa hw
    · obtain ⟨t1, t2, t3, rfl⟩ := lenThree hl
      obtain ⟨v1, v2, v3, rfl⟩ := lenThree (hv.trans hl)
      obtain ⟨i1, i2, i3, rfl⟩ := lenThree (hi.symm.trans hl)
      obtain ⟨x1, p1, rfl⟩ := hnm t1 (by simp)
      obtain ⟨x2, p2, rfl⟩ := hnm t2 (by simp)
      obtain ⟨x3, p3, rfl⟩ := hnm t3 (by simp)
      obtain ⟨l1, h2⟩ := lcls_ok h2
      obtain ⟨l2, h2⟩ := lcls_ok h2
      obtain ⟨l3, h2⟩ := lcls_ok h2
      simp only [mNs, mN, Bool.and_eq_true, decide_eq_true_eq] at h1
      simp only [List.nodup_cons, List.mem_singleton, List.mem_cons, not_or] at h3
      exact s_par3 c.calm (by rw [c.hN]; exact c.nd) (by rw [c.hN]; exact h1.1.1) (by rw [c.hN]; exact h1.2.1.1) (by rw [c.hN]; exact h1.2.2.1.1) h3.1.1 h3.1.2.1 h3.2.1.1 (by rw [c.hsc]; exact l1) (by rw [c.hsc]; exact l2) (by rw [c.hsc]; exact l3) pa hw
  · cases h
theorem ss_sub (o i e : ME) : SS g cg T (.sub o i e) := by
  intro W S X c hk st h
  simp only [mS] at h
  split at h
  · simp only [Bool.and_eq_true] at h
    obtain ⟨h1, h2, h3, h4⟩ := h
    exact s_sub c.room h1 ((sb_all o).e c _ h2) ((sb_all i).e c _ h3) ((sb_all e).e c _ h4)
  · cases h
theorem tup_ok {X : Cx} {W : WX} {S : Sx} (c : Cok g cg T W S X) {a b : ME} {u v : Expr} {k2 : Nat} {pt : Pos} (h0 : noStar [u, v] = true) (h1 : mE T S a u = true) (h2 : mE T S b v = true) : PE X (.Tuple [u, v] k2 pt) (tE g cg W (.tup [a, b])) := by
  refine (sb_all (.tup [a, b])).e c _ ?_
  simp only [mE, mEs, h0, h1, h2]
  rfl
theorem two_ok {F : Hp} {ι : List Addr} {v : V} {d da db : D} (r : RD g F ι v d) (e : two d = some (da, db)) : ∃ p v1 v2, v = .ref p ∧ F p = some (.tup [v1, v2]) ∧ RD g F ι v1 da ∧ RD g F ι v2 db := by
  unfold two at e
  split at e
  · cases e
    cases r with
    | tup ea ra =>
      cases ra with
      | cons q1 ra =>
        cases ra with
        | cons q2 ra =>
          cases ra
          exact ⟨_, _, _, rfl, ea, q1, q2⟩
  · cases e
    cases r with
    | p r =>
      cases r with
      | tup ea ra =>
        cases ra with
        | cons q1 ra =>
          cases ra with
          | cons q2 ra =>
            cases ra
            exact ⟨_, _, _, rfl, ea, .p q1, .p q2⟩
  · cases e
theorem ss_qs (x : Nat) (o i a b : ME) : SS g cg T (.qs x o i a b) := by
  intro W S X c hk st h
  simp only [mS] at h
  split at h
  · rename_i tx to ti ps kt pt u v k2 pt2 pos
    simp only [Bool.and_eq_true, decide_eq_true_eq] at h
    obtain ⟨h1, h2, h3, h4, h5, h6, h7, h8⟩ := h
    have hg : PG X (.Tuple [tx, .Subscript to ti ps] kt pt) (gTup X.K 2 (gCons (gName x) (gCons (gSub (tE g cg W o) (tE g cg W i) (rSet g)) gNil))) := by
      cases tx with
      | Name y py =>
        exact pg_tup c.calm (pgs_cons (n_ok c.hN c.hsc c.hfn c.nd h1) (pgs_cons (pg_sub (pos := ps) ((sb_all o).e c _ h6) ((sb_all i).e c _ h7) (set_any (g := g) c.room) (by intro v; cases ti <;> first | rfl | cases h2)) pgs_nil))
      | _ => cases h1
    have hsw : swB X.env.scope [tx, .Subscript to ti ps] [u, v] = some none := by rw [c.hsc]; cases tx <;> first | exact h8 | cases h1
    refine PS.weak (ps_asg (tup_ok c h3 h4 h5) hg (by rfl) (sw_stores hk.kind hsw) (by rfl)) fun D σ H ⟨F, ι, M, ρ, r, s, ok⟩ => ?_
    refine sE_bind r s ok fun w d F1 ι1 M1 H1 r1 s1 rv ok1 _ => ?_
    cases z : two d with
    | none => rw [z] at ok1; exact ok1.elim
    | some q =>
      obtain ⟨da, db⟩ := q
      rw [z] at ok1
      obtain ⟨p, v1, v2, rfl, hp, q1, q2⟩ := two_ok rv z
      refine ⟨p, [v1, v2], rfl, SqT.of (r1.sub _ _ hp), rfl, v1, [v2], rfl, ?_⟩
      refine ⟨v2, [], rfl, ?_⟩
      refine sE_bind (ρ := ρ.set x (some da)) r1 (s1.set q1) ok1 fun w2 d2 F2 ι2 M2 H2 r2 s2 rw' ok2 e2 => ?_
      refine sE_bind r2 s2 ok2 fun u3 d3 F3 ι3 M3 H3 r3 s3 ru ok3 e3 => ?_
      cases y : setIx d2 d3 db M3 with
      | none => rw [y] at ok3; exact ok3.elim
      | some M' =>
        rw [y] at ok3
        exact ⟨F3, ι3, M3, d2, d3, db, r3, rw'.ext e3, ru, (q2.ext e2).ext e3, M', y, fun H' e' r' => ⟨rfl, ok3 F3 ι3 H' _ e' r' (s3.ext e')⟩⟩
  · cases h
theorem ss_qs2 (o i u j a b : ME) : SS g cg T (.qs2 o i u j a b) := by
  intro W S X c hk st h
  simp only [mS] at h
  split at h
  · rename_i to ti p1 tu tj p2 kt pt x y k2 pt2 pos
    simp only [Bool.and_eq_true, decide_eq_true_eq] at h
    obtain ⟨h1, h2, h3, h4, h5, h6, h7, h8, h9, h10⟩ := h
    have hg : PG X (.Tuple [.Subscript to ti p1, .Subscript tu tj p2] kt pt) (gTup X.K 2 (gCons (gSub (tE g cg W o) (tE g cg W i) (rSet g)) (gCons (gSub (tE g cg W u) (tE g cg W j) (rSet g)) gNil))) :=
      pg_tup c.calm (pgs_cons (pg_sub (pos := p1) ((sb_all o).e c _ h6) ((sb_all i).e c _ h7) (set_any (g := g) c.room) (by intro v; cases ti <;> first | rfl | cases h1))
        (pgs_cons (pg_sub (pos := p2) ((sb_all u).e c _ h8) ((sb_all j).e c _ h9) (set_any (g := g) c.room) (by intro v; cases tj <;> first | rfl | cases h2)) pgs_nil))
    have hsw : swB X.env.scope [.Subscript to ti p1, .Subscript tu tj p2] [x, y] = some none := by rw [c.hsc]; exact h10
    refine PS.weak (ps_asg (tup_ok c h3 h4 h5) hg (by rfl) (sw_stores hk.kind hsw) (by rfl)) fun D σ H ⟨F, ι, M, ρ, r, s, ok⟩ => ?_
    refine sE_bind r s ok fun w d F1 ι1 M1 H1 r1 s1 rv ok1 _ => ?_
    cases z : two d with
    | none => rw [z] at ok1; exact ok1.elim
    | some q =>
      obtain ⟨da, db⟩ := q
      rw [z] at ok1
      obtain ⟨p, v1, v2, rfl, hp, q1, q2⟩ := two_ok rv z
      refine ⟨p, [v1, v2], rfl, SqT.of (r1.sub _ _ hp), rfl, v1, [v2], rfl, ?_⟩
      refine sE_bind (ρ := ρ) r1 s1 ok1 fun w2 d2 F2 ι2 M2 H2 r2 s2 rw' ok2 e2 => ?_
      refine sE_bind r2 s2 ok2 fun u3 d3 F3 ι3 M3 H3 r3 s3 ru ok3 e3 => ?_
      cases y' : setIx d2 d3 da M3 with
      | none => rw [y'] at ok3; exact ok3.elim
      | some M' =>
        rw [y'] at ok3
        refine ⟨F3, ι3, M3, d2, d3, da, r3, rw'.ext e3, ru, (q1.ext e2).ext e3, M', y', fun H' e' r' => ⟨v2, [], rfl, ?_⟩⟩
        refine sE_bind (ρ := ρ) r' (s3.ext e') (OkS.ext ok3 e') fun w4 d4 F4 ι4 M4 H4 r4 s4 rw4 ok4 e4 => ?_
        refine sE_bind r4 s4 ok4 fun w5 d5 F5 ι5 M5 H5 r5 s5 rw5 ok5 e5 => ?_
        cases y2 : setIx d4 d5 db M5 with
        | none => rw [y2] at ok5; exact ok5.elim
        | some M6 =>
          rw [y2] at ok5
          exact ⟨F5, ι5, M5, d4, d5, db, r5, rw4.ext e5, rw5, (((q2.ext e2).ext e3).ext e').ext (e4.trans e5), M6, y2, fun H6 e6 r6 => ⟨rfl, ok5 F5 ι5 H6 _ e6 r6 (s5.ext e6)⟩⟩
  · cases h
theorem ss_setf (o : ME) (f : Str) (e : ME) : SS g cg T (.setf o f e) := by
  intro W S X c hk st h
  simp only [mS] at h
  split at h
  · simp only [Bool.and_eq_true, decide_eq_true_eq] at h
    obtain ⟨rfl, h2, h3, h4⟩ := h
    exact s_setf c.hK c.C (c.flds _ h2) ((sb_all o).e c _ h3) ((sb_all e).e c _ h4)
  · cases h
theorem ss_augf (o : ME) (f : Str) (e : ME) : SS g cg T (.augf o f e) := by
  intro W S X c hk st h
  simp only [mS] at h
  split at h
  · simp only [Bool.and_eq_true, decide_eq_true_eq] at h
    obtain ⟨rfl, h2, h3, h4⟩ := h
    exact s_augf c.hK c.C c.hcf (c.flds _ h2) ((sb_all o).e c _ h3) ((sb_all e).e c _ h4)
  · cases h
theorem ss_aug (i : Nat) (e : ME) : SS g cg T (.aug i e) := by
  intro W S X c hk st h
  simp only [mS] at h
  split at h
  · simp only [Bool.and_eq_true] at h
    exact s_aug c.hN c.hsc c.hfn c.nd h.1 ((sb_all e).e c _ h.2)
  · cases h
theorem ss_ifs {t : ME} {a b : List MS} (ha : SSs g cg T a) (hb : SSs g cg T b) : SS g cg T (.ifs t a b) := by
  intro W S X c hk st h
  simp only [mS] at h
  split at h
  · simp only [Bool.and_eq_true] at h
    obtain ⟨h1, h2, h3, h4⟩ := h
    exact s_ifs ((sb_all t).t c _ h2 h1).1 (ha c hk _ h3) (hb c hk _ h4)
  · cases h
theorem ss_for {t : Tg} {k : It} {es : List ME} {b : List MS} (hb : SSs g cg T b) : SS g cg T (.for_ t k es b) := by
  intro W S X c hk st h
  simp only [mS] at h
  split at h
  · simp only [Bool.and_eq_true] at h
    obtain ⟨h1, h2, h3, h4⟩ := h
    refine s_for c.own c.calm (notSet_fold h2) ?_ (tg_ok c.hN c.hsc c.hfn c.calm c.nd h1) (hb c hk _ h4)
    split at h3
    · rename_i l hl
      exact it_ok c (sb_alls es) hl h3
    · cases h3
  · cases h
theorem ss_whl {t : ME} {b : List MS} (hb : SSs g cg T b) : SS g cg T (.whl t b) := by
  intro W S X c hk st h
  simp only [mS] at h
  split at h
  · simp only [Bool.and_eq_true] at h
    obtain ⟨h1, h2, h3⟩ := h
    exact s_whl c.own ((sb_all t).t c _ h2 h1).1 (hb c hk _ h3)
  · cases h
theorem ss_pass : SS g cg T .pass := by
  intro W S X c hk st h
  simp only [mS] at h
  split at h
  · exact s_pass
  · cases h
theorem ss_brk : SS g cg T .brk := by
  intro W S X c hk st h
  simp only [mS] at h
  split at h
  · exact s_brk
  · cases h
theorem ss_cont : SS g cg T .cont := by
  intro W S X c hk st h
  simp only [mS] at h
  split at h
  · exact s_cont
  · cases h
theorem ss_fz' {i : Nat} : SS g cg T (.fz i) := by
  intro W S X c hk st h
  simp only [mS] at h
  cases h
theorem ss_fzf' {i : Nat} {f : Str} : SS g cg T (.fzf i f) := by
  intro W S X c hk st h
  simp only [mS] at h
  cases h
theorem ss_rais (c : Nat) (e : ME) : SS g cg T (.rais c e) := by
  intro W S X c' hk st h
  simp only [mS] at h
  split at h
  · simp only [Bool.and_eq_true, decide_eq_true_eq] at h
    obtain ⟨h1, h2, h3, h4, h5, h6⟩ := h
    obtain ⟨f, hf⟩ := Option.isSome_iff_exists.mp h2
    obtain ⟨q1, q2, q3⟩ := c'.xcls c _ h1
    have q4 := c'.xfld c f hf
    obtain ⟨fI, q, T'⟩ := c'.xtxt c f q1 q4
    exact s_rais c'.hK c'.room c'.takes c'.calm T' q1 q4 q2 q3 (glB_ok c'.hsc h4) h5 ((sb_all e).e c' _ h6)
  · cases h
theorem ss_rais0 (c : Nat) : SS g cg T (.rais0 c) := by
  intro W S X c' hk st h
  simp only [mS] at h
  split at h
  · simp only [Bool.and_eq_true, decide_eq_true_eq] at h
    obtain ⟨h1, h2, h3⟩ := h
    obtain ⟨q1, q2, q3⟩ := c'.xcls c _ h1
    obtain ⟨q4, q5⟩ := c'.xbs c h2
    exact s_rais0 c'.takes c'.calm q4 q1 q5 q2 q3 (glB_ok c'.hsc h3)
  · cases h
theorem ss_try {b : List MS} {k n x : Nat} (hb : SSs g cg T b) : SS g cg T (.tryx b k n x) := by
  intro W S X c hk st h
  simp only [mS] at h
  split at h
  · simp only [Bool.and_eq_true, decide_eq_true_eq] at h
    obtain ⟨h1, h2, h3, h4, rfl, h6, h7, h8⟩ := h
    obtain ⟨q1, q2, q3⟩ := c.xcls k _ h1
    have hsn := List.mem_of_getElem? h3
    refine s_try c.C c.hcf c.hK ⟨hk.stk, hk.frm, hk.nex⟩ (by rw [c.hN]; exact c.nd) (by rw [c.hN]; exact h3) ?_ (by rw [c.hN]; exact h7) (by rw [c.hsc]; exact lclB_ok h6) (c.dbg _ hsn) q1 q2 (glB_ok c.hsc h2) q3 fun W' pn xe tk po => ?_
    · show X.env.kindOf _ = _
      unfold Env.kindOf
      rw [c.hsc]
      exact lclB_ok h4
    · exact hb (X := X.tr pn xe) { hK := c.hK, hcf := c.hcf, hN := c.hN, hsc := c.hsc, hfn := c.hfn, nd := c.nd, dbg := c.dbg, calm := c.calm, room := c.room, takes := tk, own := po, C := c.C, blt := c.blt, ents := c.ents, consts := c.consts, cls := c.cls, flds := c.flds, grd := c.grd, xcls := c.xcls, xfld := c.xfld, xtxt := c.xtxt, nes := c.nes, xbs := c.xbs } ⟨hk.kind, hk.stk, hk.frm, hk.nex⟩ _ h8
  · cases h
theorem ss_never : SS g cg T .never := by
  intro W S X c hk st h
  exact s_never
theorem ss_nil' : SSs g cg T [] := by
  intro W S X c hk sts h
  simp only [mSs] at h
  cases sts with
  | nil => exact ss_nil
  | cons _ _ => cases h
theorem ss_cons' {m : MS} {ms : List MS} (h1 : SS g cg T m) (h2 : SSs g cg T ms) : SSs g cg T (m :: ms) := by
  intro W S X c hk sts h
  cases z : isFz m with
  | true =>
    have h : mSs T S ms sts = true := by cases sts <;> (rw [mSs, z] at h; exact h)
    cases m with
    | fz i => exact ss_fz (h2 c hk sts h)
    | fzf i f => exact ss_fzf (h2 c hk sts h)
    | _ => cases z
  | false =>
    cases sts with
    | nil => rw [mSs, z] at h; cases h
    | cons st sts =>
      rw [mSs, z] at h
      have h : (mS T S m st && mSs T S ms sts) = true := h
      simp only [Bool.and_eq_true] at h
      exact ss_cons (h1 c hk _ h.1) (h2 c hk _ h.2)
mutual
theorem ss_all : ∀ m : MS, SS g cg T m
  | .ex e => ss_ex e
  | .asg t e => ss_asg t e
  | .par is es => ss_par is es
  | .sub o i e => ss_sub o i e
  | .qs x o i a b => ss_qs x o i a b
  | .qs2 o i u j a b => ss_qs2 o i u j a b
  | .setf o f e => ss_setf o f e
  | .aug i e => ss_aug i e
  | .augf o f e => ss_augf o f e
  | .ifs t a b => ss_ifs (ss_alls a) (ss_alls b)
  | .for_ t k es b => ss_for (ss_alls b)
  | .whl t b => ss_whl (ss_alls b)
  | .ret e => ss_ret e
  | .pass => ss_pass
  | .brk => ss_brk
  | .cont => ss_cont
  | .fz _ => ss_fz'
  | .fzf _ _ => ss_fzf'
  | .rais c e => ss_rais c e
  | .rais0 c => ss_rais0 c
  | .tryx b k n x => ss_try (ss_alls b)
  | .never => ss_never
theorem ss_alls : ∀ ms : List MS, SSs g cg T ms
  | [] => ss_nil'
  | m :: ms => ss_cons' (ss_all m) (ss_alls ms)
end
end
end Mi

set_option maxRecDepth 100000
set_option maxHeartbeats 4000000
/-! A def does what its text says. -/
namespace Mi
open PySem PySem.Spec L2
section
variable {g : Gx} {F F' F2 : Hp} {ι ι' : List Addr} {H H' : Hp} {M M' : Sto}
/-- nothing of these changes any more -/
noncomputable def frz (F' H' : Hp) (l : List Addr) : Hp := fun b => if b ∈ l then H' b else F' b
theorem frz_same {l : List Addr} (r : Rel g F' ι' M' H') : Same F' (frz F' H' l) := fun b o e => by
  unfold frz
  split
  · exact r.sub b o e
  · exact e
theorem frz_sub {l : List Addr} (r : Rel g F' ι' M' H') : Same (frz F' H' l) H' := fun b o e => by
  unfold frz at e
  split at e
  · exact e
  · exact r.sub b o e
theorem rps_of {cf : Nat → List Str} {lo k : Nat} {M' : Sto} (ih : ∀ {v : V} {d : D} {x : P}, RD g F' ι' v d → rd cf lo M' k d = some x → RP g F2 v x) : ∀ {vs : List V} {ds : List D} {xs : List P}, RDs g F' ι' vs ds → mapO (rd cf lo M' k) ds = some xs → RPs g F2 vs xs
  | _, _, xs, .nil, e => by
    simp only [mapO] at e
    cases e
    exact .nil
  | _, _, xs, .cons (d := d) (ds := ds) r t, e => by
    simp only [mapO] at e
    cases h1 : rd cf lo M' k d with
    | none => rw [h1] at e; cases e
    | some y =>
      cases h2 : mapO (rd cf lo M' k) ds with
      | none => rw [h1, h2] at e; cases e
      | some ys =>
        rw [h1, h2] at e
        cases e
        exact .cons (ih r h1) (rps_of ih t h2)
theorem rps_key {α : Type} {cf : Nat → List Str} {lo k : Nat} {M' : Sto} (ih : ∀ {v : V} {d : D} {x : P}, RD g F' ι' v d → rd cf lo M' k d = some x → RP g F2 v x) {ws : List (α × V)} : ∀ {kvs : List (α × D)} {xs : List (α × P)}, ws.map (·.1) = kvs.map (·.1) → RDs g F' ι' (ws.map (·.2)) (kvs.map (·.2)) → mapO (fun q : α × D => (rd cf lo M' k q.2).map fun x => (q.1, x)) kvs = some xs → ws.map (·.1) = xs.map (·.1) ∧ RPs g F2 (ws.map (·.2)) (xs.map (·.2)) := by
  induction ws with
  | nil =>
    intro kvs xs h1 h2 e
    cases kvs with
    | nil => cases e; exact ⟨rfl, .nil⟩
    | cons _ _ => cases h1
  | cons w ws iw =>
    intro kvs xs h1 h2 e
    cases kvs with
    | nil => cases h1
    | cons q kvs =>
      simp only [List.map_cons, List.cons.injEq] at h1
      cases h2 with
      | cons r t =>
        simp only [mapO] at e
        cases z1 : rd cf lo M' k q.2 with
        | none => rw [z1] at e; cases e
        | some y =>
          rw [z1] at e
          cases z2 : mapO (fun q : α × D => (rd cf lo M' k q.2).map fun x => (q.1, x)) kvs with
          | none => rw [z2] at e; cases e
          | some ys =>
            rw [z2] at e
            cases e
            obtain ⟨i1, i2⟩ := iw h1.2 t z2
            exact ⟨by simp only [List.map_cons, h1.1, i1], .cons (ih r z1) i2⟩
theorem rps_fld {cf : Nat → List Str} {lo k : Nat} {M' : Sto} (ih : ∀ {v : V} {d : D} {x : P}, RD g F' ι' v d → rd cf lo M' k d = some x → RP g F2 v x) {ws : List (Str × V)} : ∀ {fs : List (Str × D)} {xs : List P}, RDs g F' ι' (ws.map (·.2)) (fs.map (·.2)) → mapO (fun q : Str × D => rd cf lo M' k q.2) fs = some xs → RPs g F2 (ws.map (·.2)) xs := by
  intro fs xs h2 e
  have : mapO (rd cf lo M' k) (fs.map (·.2)) = some xs := by
    clear h2
    induction fs generalizing xs with
    | nil => exact e
    | cons q fs ihf =>
      simp only [mapO, List.map_cons] at e ⊢
      cases z1 : rd cf lo M' k q.2 with
      | none => rw [z1] at e; cases e
      | some y =>
        rw [z1] at e
        cases z2 : mapO (fun q : Str × D => rd cf lo M' k q.2) fs with
        | none => rw [z2] at e; cases e
        | some ys =>
          rw [z2] at e
          cases e
          rw [ihf z2]
          rfl
  exact rps_of ih h2 this
theorem rd_ok {cf : Nat → List Str} (hcf : cf = g.cf) {lo : Nat} (rel : Rel g F' ι' M' H') (hs : Same F' F2) (hF : ∀ n a o, lo ≤ n → ι'[n]? = some a → H' a = some o → F2 a = some o) : ∀ (k : Nat) {v : V} {d : D} {x : P}, RD g F' ι' v d → rd cf lo M' k d = some x → RP g F2 v x
  | 0, v, d, x, r, e => by
    cases d with
    | p y =>
      cases e
      cases r with
      | p r => exact r.mono hs
    | ref n => cases e
    | tup ds => cases e
  | k + 1, v, d, x, r, e => by
    have ih : ∀ {v : V} {d : D} {x : P}, RD g F' ι' v d → rd cf lo M' k d = some x → RP g F2 v x := fun r e => rd_ok hcf rel hs hF k r e
    cases d with
    | p y =>
      cases e
      cases r with
      | p r => exact r.mono hs
    | tup ds =>
      cases r with
      | tup ea ra =>
        simp only [rd, Option.map_eq_some_iff] at e
        obtain ⟨xs, e1, rfl⟩ := e
        exact .tup (hs _ _ ea) (rps_of ih ra e1)
    | ref n =>
      cases r with
      | @ref _ a ea =>
        simp only [rd] at e
        split at e
        · cases e
        · rename_i hlo
          have hlo : lo ≤ n := by omega
          split at e
          · rename_i ds hM
            simp only [Option.map_eq_some_iff] at e
            obtain ⟨xs, e1, rfl⟩ := e
            obtain ⟨_, vs, q1, q2⟩ := rel.cells n a _ ea hM
            exact .lst (hF n a _ hlo ea q1) (rps_of ih q2 e1)
          · rename_i kvs hM
            simp only [Option.map_eq_some_iff] at e
            obtain ⟨xs, e1, rfl⟩ := e
            obtain ⟨_, ws, q1, q2, q3⟩ := rel.cells n a _ ea hM
            obtain ⟨i1, i2⟩ := rps_key ih q2 q3 e1
            exact .dK (hF n a _ hlo ea q1) i1 i2
          · rename_i c fs hM
            split at e
            · rename_i hc
              simp only [Option.map_eq_some_iff] at e
              obtain ⟨xs, e1, rfl⟩ := e
              obtain ⟨_, hc', dx, ws, q1, q2, q3⟩ := rel.cells n a _ ea hM
              exact .obj hc' (hF n a _ hlo ea q1) (by rw [q2, hc, hcf]) (rps_fld ih q3 e1)
            · cases e
          · cases e
/-- what a def hands out -/
theorem fin_ok {cf : Nat → List Str} (hcf : cf = g.cf) {md : Md} {d d2 : D} {M2 : Sto} (r0 : Rel g F ι M H) (ex : Ext F ι H F' ι' H') (rel : Rel g F' ι' M' H') (e : fin cf md M d M' = some (d2, M2)) :
    ∃ F2 ι2, Ext F ι H F2 ι2 H' ∧ Rel g F2 ι2 M2 H' ∧ (∀ v, RD g F' ι' v d → RD g F2 ι2 v d2) ∧ ∀ b, b ∉ ι' → F' b = none → b ∉ ι2 ∧ F2 b = none := by
  have fz0 : ∀ lo b, b ∉ ι' → F' b = none → frz F' H' (ι'.drop lo) b = none := by
    intro lo b h1 h2
    unfold frz
    rw [if_neg (fun z => h1 (List.mem_of_mem_drop z))]
    exact h2
  have frozen : ∀ lo x, (M.length = lo) → rd cf lo M' FU d = some x → (∀ b o, frz F' H' (ι'.drop lo) b = some o → F b = some o ∨ H b = none ∨ b ∈ ι) ∧ ∀ ι2 v, RD g F' ι' v d → RD g (frz F' H' (ι'.drop lo)) ι2 v (.p x) := by
    intro lo x hl hx
    have hlen := r0.len
    constructor
    · intro b o q
      unfold frz at q
      split at q
      · rename_i hb
        have hb' := List.mem_of_mem_drop hb
        rcases ex.new b hb' with z | z
        · exact .inr (.inr z)
        · exact .inr (.inl z)
      · exact ex.froz b o q
    · intro ι2 v r
      refine .p (rd_ok hcf rel (frz_same rel) (fun n a o hn ha ho => ?_) FU r hx)
      unfold frz
      rw [if_pos]
      · exact ho
      · have : (ι'.drop lo)[n - lo]? = some a := by rw [List.getElem?_drop]; rw [show lo + (n - lo) = n by omega]; exact ha
        exact List.mem_of_getElem? this
  cases md with
  | bor => cases e
  | bow => cases e
  | full =>
    cases e
    exact ⟨F', ι', ex, rel, fun v r => r, fun b h1 h2 => ⟨h1, h2⟩⟩
  | pure =>
    simp only [fin] at e
    split at e
    · rename_i hM
      subst hM
      simp only [Option.map_eq_some_iff, Prod.mk.injEq] at e
      obtain ⟨x, e1, rfl, rfl⟩ := e
      have hι : ι = [] := by have := r0.len; cases ι <;> first | rfl | cases this
      subst hι
      obtain ⟨f1, f2⟩ := frozen 0 x rfl e1
      exact ⟨frz F' H' (ι'.drop 0), [], ⟨fun b o q => frz_same rel b o (ex.sub b o q), ⟨[], rfl⟩, ex.frame, (fun a ha => by cases ha), f1, (fun a ha => by cases ha)⟩, Rel.nil (frz_sub rel), fun v r => f2 [] v r, fun b h1 h2 => ⟨by simp, fz0 0 b h1 h2⟩⟩
    · cases e
  | own =>
    simp only [fin] at e
    split at e
    · rename_i hM
      subst hM
      have hι : ι = [] := by have := r0.len; cases ι <;> first | rfl | cases this
      subst hι
      split at e
      · rename_i n
        split at e
        · rename_i c hc
          split at e
          · rename_i hf
            cases e
            have hn : n < ι'.length := by rw [rel.len]; exact (List.getElem?_eq_some_iff.mp hc).1
            obtain ⟨a, ha⟩ : ∃ a, ι'[n]? = some a := ⟨ι'[n], by simp [hn]⟩
            refine ⟨F', [a], ⟨ex.sub, ⟨[a], rfl⟩, ex.frame, fun b hb => ?_, ex.froz, (fun a ha => by cases ha)⟩, rel.one ha hc hf, fun v r => ?_, fun b h1 h2 => ⟨fun z => ?_, h2⟩⟩
            · simp at hb
              subst hb
              rcases ex.new b (List.mem_of_getElem? ha) with z | z
              · cases z
              · exact .inr z
            · cases r with
              | ref ea => rw [ha] at ea; cases ea; exact .ref rfl
            · simp at z
              subst z
              exact h1 (List.mem_of_getElem? ha)
          · cases e
        · cases e
      · cases e
        refine ⟨F', [], ⟨ex.sub, ⟨[], rfl⟩, ex.frame, (fun a ha => by cases ha), ex.froz, (fun a ha => by cases ha)⟩, Rel.nil rel.sub, fun v r => r.pureι, fun b h1 h2 => ⟨by simp, h2⟩⟩
      · cases e
    · cases e
  | «mut» =>
    simp only [fin] at e
    split at e
    · rename_i hM
      split at e
      · rename_i c hc
        split at e
        · rename_i hf
          simp only [Option.map_eq_some_iff, Prod.mk.injEq] at e
          obtain ⟨x, e1, rfl, rfl⟩ := e
          obtain ⟨a, rfl⟩ := len1 (r0.len.trans hM)
          obtain ⟨more, rfl⟩ := ex.pre
          obtain ⟨f1, f2⟩ := frozen 1 x hM e1
          have ha : ([a] ++ more)[0]? = some a := rfl
          have hnd := rel.nd
          have hna : a ∉ ([a] ++ more).drop 1 := by simpa using (List.nodup_cons.mp hnd).1
          have hcd : c ≠ .dead := fun z => by subst z; cases hf
          have hFa : frz F' H' (([a] ++ more).drop 1) a = none := by
            unfold frz
            rw [if_neg hna]
            exact (rel.cells 0 a c ha hc).free hcd
          refine ⟨frz F' H' (([a] ++ more).drop 1), [a], ⟨fun b o q => frz_same rel b o (ex.sub b o q), ⟨[], rfl⟩, ex.frame, fun b hb => .inl hb, f1, ex.keep⟩, ?_, fun v r => f2 [a] v r, fun b h1 h2 => ⟨fun z => h1 (List.mem_append_left _ z), fz0 1 b h1 h2⟩⟩
          have h1 := rel.one ha hc hf
          refine ⟨frz_sub rel, h1.nd, h1.len, fun n b c' e1 e2 => ?_, h1.there⟩
          have hb : b = a := by
            have := List.mem_of_getElem? e1
            simpa using this
          subst hb
          exact (h1.cells n b c' e1 e2).mono (frz_same rel) ⟨[], rfl⟩ (fun _ => hFa) rfl
        · cases e
      · cases e
    · cases e
end
/-- the same of the program's state, whatever the body -/
def EntOk0 (g : Gx) (P : Program) (w : World) (mg : Str → Option Value) (base : Heap) (j : Fn) (e : Ent) : Prop := ∃ f fd, FnG P w g.K mg base (L2.CX P w) e.lvl f fd e.ps (spF g j e.ps.length) ∧ DflOk g fd e.ps e.dfl ∧ match e.kd with
  | .fn => mg e.name = some (.ref f) ∧ PySem.W.keepIn g.K (.ref f) = true ∧ (e.name == ("__debug__" : Str)) = false
  | .meth c => g.nc c = true ∧ Meth g.K (g.ca c) e.name f
  | .init c => g.nc c = true ∧ mg e.name = some (.ref (g.ca c)) ∧ Mk g.K (g.ca c) f ∧ (e.name == ("__debug__" : Str)) = false
  | .prop c => g.nc c = true ∧ ∃ p, PropOf g.K (g.ca c) e.name p f
def EntK0 (g : Gx) (P : Program) (w : World) (mg : Str → Option Value) (base : Heap) (j : Fn) (e : Ent) : Prop := ∃ f fd c, FnG P w g.K mg base (L2.CX P w) e.lvl f fd e.ps (spF g j e.ps.length) ∧ (∀ s ∈ e.shp, KShOk g fd e.ps s) ∧ e.kd = .init c ∧ g.nc c = true ∧ mg e.name = some (.ref (g.ca c)) ∧ Mk g.K (g.ca c) f ∧ (e.name == ("__debug__" : Str)) = false
def EntAll0 (g : Gx) (P : Program) (w : World) (mg : Str → Option Value) (base : Heap) (j : Fn) (e : Ent) : Prop := (e.shp = [] → EntOk0 g P w mg base j e) ∧ (e.shp ≠ [] → EntK0 g P w mg base j e)
/-- what stands still -/
structure Sta (g : Gx) (cg : Cg) (T : Tb) (P : Program) (mg : Str → Option Value) : Prop where
  hcf : cg.cf = g.cf
  C : ClsOk g
  blt : ∀ n ∈ BL, mg n = none
  consts : ∀ q ∈ T.consts, ∃ v u, mg q.1 = some u ∧ RelV v u ∧ (∀ F, RP g F v q.2) ∧ (q.1 == ("__debug__" : Str)) = false
  cls : ∀ c n, T.cls.lookup c = some n → g.nc c = true ∧ mg n = some (.ref (g.ca c)) ∧ (n == ("__debug__" : Str)) = false
  flds : ∀ f ∈ T.flds, ∀ c, g.nc c = true → NoAttr g.K (g.ca c) f
  xcls : ∀ c n, T.xcs.lookup c = some n → g.xc c = true ∧ mg n = some (.ref (g.ca c)) ∧ (n == ("__debug__" : Str)) = false
  xfld : ∀ c f, T.xfs.lookup c = some f → g.cf c = [f]
  xtxt : ∀ c f, g.xc c = true → g.cf c = [f] → ∃ fI q, PySem.OwnX.XTxt g.K P (g.ca c) fI q f
  nes : ∀ c ∈ T.nes, PySem.W.findIn g.K (.ref (g.ca c)) "__ne__" = some (some (.builtin "object.__ne__"))
  xbs : ∀ c ∈ T.xbs, XbOk g.K (g.ca c) ∧ g.cf c = []
theorem start_ok {g : Gx} {F : Hp} {ι : List Addr} {N : List Str} {vs : List V} {ds : List D} (r : RDs g F ι vs ds) : RSl g F ι (L2.start N vs) (startE N.length ds) := by
  have hl := r.length
  refine ⟨by simp [L2.start, startE, hl], fun i d h => ?_⟩
  unfold startE at h
  unfold L2.start
  by_cases hi : i < ds.length
  · rw [List.getElem?_append_left (by simpa using hi), List.getElem?_map] at h
    simp only [Option.map_eq_some_iff] at h
    obtain ⟨d', h1, h2⟩ := h
    cases h2
    obtain ⟨v, e1, e2⟩ := r.get h1
    refine ⟨v, ?_, e2⟩
    rw [List.getElem?_append_left (by simp; omega), List.getElem?_map, e1]
    rfl
  · rw [List.getElem?_append_right (by simp; omega), List.getElem?_replicate] at h
    split at h <;> cases h
section
variable {g : Gx} {cg : Cg} {T : Tb} {P : Program} {w : World} {mg : Str → Option Value} {base : Heap} {k : Nat}
theorem body_ok (St : Sta g cg T P mg) (he : ∀ j e, T.fns.lookup j = some e → e.lvl ≤ k → EntAll0 g P w mg base (cg.Φ j) e) {x qual : Str} {params : Arguments} {body : List Stmt} {scope : Scope} {dvs : List V} {kws : List (Str × V)} {f : Addr} {fdat : FuncData} {N ps : List Str} {d : Fd}
    (F : FunD g.K x qual params body scope dvs kws f fdat) (S : FnScope N ps scope) (hdb : ∀ x ∈ N, dbgB x = false) (hm : mSs T ⟨N, scope, fun _ => true, k⟩ d.body body = true) (hn : d.n = N.length) (hps : d.ps = ps.length) :
    FnG P w g.K mg base (L2.CX P w) (k + 1) f fdat ps (spF g (run cg d) ps.length) := by
  refine F.okG S (fun vs H Q E h => h.1) fun cdv A outer s H vs Q E hr hgd h => ?_
  obtain ⟨hl, F0, ι, M, ds, rel, rs, ok⟩ := h
  have c : Cok g cg T (fun cls dd _ H' => E cls dd H') ⟨N, scope, fun _ => true, k⟩ (cxOf (L2.CX P w) P w g.K mg base N qual scope f cdv A outer s H E) :=
    { hK := rfl, hcf := St.hcf, hN := rfl, hsc := rfl, hfn := rfl, nd := S.nd, dbg := hdb, calm := rfl, room := hr, takes := takes_of rfl rfl rfl rfl, own := passes_of rfl, C := St.C, blt := St.blt, ents := he, consts := St.consts, cls := St.cls, flds := St.flds, grd := hgd, xcls := St.xcls, xfld := St.xfld, xtxt := St.xtxt, nes := St.nes, xbs := St.xbs }
  refine ⟨tSs g cg (fun cls dd _ H' => E cls dd H') d.body, ss_alls d.body c ⟨S.kind, rfl, rfl, rfl⟩ body hm, F0, ι, M, startE d.n ds, rel, by rw [hn]; exact start_ok rs, ?_⟩
  have hdl : ds.length = d.ps := by rw [hps, ← rs.length, hl]
  simp only [run, if_pos hdl] at ok
  cases z : exs cg d.body (startE d.n ds) M with
  | stuck => rw [z] at ok; exact ok
  | bk ρ' M' => rw [z] at ok; exact ok.elim
  | ct ρ' M' => rw [z] at ok; exact ok.elim
  | nx ρ' M' =>
    rw [z] at ok
    simp only at ok
    intro F' ι' H' σ' e r _
    cases y : fin cg.cf d.md M (.p .non) M' with
    | none => rw [y] at ok; exact ok.elim
    | some q =>
      obtain ⟨d2, M2⟩ := q
      rw [y] at ok
      obtain ⟨F2, ι2, e2, r2, hv, hfz⟩ := fin_ok St.hcf rel e r y
      exact ok F2 ι2 H' e2 r2 .non (hv .non (.p .non))
  | rt v M' =>
    rw [z] at ok
    simp only at ok
    intro F' ι' H' u e r ru
    cases y : fin cg.cf d.md M v M' with
    | none => rw [y] at ok; exact ok.elim
    | some q =>
      obtain ⟨d2, M2⟩ := q
      rw [y] at ok
      obtain ⟨F2, ι2, e2, r2, hv, hfz⟩ := fin_ok St.hcf rel e r y
      exact ok F2 ι2 H' e2 r2 u (hv u ru)
  | exc c v ρ' M' =>
    rw [z] at ok
    simp only at ok
    intro F' ι' H' σ' cls dd e r _ x
    cases y : fin cg.cf (xmd d.md) M v M' with
    | none => rw [y] at ok; exact ok.elim
    | some q =>
      obtain ⟨d2, M2⟩ := q
      rw [y] at ok
      obtain ⟨F2, ι2, e2, r2, hv, hfz⟩ := fin_ok St.hcf rel e r y
      refine ok F2 ι2 H' cls dd e2 r2 ?_
      obtain ⟨x1, x0, xf, x2⟩ := x
      refine ⟨x1, x0, fun d' hd' => ⟨(xf d' hd').1, ?_⟩, ?_⟩
      · exact hfz d' (xf d' hd').2.1 (xf d' hd').2.2
      rcases x2 with ⟨x2, x3, rfl⟩ | ⟨dx, vx, fx, q1, q2, q3, q4⟩
      · refine .inl ⟨x2, x3, ?_⟩
        have := hv .non (.p .non)
        cases this with
        | p this => cases this; rfl
      · exact .inr ⟨dx, vx, fx, q1, q2, q3, hv vx q4⟩
/-- what the function says is what the text does, wherever it says something -/
def Says (r : R D) (s : R D) : Prop := s = .stuck ∨ r = s
theorem spF_says {f j : Fn} {n : Nat} (h : ∀ ds M, Says (f ds M) (j ds M)) (vs : List V) (H : Hp) (Q : VK) (E : XK) (q : spF g j n vs H Q E) : spF g f n vs H Q E := by
  obtain ⟨hl, F, ι, M, ds, rel, rs, ok⟩ := q
  refine ⟨hl, F, ι, M, ds, rel, rs, ?_⟩
  rcases h ds M with z | z
  · rw [z] at ok; exact ok.elim
  · rw [z]; exact ok
end
end Mi

set_option maxRecDepth 100000
set_option maxHeartbeats 4000000
/-! The head's facts of the exceptions. -/
namespace Mi
open PySem PySem.Spec L2 PySem.HandSPX PySem.OwnX
def InitTxt (f : Str) (st : Stmt) : Prop := ∃ p1 p2 p3 a1 a2 a3 a4 a5 a6 a7 a8 a9 b1 : Pos, defArgs st = iA f p1 p2 p3 ∧ defBody st = iB f a1 a2 a3 a4 a5 a6 a7 a8 a9 b1 ∧ defScope st = iS f ∧ (a3.endLine == a5.line) = true
/-- an exception with a field: its number, its name, its __init__'s qualified name, its field, its __init__ -/
structure Xi where
  c : Nat
  nm : Str
  q : Str
  f : Str
  st : Stmt
abbrev XW : Type := Option (Str × Str × Arguments × FuncBody × Scope × Addr × List Str × Addr)
def xW (K : PySem.W.Frag) (nm : Str) : XW := match K.lookup (He.ma K (He.ga K nm) "__init__") with
  | some ⟨_, _, .func fd, _⟩ => some (fd.name, fd.qualname, fd.params, fd.body, fd.scope, fd.globals, fd.closure.map (·.1), fd.builtins)
  | _ => none
def Xi.val (x : Xi) : XW := some ("__init__", x.q, defArgs x.st, .stmts (defBody x.st), defScope x.st, mainGlobals, ["__class__"], builtinsNs)
def eqO' (a : Option (Option Value)) (b : Option (Option Value)) : Bool := decide (a = b)
def eqS (a b : Option Bool) : Bool := decide (a = b)
/-- the class itself -/
def xcB (K : PySem.W.Frag) (C : Addr) : Bool := match K.lookup C with
  | some ⟨.type "type", _, .cls cd, sl⟩ => (match cd.mro, sl.toList with
    | .ref C' :: bm, [_, _, _, _, some (.builtin n), _] => C' == C && (n == "ValueError.__new__" && (!cd.hasDel && (cd.hasDict && (refsVE bm && eqO' (PySem.W.alongIn K "__init__" bm) (some (some (.builtin "ValueError.__init__")))))))
    | _, _ => false)
  | _ => false
theorem xcB_ok {K : PySem.W.Frag} {C : Addr} (h : xcB K C = true) : ∃ nm q N bs bm sn sub ab col dd k0 k1 k2 k3 k5, K.lookup C = some (excClassObj nm q C N bs bm true sn sub ab col dd k0 k1 k2 k3 k5 "ValueError.__new__") ∧ refsVE bm = true ∧ PySem.W.alongIn K "__init__" bm = some (some (.builtin "ValueError.__init__")) := by
  unfold xcB at h
  split at h
  · rename_i dd cd sl ho
    split at h
    · rename_i C' bm k0 k1 k2 k3 n k5 hm hs
      simp only [Bool.and_eq_true, beq_iff_eq, Bool.not_eq_true'] at h
      obtain ⟨rfl, rfl, hdel, hd, hr, ha⟩ := h
      obtain ⟨nm, bs, mro, ns, qn, hd', sn, sub, ab, col, del⟩ := cd
      dsimp only at hm hdel hd
      subst hm hdel hd
      have hsl : sl = #[k0, k1, k2, k3, some (.builtin "ValueError.__new__"), k5] := by
        cases sl with
        | mk l => exact congrArg Array.mk hs
      subst hsl
      exact ⟨nm, qn, ns, bs, bm, sn, sub, ab, col, dd, k0, k1, k2, k3, k5, ho, hr, of_decide_eq_true ha⟩
    · cases h
  · cases h
/-- what stands around the function -/
def xfB (K : PySem.W.Frag) (C fI : Addr) (q file : Str) : Bool := match K.lookup fI with
  | some ⟨_, _, .func fd, _⟩ => decide (fd.kwdefaults = .none) && (PySem.W.codeIn K fd.code q && ((match fd.defaults with
      | .ref T => (match K.lookup T with
        | some oT => (match oT.data with
          | .seq its _ => decide (its = #[.none])
          | _ => false)
        | none => false)
      | _ => false) && ((match fd.code with
      | .ref cda => (match K.lookup cda with
        | some ⟨_, _, .fields vs, _⟩ => (match (vs[2]? : Option Value) with
          | some (.str fl _) => decide (fl = file)
          | _ => false)
        | _ => false)
      | _ => false) && (match fd.closure with
      | [(_, cc)] => (match K.lookup cc with
        | some ⟨_, _, .cell (some (.ref D)), _⟩ => decide (D = C)
        | _ => false)
      | _ => false))))
  | _ => false
def xiB (K : PySem.W.Frag) (file : Str) (x : Xi) : Bool :=
  let C := He.ga K x.nm
  let fI := He.ma K C "__init__"
  decide (x.f ∈ FN) && (xcB K C && (eqO' (PySem.W.findIn K (.ref C) "__setattr__") (some (some (.builtin "object.__setattr__"))) && (eqO' (PySem.W.findIn K (.ref C) x.f) (some none) && (eqO' (PySem.W.findIn K (.ref C) "__init__") (some (some (.ref fI))) &&
  (decide (PySem.W.typeIn K (.ref fI) = some (.type "function")) && (PySem.W.keepIn K (.ref C) && (eqS (PySem.W.subIn K (.ref C) (.type "ValueError")) (some true) && (eqS (PySem.W.mroIn K C (.ref C)) (some true) && (decide (PySem.W.typeIn K (.ref C) = some (.type "type")) && xfB K C fI x.q file)))))))))
/-- the exceptions' classes as isinstance and except see them -/
def xeB (K : PySem.W.Frag) (C : Addr) : Bool :=
  eqO' (PySem.W.findIn K (.ref C) "__getattribute__") (some (some (.builtin "BaseException.__getattribute__"))) && (eqO' (PySem.W.findIn K (.ref C) "__getattr__") (some none) && (eqS (PySem.W.subIn K (.ref C) (.type "BaseException")) (some true) && (PySem.W.hasDictIn K C && (eqO' (PySem.W.findIn K (.ref C) "__class__") (some (some (.builtin "object.__class__"))) && (eqO' (PySem.W.specialIn K (.builtin "object.__class__") "__get__") (some (some (.builtin "getset_descriptor.__get__"))) && (eqS (PySem.W.takesIn K (.builtin "object.__class__")) (some true) && eqS (PySem.W.mroIn K C (.type "object")) (some true)))))))
theorem xeB_ok {K : PySem.W.Frag} {C : Addr} (h : xeB K C = true) : ExcC K C := by
  unfold xeB at h
  simp only [Bool.and_eq_true] at h
  obtain ⟨h1, h2, h3, h4, h5, h6, h7, h8⟩ := h
  exact ⟨of_decide_eq_true h1, of_decide_eq_true h2, of_decide_eq_true h3, h4, of_decide_eq_true h5, of_decide_eq_true h6, of_decide_eq_true h7, of_decide_eq_true h8⟩
theorem xi_ok {K : PySem.W.Frag} {P : Program} {file : Str} {x : Xi} (h : xiB K file x = true) (he : xeB K (He.ga K x.nm) = true) (hv : xW K x.nm = x.val) (ht : InitTxt x.f x.st) (h1 : PySem.W.nsIn K cStatics "thirdparty.any" = some none) (h2 : PySem.W.nsIn K mainGlobals "super" = some none)
    (h3 : (P.main.scope.names.lookup ("super" : Str)).isSome = false) (h4 : ((P.main.file : Str) == file) = true) : XTxt K P (He.ga K x.nm) (He.ma K (He.ga K x.nm) "__init__") x.q x.f := by
  unfold xiB at h
  simp only [Bool.and_eq_true, decide_eq_true_eq] at h
  obtain ⟨f1, f2, f3, f4, f5, f6, f7, f8, f9, f10, f11⟩ := h
  have e := xeB_ok he
  refine ⟨f1, xcB_ok f2, of_decide_eq_true f3, e.hg, e.hk, of_decide_eq_true f4, of_decide_eq_true f5, f6, f7, e.hs, of_decide_eq_true f8, of_decide_eq_true f9, f10, e.hd, h1, h2, h3, ?_⟩
  obtain ⟨p1, p2, p3, a1, a2, a3, a4, a5, a6, a7, a8, a9, b1, t1, t2, t3, t4⟩ := ht
  unfold xW at hv
  unfold xfB at f11
  cases z : K.lookup (He.ma K (He.ga K x.nm) "__init__") with
  | none => rw [z] at hv; cases hv
  | some o =>
    obtain ⟨oc, od, dat, osl⟩ := o
    rw [z] at hv f11
    cases dat with
    | func fd =>
      simp only [Xi.val, Option.some.injEq, Prod.mk.injEq] at hv
      obtain ⟨v1, v2, v3, v4, v5, v6, v7, v8⟩ := hv
      simp only [Bool.and_eq_true, decide_eq_true_eq] at f11
      obtain ⟨g1, g2, g3, g4, g5⟩ := f11
      obtain ⟨name, qualname, params, body, scope, globals, closure, defaults, kwdefaults, doc, pyModule, annotations, code, closureTuple, builtins⟩ := fd
      dsimp only at v1 v2 v3 v4 v5 v6 v7 v8 g1 g2 g3 g4 g5
      subst v1 v2 v6 v8 g1
      split at g3
      · rename_i T
        split at g3
        · rename_i oT hT
          split at g3
          · rename_i its n hits
            have : its = #[.none] := of_decide_eq_true g3
            subst this
            split at g4
            · rename_i cda
              split at g4
              · rename_i ccl cdd vs ccs hcda
                split at g4
                · rename_i fl tf hfl
                  have : fl = file := of_decide_eq_true g4
                  subst this
                  split at g5
                  · rename_i yn cc
                    split at g5
                    · rename_i cl cld D csl hcc
                      have : D = He.ga K x.nm := of_decide_eq_true g5
                      subst this
                      simp only [List.map_cons, List.map_nil, List.cons.injEq, and_true] at v7
                      subst v7
                      refine ⟨oc, od, doc, pyModule, annotations, cda, closureTuple, osl, T, oT, n, cc, cl, cld, csl, ccl, cdd, vs, ccs, fl, tf, p1, p2, p3, a1, a2, a3, a4, a5, a6, a7, a8, a9, b1, ?_, g2, hT, hits, hcc, hcda, hfl, h4, t4⟩
                      rw [v3, v4, v5, t1, t2, t3]
                    · cases g5
                  · cases g5
                · cases g4
              · cases g4
            · cases g4
          · cases g3
        · cases g3
      · cases g3
    | _ => cases hv
end Mi

set_option maxRecDepth 100000
set_option maxHeartbeats 4000000
/-! A law's table of defs; what its head tells of them. -/
namespace Mi
open PySem PySem.Spec L2
/-- a def of the law: where it stands, its text, its qualified name, its names, how it is called, what it does -/
structure Df where
  at_ : Str × Option Str
  st : Stmt
  name : Str
  qual : Str
  N : List Str
  ent : Ent
  fd : Fd
structure Lw where
  cls : List (Nat × Str)
  flds : List Str
  consts : List (Str × P)
  defs : List (Nat × Df)
  cf : Nat → List Str
  xcs : List (Nat × Str)
  xin : List Xi
  file : Str
  nes : List Nat := []
  xbs : List Nat := []
def Lw.xfs (L : Lw) : List (Nat × Str) := L.xin.map fun x => (x.c, x.f)
def Lw.T (L : Lw) : Tb := ⟨L.defs.map fun q => (q.1, q.2.ent), L.consts, L.cls, L.flds, L.xcs, L.xfs, L.nes, L.xbs⟩
def Lw.cn (L : Lw) (c : Nat) : Str := (L.cls.lookup c).getD ((L.xcs.lookup c).getD "")
def Lw.hasX (L : Lw) (c : Nat) : Bool := (L.xcs.lookup c).isSome
def Lw.has (L : Lw) (c : Nat) : Bool := (L.cls.lookup c).isSome
def Lw.g (L : Lw) (K : PySem.W.Frag) : Gx := ⟨K, fun c => He.ga K (L.cn c), L.cf, L.has, L.hasX⟩
/-- the numbers and names of the exceptions go together -/
structure Lw.Xok (L : Lw) : Prop where
  dis : ∀ c n, L.xcs.lookup c = some n → L.cls.lookup c = none
  xin : ∀ x ∈ L.xin, L.xcs.lookup x.c = some x.nm ∧ L.cf x.c = [x.f] ∧ InitTxt x.f x.st
  all : ∀ c n f, L.xcs.lookup c = some n → L.cf c = [f] → ∃ x ∈ L.xin, x.c = c
theorem look_map {α β : Type} (f : α → β) (k : Nat) : ∀ xs : List (Nat × α), (xs.map fun q => (q.1, f q.2)).lookup k = (xs.lookup k).map f
  | [] => rfl
  | q :: xs => by
    have ih := look_map f k xs
    rw [List.map_cons, List.lookup_cons, show (q :: xs).lookup k = (match k == q.1 with | true => some q.2 | false => xs.lookup k) from rfl]
    cases k == q.1
    · exact ih
    · rfl
theorem look_mem {α : Type} {k : Nat} {x : α} : ∀ {xs : List (Nat × α)}, xs.lookup k = some x → (k, x) ∈ xs
  | [], h => by cases h
  | q :: xs, h => by
    rw [List.lookup_cons] at h
    cases e : k == q.1 with
    | true =>
      rw [e] at h
      cases h
      have : k = q.1 := by simpa using e
      subst this
      exact List.mem_cons_self
    | false =>
      rw [e] at h
      exact List.mem_cons_of_mem _ (look_mem h)
theorem Lw.has_get {L : Lw} {c : Nat} (h : L.has c = true) : ∃ x, (c, x) ∈ L.cls ∧ L.cls.lookup c = some x := by
  obtain ⟨x, hx⟩ := Option.isSome_iff_exists.mp h
  exact ⟨x, look_mem hx, hx⟩
def dvP : P → He.Dv
  | .bl b => .bl b
  | .int i => .int i
  | .str x => .str x
  | _ => .non
def smp : P → Bool
  | .non => true
  | .bl _ => true
  | .int _ => true
  | .str _ => true
  | _ => false
theorem dvP_ok {g : Gx} {K : PySem.W.Frag} (F : Hp) : ∀ {ps : List P}, ps.all smp = true → RPs g F ((ps.map dvP).map (He.Dv.v K)) ps
  | [], _ => .nil
  | p :: ps, h => by
    simp only [List.all_cons, Bool.and_eq_true] at h
    refine .cons ?_ (dvP_ok F h.2)
    cases p with
    | non => exact .non
    | bl b => exact .bl b
    | int i => exact .int i
    | str x => exact .str x
    | _ => cases h.1
/-- where a property's getter stands -/
def pAd (K : PySem.W.Frag) (C : Addr) (m : Str) : Addr := match PySem.W.recIn K (He.ma K C m) "property" with
  | some (.ref g :: _) => g
  | _ => 0
def Df.ad (K : PySem.W.Frag) (d : Df) : Addr := match d.ent.kd with
  | .prop _ => pAd K (He.ga K d.at_.1) d.ent.name
  | _ => He.fAd K d.at_
def fnA (K : PySem.W.Frag) (a : Addr) : He.FnW := match K.lookup a with
  | some o => match o.data with
    | .func q => some (q.name, q.qualname, q.params, q.body, q.scope, q.globals, q.closure, q.builtins)
    | _ => none
  | none => none
def okA (K : PySem.W.Frag) (a : Addr) (d : He.DefD) : Bool := PySem.W.keepIn K (.ref a) && (match K.lookup a with
  | some o => match o.data with
    | .func q => PySem.W.codeIn K q.code d.qual && (He.dflB K q.defaults (d.dvs K) && He.kwdB K q.kwdefaults (d.kws K))
    | _ => false
  | none => false)
theorem funA {K : PySem.W.Frag} {a : Addr} {d : He.DefD} (e : fnA K a = d.val) (c : okA K a d = true) : ∃ fd, FunD K d.name d.qual d.params d.body d.scope (d.dvs K) (d.kws K) a fd := by
  unfold okA at c
  rw [Bool.and_eq_true] at c
  obtain ⟨kp, c2⟩ := c
  unfold fnA at e
  cases q : K.lookup a with
  | none => rw [q] at c2; cases c2
  | some o =>
    obtain ⟨oc, od, dt, osl⟩ := o
    rw [q] at c2 e
    cases dt with
    | func fd =>
      obtain ⟨m1, m2, m3, m4, m5, m6, m7, m8, m9, m10, m11, m12, m13, m14, m15⟩ := fd
      have e2 : (some (m1, m2, m3, m4, m5, m6, m7, m15) : He.FnW) = some (d.name, d.qual, d.params, .stmts d.body, d.scope, mainGlobals, [], builtinsNs) := e
      simp only [Option.some.injEq, Prod.mk.injEq] at e2
      obtain ⟨rfl, rfl, rfl, rfl, rfl, rfl, rfl, rfl⟩ := e2
      simp only [Bool.and_eq_true] at c2
      exact ⟨_, ⟨oc, od, m8, m9, m10, m11, m12, m13, m14, osl, rfl, q, c2.1, He.dflB_ok c2.2.1, He.kwdB_ok c2.2.2⟩, kp⟩
    | _ => cases c2
def Df.dd (d : Df) : He.DefD := ⟨d.at_, d.name, d.qual, defArgs d.st, defBody d.st, defScope d.st, d.ent.dfl.map dvP, d.ent.kwd.map fun q => (q.1, dvP q.2)⟩
/-- the arguments are bound as they stand -/
structure BndOk (name qual : Str) (params : Arguments) (body : List Stmt) (scope : Scope) (ps : List Str) (nd : Nat) : Prop where
  z : nd = 0 → ∀ (kV doc pm : Value) (an : Option Addr) (cdv ct : Value) (us : List Value), us.length = ps.length → bindArgs (PySem.W.fnOf name qual params body scope .none kV doc pm an cdv ct) ⟨us, []⟩ = pure (ps.zip us)
  s : nd ≠ 0 → ∀ (j : Nat), j ≤ nd → ∀ (T : Addr) (kV doc pm : Value) (an : Option Addr) (cdv ct : Value) (us its : List Value), us.length + (nd - j) = ps.length → its.length = nd →
    ∃ k, bindArgs (PySem.W.fnOf name qual params body scope (.ref T) kV doc pm an cdv ct) ⟨us, []⟩ = seqItems? (.ref T) >>= k ∧ k (some its.toArray) = pure (ps.zip (us ++ its.drop j))
/-- keyword-only defaults by number -/
def kwAt (d : Df) (mi : List Nat) : List (Str × P) := mi.filterMap fun i => d.ent.kwd[i]?
structure ShB (d : Df) (s : KSh) (mi : List Nat) : Prop where
  lf : (kwAt d mi).map (·.2) = lefts s.src
  ch : ∀ (D : Addr) (doc pm : Value) (an : Option Addr) (cdv ct : Value) (us mv ws : List Value), us.length = s.n → mv.length = (kwAt d mi).length → ws.length = s.ks.length →
    KwChain D (((kwAt d mi).map (·.1)).zip mv) (bindArgs (PySem.W.fnOf d.name d.qual (defArgs d.st) (defBody d.st) (defScope d.st) .none (.ref D) doc pm an cdv ct) ⟨us, s.ks.zip ws⟩) (d.ent.ps.zip (us ++ pick s.src mv ws))
def BOk (d : Df) : Prop := (d.ent.shp = [] → BndOk d.name d.qual (defArgs d.st) (defBody d.st) (defScope d.st) d.ent.ps d.ent.dfl.length ∧ d.ent.dfl.length ≤ d.ent.ps.length) ∧ ∀ s ∈ d.ent.shp, ∃ mi, ShB d s mi
/-- the text of a def, looked at without a state -/
def txtB (T : Tb) (d : Df) : Bool :=
  let sc := defScope d.st
  (match d.ent.shp with
    | [] => d.ent.kwd.isEmpty
    | _ :: _ => d.ent.dfl.isEmpty && (!d.ent.kwd.isEmpty && ((d.ent.kwd.all fun q => smp q.2) && (match d.ent.kd with
      | .init _ => true
      | _ => false)))) && (
  decide (sc.kind = .function) && (decide (sc.isCoroutine = false) && (decide (sc.isGenerator = false) && (decide d.N.Nodup && (decide (d.N.take d.ent.ps.length = d.ent.ps) && ((d.ent.ps.all fun x => locB sc x) && ((sc.names.all fun y => !(y.2 == .free)) && ((d.N.all fun x => !dbgB x) &&
  (decide (d.fd.n = d.N.length) && (decide (d.fd.ps = d.ent.ps.length) && (d.ent.dfl.all smp && (decide (1 ≤ d.ent.lvl) && (!(d.ent.name == ("__debug__" : Str)) && (match d.ent.kd with
    | .fn => decide (d.at_ = (d.ent.name, none))
    | .meth c => (T.cls.lookup c).isSome && decide (d.at_ = ((T.cls.lookup c).getD "", some d.ent.name))
    | .init c => (T.cls.lookup c).isSome && (decide (d.ent.name = (T.cls.lookup c).getD "") && decide (d.at_ = ((T.cls.lookup c).getD "", some ("__init__" : Str))))
    | .prop c => (T.cls.lookup c).isSome && decide (d.at_ = ((T.cls.lookup c).getD "", some d.ent.name))) && mSs T ⟨d.N, sc, fun _ => true, d.ent.lvl - 1⟩ d.fd.body (defBody d.st))))))))))))))
structure TxtOk (T : Tb) (d : Df) : Prop where
  sc : FnScope d.N d.ent.ps (defScope d.st)
  dbg : ∀ x ∈ d.N, dbgB x = false
  n : d.fd.n = d.N.length
  ps : d.fd.ps = d.ent.ps.length
  dfl : d.ent.dfl.all smp = true
  lvl : 1 ≤ d.ent.lvl
  nm : (d.ent.name == ("__debug__" : Str)) = false
  kd : match d.ent.kd with
    | .fn => d.at_ = (d.ent.name, none)
    | .meth c => (T.cls.lookup c).isSome = true ∧ d.at_ = ((T.cls.lookup c).getD "", some d.ent.name)
    | .init c => (T.cls.lookup c).isSome = true ∧ d.ent.name = (T.cls.lookup c).getD "" ∧ d.at_ = ((T.cls.lookup c).getD "", some ("__init__" : Str))
    | .prop c => (T.cls.lookup c).isSome = true ∧ d.at_ = ((T.cls.lookup c).getD "", some d.ent.name)
  sh : (d.ent.shp = [] ∧ d.ent.kwd = []) ∨ (d.ent.shp ≠ [] ∧ d.ent.dfl = [] ∧ d.ent.kwd ≠ [] ∧ (∀ q ∈ d.ent.kwd, smp q.2 = true) ∧ ∃ c, d.ent.kd = .init c)
  txt : mSs T ⟨d.N, defScope d.st, fun _ => true, d.ent.lvl - 1⟩ d.fd.body (defBody d.st) = true
theorem txt_ok {T : Tb} {d : Df} (h : txtB T d = true) : TxtOk T d := by
  unfold txtB at h
  simp only [Bool.and_eq_true, decide_eq_true_eq, List.all_eq_true, Bool.not_eq_true'] at h
  obtain ⟨h0, h1, h2, h3, h4, h5, h6, h7, h8, h9, h10, h11, h12, ⟨h13, h14⟩, h15⟩ := h
  refine ⟨⟨h1, h2, h3, h4, h5, fun x hx => ?_, fun y hy z => ?_⟩, h8, h9, h10, ?_, h12, h13, ?_, ?_, h15⟩
  · exact locB_ok (h6 x hx)
  · have := h7 y hy
    rw [z] at this
    cases this
  · exact List.all_eq_true.mpr h11
  · cases q : d.ent.kd with
    | fn => rw [q] at h14; exact of_decide_eq_true h14
    | meth c => rw [q] at h14; simp only [Bool.and_eq_true, decide_eq_true_eq] at h14; exact h14
    | init c => rw [q] at h14; simp only [Bool.and_eq_true, decide_eq_true_eq] at h14; exact h14
    | prop c => rw [q] at h14; simp only [Bool.and_eq_true, decide_eq_true_eq] at h14; exact h14
  · cases q : d.ent.shp with
    | nil => rw [q] at h0; exact .inl ⟨rfl, List.isEmpty_iff.mp h0⟩
    | cons a r =>
      rw [q] at h0
      simp only [Bool.and_eq_true, Bool.not_eq_true', List.all_eq_true] at h0
      obtain ⟨a1, a2, a3, a4⟩ := h0
      refine .inr ⟨by simp, List.isEmpty_iff.mp a1, fun z => ?_, a3, ?_⟩
      · rw [z] at a2; cases a2
      · cases z : d.ent.kd with
        | init c => exact ⟨c, rfl⟩
        | _ => rw [z] at a4; cases a4
/-! ### the head's facts -/
def eqV (a b : Option (Option Value)) : Bool := decide (a = b)
def eqB (a b : Option Bool) : Bool := decide (a = b)
def conB (K : PySem.W.Frag) (q : Str × P) : Bool := !(q.1 == ("__debug__" : Str)) && (match PySem.W.nsIn K mainGlobals q.1 with
  | some (some u) => smp q.2 && He.relB ((dvP q.2).v K) u
  | _ => false)
def clsB (L : Lw) (K : PySem.W.Frag) (c : Nat) : Bool :=
  let x := L.cn c
  let C := He.ga K x
  (He.Fa.glo x).ok K && ((He.Fa.cls x).ok K && (!(x == ("__debug__" : Str)) && (eqV (PySem.W.findIn K (.ref C) "__class__") (some (some (.builtin "object.__class__"))) && (eqB (PySem.W.mroIn K C (.type "object")) (some true) &&
  (((L.cls ++ L.xcs).all fun q => eqB (PySem.W.kitOne K (.ref C) (.ref (He.ga K (L.cn q.1)))) (some (decide (c = q.1)))) && ((NT.all fun n => eqB (PySem.W.kitOne K (.type n) (.ref C)) (some false)) && ((NT.all fun n => eqB (PySem.W.kitOne K (.ref C) (.type n)) (some false)) &&
  ((L.cf c).all fun f => (He.Fa.noat x f).ok K))))))))
def xclB (L : Lw) (K : PySem.W.Frag) (c : Nat) : Bool :=
  let x := L.cn c
  let C := He.ga K x
  (He.Fa.glo x).ok K && (xeB K C && (!(x == ("__debug__" : Str)) && (((L.cls ++ L.xcs).all fun q => eqB (PySem.W.kitOne K (.ref C) (.ref (He.ga K (L.cn q.1)))) (some (xsub c q.1))) && ((NT.all fun n => eqB (PySem.W.kitOne K (.type n) (.ref C)) (some false)) && ((NT.all fun n => eqB (PySem.W.kitOne K (.ref C) (.type n)) (some false)) &&
  ((L.xcs.all fun q => eqB (PySem.W.exmOne K (.ref C) (.ref (He.ga K (L.cn q.1)))) (some (xsub c q.1))) && (((L.cf c).all fun f => eqV (PySem.W.findIn K (.ref C) f) (some none)) && eqB (PySem.W.kitOne K (.ref C) (.type "ValueError")) (some true))))))))
def xsB (L : Lw) (K : PySem.W.Frag) : Bool := L.xin.isEmpty || (eqV (PySem.W.nsIn K cStatics "thirdparty.any") (some none) && (eqV (PySem.W.nsIn K mainGlobals "super") (some none) && L.xin.all fun x => xiB K L.file x))
def staB (L : Lw) (K : PySem.W.Frag) : Bool :=
  (BL.all fun n => (He.Fa.free n).ok K) && ((L.consts.all (conB K)) && (eqV (PySem.W.specialIn K (.builtin "object.__class__") "__get__") (some (some (.builtin "getset_descriptor.__get__"))) && (eqB (PySem.W.takesIn K (.builtin "object.__class__")) (some true) &&
  ((L.cls.all fun q => clsB L K q.1) && ((L.flds.all fun f => L.cls.all fun q => (He.Fa.noat (L.cn q.1) f).ok K) && ((L.xcs.all fun q => xclB L K q.1) && (xsB L K && ((L.nes.all fun c => eqV (PySem.W.findIn K (.ref (He.ga K (L.cn c))) "__ne__") (some (some (.builtin "object.__ne__")))) && L.xbs.all fun c => xbB K (He.ga K (L.cn c)) && (L.cf c).isEmpty))))))))
def propB (K : PySem.W.Frag) (x f : Str) : Bool :=
  let p := He.ma K (He.ga K x) f
  eqV (PySem.W.findIn K (.ref (He.ga K x)) f) (some (some (.ref p))) && (eqV (PySem.W.specialIn K (.ref p) "__get__") (some (some (.builtin "property.__get__"))) && (eqB (PySem.W.takesIn K (.ref p)) (some true) && (match PySem.W.recIn K p "property" with
    | some (.ref _ :: _) => true
    | _ => false)))
def defB (L : Lw) (K : PySem.W.Frag) (d : Df) : Bool := okA K (d.ad K) d.dd && (match d.ent.kd with
  | .fn => (He.Fa.glo d.ent.name).ok K
  | .meth c => (He.Fa.meth (L.cn c) d.ent.name).ok K
  | .init c => (He.Fa.mkr (L.cn c)).ok K && (He.Fa.glo (L.cn c)).ok K
  | .prop c => propB K (L.cn c) d.ent.name)
theorem propB_ok {K : PySem.W.Frag} {x f : Str} (h : propB K x f = true) : PropOf K (He.ga K x) f (He.ma K (He.ga K x) f) (pAd K (He.ga K x) f) := by
  unfold propB at h
  simp only [Bool.and_eq_true] at h
  obtain ⟨h1, h2, h3, h4⟩ := h
  refine ⟨of_decide_eq_true h1, of_decide_eq_true h2, of_decide_eq_true h3, ?_⟩
  unfold pAd
  split at h4
  · rename_i a r e
    rw [e]
    exact ⟨r, rfl⟩
  · cases h4
abbrev AlM : Type := Bool × List He.FnW × List XW
def obsM (L : Lw) (K : PySem.W.Frag) : AlM := (staB L K && L.defs.all (fun q => defB L K q.2), L.defs.map (fun q => fnA K (q.2.ad K)), L.xin.map fun x => xW K x.nm)
def valM (L : Lw) : AlM := (true, L.defs.map (fun q => q.2.dd.val), L.xin.map Xi.val)
def SaysM (L : Lw) (K : PySem.W.Frag) : Prop := obsM L K = valM L
section
variable {L : Lw} {K : PySem.W.Frag} {h : Heap} {mg : Str → Option Value}
theorem cn_get {c : Nat} (h : L.has c = true) : (L.T.cls.lookup c).getD "" = L.cn c := by
  obtain ⟨x, _, e⟩ := Lw.has_get h
  show (L.cls.lookup c).getD "" = (L.cls.lookup c).getD _
  rw [e]
  rfl
theorem cn_x (O : L.Xok) {c : Nat} {n : Str} (h : L.xcs.lookup c = some n) : L.cn c = n := by
  unfold Lw.cn
  rw [O.dis c n h, h]
  rfl
theorem has_T {c : Nat} : (L.T.cls.lookup c).isSome = L.has c := by
  rfl
/-- what the program must be -/
structure Lw.Pok (L : Lw) (P : Program) : Prop where
  top : (P.main.scope.names.lookup ("super" : Str)).isSome = false
  file : ((P.main.file : Str) == L.file) = true
theorem kc_get {L : Lw} {K : PySem.W.Frag} {c : Nat} (h : (L.g K).kc c = true) : ∃ x, (c, x) ∈ L.cls ++ L.xcs := by
  have h : (L.has c || L.hasX c) = true := h
  rw [Bool.or_eq_true] at h
  rcases h with h | h
  · obtain ⟨x, hx, _⟩ := Lw.has_get h
    exact ⟨x, List.mem_append_left _ hx⟩
  · obtain ⟨x, hx⟩ := Option.isSome_iff_exists.mp h
    exact ⟨x, List.mem_append_right _ (look_mem hx)⟩
theorem sta_ok {P : Program} (O : L.Xok) (hP : L.Pok P) (c : SaysM L K) (X : K.In h) (G : h.Ns mainGlobals mg) (Φ : Nat → Fn) : Sta (L.g K) ⟨L.cf, Φ⟩ L.T P mg := by
  have c1 := (He.ba (show (staB L K && L.defs.all (fun q => defB L K q.2)) = true from congrArg (fun z : AlM => z.1) c)).1
  have cx : L.xin.map (fun x => xW K x.nm) = L.xin.map Xi.val := congrArg (fun z : AlM => z.2.2) c
  unfold staB at c1
  simp only [Bool.and_eq_true, List.all_eq_true] at c1
  obtain ⟨h1, h2, h3, h4, h5, h6, h7, h8, h9, h10⟩ := c1
  have hcl : ∀ c, L.has c = true → clsB L K c = true := fun c hc => by
    obtain ⟨x, hx, _⟩ := Lw.has_get hc
    exact h5 _ hx
  have hxl : ∀ c, L.hasX c = true → xclB L K c = true := fun c hc => by
    obtain ⟨x, hx⟩ := Option.isSome_iff_exists.mp hc
    exact h7 _ (look_mem hx)
  have cl : ∀ c, L.has c = true → (mg (L.cn c) = some (.ref (He.ga K (L.cn c))) ∧ Cls K (He.ga K (L.cn c)) ∧ ((L.cn c) == ("__debug__" : Str)) = false ∧ PySem.W.findIn K (.ref (He.ga K (L.cn c))) "__class__" = some (some (.builtin "object.__class__")) ∧ PySem.W.mroIn K (He.ga K (L.cn c)) (.type "object") = some true ∧
      (∀ c', (L.g K).kc c' = true → PySem.W.kitOne K (.ref (He.ga K (L.cn c))) (.ref (He.ga K (L.cn c'))) = some (decide (c = c'))) ∧ (∀ n ∈ NT, PySem.W.kitOne K (.type n) (.ref (He.ga K (L.cn c))) = some false) ∧ (∀ n ∈ NT, PySem.W.kitOne K (.ref (He.ga K (L.cn c))) (.type n) = some false) ∧ ∀ f ∈ L.cf c, NoAttr K (He.ga K (L.cn c)) f) := by
    intro c hc
    have z := hcl c hc
    unfold clsB at z
    simp only [Bool.and_eq_true, List.all_eq_true, Bool.not_eq_true'] at z
    obtain ⟨z1, z2, z3, z4, z5, z6, z7, z8, z9⟩ := z
    exact ⟨He.glo_ok X G z1, He.cls_ok z2, z3, of_decide_eq_true z4, of_decide_eq_true z5, fun c' hc' => by
      obtain ⟨x, hx⟩ := kc_get hc'
      exact of_decide_eq_true (z6 _ hx), fun n hn => of_decide_eq_true (z7 n hn), fun n hn => of_decide_eq_true (z8 n hn), fun f hf => He.noat_ok (z9 f hf)⟩
  have xl : ∀ c, L.hasX c = true → (mg (L.cn c) = some (.ref (He.ga K (L.cn c))) ∧ xeB K (He.ga K (L.cn c)) = true ∧ ((L.cn c) == ("__debug__" : Str)) = false ∧
      (∀ c', (L.g K).kc c' = true → PySem.W.kitOne K (.ref (He.ga K (L.cn c))) (.ref (He.ga K (L.cn c'))) = some (xsub c c')) ∧ (∀ n ∈ NT, PySem.W.kitOne K (.type n) (.ref (He.ga K (L.cn c))) = some false) ∧ (∀ n ∈ NT, PySem.W.kitOne K (.ref (He.ga K (L.cn c))) (.type n) = some false) ∧
      (∀ c', L.hasX c' = true → PySem.W.exmOne K (.ref (He.ga K (L.cn c))) (.ref (He.ga K (L.cn c'))) = some (xsub c c')) ∧ (∀ f ∈ L.cf c, PySem.W.findIn K (.ref (He.ga K (L.cn c))) f = some none) ∧ PySem.W.kitOne K (.ref (He.ga K (L.cn c))) (.type "ValueError") = some true) := by
    intro c hc
    have z := hxl c hc
    unfold xclB at z
    simp only [Bool.and_eq_true, List.all_eq_true, Bool.not_eq_true'] at z
    obtain ⟨z1, z2, z3, z6, z7, z8, z9, z10, z11⟩ := z
    exact ⟨He.glo_ok X G z1, z2, z3, fun c' hc' => by
      obtain ⟨x, hx⟩ := kc_get hc'
      exact of_decide_eq_true (z6 _ hx), fun n hn => of_decide_eq_true (z7 n hn), fun n hn => of_decide_eq_true (z8 n hn), fun c' hc' => by
      obtain ⟨x, hx⟩ := Option.isSome_iff_exists.mp hc'
      exact of_decide_eq_true (z9 _ (look_mem hx)), fun f hf => of_decide_eq_true (z10 f hf), of_decide_eq_true z11⟩
  refine ⟨rfl, ⟨fun c hc => (cl c hc).2.1, fun c hc => (cl c hc).2.2.2.1, of_decide_eq_true h3, of_decide_eq_true h4, fun c hc => (cl c hc).2.2.2.2.1, fun c c' hc hc' => (cl c hc).2.2.2.2.2.1 c' hc', fun c n hc hn => ?_, fun c n hc hn => (cl c hc).2.2.2.2.2.2.2.1 n hn, fun c f hc hf => (cl c hc).2.2.2.2.2.2.2.2 f hf,
    fun c hc => xeB_ok (xl c hc).2.1, fun c c' hc hc' => (xl c hc).2.2.2.1 c' hc', fun c n hc hn => (xl c hc).2.2.2.2.2.1 n hn, fun c c' hc hc' => (xl c hc).2.2.2.2.2.2.1 c' hc', fun c f hc hf => (xl c hc).2.2.2.2.2.2.2.1 f (by rw [show L.cf c = [f] from hf]; simp), fun c hc => (xl c hc).2.2.2.2.2.2.2.2⟩, fun n hn => He.free_ok X G (h1 n hn), fun q hq => ?_, fun c n hn => ?_, fun f hf c hc => by
    obtain ⟨x, hx, _⟩ := Lw.has_get hc
    exact He.noat_ok (h6 f hf _ hx), fun c n hn => ?_, fun c f hf => ?_, fun c f hc hf => ?_, fun c hc => of_decide_eq_true (h9 c hc), fun c hc => ⟨xbB_ok (h10 c hc).1, List.isEmpty_iff.mp (h10 c hc).2⟩⟩
  · have hc : (L.has c || L.hasX c) = true := hc
    rw [Bool.or_eq_true] at hc
    rcases hc with hc | hc
    · exact (cl c hc).2.2.2.2.2.2.1 n hn
    · exact (xl c hc).2.2.2.2.1 n hn
  · have z := h2 q hq
    unfold conB at z
    simp only [Bool.and_eq_true, Bool.not_eq_true'] at z
    obtain ⟨z1, z2⟩ := z
    cases e : PySem.W.nsIn K mainGlobals q.1 with
    | none => rw [e] at z2; cases z2
    | some o =>
      rw [e] at z2
      cases o with
      | none => cases z2
      | some u =>
        simp only [Bool.and_eq_true] at z2
        refine ⟨(dvP q.2).v K, u, PySem.W.mg_of X G e, He.relB_ok z2.2, fun F => ?_, z1⟩
        have := dvP_ok (g := L.g K) (K := K) F (ps := [q.2]) (by simp [z2.1])
        cases this with
        | cons r _ => exact r
  · have hc : L.has c = true := by
      rw [← has_T, hn]
      rfl
    have e : L.cn c = n := by
      rw [← cn_get hc, hn]
      rfl
    refine ⟨hc, ?_, ?_⟩
    · rw [← e]; exact (cl c hc).1
    · rw [← e]; exact (cl c hc).2.2.1
  · have hn : L.xcs.lookup c = some n := hn
    have hc : L.hasX c = true := by
      unfold Lw.hasX
      rw [hn]
      rfl
    have e : L.cn c = n := cn_x O hn
    refine ⟨hc, ?_, ?_⟩
    · rw [← e]; exact (xl c hc).1
    · rw [← e]; exact (xl c hc).2.2.1
  · have hm := look_mem (show L.xfs.lookup c = some f from hf)
    unfold Lw.xfs at hm
    obtain ⟨x, hx, e⟩ := List.mem_map.mp hm
    cases e
    exact (O.xin x hx).2.1
  · obtain ⟨n, hn⟩ := Option.isSome_iff_exists.mp (show (L.xcs.lookup c).isSome = true from hc)
    have hf : L.cf c = [f] := hf
    obtain ⟨x, hx, rfl⟩ := O.all c n f hn hf
    obtain ⟨o1, o2, o3⟩ := O.xin x hx
    rw [o2] at hf
    cases hf
    have he : (L.xin.isEmpty || (eqV (PySem.W.nsIn K cStatics "thirdparty.any") (some none) && (eqV (PySem.W.nsIn K mainGlobals "super") (some none) && L.xin.all fun x => xiB K L.file x))) = true := h8
    have hne : L.xin.isEmpty = false := by
      cases hz : L.xin with
      | nil => rw [hz] at hx; cases hx
      | cons _ _ => rfl
    rw [hne, Bool.false_or] at he
    simp only [Bool.and_eq_true, List.all_eq_true] at he
    obtain ⟨e1, e2, e3⟩ := he
    have en : L.cn x.c = x.nm := cn_x O o1
    have xx := (xl x.c hc).2.1
    rw [en] at xx
    have := xi_ok (P := P) (e3 x hx) xx (List.map_inj_left.mp cx x hx) o3 (of_decide_eq_true e1) (of_decide_eq_true e2) hP.top hP.file
    refine ⟨He.ma K (He.ga K x.nm) "__init__", x.q, ?_⟩
    show PySem.OwnX.XTxt K P (He.ga K (L.cn x.c)) _ _ _
    rw [en]
    exact this
theorem def_get (c : SaysM L K) {j : Nat} {d : Df} (hj : L.defs.lookup j = some d) : defB L K d = true ∧ ∃ fd, FunD K d.name d.qual (defArgs d.st) (defBody d.st) (defScope d.st) ((d.ent.dfl.map dvP).map (He.Dv.v K)) (d.dd.kws K) (d.ad K) fd := by
  have c2 := (He.ba (show (staB L K && L.defs.all (fun q => defB L K q.2)) = true from congrArg (fun z : AlM => z.1) c)).2
  have e : (L.defs.map fun q => fnA K (q.2.ad K)) = L.defs.map fun q => q.2.dd.val := congrArg (fun z : AlM => z.2.1) c
  have hm := look_mem hj
  have e2 := List.map_inj_left.mp e _ hm
  have hb := List.all_eq_true.mp c2 _ hm
  refine ⟨hb, ?_⟩
  exact funA (d := d.dd) e2 (He.ba hb).1
theorem dfl_ok {g : Gx} (hK : g.K = K) {d : Df} {f : Addr} {fd : FuncData} (F : FunD K d.name d.qual (defArgs d.st) (defBody d.st) (defScope d.st) ((d.ent.dfl.map dvP).map (He.Dv.v K)) [] f fd) (hs : d.ent.dfl.all smp = true)
    (B : BndOk d.name d.qual (defArgs d.st) (defBody d.st) (defScope d.st) d.ent.ps d.ent.dfl.length) (hle : d.ent.dfl.length ≤ d.ent.ps.length) : DflOk g fd d.ent.ps d.ent.dfl := by
  intro n hn
  cases hz : d.ent.dfl with
  | nil =>
    rw [hz] at F hn B
    have : Binds K fd d.ent.ps [] := FunD.bindsN F (B.z rfl)
    exact ⟨[], [], by rw [hK]; exact this, .nil, fun F => by simp; exact .nil⟩
  | cons p ps =>
    rw [← hz]
    have hne : d.ent.dfl.length ≠ 0 := by rw [hz]; simp
    have hne' : (d.ent.dfl.map dvP).map (He.Dv.v K) ≠ [] := by rw [hz]; simp
    have hl : ((d.ent.dfl.map dvP).map (He.Dv.v K)).length = d.ent.dfl.length := by simp
    obtain ⟨ds, r, b⟩ := FunD.binds1 (ps := d.ent.ps) F (d.ent.ps.length - n) (d.ent.dfl.length - n) hne' (by rw [hl]; omega) (fun T kV doc pm an cdv ct us its h1 h2 => by
      rw [hl] at h2
      exact B.s hne (d.ent.dfl.length - n) (by omega) T kV doc pm an cdv ct us its (by omega) h2)
    refine ⟨_, ds, by rw [hK]; exact b, r, fun F => ?_⟩
    rw [← List.map_drop, ← List.map_drop]
    refine dvP_ok F ?_
    rw [List.all_eq_true] at hs ⊢
    exact fun x hx => hs x (List.mem_of_mem_drop hx)
theorem pick_vals {zs : List V} {ws : List Value} (rz : Vals zs ws) : ∀ {src : List (Sum P Nat)} {mz : List V} {mv : List Value}, Vals mz mv → Vals (pick src mz zs) (pick src mv ws)
  | [], _, _, _ => .nil
  | .inl x :: r, _, _, .nil => pick_vals rz (src := r) .nil
  | .inl x :: r, _, _, .cons a t => .cons a (pick_vals rz (src := r) t)
  | .inr j :: r, mz, mv, h => by
    have ih := pick_vals rz (src := r) h
    show Vals ((zs[j]?).toList ++ _) ((ws[j]?).toList ++ _)
    cases e : zs[j]? with
    | none =>
      have : ws[j]? = none := by
        rw [List.getElem?_eq_none_iff] at e ⊢
        rw [← rz.length]; exact e
      rw [this]
      exact ih
    | some d =>
      obtain ⟨v, e1, e2⟩ := Vals.get rz e
      rw [e1]
      exact .cons e2 ih
theorem ksh_ok {g : Gx} (hK : g.K = K) {d : Df} {f : Addr} {fd : FuncData} (F : FunD K d.name d.qual (defArgs d.st) (defBody d.st) (defScope d.st) [] (d.dd.kws K) f fd) (hs : ∀ q ∈ d.ent.kwd, smp q.2 = true) (hne : d.ent.kwd ≠ []) {s : KSh} {mi : List Nat} (B : ShB d s mi) : KShOk g fd d.ent.ps s := by
  have hm : ∀ q ∈ kwAt d mi, q ∈ d.ent.kwd := fun q hq => by
    unfold kwAt at hq
    obtain ⟨i, _, hi⟩ := List.mem_filterMap.mp hq
    exact List.mem_of_getElem? hi
  have ek : d.dd.kws K = d.ent.kwd.map fun q => (q.1, (dvP q.2).v K) := by
    show (d.ent.kwd.map fun q => (q.1, dvP q.2)).map (fun q => (q.1, q.2.v K)) = _
    rw [List.map_map]
    rfl
  have e1 : ((kwAt d mi).map fun q => (q.1, (dvP q.2).v K)).map (·.1) = (kwAt d mi).map (·.1) := by
    rw [List.map_map]; rfl
  have e2 : ((kwAt d mi).map fun q => (q.1, (dvP q.2).v K)).map (·.2) = (((kwAt d mi).map (·.2)).map dvP).map (He.Dv.v K) := by
    rw [List.map_map, List.map_map, List.map_map]; rfl
  obtain ⟨mv, kb⟩ := FunD.kbinds0 (ps := d.ent.ps) F s.n s.ks ((kwAt d mi).map fun q => (q.1, (dvP q.2).v K)) (fun us mv ws => us ++ pick s.src mv ws) (by rw [ek]; simpa using hne) (fun q hq => by
    obtain ⟨q0, h1, rfl⟩ := List.mem_map.mp hq
    rw [ek]
    exact List.mem_map.mpr ⟨q0, hm q0 h1, rfl⟩) (fun r1 r2 r3 => r1.append (pick_vals r3 r2)) (fun D doc pm an cdv ct us mv ws l1 l2 l3 => by
    rw [e1]
    exact B.ch D doc pm an cdv ct us mv ws l1 (by rw [l2, List.length_map]) l3)
  refine ⟨mv, _, by rw [hK]; exact kb, fun F => ?_⟩
  rw [e2, B.lf]
  refine dvP_ok F ?_
  rw [← B.lf, List.all_map, List.all_eq_true]
  exact fun q hq => hs q (hm q hq)
/-- every def of the table keeps its promise -/
theorem all_ok {P : Program} {w : World} {base : Heap} (O : L.Xok) (hP : L.Pok P) (c : SaysM L K) (X : K.In h) (G : h.Ns mainGlobals mg) (Φ : Nat → Fn)
    (hT : ∀ (j : Nat) (d : Df), L.defs.lookup j = some d → txtB L.T d = true) (hB : ∀ (j : Nat) (d : Df), L.defs.lookup j = some d → BOk d)
    (hΦ : ∀ (j : Nat) (d : Df), L.defs.lookup j = some d → ∀ ds M, Says (run ⟨L.cf, Φ⟩ d.fd ds M) (Φ j ds M)) :
    ∀ k j e, L.T.fns.lookup j = some e → e.lvl ≤ k → EntAll0 (L.g K) P w mg base (Φ j) e := by
  have St := sta_ok (P := P) O hP c X G Φ
  intro k
  induction k with
  | zero =>
    intro j e he hl
    rw [show L.T.fns.lookup j = (L.defs.lookup j).map (·.ent) from look_map Df.ent j L.defs, Option.map_eq_some_iff] at he
    obtain ⟨d, hd, rfl⟩ := he
    have := (txt_ok (hT j d hd)).lvl
    omega
  | succ k ih =>
    intro j e he hl
    rw [show L.T.fns.lookup j = (L.defs.lookup j).map (·.ent) from look_map Df.ent j L.defs, Option.map_eq_some_iff] at he
    obtain ⟨d, hd, rfl⟩ := he
    have tx := txt_ok (hT j d hd)
    obtain ⟨hb, fd, F⟩ := def_get c hd
    have hlv := tx.lvl
    obtain ⟨l, hl'⟩ : ∃ l, d.ent.lvl = l + 1 := ⟨d.ent.lvl - 1, by omega⟩
    have txt := tx.txt
    rw [hl', Nat.add_sub_cancel] at txt
    have fk : FnG P w (L.g K).K mg base (L2.CX P w) (l + 1) (d.ad K) fd d.ent.ps (spF (L.g K) (run ⟨L.cf, Φ⟩ d.fd) d.ent.ps.length) := body_ok (g := L.g K) St (fun j e h1 h2 => ih j e h1 (by omega)) F tx.sc tx.dbg txt tx.n tx.ps
    rw [← hl'] at fk
    have hk := tx.kd
    have hb2 := (He.ba hb).2
    rcases tx.sh with ⟨s1, s2⟩ | ⟨s1, s2, s3, s4, cc, s5⟩
    rotate_left
    · refine ⟨fun z => absurd z s1, fun _ => ⟨d.ad K, fd, cc, fk.imp (spF_says (hΦ j d hd)), fun s hs => ?_, s5, ?_⟩⟩
      · obtain ⟨mi, B⟩ := (hB j d hd).2 s hs
        rw [s2] at F
        exact ksh_ok rfl F s4 s3 B
      · have ha : d.ad K = He.fAd K d.at_ := by unfold Df.ad; rw [s5]
        rw [s5] at hk hb2
        simp only at hk hb2 ⊢
        have hc : L.has cc = true := by rw [← has_T]; exact hk.1
        have h2 := hk.2.2
        have h3 := hk.2.1
        rw [cn_get hc] at h2 h3
        obtain ⟨b1, b2⟩ := He.ba hb2
        rw [ha, h2]
        exact ⟨hc, by rw [h3]; exact He.glo_ok X G b2, He.mkr_ok b1, tx.nm⟩
    obtain ⟨B, hle⟩ := (hB j d hd).1 s1
    rw [show d.dd.kws K = [] by (show (d.ent.kwd.map _).map _ = []; rw [s2]; rfl)] at F
    refine ⟨fun _ => ⟨d.ad K, fd, fk.imp (spF_says (hΦ j d hd)), dfl_ok rfl F tx.dfl B hle, ?_⟩, fun z => absurd s1 z⟩
    cases q : d.ent.kd with
    | fn =>
      have ha : d.ad K = He.fAd K d.at_ := by unfold Df.ad; rw [q]
      rw [q] at hk hb2
      simp only at hk hb2 ⊢
      rw [ha, hk]
      exact ⟨He.glo_ok X G hb2, by have := F.kp; rw [ha, hk] at this; exact this, tx.nm⟩
    | meth cc =>
      have ha : d.ad K = He.fAd K d.at_ := by unfold Df.ad; rw [q]
      rw [q] at hk hb2
      simp only at hk hb2 ⊢
      have hc : L.has cc = true := by rw [← has_T]; exact hk.1
      have h2 := hk.2
      rw [cn_get hc] at h2
      rw [ha, h2]
      exact ⟨hc, He.meth_ok hb2⟩
    | prop cc =>
      have ha : d.ad K = pAd K (He.ga K d.at_.1) d.ent.name := by unfold Df.ad; rw [q]
      rw [q] at hk hb2
      simp only at hk hb2 ⊢
      have hc : L.has cc = true := by rw [← has_T]; exact hk.1
      have h2 := hk.2
      rw [cn_get hc] at h2
      rw [ha, h2]
      exact ⟨hc, _, propB_ok hb2⟩
    | init cc =>
      have ha : d.ad K = He.fAd K d.at_ := by unfold Df.ad; rw [q]
      rw [q] at hk hb2
      simp only at hk hb2 ⊢
      have hc : L.has cc = true := by rw [← has_T]; exact hk.1
      have h2 := hk.2.2
      have h3 := hk.2.1
      rw [cn_get hc] at h2 h3
      obtain ⟨b1, b2⟩ := He.ba hb2
      rw [ha, h2]
      exact ⟨hc, by rw [h3]; exact He.glo_ok X G b2, He.mkr_ok b1, tx.nm⟩
end
end Mi

set_option maxRecDepth 100000
set_option maxHeartbeats 4000000
/-! A law's end. -/
namespace Mi
open PySem PySem.Spec L2
def CXa : CXT := fun outer H s E u s' => ∃ P w, L2.CX P w outer H s E u s'
theorem toA {P : Program} {w : World} {K : PySem.W.Frag} {mg : Str → Option Value} {base : Heap} {k : Nat} {f : Addr} {fd : FuncData} {ps : List Str} {sp : Sp} (F : FnG P w K mg base (L2.CX P w) k f fd ps sp) : FnG P w K mg base CXa k f fd ps sp :=
  ⟨F.len, fun A outer s H args us vs Q E hr hgd e0 hb r hs => codeAny_mono (F.run A outer s H args us vs Q E hr hgd e0 hb r hs) fun r s' h => by
    cases r with
    | error e => exact ⟨P, w, h⟩
    | ok fl => cases fl <;> exact h⟩
theorem CXa_no (H : Hp) (s : Shared) (e : Value) (s' : Shared) (h : CXa [] H s (fun _ _ _ => False) e s') : False := by
  obtain ⟨P, w, a, B, H', cls, d, _, _, _, _, _, _, _, z⟩ := h
  exact z
/-- the law's function, at every script -/
def lawF (n : Nat) : Fn := fun ds M => match ds, M with
  | [.p (.scr ns)], [] => if ns.length ≤ n then .ok (.p (.bl true)) [] else .stuck
  | _, _ => .stuck
theorem law_sp {g : Gx} {n : Nat} {H : Hp} {a : Addr} {ns : List Int} (hl : ns.length ≤ n) (hS : SqL g.K H a (ns.map V.int)) : spF g (lawF n) 1 [.ref a] H (fun v _ => v = .bl true) fun _ _ _ => False := by
  refine ⟨rfl, H, [], [], [.p (.scr ns)], Rel.nil (fun _ _ e => e), .cons (.p (.scr hS)) .nil, ?_⟩
  simp only [lawF, if_pos hl]
  intro F' ι' H' _ _ v r
  cases r with
  | p r => cases r; rfl
end Mi

set_option maxRecDepth 100000
set_option maxHeartbeats 4000000
/-! What a def does, told by its arguments; loops. -/
namespace Mi
open PySem PySem.Spec L2
/-! ### promises by what is handed in -/
/-! ### loops -/
/-- over a range -/
theorem forL_nat {t : Tg} {f : Env → Sto → RS} (its : List D) (Rl : Nat → Env → Sto → Prop)
    (hs : ∀ i d ρ M, its[i]? = some d → Rl i ρ M → ∃ ρ1 ρ2 M2, bindT t d ρ = some ρ1 ∧ (f ρ1 M = .nx ρ2 M2 ∨ f ρ1 M = .ct ρ2 M2) ∧ Rl (i + 1) ρ2 M2) :
    ∀ (ρ : Env) (M : Sto), Rl 0 ρ M → ∃ ρ' M', forL t f its ρ M = .nx ρ' M' ∧ Rl its.length ρ' M' := by
  have key : ∀ (n i : Nat) (ρ : Env) (M : Sto), its.length = i + n → Rl i ρ M → ∃ ρ' M', forL t f (its.drop i) ρ M = .nx ρ' M' ∧ Rl its.length ρ' M' := by
    intro n
    induction n with
    | zero =>
      intro i ρ M h r
      have : its.drop i = [] := List.drop_eq_nil_of_le (by omega)
      rw [this]
      refine ⟨ρ, M, rfl, ?_⟩
      have e : its.length = i := by omega
      rw [e]; exact r
    | succ n ih =>
      intro i ρ M h r
      have hi : i < its.length := by omega
      rw [List.drop_eq_getElem_cons hi]
      obtain ⟨ρ1, ρ2, M2, e1, e2, h2⟩ := hs i its[i] ρ M (by simp [hi]) r
      obtain ⟨ρ', M', e3, h3⟩ := ih (i + 1) ρ2 M2 (by omega) h2
      refine ⟨ρ', M', ?_, h3⟩
      rcases e2 with e2 | e2 <;> simp only [forL, e1, e2, e3]
  intro ρ M r
  have := key its.length 0 ρ M (by omega) r
  rwa [List.drop_zero] at this
@[simp] theorem toPs_ints (ns : List Int) : toPs (ns.map fun n => D.p (.int n)) = some (ns.map P.int) := by
  induction ns with
  | nil => rfl
  | cons n ns ih => simp [toPs, ih]
theorem mulOk_l {i j : Int} (h : i.natAbs < 2 ^ 64) : mulOk i j = true := by
  simp only [mulOk, Bool.or_eq_true, decide_eq_true_eq]
  exact .inl (.inl h)
theorem mulOk_r {i j : Int} (h : j.natAbs < 2 ^ 64) : mulOk i j = true := by
  simp only [mulOk, Bool.or_eq_true, decide_eq_true_eq]
  exact .inl (.inr h)
theorem divOk_of {j : Int} (h0 : 0 < j) (h : j.natAbs < 2 ^ 256) : divOk j = true := by
  simp only [divOk, Bool.and_eq_true, decide_eq_true_eq]
  exact ⟨h0, Nat.lt_trans h (Nat.pow_lt_pow_right (by decide) (by decide))⟩
theorem atIn {α : Type} (xs : List α) (n : Nat) : L2.atI xs (n : Int) = xs[n]? := by
  unfold L2.atI L2.ixN
  rw [if_pos (Int.natCast_nonneg n)]
  by_cases h : n < xs.length
  · rw [if_pos (by omega)]; rfl
  · rw [if_neg (by omega)]
    simp
    omega
end Mi

set_option maxRecDepth 100000
set_option maxHeartbeats 4000000
/-! Reckoning with the text. -/
namespace Mi
open PySem PySem.Spec L2
/-- simp stays out of what a tag depends on -/
structure Tag {α : Type} (k : α) : Type where
  mk ::
def R.bd {α β : Type} (r : R α) (k : α → Sto → R β) (t : Tag k := ⟨⟩) : R β := r.bind k
def R.td {α : Type} (r : R α) (ρ : Env) (k : α → Sto → RS) (t : Tag k := ⟨⟩) : RS := r.th ρ k
def RS.bd (r : RS) (k : Env → Sto → RS) (t : Tag k := ⟨⟩) : RS := r.bind k
@[simp] theorem R.bd_ok {α β : Type} (a : α) (M : Sto) (k : α → Sto → R β) (t : Tag k) : (R.ok a M).bd k t = k a M := rfl
@[simp] theorem R.bd_stuck {α β : Type} (k : α → Sto → R β) (t : Tag k) : (R.stuck : R α).bd k t = .stuck := rfl
@[simp] theorem R.bd_exc {α β : Type} (c : Nat) (v : D) (M : Sto) (k : α → Sto → R β) (t : Tag k) : (R.exc c v M : R α).bd k t = .exc c v M := rfl
@[simp] theorem R.td_ok {α : Type} (a : α) (M : Sto) (ρ : Env) (k : α → Sto → RS) (t : Tag k) : (R.ok a M).td ρ k t = k a M := rfl
@[simp] theorem R.td_stuck {α : Type} (ρ : Env) (k : α → Sto → RS) (t : Tag k) : (R.stuck : R α).td ρ k t = .stuck := rfl
@[simp] theorem R.td_exc {α : Type} (c : Nat) (v : D) (M : Sto) (ρ : Env) (k : α → Sto → RS) (t : Tag k) : (R.exc c v M : R α).td ρ k t = .exc c v ρ M := rfl
@[simp] theorem RS.bd_nx (ρ : Env) (M : Sto) (k : Env → Sto → RS) (t : Tag k) : (RS.nx ρ M).bd k t = k ρ M := rfl
@[simp] theorem RS.bd_rt (d : D) (M : Sto) (k : Env → Sto → RS) (t : Tag k) : (RS.rt d M).bd k t = .rt d M := rfl
@[simp] theorem RS.bd_bk (ρ : Env) (M : Sto) (k : Env → Sto → RS) (t : Tag k) : (RS.bk ρ M).bd k t = .bk ρ M := rfl
@[simp] theorem RS.bd_ct (ρ : Env) (M : Sto) (k : Env → Sto → RS) (t : Tag k) : (RS.ct ρ M).bd k t = .ct ρ M := rfl
@[simp] theorem RS.bd_exc (c : Nat) (v : D) (ρ : Env) (M : Sto) (k : Env → Sto → RS) (t : Tag k) : (RS.exc c v ρ M).bd k t = .exc c v ρ M := rfl
@[simp] theorem RS.bd_stuck (k : Env → Sto → RS) (t : Tag k) : RS.stuck.bd k t = .stuck := rfl
def outR (cf : Nat → List Str) (md : Md) (M : Sto) (r : RS) : R D := match r with
  | .nx _ M' => outO (fin cf md M (.p .non) M')
  | .rt v M' => outO (fin cf md M v M')
  | .exc c v _ M' => outX c (fin cf (xmd md) M v M')
  | _ => .stuck
theorem run_out (g : Cg) (d : Fd) (ds : List D) (M : Sto) (h : ds.length = d.ps) : run g d ds M = outR g.cf d.md M (exs g d.body (startE d.n ds) M) := by
  unfold run
  rw [if_pos h]
  rfl
@[simp] theorem outR_nx (cf : Nat → List Str) (md : Md) (M : Sto) (ρ : Env) (M' : Sto) : outR cf md M (.nx ρ M') = outO (fin cf md M (.p .non) M') := rfl
@[simp] theorem outR_rt (cf : Nat → List Str) (md : Md) (M : Sto) (v : D) (M' : Sto) : outR cf md M (.rt v M') = outO (fin cf md M v M') := rfl
@[simp] theorem outR_exc (cf : Nat → List Str) (md : Md) (M : Sto) (c : Nat) (v : D) (ρ : Env) (M' : Sto) : outR cf md M (.exc c v ρ M') = outX c (fin cf (xmd md) M v M') := rfl
/-- no cell is walked -/
class PlainK (k : It) : Prop where
  h : ∀ ds, wat k ds = none
instance : PlainK .seq := ⟨fun _ => rfl⟩
instance : PlainK .rng1 := ⟨fun _ => rfl⟩
instance : PlainK .rng2 := ⟨fun _ => rfl⟩
instance : PlainK .rngL := ⟨fun _ => rfl⟩
instance : PlainK .enum := ⟨fun _ => rfl⟩
instance : PlainK .enumT := ⟨fun _ => rfl⟩
/-- a loop over the list of a cell -/
def loopM (g : Cg) (t : Tg) (b : List MS) (w : Option Nat) (o : Option (List D)) (ρ : Env) (M : Sto) : RS := match o with
  | some its => forK w t (fun ρ M => exs g b ρ M) its ρ M
  | none => .stuck
/-- a loop over these -/
def loop (g : Cg) (t : Tg) (b : List MS) (o : Option (List D)) (ρ : Env) (M : Sto) : RS := match o with
  | some its => forL t (fun ρ M => exs g b ρ M) its ρ M
  | none => .stuck
def whl (g : Cg) (t : ME) (b : List MS) (ρ : Env) (M : Sto) : RS := whileL (fun ρ M => evT g t ρ M) (fun ρ M => exs g b ρ M) WF ρ M
def cmpr (g : Cg) (t : Tg) (cond : Option ME) (e : ME) (o : Option (List D)) (ρ : Env) (M : Sto) : R (List D) := match o with
  | some its => compL (fun d M => match bindT t d (wipeE ρ (tgs t)) with
        | none => .stuck
        | some ρ' => (evTO g cond ρ' M).bind fun b M => match b with
          | true => (ev g e ρ' M).bind fun y M => .ok (some y) M
          | false => .ok none M) its [] M
  | none => .stuck
def iteS (g : Cg) (a b : List MS) (ρ : Env) (k : Bool) (M : Sto) : RS := match k with
  | true => exs g a ρ M
  | false => exs g b ρ M
section
variable (g : Cg) (ρ : Env) (M : Sto)
@[simp] theorem iteS_t (a b : List MS) : iteS g a b ρ true M = exs g a ρ M := rfl
@[simp] theorem iteS_f (a b : List MS) : iteS g a b ρ false M = exs g b ρ M := rfl
@[simp] theorem exs_nil : exs g [] ρ M = .nx ρ M := rfl
@[simp] theorem exs_cons (s : MS) (r : List MS) : exs g (s :: r) ρ M = (ex g s ρ M).bd fun ρ M => exs g r ρ M := rfl
@[simp] theorem ex_ex (e : ME) : ex g (.ex e) ρ M = (ev g e ρ M).td ρ fun _ M => .nx ρ M := rfl
@[simp] theorem ex_asg (t : Tg) (e : ME) : ex g (.asg t e) ρ M = (ev g e ρ M).td ρ fun d M => optE (bindT t d ρ) M := rfl
@[simp] theorem ex_par (is : List Nat) (es : List ME) : ex g (.par is es) ρ M = (evs g es ρ M).td ρ fun ds M => optE (setAll is ds ρ) M := rfl
@[simp] theorem ex_sub (o i e : ME) : ex g (.sub o i e) ρ M = (ev g e ρ M).td ρ fun d M => (ev g o ρ M).td ρ fun x M => (ev g i ρ M).td ρ fun y M => stoE (setIx x y d M) ρ := rfl
@[simp] theorem ex_setf (o : ME) (f : Str) (e : ME) : ex g (.setf o f e) ρ M = (ev g e ρ M).td ρ fun d M => (ev g o ρ M).td ρ fun x M => stoE (setF x f d M) ρ := rfl
def augK (x : D) (f : Str) (q : Option (Nat × Int)) (k : Nat × Int → RS) : RS := match q with
  | none => .stuck
  | some q => k q
@[simp] theorem augK_some (x : D) (f : Str) (q : Nat × Int) (k : Nat × Int → RS) : augK x f (some q) k = k q := rfl
@[simp] theorem ex_augf (o : ME) (f : Str) (e : ME) : ex g (.augf o f e) ρ M = (ev g o ρ M).td ρ fun x M => augK x f (augG x f M) fun q => (ev g e ρ M).td ρ fun y M => stoE (augP x f q y M) ρ := rfl
@[simp] theorem ex_ifs (t : ME) (a b : List MS) : ex g (.ifs t a b) ρ M = (evT g t ρ M).td ρ fun k M => iteS g a b ρ k M := rfl
@[simp] theorem ex_for (t : Tg) (k : It) [hk : PlainK k] (es : List ME) (b : List MS) : ex g (.for_ t k es b) ρ M = (evs g es ρ M).td ρ fun ds M => loop g t b (items k ds M) ρ M := by
  show (evs g es ρ M).th ρ _ = (evs g es ρ M).th ρ _
  congr 1
  funext ds M
  unfold loop
  cases items k ds M with
  | none => rfl
  | some its => simp only [hk.h]; rfl
@[simp] theorem ex_forM (t : Tg) (es : List ME) (b : List MS) : ex g (.for_ t .seqM es b) ρ M = (evs g es ρ M).td ρ fun ds M => loopM g t b (wat .seqM ds) (items .seqM ds M) ρ M := rfl
@[simp] theorem ex_whl (t : ME) (b : List MS) : ex g (.whl t b) ρ M = whl g t b ρ M := rfl
@[simp] theorem ex_ret0 : ex g (.ret none) ρ M = .rt (.p .non) M := rfl
@[simp] theorem ex_ret (e : ME) : ex g (.ret (some e)) ρ M = (ev g e ρ M).td ρ fun d M => .rt d M := rfl
@[simp] theorem ex_pass : ex g .pass ρ M = .nx ρ M := rfl
@[simp] theorem ex_brk : ex g .brk ρ M = .bk ρ M := rfl
@[simp] theorem ex_cont : ex g .cont ρ M = .ct ρ M := rfl
@[simp] theorem ex_rais (c : Nat) (e : ME) : ex g (.rais c e) ρ M = (ev g e ρ M).td ρ fun d M => .exc c d ρ M := rfl
@[simp] theorem ex_rais0 (c : Nat) : ex g (.rais0 c) ρ M = .exc c (.p .non) ρ M := rfl
@[simp] theorem ex_tryx (b : List MS) (k n x : Nat) : ex g (.tryx b k n x) ρ M = catchX g k n x (exs g b ρ M) := rfl
@[simp] theorem ex_never : ex g .never ρ M = .stuck := rfl
theorem ev_cmpr (m : Bool) (t : Tg) (k : It) [hk : PlainK k] (es : List ME) (cond : Option ME) (e : ME) : ev g (.comp m t k es cond e) ρ M = (evs g es ρ M).bind fun ds M => (cmpr g t cond e (items k ds M) ρ M).bind fun acc M => newL m acc M := by
  rw [ev_comp]
  congr 1
  funext ds M
  unfold cmpr
  cases items k ds M with
  | none => rfl
  | some its => simp only [hk.h]; rfl
@[simp high] theorem qev_comp (m : Bool) (t : Tg) (k : It) [hk : PlainK k] (es : List ME) (cond : Option ME) (e : ME) : ev g (.comp m t k es cond e) ρ M = (evs g es ρ M).bd fun ds M => (cmpr g t cond e (items k ds M) ρ M).bd fun acc M => newL m acc M := ev_cmpr g ρ M m t k es cond e
@[simp high] theorem qev_c (x : P) : ev g (.c x) ρ M = (.ok (.p x) M) := rfl
@[simp high] theorem qevT_c (x : P) : evT g (.c x) ρ M = (ev g (.c x) ρ M).bd fun x M => truR x M := rfl
@[simp high] theorem qev_v (i : Nat) : ev g (.v i) ρ M = (match ρ[i]? with
    | some (some d) => .ok d M
    | _ => .stuck) := rfl
@[simp high] theorem qevT_v (i : Nat) : evT g (.v i) ρ M = (ev g (.v i) ρ M).bd fun x M => truR x M := rfl
@[simp high] theorem qev_g (x : Str) (a : P) : ev g (.g x a) ρ M = (.ok (.p a) M) := rfl
@[simp high] theorem qevT_g (x : Str) (a : P) : evT g (.g x a) ρ M = (ev g (.g x a) ρ M).bd fun x M => truR x M := rfl
@[simp high] theorem qev_bin (op : BOp) (a b : ME) : ev g (.bin op a b) ρ M = ((ev g a ρ M).bd fun x M => (ev g b ρ M).bd fun y M => binop op x y M) := rfl
@[simp high] theorem qevT_bin (op : BOp) (a b : ME) : evT g (.bin op a b) ρ M = (ev g (.bin op a b) ρ M).bd fun x M => truR x M := rfl
@[simp high] theorem qev_neg (a : ME) : ev g (.neg a) ρ M = ((ev g a ρ M).bd fun x M => match x with
    | .p (.int i) => .ok (.p (.int (-i))) M
    | _ => .stuck) := rfl
@[simp high] theorem qevT_neg (a : ME) : evT g (.neg a) ρ M = (ev g (.neg a) ρ M).bd fun x M => truR x M := rfl
@[simp high] theorem qev_not (a : ME) : ev g (.not a) ρ M = ((ev g a ρ M).bd fun x M => (truR x M).bd fun b M => .ok (.p (.bl (!b))) M) := rfl
@[simp high] theorem qev_and (a b : ME) : ev g (.and a b) ρ M = ((ev g a ρ M).bd fun x M => (truR x M).bd fun k M => match k with
    | true => ev g b ρ M
    | false => .ok x M) := rfl
@[simp high] theorem qev_or (a b : ME) : ev g (.or a b) ρ M = ((ev g a ρ M).bd fun x M => (truR x M).bd fun k M => match k with
    | true => .ok x M
    | false => ev g b ρ M) := rfl
@[simp high] theorem qev_cmp (op : COp) (a b : ME) : ev g (.cmp op a b) ρ M = ((ev g a ρ M).bd fun x M => (ev g b ρ M).bd fun y M => lift (cmpop g.cf op x y M) M) := rfl
@[simp high] theorem qevT_cmp (op : COp) (a b : ME) : evT g (.cmp op a b) ρ M = (ev g (.cmp op a b) ρ M).bd fun x M => truR x M := rfl
@[simp high] theorem qev_chain (o1 o2 : COp) (a b c : ME) : ev g (.chain o1 o2 a b c) ρ M = ((ev g a ρ M).bd fun x M => (ev g b ρ M).bd fun y M => match cmpop g.cf o1 x y M with
    | some true => (ev g c ρ M).bd fun z M => lift (cmpop g.cf o2 y z M) M
    | some false => .ok (.p (.bl false)) M
    | none => .stuck) := rfl
@[simp high] theorem qevT_chain (o1 o2 : COp) (a b c : ME) : evT g (.chain o1 o2 a b c) ρ M = (ev g (.chain o1 o2 a b c) ρ M).bd fun x M => truR x M := rfl
@[simp high] theorem qev_ite (t a b : ME) : ev g (.ite t a b) ρ M = ((evT g t ρ M).bd fun k M => match k with
    | true => ev g a ρ M
    | false => ev g b ρ M) := rfl
@[simp high] theorem qevT_ite (t a b : ME) : evT g (.ite t a b) ρ M = (ev g (.ite t a b) ρ M).bd fun x M => truR x M := rfl
@[simp high] theorem qev_tup (es : List ME) : ev g (.tup es) ρ M = ((evs g es ρ M).bd fun ds M => match toPs ds with
    | some xs => .ok (.p (.tup xs)) M
    | none => .ok (.tup ds) M) := rfl
@[simp high] theorem qevT_tup (es : List ME) : evT g (.tup es) ρ M = (ev g (.tup es) ρ M).bd fun x M => truR x M := rfl
@[simp high] theorem qev_lst (m : Bool) (es : List ME) : ev g (.lst m es) ρ M = ((evs g es ρ M).bd fun ds M => newL m ds M) := rfl
@[simp high] theorem qevT_lst (m : Bool) (es : List ME) : evT g (.lst m es) ρ M = (ev g (.lst m es) ρ M).bd fun x M => truR x M := rfl
@[simp high] theorem qev_isS (a : ME) : ev g (.isS a) ρ M = ((ev g a ρ M).bd fun x M => lift (isIS x) M) := rfl
@[simp high] theorem qevT_isS (a : ME) : evT g (.isS a) ρ M = (ev g (.isS a) ρ M).bd fun x M => truR x M := rfl
@[simp high] theorem qev_xmk (c : Nat) (kw : Bool) (es : List ME) : ev g (.xmk c kw es) ρ M = ((evs g es ρ M).bd fun ds M => xmkR g.cf c ds M) := rfl
@[simp high] theorem qevT_xmk (c : Nat) (kw : Bool) (es : List ME) : evT g (.xmk c kw es) ρ M = (ev g (.xmk c kw es) ρ M).bd fun x M => truR x M := rfl
@[simp high] theorem qev_isVE (a : ME) : ev g (.isVE a) ρ M = ((ev g a ρ M).bd fun x M => lift (isVal x M) M) := rfl
@[simp high] theorem qevT_isVE (a : ME) : evT g (.isVE a) ρ M = (ev g (.isVE a) ρ M).bd fun x M => truR x M := rfl
@[simp high] theorem qev_srtI (a : ME) : ev g (.srtI a) ρ M = ((ev g a ρ M).bd fun x M => srtR x M) := rfl
@[simp high] theorem qevT_srtI (a : ME) : evT g (.srtI a) ρ M = (ev g (.srtI a) ρ M).bd fun x M => truR x M := rfl
@[simp high] theorem qev_sset (a : ME) : ev g (.sset a) ρ M = ((ev g a ρ M).bd fun x M => ssetR x M) := rfl
@[simp high] theorem qevT_sset (a : ME) : evT g (.sset a) ρ M = (ev g (.sset a) ρ M).bd fun x M => truR x M := rfl
@[simp high] theorem qev_dct0  : ev g (.dct0) ρ M = (.ok (.p (.dK [])) M) := rfl
@[simp high] theorem qevT_dct0  : evT g (.dct0) ρ M = (ev g (.dct0) ρ M).bd fun x M => truR x M := rfl
@[simp high] theorem qev_dsp (es : List ME) : ev g (.dsp es) ρ M = ((evs g es ρ (M ++ [.dK []])).bd fun ds M' => dspR M.length ds M') := rfl
@[simp high] theorem qevT_dsp (es : List ME) : evT g (.dsp es) ρ M = (ev g (.dsp es) ρ M).bd fun x M => truR x M := rfl
@[simp high] theorem qev_frz (a : ME) : ev g (.frz a) ρ M = ((ev g a ρ M).bd fun x M => frzD x M) := rfl
@[simp high] theorem qevT_frz (a : ME) : evT g (.frz a) ρ M = (ev g (.frz a) ρ M).bd fun x M => truR x M := rfl
@[simp high] theorem qev_isb (k : Bool) (f : Nat) (es : List ME) (dfl : List P) : ev g (.isb k f es dfl) ρ M = ((evs g es ρ M).bd fun ds M => isbR k (g.Φ f) (ds ++ dfl.map D.p) M) := rfl
@[simp high] theorem qevT_isb (k : Bool) (f : Nat) (es : List ME) (dfl : List P) : evT g (.isb k f es dfl) ρ M = (ev g (.isb k f es dfl) ρ M).bd fun x M => truR x M := rfl
@[simp high] theorem qev_dnew  : ev g (.dnew) ρ M = (.ok (.ref M.length) (M ++ [.dK []])) := rfl
@[simp high] theorem qevT_dnew  : evT g (.dnew) ρ M = (ev g (.dnew) ρ M).bd fun x M => truR x M := rfl
@[simp high] theorem qev_ix (a i : ME) : ev g (.ix a i) ρ M = ((ev g a ρ M).bd fun x M => (ev g i ρ M).bd fun y M => opt (ixD x y M) M) := rfl
@[simp high] theorem qevT_ix (a i : ME) : evT g (.ix a i) ρ M = (ev g (.ix a i) ρ M).bd fun x M => truR x M := rfl
@[simp high] theorem qev_sl (a : ME) (lo hi : Option ME) : ev g (.sl a lo hi) ρ M = ((ev g a ρ M).bd fun x M => (evO g lo ρ M).bd fun l M => match intO l with
    | none => .stuck
    | some l => (evO g hi ρ M).bd fun h M => match intO h with
      | none => .stuck
      | some h => opt (slD x l h M) M) := rfl
@[simp high] theorem qevT_sl (a : ME) (lo hi : Option ME) : evT g (.sl a lo hi) ρ M = (ev g (.sl a lo hi) ρ M).bd fun x M => truR x M := rfl
@[simp high] theorem qev_revM (a : ME) : ev g (.revM a) ρ M = ((ev g a ρ M).bd fun x M => revM x M) := rfl
@[simp high] theorem qevT_revM (a : ME) : evT g (.revM a) ρ M = (ev g (.revM a) ρ M).bd fun x M => truR x M := rfl
@[simp high] theorem qev_rev (a : ME) : ev g (.rev a) ρ M = ((ev g a ρ M).bd fun x M => opt (revD x M) M) := rfl
@[simp high] theorem qevT_rev (a : ME) : evT g (.rev a) ρ M = (ev g (.rev a) ρ M).bd fun x M => truR x M := rfl
@[simp high] theorem qev_fld (a : ME) (f : Str) : ev g (.fld a f) ρ M = ((ev g a ρ M).bd fun x M => opt (fldOf g.cf x f M) M) := rfl
@[simp high] theorem qevT_fld (a : ME) (f : Str) : evT g (.fld a f) ρ M = (ev g (.fld a f) ρ M).bd fun x M => truR x M := rfl
@[simp high] theorem qev_isi (a : ME) (t : Ty) : ev g (.isi a t) ρ M = ((ev g a ρ M).bd fun x M => lift (isTy x t M) M) := rfl
@[simp high] theorem qevT_isi (a : ME) (t : Ty) : evT g (.isi a t) ρ M = (ev g (.isi a t) ρ M).bd fun x M => truR x M := rfl
@[simp high] theorem qev_call (f : Nat) (m : Md) (es : List ME) (dfl : List P) : ev g (.call f m es dfl) ρ M = ((evs g es ρ M).bd fun ds M => callF m (g.Φ f) (ds ++ dfl.map D.p) M) := rfl
@[simp high] theorem qevT_call (f : Nat) (m : Md) (es : List ME) (dfl : List P) : evT g (.call f m es dfl) ρ M = (ev g (.call f m es dfl) ρ M).bd fun x M => truR x M := rfl
@[simp high] theorem qev_meth (c : Nat) (nm : Str) (f : Nat) (m : Md) (a : ME) (es : List ME) (dfl : List P) : ev g (.meth c nm f m a es dfl) ρ M = ((ev g a ρ M).bd fun x M => if isIns g.cf c nm x M = true then (evs g es ρ M).bd fun ds M => callF m (g.Φ f) (x :: (ds ++ dfl.map D.p)) M else .stuck) := rfl
@[simp high] theorem qevT_meth (c : Nat) (nm : Str) (f : Nat) (m : Md) (a : ME) (es : List ME) (dfl : List P) : evT g (.meth c nm f m a es dfl) ρ M = (ev g (.meth c nm f m a es dfl) ρ M).bd fun x M => truR x M := rfl
@[simp high] theorem qev_makeK (c f : Nat) (m : Md) (es kes : List ME) (src : List (Sum P Nat)) : ev g (.makeK c f m es kes src) ρ M = ((evs g es ρ M).bd fun ds M => (evs g kes ρ M).bd fun zs M => makeF g.cf c m (g.Φ f) (ds ++ pick src ((lefts src).map D.p) zs) M) := rfl
@[simp high] theorem qevT_makeK (c f : Nat) (m : Md) (es kes : List ME) (src : List (Sum P Nat)) : evT g (.makeK c f m es kes src) ρ M = (ev g (.makeK c f m es kes src) ρ M).bd fun x M => truR x M := rfl
@[simp high] theorem qev_make (c f : Nat) (m : Md) (es : List ME) (dfl : List P) : ev g (.make c f m es dfl) ρ M = ((evs g es ρ M).bd fun ds M => makeF g.cf c m (g.Φ f) (ds ++ dfl.map D.p) M) := rfl
@[simp high] theorem qevT_make (c f : Nat) (m : Md) (es : List ME) (dfl : List P) : evT g (.make c f m es dfl) ρ M = (ev g (.make c f m es dfl) ρ M).bd fun x M => truR x M := rfl
@[simp high] theorem qev_bi (b : Bi) (es : List ME) : ev g (.bi b es) ρ M = ((evs g es ρ M).bd fun ds M => bfn b ds M) := rfl
@[simp high] theorem qevT_bi (b : Bi) (es : List ME) : evT g (.bi b es) ρ M = (ev g (.bi b es) ρ M).bd fun x M => truR x M := rfl
@[simp high] theorem qev_mt (b : Mt) (a : ME) (es : List ME) : ev g (.mt b a es) ρ M = ((ev g a ρ M).bd fun x M => if mtTy b x M = true then (evs g es ρ M).bd fun ds M => mtd b x ds M else .stuck) := rfl
@[simp high] theorem qevT_mt (b : Mt) (a : ME) (es : List ME) : evT g (.mt b a es) ρ M = (ev g (.mt b a es) ρ M).bd fun x M => truR x M := rfl
@[simp high] theorem qev_lrng1 (m : Bool) (a : ME) : ev g (.lrng1 m a) ρ M = ((ev g a ρ M).bd fun x M => match items .rng1 [x] M with
    | some its => newL m its M
    | none => .stuck) := rfl
@[simp high] theorem qevT_lrng1 (m : Bool) (a : ME) : evT g (.lrng1 m a) ρ M = (ev g (.lrng1 m a) ρ M).bd fun x M => truR x M := rfl
@[simp high] theorem qev_lrng2 (m : Bool) (a b : ME) : ev g (.lrng2 m a b) ρ M = ((ev g a ρ M).bd fun x M => (ev g b ρ M).bd fun y M => match items .rng2 [x, y] M with
    | some its => newL m its M
    | none => .stuck) := rfl
@[simp high] theorem qevT_lrng2 (m : Bool) (a b : ME) : evT g (.lrng2 m a b) ρ M = (ev g (.lrng2 m a b) ρ M).bd fun x M => truR x M := rfl
@[simp high] theorem qevT_comp (m : Bool) (t : Tg) (k : It) (es : List ME) (cond : Option ME) (e : ME) : evT g (.comp m t k es cond e) ρ M = (ev g (.comp m t k es cond e) ρ M).bd fun x M => truR x M := rfl
@[simp high] theorem qevT_not (a : ME) : evT g (.not a) ρ M = (evT g a ρ M).bd fun b M => .ok (!b) M := rfl
@[simp high] theorem qevT_and (a b : ME) : evT g (.and a b) ρ M = (evT g a ρ M).bd fun k M => match k with
    | true => evT g b ρ M
    | false => .ok false M := rfl
@[simp high] theorem qevT_or (a b : ME) : evT g (.or a b) ρ M = (evT g a ρ M).bd fun k M => match k with
    | true => .ok true M
    | false => evT g b ρ M := rfl
@[simp high] theorem qev_prop (c : Nat) (nm : Str) (f : Nat) (a : ME) : ev g (.prop c nm f a) ρ M = ((ev g a ρ M).bd fun x M => propR g c nm f x M) := rfl
@[simp high] theorem qevT_prop (c : Nat) (nm : Str) (f : Nat) (a : ME) : evT g (.prop c nm f a) ρ M = (ev g (.prop c nm f a) ρ M).bd fun x M => truR x M := rfl
@[simp high] theorem qev_slm (a : ME) (lo hi : Option ME) : ev g (.slm a lo hi) ρ M = ((ev g a ρ M).bd fun x M => (evO g lo ρ M).bd fun l M => match intO l with
    | none => .stuck
    | some l => (evO g hi ρ M).bd fun h M => match intO h with
      | none => .stuck
      | some h => slM x l h M) := rfl
@[simp high] theorem qevT_slm (a : ME) (lo hi : Option ME) : evT g (.slm a lo hi) ρ M = (ev g (.slm a lo hi) ρ M).bd fun x M => truR x M := rfl
@[simp high] theorem qev_ocmp (op : COp) (fs : List (Nat × Nat)) (a b : ME) : ev g (.ocmp op fs a b) ρ M = ((ev g a ρ M).bd fun x M => (ev g b ρ M).bd fun y M => ocmpR g op fs x y M) := rfl
@[simp high] theorem qevT_ocmp (op : COp) (fs : List (Nat × Nat)) (a b : ME) : evT g (.ocmp op fs a b) ρ M = (ev g (.ocmp op fs a b) ρ M).bd fun x M => truR x M := rfl
@[simp high] theorem qevs_nil : evs g [] ρ M = .ok [] M := rfl
@[simp high] theorem qevs_cons (e : ME) (r : List ME) : evs g (e :: r) ρ M = (ev g e ρ M).bd fun x M => (evs g r ρ M).bd fun xs M => .ok (x :: xs) M := rfl
@[simp high] theorem qevO_none : evO g none ρ M = .ok none M := rfl
@[simp high] theorem qevO_some (e : ME) : evO g (some e) ρ M = (ev g e ρ M).bd fun x M => .ok (some x) M := rfl
@[simp high] theorem qevTO_none : evTO g none ρ M = .ok true M := rfl
@[simp high] theorem qevTO_some (e : ME) : evTO g (some e) ρ M = evT g e ρ M := rfl
end
theorem loop_nat {g : Cg} {t : Tg} {b : List MS} {its : List D} (Rl : Nat → Env → Sto → Prop) {ρ : Env} {M : Sto} (h0 : Rl 0 ρ M)
    (hs : ∀ i d ρ M, its[i]? = some d → Rl i ρ M → ∃ ρ1 ρ2 M2, bindT t d ρ = some ρ1 ∧ (exs g b ρ1 M = .nx ρ2 M2 ∨ exs g b ρ1 M = .ct ρ2 M2) ∧ Rl (i + 1) ρ2 M2) :
    ∃ ρ' M', loop g t b (some its) ρ M = .nx ρ' M' ∧ Rl its.length ρ' M' := forL_nat its Rl hs ρ M h0
@[simp] theorem items_seq (x : D) (M : Sto) : items .seq [x] M = itSeq x := rfl
@[simp] theorem items_r1 (x : D) (M : Sto) : items .rng1 [x] M = itR1 x := rfl
@[simp] theorem items_en (x : D) (M : Sto) : items .enum [x] M = itEn x := rfl
@[simp] theorem items_ent (x : D) (M : Sto) : items .enumT [x] M = itEnT x := rfl
@[simp] theorem items_r2 (x y : D) (M : Sto) : items .rng2 [x, y] M = itR2 x y := rfl
@[simp] theorem items_rL (x y : D) (M : Sto) : items .rngL [x, y] M = itRL x y := rfl
theorem itR1_ok {i : Int} {n : Nat} (h : i.toNat = n) (h1 : i ≤ 1000000) (h2 : -1000000 ≤ i) : itR1 (.p (.int i)) = some ((List.range n).map fun i => .p (.int (i : Nat))) := by
  unfold itR1
  rw [← h]
  exact if_pos ⟨h1, h2⟩
@[simp] theorem startE_e1 : type_of% @startE.eq_1 := @startE.eq_1
@[simp] theorem fin_e1 : type_of% @fin.eq_1 := @fin.eq_1
@[simp] theorem fin_e2 : type_of% @fin.eq_2 := @fin.eq_2
@[simp] theorem fin_e3 : type_of% @fin.eq_3 := @fin.eq_3
@[simp] theorem fin_e4 : type_of% @fin.eq_4 := @fin.eq_4
@[simp] theorem fin_e5 : type_of% @fin.eq_5 := @fin.eq_5
@[simp] theorem fin_e6 : type_of% @fin.eq_6 := @fin.eq_6
@[simp] theorem outO_e1 : type_of% @outO.eq_1 := @outO.eq_1
@[simp] theorem outO_e2 : type_of% @outO.eq_2 := @outO.eq_2
@[simp] theorem outX_e1 : type_of% @outX.eq_1 := @outX.eq_1
@[simp] theorem outX_e2 : type_of% @outX.eq_2 := @outX.eq_2
@[simp] theorem xmd_e1 : type_of% @xmd.eq_1 := @xmd.eq_1
@[simp] theorem xmd_e2 : type_of% @xmd.eq_2 := @xmd.eq_2
@[simp] theorem lift_e1 : type_of% @lift.eq_1 := @lift.eq_1
@[simp] theorem lift_e2 : type_of% @lift.eq_2 := @lift.eq_2
@[simp] theorem truR_e1 : type_of% @truR.eq_1 := @truR.eq_1
@[simp] theorem tru_e1 : type_of% @tru.eq_1 := @tru.eq_1
@[simp] theorem tru_e2 : type_of% @tru.eq_2 := @tru.eq_2
@[simp] theorem tru_e3 : type_of% @tru.eq_3 := @tru.eq_3
@[simp] theorem tru_e4 : type_of% @tru.eq_4 := @tru.eq_4
@[simp] theorem tru_e5 : type_of% @tru.eq_5 := @tru.eq_5
@[simp] theorem tru_e6 : type_of% @tru.eq_6 := @tru.eq_6
@[simp] theorem tru_e7 : type_of% @tru.eq_7 := @tru.eq_7
@[simp] theorem callF_e1 : type_of% @callF.eq_1 := @callF.eq_1
@[simp] theorem callF_e2 : type_of% @callF.eq_2 := @callF.eq_2
@[simp] theorem callF_e3 : type_of% @callF.eq_3 := @callF.eq_3
@[simp] theorem callF_e4 : type_of% @callF.eq_4 := @callF.eq_4
@[simp] theorem callF_e5 : type_of% @callF.eq_5 := @callF.eq_5
@[simp] theorem toPs_e1 : type_of% @toPs.eq_1 := @toPs.eq_1
@[simp] theorem toPs_e2 : type_of% @toPs.eq_2 := @toPs.eq_2
@[simp] theorem toPs_e3 : type_of% @toPs.eq_3 := @toPs.eq_3
@[simp] theorem cmpop_e1 : type_of% @cmpop.eq_1 := @cmpop.eq_1
@[simp] theorem cmpop_e2 : type_of% @cmpop.eq_2 := @cmpop.eq_2
@[simp] theorem cmpop_e3 : type_of% @cmpop.eq_3 := @cmpop.eq_3
@[simp] theorem cmpop_e4 : type_of% @cmpop.eq_4 := @cmpop.eq_4
@[simp] theorem cmpop_e5 : type_of% @cmpop.eq_5 := @cmpop.eq_5
@[simp] theorem cmpop_e6 : type_of% @cmpop.eq_6 := @cmpop.eq_6
@[simp] theorem cmpop_e7 : type_of% @cmpop.eq_7 := @cmpop.eq_7
@[simp] theorem cmpop_e8 : type_of% @cmpop.eq_8 := @cmpop.eq_8
@[simp] theorem cmpop_e9 : type_of% @cmpop.eq_9 := @cmpop.eq_9
@[simp] theorem cmpop_e10 : type_of% @cmpop.eq_10 := @cmpop.eq_10
@[simp] theorem cmpop_e11 : type_of% @cmpop.eq_11 := @cmpop.eq_11
@[simp] theorem cmpop_e12 : type_of% @cmpop.eq_12 := @cmpop.eq_12
@[simp] theorem cmpop_e13 : type_of% @cmpop.eq_13 := @cmpop.eq_13
@[simp] theorem cmpop_e14 : type_of% @cmpop.eq_14 := @cmpop.eq_14
@[simp] theorem cmpop_e15 : type_of% @cmpop.eq_15 := @cmpop.eq_15
@[simp] theorem isBl_e1 : type_of% @isBl.eq_1 := @isBl.eq_1
@[simp] theorem isBl_e2 : type_of% @isBl.eq_2 := @isBl.eq_2
@[simp] theorem cmpI_e1 : type_of% @cmpI.eq_1 := @cmpI.eq_1
@[simp] theorem cmpI_e2 : type_of% @cmpI.eq_2 := @cmpI.eq_2
@[simp] theorem opt_e1 : type_of% @opt.eq_1 := @opt.eq_1
@[simp] theorem opt_e2 : type_of% @opt.eq_2 := @opt.eq_2
@[simp] theorem optE_e1 : type_of% @optE.eq_1 := @optE.eq_1
@[simp] theorem optE_e2 : type_of% @optE.eq_2 := @optE.eq_2
@[simp] theorem stoE_e1 : type_of% @stoE.eq_1 := @stoE.eq_1
@[simp] theorem stoE_e2 : type_of% @stoE.eq_2 := @stoE.eq_2
@[simp] theorem ixD_e1 : type_of% @ixD.eq_1 := @ixD.eq_1
@[simp] theorem ixD_e2 : type_of% @ixD.eq_2 := @ixD.eq_2
@[simp] theorem ixD_e3 : type_of% @ixD.eq_3 := @ixD.eq_3
@[simp] theorem ixD_e4 : type_of% @ixD.eq_4 := @ixD.eq_4
@[simp] theorem ixD_e5 : type_of% @ixD.eq_5 := @ixD.eq_5
@[simp] theorem ixD_e6 : type_of% @ixD.eq_6 := @ixD.eq_6
@[simp] theorem bfn_e1 : type_of% @bfn.eq_1 := @bfn.eq_1
@[simp] theorem bfn_e2 : type_of% @bfn.eq_2 := @bfn.eq_2
@[simp] theorem bfn_e3 : type_of% @bfn.eq_3 := @bfn.eq_3
@[simp] theorem bfn_e4 : type_of% @bfn.eq_4 := @bfn.eq_4
@[simp] theorem bfn_e5 : type_of% @bfn.eq_5 := @bfn.eq_5
@[simp] theorem bfn_e6 : type_of% @bfn.eq_6 := @bfn.eq_6
@[simp] theorem bfn_e7 : type_of% @bfn.eq_7 := @bfn.eq_7
@[simp] theorem bfn_e8 : type_of% @bfn.eq_8 := @bfn.eq_8
@[simp] theorem bfn_e9 : type_of% @bfn.eq_9 := @bfn.eq_9
@[simp] theorem bfn_e10 : type_of% @bfn.eq_10 := @bfn.eq_10
@[simp] theorem bfn_e11 : type_of% @bfn.eq_11 := @bfn.eq_11
@[simp] theorem bfn_e12 : type_of% @bfn.eq_12 := @bfn.eq_12
@[simp] theorem bfn_e13 : type_of% @bfn.eq_13 := @bfn.eq_13
@[simp] theorem bfn_e14 : type_of% @bfn.eq_14 := @bfn.eq_14
@[simp] theorem bfn_e15 : type_of% @bfn.eq_15 := @bfn.eq_15
@[simp] theorem bfn_e16 : type_of% @bfn.eq_16 := @bfn.eq_16
@[simp] theorem bfn_e17 : type_of% @bfn.eq_17 := @bfn.eq_17
@[simp] theorem bfn_e18 : type_of% @bfn.eq_18 := @bfn.eq_18
@[simp] theorem bfn_e19 : type_of% @bfn.eq_19 := @bfn.eq_19
@[simp] theorem bfn_e20 : type_of% @bfn.eq_20 := @bfn.eq_20
@[simp] theorem newL_e1 : type_of% @newL.eq_1 := @newL.eq_1
@[simp] theorem newL_e2 : type_of% @newL.eq_2 := @newL.eq_2
@[simp] theorem binop_e1 : type_of% @binop.eq_1 := @binop.eq_1
@[simp] theorem binop_e2 : type_of% @binop.eq_2 := @binop.eq_2
@[simp] theorem binop_e3 : type_of% @binop.eq_3 := @binop.eq_3
@[simp] theorem binop_e4 : type_of% @binop.eq_4 := @binop.eq_4
@[simp] theorem binop_e5 : type_of% @binop.eq_5 := @binop.eq_5
@[simp] theorem binop_e6 : type_of% @binop.eq_6 := @binop.eq_6
@[simp] theorem binop_e7 : type_of% @binop.eq_7 := @binop.eq_7
@[simp] theorem binop_e8 : type_of% @binop.eq_8 := @binop.eq_8
@[simp] theorem binop_e9 : type_of% @binop.eq_9 := @binop.eq_9
@[simp] theorem binop_e10 : type_of% @binop.eq_10 := @binop.eq_10
@[simp] theorem binop_e11 : type_of% @binop.eq_11 := @binop.eq_11
@[simp] theorem binop_e12 : type_of% @binop.eq_12 := @binop.eq_12
@[simp] theorem binop_e13 : type_of% @binop.eq_13 := @binop.eq_13
@[simp] theorem binop_e14 : type_of% @binop.eq_14 := @binop.eq_14
@[simp] theorem binop_e15 : type_of% @binop.eq_15 := @binop.eq_15
@[simp] theorem binop_e16 : type_of% @binop.eq_16 := @binop.eq_16
@[simp] theorem binop_e17 : type_of% @binop.eq_17 := @binop.eq_17
@[simp] theorem bindT_e1 : type_of% @bindT.eq_1 := @bindT.eq_1
@[simp] theorem bindT_e2 : type_of% @bindT.eq_2 := @bindT.eq_2
@[simp] theorem bindT_e3 : type_of% @bindT.eq_3 := @bindT.eq_3
@[simp] theorem bindT_e4 : type_of% @bindT.eq_4 := @bindT.eq_4
@[simp] theorem bindT_e5 : type_of% @bindT.eq_5 := @bindT.eq_5
@[simp] theorem setAll_e1 : type_of% @setAll.eq_1 := @setAll.eq_1
@[simp] theorem setAll_e2 : type_of% @setAll.eq_2 := @setAll.eq_2
@[simp] theorem setAll_e3 : type_of% @setAll.eq_3 := @setAll.eq_3
@[simp] theorem itSeq_e1 : type_of% @itSeq.eq_1 := @itSeq.eq_1
@[simp] theorem itSeq_e2 : type_of% @itSeq.eq_2 := @itSeq.eq_2
@[simp] theorem itSeq_e3 : type_of% @itSeq.eq_3 := @itSeq.eq_3
@[simp] theorem itSeq_e4 : type_of% @itSeq.eq_4 := @itSeq.eq_4
@[simp] theorem itSeq_e5 : type_of% @itSeq.eq_5 := @itSeq.eq_5
@[simp] theorem itEn_e1 : type_of% @itEn.eq_1 := @itEn.eq_1
@[simp] theorem itEn_e2 : type_of% @itEn.eq_2 := @itEn.eq_2
@[simp] theorem itEn_e3 : type_of% @itEn.eq_3 := @itEn.eq_3
@[simp] theorem isNon_e1 : type_of% @isNon.eq_1 := @isNon.eq_1
@[simp] theorem isNon_e2 : type_of% @isNon.eq_2 := @isNon.eq_2
@[simp] theorem intO_e1 : type_of% @intO.eq_1 := @intO.eq_1
@[simp] theorem intO_e2 : type_of% @intO.eq_2 := @intO.eq_2
@[simp] theorem intO_e3 : type_of% @intO.eq_3 := @intO.eq_3
@[simp] theorem lstD_e1 : type_of% @lstD.eq_1 := @lstD.eq_1
@[simp] theorem lstD_e2 : type_of% @lstD.eq_2 := @lstD.eq_2
@[simp] theorem lstD_e3 : type_of% @lstD.eq_3 := @lstD.eq_3
@[simp] theorem dctD_e1 : type_of% @dctD.eq_1 := @dctD.eq_1
@[simp] theorem dctD_e2 : type_of% @dctD.eq_2 := @dctD.eq_2
@[simp] theorem dctD_e3 : type_of% @dctD.eq_3 := @dctD.eq_3
@[simp] theorem mtTy_e1 : type_of% @mtTy.eq_1 := @mtTy.eq_1
@[simp] theorem mtTy_e2 : type_of% @mtTy.eq_2 := @mtTy.eq_2
@[simp] theorem mtTy_e3 : type_of% @mtTy.eq_3 := @mtTy.eq_3
@[simp] theorem mtTy_e4 : type_of% @mtTy.eq_4 := @mtTy.eq_4
@[simp] theorem mtTy_e5 : type_of% @mtTy.eq_5 := @mtTy.eq_5
@[simp] theorem mtTy_e6 : type_of% @mtTy.eq_6 := @mtTy.eq_6
@[simp] theorem mtTy_e7 : type_of% @mtTy.eq_7 := @mtTy.eq_7
@[simp] theorem mtTy_e8 : type_of% @mtTy.eq_8 := @mtTy.eq_8
@[simp] theorem mtd_e1 : type_of% @mtd.eq_1 := @mtd.eq_1
@[simp] theorem mtd_e2 : type_of% @mtd.eq_2 := @mtd.eq_2
@[simp] theorem mtd_e3 : type_of% @mtd.eq_3 := @mtd.eq_3
@[simp] theorem mtd_e4 : type_of% @mtd.eq_4 := @mtd.eq_4
@[simp] theorem mtd_e5 : type_of% @mtd.eq_5 := @mtd.eq_5
@[simp] theorem mtd_e6 : type_of% @mtd.eq_6 := @mtd.eq_6
@[simp] theorem mtd_e7 : type_of% @mtd.eq_7 := @mtd.eq_7
@[simp] theorem mtTy_e9 : type_of% @mtTy.eq_9 := @mtTy.eq_9
@[simp] theorem mtTy_e10 : type_of% @mtTy.eq_10 := @mtTy.eq_10
@[simp] theorem mtTy_e11 : type_of% @mtTy.eq_11 := @mtTy.eq_11
@[simp] theorem mtd_e8 : type_of% @mtd.eq_8 := @mtd.eq_8
@[simp] theorem mtd_e9 : type_of% @mtd.eq_9 := @mtd.eq_9
@[simp] theorem mtd_e10 : type_of% @mtd.eq_10 := @mtd.eq_10
@[simp] theorem mBits_e1 : type_of% @mBits.eq_1 := @mBits.eq_1
@[simp] theorem mBits_e2 : type_of% @mBits.eq_2 := @mBits.eq_2
@[simp] theorem mAppend_e1 : type_of% @mAppend.eq_1 := @mAppend.eq_1
@[simp] theorem mAppend_e2 : type_of% @mAppend.eq_2 := @mAppend.eq_2
@[simp] theorem mPop1_e1 : type_of% @mPop1.eq_1 := @mPop1.eq_1
@[simp] theorem mPop1_e2 : type_of% @mPop1.eq_2 := @mPop1.eq_2
@[simp] theorem mPop0_e1 : type_of% @mPop0.eq_1 := @mPop0.eq_1
@[simp] theorem mPop0_e2 : type_of% @mPop0.eq_2 := @mPop0.eq_2
@[simp] theorem mDpop_e1 : type_of% @mDpop.eq_1 := @mDpop.eq_1
@[simp] theorem mDpop_e2 : type_of% @mDpop.eq_2 := @mDpop.eq_2
@[simp] theorem setIx_e1 : type_of% @setIx.eq_1 := @setIx.eq_1
@[simp] theorem setIx_e2 : type_of% @setIx.eq_2 := @setIx.eq_2
@[simp] theorem augD_e1 : type_of% @augD.eq_1 := @augD.eq_1
@[simp] theorem augD_e2 : type_of% @augD.eq_2 := @augD.eq_2
@[simp] theorem augD_e3 : type_of% @augD.eq_3 := @augD.eq_3
@[simp] theorem augD_e4 : type_of% @augD.eq_4 := @augD.eq_4
@[simp] theorem isIS_int (x : Int) : isIS (.p (.int x)) = some true := rfl
@[simp] theorem isIS_str (x : Str) : isIS (.p (.str x)) = some true := rfl
@[simp] theorem isTy_e1 : type_of% @isTy.eq_1 := @isTy.eq_1
@[simp] theorem isTy_e2 : type_of% @isTy.eq_2 := @isTy.eq_2
@[simp] theorem isTy_e3 : type_of% @isTy.eq_3 := @isTy.eq_3
@[simp] theorem isTy_e4 : type_of% @isTy.eq_4 := @isTy.eq_4
@[simp] theorem isTy_e5 : type_of% @isTy.eq_5 := @isTy.eq_5
@[simp] theorem isTy_e6 : type_of% @isTy.eq_6 := @isTy.eq_6
@[simp] theorem isTy_e7 : type_of% @isTy.eq_7 := @isTy.eq_7
@[simp] theorem isTy_e8 : type_of% @isTy.eq_8 := @isTy.eq_8
@[simp] theorem isTy_e9 : type_of% @isTy.eq_9 := @isTy.eq_9
@[simp] theorem isTy_e10 : type_of% @isTy.eq_10 := @isTy.eq_10
@[simp] theorem isTy_e11 : type_of% @isTy.eq_11 := @isTy.eq_11
@[simp] theorem isTy_e12 : type_of% @isTy.eq_12 := @isTy.eq_12
@[simp] theorem isTy_e13 : type_of% @isTy.eq_13 := @isTy.eq_13
@[simp] theorem isTy_e14 : type_of% @isTy.eq_14 := @isTy.eq_14
@[simp] theorem isTy_e15 : type_of% @isTy.eq_15 := @isTy.eq_15
@[simp] theorem isTy_e16 : type_of% @isTy.eq_16 := @isTy.eq_16
@[simp] theorem isTy_e17 : type_of% @isTy.eq_17 := @isTy.eq_17
@[simp] theorem isTy_e18 : type_of% @isTy.eq_18 := @isTy.eq_18
@[simp] theorem isTy_e19 : type_of% @isTy.eq_19 := @isTy.eq_19
@[simp] theorem isTy_e20 : type_of% @isTy.eq_20 := @isTy.eq_20
@[simp] theorem isTy_e21 : type_of% @isTy.eq_21 := @isTy.eq_21
@[simp] theorem isTy_e22 : type_of% @isTy.eq_22 := @isTy.eq_22
@[simp] theorem fldOf_e1 : type_of% @fldOf.eq_1 := @fldOf.eq_1
@[simp] theorem fldOf_e2 : type_of% @fldOf.eq_2 := @fldOf.eq_2
@[simp] theorem fldOf_e3 : type_of% @fldOf.eq_3 := @fldOf.eq_3
@[simp] theorem xcOk_e1 : type_of% @xcOk.eq_1 := @xcOk.eq_1
@[simp] theorem xcOk_e2 : type_of% @xcOk.eq_2 := @xcOk.eq_2
@[simp] theorem catchX_nx (g : Cg) (k n x : Nat) (ρ : Env) (M : Sto) : catchX g k n x (.nx ρ M) = .nx ρ M := rfl
@[simp] theorem catchX_rt (g : Cg) (k n x : Nat) (d : D) (M : Sto) : catchX g k n x (.rt d M) = .rt d M := rfl
@[simp] theorem catchX_bk (g : Cg) (k n x : Nat) (ρ : Env) (M : Sto) : catchX g k n x (.bk ρ M) = .bk ρ M := rfl
@[simp] theorem catchX_ct (g : Cg) (k n x : Nat) (ρ : Env) (M : Sto) : catchX g k n x (.ct ρ M) = .ct ρ M := rfl
@[simp] theorem catchX_exc (g : Cg) (k n x : Nat) (c : Nat) (v : D) (ρ : Env) (M : Sto) : catchX g k n x (.exc c v ρ M) = if xsub c k = true then if n < ρ.length ∧ x < ρ.length ∧ n ≠ x then match g.cf c with
      | [f] => .nx (((ρ.set n (some (.ref (M.length + 1)))).set x (some (.ref (M.length + 1)))).set n none) (M ++ [.xd f v] ++ [.xc c (some M.length)])
      | [] => .nx (((ρ.set n (some (.ref M.length))).set x (some (.ref M.length))).set n none) (M ++ [.xc c none])
      | _ => .stuck
      else .stuck
    else .stuck := rfl
end Mi

set_option maxRecDepth 100000
set_option maxHeartbeats 4000000
/-! All defs at once: a table of functions that satisfy their own equations. -/
namespace Mi
open PySem PySem.Spec L2
mutual
/-- every def that is called has the mark p -/
def okE (p : Nat → Bool) : ME → Bool
  | .c _ => true
  | .v _ => true
  | .g _ _ => true
  | .bin _ a b => okE p a && okE p b
  | .neg a => okE p a
  | .not a => okE p a
  | .and a b => okE p a && okE p b
  | .or a b => okE p a && okE p b
  | .cmp _ a b => okE p a && okE p b
  | .chain _ _ a b c => okE p a && (okE p b && okE p c)
  | .ite t a b => okE p t && (okE p a && okE p b)
  | .tup es => okEs p es
  | .lst _ es => okEs p es
  | .dnew => true
  | .ix a i => okE p a && okE p i
  | .sl a lo hi => okE p a && (okO p lo && okO p hi)
  | .rev a => okE p a
  | .revM a => okE p a
  | .fld a _ => okE p a
  | .isi a _ => okE p a
  | .call f _ es _ => p f && okEs p es
  | .meth _ _ f _ a es _ => p f && (okE p a && okEs p es)
  | .make _ f _ es _ => p f && okEs p es
  | .makeK _ f _ es kes _ => p f && (okEs p es && okEs p kes)
  | .bi _ es => okEs p es
  | .mt _ a es => okE p a && okEs p es
  | .lrng1 _ a => okE p a
  | .lrng2 _ a b => okE p a && okE p b
  | .comp _ _ _ es cond e => okEs p es && (okO p cond && okE p e)
  | .prop _ _ f a => p f && okE p a
  | .slm a lo hi => okE p a && (okO p lo && okO p hi)
  | .sset a => okE p a
  | .srtI a => okE p a
  | .xmk _ _ es => okEs p es
  | .isVE a => okE p a
  | .isS a => okE p a
  | .dct0 => true
  | .dsp es => okEs p es
  | .frz a => okE p a
  | .isb _ f es _ => p f && okEs p es
  | .ocmp _ fs a b => (fs.all fun q => p q.2) && (okE p a && okE p b)
def okEs (p : Nat → Bool) : List ME → Bool
  | [] => true
  | e :: r => okE p e && okEs p r
def okO (p : Nat → Bool) : Option ME → Bool
  | none => true
  | some e => okE p e
end
mutual
def okS (p : Nat → Bool) : MS → Bool
  | .ex e => okE p e
  | .asg _ e => okE p e
  | .par _ es => okEs p es
  | .sub o i e => okE p o && (okE p i && okE p e)
  | .qs _ o i a b => okE p o && (okE p i && (okE p a && okE p b))
  | .qs2 o i u j a b => okE p o && (okE p i && (okE p u && (okE p j && (okE p a && okE p b))))
  | .setf o _ e => okE p o && okE p e
  | .aug _ e => okE p e
  | .augf o _ e => okE p o && okE p e
  | .ifs t a b => okE p t && (okSs p a && okSs p b)
  | .for_ _ _ es b => okEs p es && okSs p b
  | .whl t b => okE p t && okSs p b
  | .ret o => okO p o
  | .pass => true
  | .brk => true
  | .cont => true
  | .fz _ => true
  | .fzf _ _ => true
  | .rais _ e => okE p e
  | .rais0 _ => true
  | .tryx b _ _ _ => okSs p b
  | .never => true
def okSs (p : Nat → Bool) : List MS → Bool
  | [] => true
  | s :: r => okS p s && okSs p r
end
section
variable {cf : Nat → List Str} {Φ Φ' : Nat → Fn} {p : Nat → Bool} (h : ∀ i, p i = true → Φ i = Φ' i)
include h
omit h in
theorem eqWs_cg {f f' : P → P → Bool} (e : ∀ a b, f a b = f' a b) : ∀ xs ys, eqWs f xs ys = eqWs f' xs ys
  | [], _ => by simp [eqWs]
  | _ :: _, [] => by simp [eqWs]
  | x :: xs, y :: ys => by simp only [eqWs, e, eqWs_cg e xs ys]
omit h in
theorem eqW_cg (h : ∀ i, p i = true → Φ i = Φ' i) (fs : List (Nat × Nat)) (k : (fs.all fun q => p q.2) = true) : ∀ (n : Nat) (a b : P), eqW ⟨cf, Φ⟩ fs n a b = eqW ⟨cf, Φ'⟩ fs n a b
  | 0, a, b => rfl
  | n + 1, a, b => by
    unfold eqW
    split
    · rw [eqWs_cg fun a b => eqW_cg h fs k n a b]
    · rw [eqWs_cg fun a b => eqW_cg h fs k n a b]
    · rfl
    · rename_i c xs c' ys
      cases z : fs.lookup c with
      | none => rfl
      | some f => simp only [h f (List.all_eq_true.mp k _ (look_mem z))]
    · rfl
omit h in
theorem eqX_cg (h : ∀ i, p i = true → Φ i = Φ' i) (fs : List (Nat × Nat)) (k : (fs.all fun q => p q.2) = true) (x y : D) (M : Sto) : eqX ⟨cf, Φ⟩ fs x y M = eqX ⟨cf, Φ'⟩ fs x y M := by
  unfold eqX
  simp only [eqW_cg h fs k]
theorem ocmpR_cg (op : COp) (fs : List (Nat × Nat)) (k : (fs.all fun q => p q.2) = true) : ocmpR ⟨cf, Φ⟩ op fs = ocmpR ⟨cf, Φ'⟩ op fs := by
  funext x y M
  unfold ocmpR
  cases ocls x with
  | none =>
    cases ocls y with
    | none => simp only [eqX_cg h fs k]
    | some c =>
      cases z : fs.lookup c with
      | none => simp only [z]
      | some f => simp only [z, h f (List.all_eq_true.mp k _ (look_mem z))]
  | some c =>
    cases z : fs.lookup c with
    | none => simp only [z]
    | some f => simp only [z, h f (List.all_eq_true.mp k _ (look_mem z))]
mutual
theorem evB_cg : ∀ e, okE p e = true → evB ⟨cf, Φ⟩ e = evB ⟨cf, Φ'⟩ e
  | .c _, _ => rfl
  | .v _, _ => rfl
  | .g _ _, _ => rfl
  | .bin _ a b, k => by
    simp only [okE, Bool.and_eq_true] at k
    funext ρ M
    simp only [evB, evB_cg a k.1, evB_cg b k.2]
  | .neg a, k => by
    simp only [okE] at k
    funext ρ M
    simp only [evB, evB_cg a k]
  | .not a, k => by
    simp only [okE] at k
    funext ρ M
    simp only [evB, evB_cg a k]
  | .and a b, k => by
    simp only [okE, Bool.and_eq_true] at k
    funext ρ M
    simp only [evB, evB_cg a k.1, evB_cg b k.2]
  | .or a b, k => by
    simp only [okE, Bool.and_eq_true] at k
    funext ρ M
    simp only [evB, evB_cg a k.1, evB_cg b k.2]
  | .cmp _ a b, k => by
    simp only [okE, Bool.and_eq_true] at k
    funext ρ M
    simp only [evB, evB_cg a k.1, evB_cg b k.2]
  | .chain _ _ a b c, k => by
    simp only [okE, Bool.and_eq_true] at k
    funext ρ M
    simp only [evB, evB_cg a k.1, evB_cg b k.2.1, evB_cg c k.2.2]
  | .ite t a b, k => by
    simp only [okE, Bool.and_eq_true] at k
    funext ρ M
    simp only [evB, evB_cg t k.1, evB_cg a k.2.1, evB_cg b k.2.2]
  | .tup es, k => by
    simp only [okE] at k
    funext ρ M
    simp only [evB, evs_cg es k]
  | .lst _ es, k => by
    simp only [okE] at k
    funext ρ M
    simp only [evB, evs_cg es k]
  | .dnew, _ => rfl
  | .ix a b, k => by
    simp only [okE, Bool.and_eq_true] at k
    funext ρ M
    simp only [evB, evB_cg a k.1, evB_cg b k.2]
  | .sl a lo hi, k => by
    simp only [okE, Bool.and_eq_true] at k
    funext ρ M
    simp only [evB, evB_cg a k.1, evO_cg lo k.2.1, evO_cg hi k.2.2]
  | .revM a, k => by
    simp only [okE] at k
    funext ρ M
    simp only [evB, evB_cg a k]
  | .rev a, k => by
    simp only [okE] at k
    funext ρ M
    simp only [evB, evB_cg a k]
  | .fld a _, k => by
    simp only [okE] at k
    funext ρ M
    simp only [evB, evB_cg a k]
  | .isi a _, k => by
    simp only [okE] at k
    funext ρ M
    simp only [evB, evB_cg a k]
  | .call f _ es _, k => by
    simp only [okE, Bool.and_eq_true] at k
    funext ρ M
    simp only [evB, evs_cg es k.2, h f k.1]
  | .meth _ _ f _ a es _, k => by
    simp only [okE, Bool.and_eq_true] at k
    funext ρ M
    simp only [evB, evB_cg a k.2.1, evs_cg es k.2.2, h f k.1]
  | .makeK _ f _ es kes _, k => by
    simp only [okE, Bool.and_eq_true] at k
    funext ρ M
    simp only [evB, evs_cg es k.2.1, evs_cg kes k.2.2, h f k.1]
  | .make _ f _ es _, k => by
    simp only [okE, Bool.and_eq_true] at k
    funext ρ M
    simp only [evB, evs_cg es k.2, h f k.1]
  | .bi _ es, k => by
    simp only [okE] at k
    funext ρ M
    simp only [evB, evs_cg es k]
  | .mt _ a es, k => by
    simp only [okE, Bool.and_eq_true] at k
    funext ρ M
    simp only [evB, evB_cg a k.1, evs_cg es k.2]
  | .lrng1 _ a, k => by
    simp only [okE] at k
    funext ρ M
    simp only [evB, evB_cg a k]
  | .lrng2 _ a b, k => by
    simp only [okE, Bool.and_eq_true] at k
    funext ρ M
    simp only [evB, evB_cg a k.1, evB_cg b k.2]
  | .comp _ _ _ es cond e, k => by
    simp only [okE, Bool.and_eq_true] at k
    funext ρ M
    simp only [evB, evs_cg es k.1, evTO_cg cond k.2.1, evB_cg e k.2.2]
  | .xmk _ _ es, k => by
    simp only [okE] at k
    funext ρ M
    simp only [evB, evs_cg es k]
  | .isVE a, k => by
    simp only [okE] at k
    funext ρ M
    simp only [evB, evB_cg a k]
  | .srtI a, k => by
    simp only [okE] at k
    funext ρ M
    simp only [evB, evB_cg a k]
  | .sset a, k => by
    simp only [okE] at k
    funext ρ M
    simp only [evB, evB_cg a k]
  | .isS a, k => by
    simp only [okE] at k
    funext ρ M
    simp only [evB, evB_cg a k]
  | .dct0, _ => rfl
  | .dsp es, k => by
    simp only [okE] at k
    funext ρ M
    simp only [evB, evs_cg es k]
  | .isb _ f es _, k => by
    simp only [okE, Bool.and_eq_true] at k
    funext ρ M
    simp only [evB, evs_cg es k.2, h f k.1]
  | .frz a, k => by
    simp only [okE] at k
    funext ρ M
    simp only [evB, evB_cg a k]
  | .slm a lo hi, k => by
    simp only [okE, Bool.and_eq_true] at k
    funext ρ M
    simp only [evB, evB_cg a k.1, evO_cg lo k.2.1, evO_cg hi k.2.2]
  | .prop _ _ f a, k => by
    simp only [okE, Bool.and_eq_true] at k
    funext ρ M
    simp only [evB, evB_cg a k.2, propR, h f k.1]
  | .ocmp op fs a b, k => by
    simp only [okE, Bool.and_eq_true] at k
    funext ρ M
    simp only [evB, evB_cg a k.2.1, evB_cg b k.2.2, ocmpR_cg h op fs k.1]
theorem evs_cg : ∀ es, okEs p es = true → evs ⟨cf, Φ⟩ es = evs ⟨cf, Φ'⟩ es
  | [], _ => rfl
  | e :: r, k => by
    simp only [okEs, Bool.and_eq_true] at k
    funext ρ M
    simp only [evs, evB_cg e k.1, evs_cg r k.2]
theorem evO_cg : ∀ o, okO p o = true → evO ⟨cf, Φ⟩ o = evO ⟨cf, Φ'⟩ o
  | none, _ => rfl
  | some e, k => by
    simp only [okO] at k
    funext ρ M
    simp only [evO, evB_cg e k]
theorem evTO_cg : ∀ o, okO p o = true → evTO ⟨cf, Φ⟩ o = evTO ⟨cf, Φ'⟩ o
  | none, _ => rfl
  | some e, k => by
    simp only [okO] at k
    funext ρ M
    simp only [evTO, evB_cg e k]
end
theorem ev_cgr (e : ME) (k : okE p e = true) : ev ⟨cf, Φ⟩ e = ev ⟨cf, Φ'⟩ e := by
  funext ρ M
  simp only [ev, evB_cg h e k]
theorem evT_cgr (e : ME) (k : okE p e = true) : evT ⟨cf, Φ⟩ e = evT ⟨cf, Φ'⟩ e := by
  funext ρ M
  simp only [evT, evB_cg h e k]
mutual
theorem ex_cg : ∀ s, okS p s = true → ex ⟨cf, Φ⟩ s = ex ⟨cf, Φ'⟩ s
  | .ex e, k => by
    simp only [okS] at k
    funext ρ M
    simp only [ex, ev_cgr h e k]
  | .asg _ e, k => by
    simp only [okS] at k
    funext ρ M
    simp only [ex, ev_cgr h e k]
  | .par _ es, k => by
    simp only [okS] at k
    funext ρ M
    simp only [ex, evs_cg h es k]
  | .sub o i e, k => by
    simp only [okS, Bool.and_eq_true] at k
    funext ρ M
    simp only [ex, ev_cgr h o k.1, ev_cgr h i k.2.1, ev_cgr h e k.2.2]
  | .qs _ o i a b, k => by
    simp only [okS, Bool.and_eq_true] at k
    funext ρ M
    have z : ev ⟨cf, Φ⟩ (.tup [a, b]) = ev ⟨cf, Φ'⟩ (.tup [a, b]) := ev_cgr h _ (by simp [okE, okEs, k.2.2.1, k.2.2.2])
    simp only [ex, ev_cgr h o k.1, ev_cgr h i k.2.1, z]
  | .qs2 o i u j a b, k => by
    simp only [okS, Bool.and_eq_true] at k
    funext ρ M
    have z : ev ⟨cf, Φ⟩ (.tup [a, b]) = ev ⟨cf, Φ'⟩ (.tup [a, b]) := ev_cgr h _ (by simp [okE, okEs, k.2.2.2.2.1, k.2.2.2.2.2])
    simp only [ex, ev_cgr h o k.1, ev_cgr h i k.2.1, ev_cgr h u k.2.2.1, ev_cgr h j k.2.2.2.1, z]
  | .setf o _ e, k => by
    simp only [okS, Bool.and_eq_true] at k
    funext ρ M
    simp only [ex, ev_cgr h o k.1, ev_cgr h e k.2]
  | .augf o _ e, k => by
    simp only [okS, Bool.and_eq_true] at k
    funext ρ M
    simp only [ex, ev_cgr h o k.1, ev_cgr h e k.2]
  | .aug _ e, k => by
    simp only [okS] at k
    funext ρ M
    simp only [ex, ev_cgr h e k]
  | .ifs t a b, k => by
    simp only [okS, Bool.and_eq_true] at k
    funext ρ M
    simp only [ex, evT_cgr h t k.1, exs_cg a k.2.1, exs_cg b k.2.2]
  | .for_ _ _ es b, k => by
    simp only [okS, Bool.and_eq_true] at k
    funext ρ M
    simp only [ex, evs_cg h es k.1, exs_cg b k.2]
  | .whl t b, k => by
    simp only [okS, Bool.and_eq_true] at k
    funext ρ M
    simp only [ex, evT_cgr h t k.1, exs_cg b k.2]
  | .ret none, _ => rfl
  | .ret (some e), k => by
    simp only [okS, okO] at k
    funext ρ M
    simp only [ex, ev_cgr h e k]
  | .pass, _ => rfl
  | .brk, _ => rfl
  | .cont, _ => rfl
  | .fz _, _ => rfl
  | .fzf _ _, _ => rfl
  | .rais0 _, _ => rfl
  | .rais _ e, k => by
    simp only [okS] at k
    funext ρ M
    simp only [ex, ev_cgr h e k]
  | .tryx b _ _ _, k => by
    simp only [okS] at k
    funext ρ M
    simp only [ex, exs_cg b k]
    rfl
  | .never, _ => rfl
theorem exs_cg : ∀ b, okSs p b = true → exs ⟨cf, Φ⟩ b = exs ⟨cf, Φ'⟩ b
  | [], _ => rfl
  | s :: r, k => by
    simp only [okSs, Bool.and_eq_true] at k
    funext ρ M
    simp only [exs, ex_cg s k.1, exs_cg r k.2]
end
theorem run_cg (d : Fd) (k : okSs p d.body = true) : run ⟨cf, Φ⟩ d = run ⟨cf, Φ'⟩ d := by
  funext ds M
  simp only [run, exs_cg h d.body k]
end
/-! ### the table -/
/-- defs with their levels -/
abbrev FTab := List (Nat × Nat × Fd)
def FTab.lv (T : FTab) (i : Nat) : Nat := match T.lookup i with
  | some q => q.1
  | none => 0
def FTab.okB (T : FTab) (K : Nat) : Bool := T.all fun q => decide (q.2.1 < K) && okSs (fun i => decide (T.lv i < q.2.1)) q.2.2.body
def Psi (cf : Nat → List Str) (T : FTab) : Nat → Nat → Fn
  | 0, _ => fun _ _ => .stuck
  | n + 1, j => match T.lookup j with
    | some q => run ⟨cf, Psi cf T n⟩ q.2
    | none => fun _ _ => .stuck
theorem Psi_step {cf : Nat → List Str} {T : FTab} {K : Nat} (h : T.okB K = true) : ∀ n j, T.lv j < n → Psi cf T n j = Psi cf T (n + 1) j := by
  intro n
  induction n with
  | zero => intro j hj; omega
  | succ n ih =>
    intro j hj
    show (match T.lookup j with | some q => run ⟨cf, Psi cf T n⟩ q.2 | none => fun _ _ => .stuck) = (match T.lookup j with | some q => run ⟨cf, Psi cf T (n + 1)⟩ q.2 | none => fun _ _ => .stuck)
    cases z : T.lookup j with
    | none => rfl
    | some q =>
      simp only
      have hm := look_mem z
      have hq := List.all_eq_true.mp h _ hm
      simp only [Bool.and_eq_true, decide_eq_true_eq] at hq
      have hl : T.lv j = q.1 := by unfold FTab.lv; rw [z]
      refine run_cg (p := fun i => decide (T.lv i < q.1)) (fun i hi => ih i ?_) _ hq.2
      have := of_decide_eq_true hi
      omega
/-- the functions of the table: each does what its text says, over the others -/
theorem Psi_eq {cf : Nat → List Str} {T : FTab} {K : Nat} (h : T.okB K = true) {j : Nat} {q : Nat × Fd} (z : T.lookup j = some q) : Psi cf T (K + 1) j = run ⟨cf, Psi cf T (K + 1)⟩ q.2 := by
  have hm := look_mem z
  have hq := List.all_eq_true.mp h _ hm
  simp only [Bool.and_eq_true, decide_eq_true_eq] at hq
  show (match T.lookup j with | some q => run ⟨cf, Psi cf T K⟩ q.2 | none => fun _ _ => .stuck) = _
  rw [z]
  simp only
  refine run_cg (p := fun i => decide (T.lv i < q.1)) (fun i hi => Psi_step h K i ?_) _ hq.2
  have := of_decide_eq_true hi
  have := hq.1
  omega
theorem law_end2 {L : Lw} {j : Nat} {d : Df} {P : Program} {w : World} {K : PySem.W.Frag} {h : Heap} {mg : Str → Option Value} {fa : Addr} {x : Str} {n : Nat} (O : L.Xok) (hP : L.Pok P) (c : SaysM L K) (X : K.In h) (G : h.Ns mainGlobals mg) (hfa : mg d.ent.name = some (.ref fa)) (Φ : Nat → Fn)
    (hj : L.defs.lookup j = some d) (hkd : d.ent.kd = .fn) (hps : d.ent.ps = [x]) (hdf : d.ent.dfl = []) (hl : ∀ ns : List Int, ns.length ≤ n → Φ j [.p (.scr ns)] [] = .ok (.p (.bl true)) [])
    (hT : ∀ (j : Nat) (d : Df), L.defs.lookup j = some d → txtB L.T d = true) (hB : ∀ (j : Nat) (d : Df), L.defs.lookup j = some d → BOk d)
    (hΦ : ∀ (j : Nat) (d : Df), L.defs.lookup j = some d → Φ j = run ⟨L.cf, Φ⟩ d.fd) :
    ∃ (fd : FuncData) (sp : Sp), (∀ (s : Shared) (u : Value), BindsTo s fd ⟨[u], []⟩ [(x, u)]) ∧ (∀ (H : Hp) (a : Addr) (ns : List Int), ns.length ≤ n → Only H → SqL K H a (ns.map V.int) → sp [.ref a] H (fun v _ => v = .bl true) fun _ _ _ => False) ∧
      ∀ base : Heap, K.In base → base.Ns mainGlobals mg → FnG P w K mg base CXa d.ent.lvl fa fd [x] sp := by
  obtain ⟨hb, fd, F⟩ := def_get c hj
  have tx := txt_ok (hT j d hj)
  have had : d.ad K = He.fAd K d.at_ := by unfold Df.ad; rw [hkd]
  rw [had] at F
  have hk := tx.kd
  rw [hkd] at hk
  simp only at hk
  have hb2 := (He.ba hb).2
  rw [hkd] at hb2
  simp only at hb2
  have e := hfa.symm.trans (He.glo_ok X G hb2)
  cases e
  have hsh : d.ent.shp = [] ∧ d.ent.kwd = [] := by
    rcases tx.sh with z | ⟨_, _, _, _, cc, z⟩
    · exact z
    · rw [hkd] at z; cases z
  obtain ⟨B, _⟩ := (hB j d hj).1 hsh.1
  rw [show d.dd.kws K = [] by (show (d.ent.kwd.map _).map _ = []; rw [hsh.2]; rfl)] at F
  refine ⟨fd, spF (L.g K) (lawF n) 1, ?_, fun H a ns hl _ hS => law_sp hl hS, fun base Xb Gb => ?_⟩
  · rw [hdf] at F B
    have b := FunD.bindsA (ps := d.ent.ps) F (B.z rfl)
    intro s u
    have := b s [u] (by rw [hps]; rfl)
    rw [hps] at this
    exact this
  · obtain ⟨l, hl'⟩ : ∃ l, d.ent.lvl = l + 1 := ⟨d.ent.lvl - 1, by have := tx.lvl; omega⟩
    have ih := all_ok (P := P) (w := w) (base := base) O hP c Xb Gb Φ hT hB (fun j d hd ds M => .inr (by rw [hΦ j d hd])) l
    have txt := tx.txt
    rw [hl', Nat.add_sub_cancel] at txt
    have fk : FnG P w K mg base (L2.CX P w) (l + 1) (He.fAd K d.at_) fd d.ent.ps (spF (L.g K) (run ⟨L.cf, Φ⟩ d.fd) d.ent.ps.length) := body_ok (g := L.g K) (sta_ok (P := P) O hP c Xb Gb Φ) (fun j e h1 h2 => ih j e h1 h2) F tx.sc tx.dbg txt tx.n tx.ps
    have sy : ∀ ds M, Says (run ⟨L.cf, Φ⟩ d.fd ds M) (lawF n ds M) := by
      intro ds M
      unfold lawF
      split
      · split
        · rename_i ns hn
          right
          rw [← hΦ j d hj]
          exact hl ns hn
        · exact .inl rfl
      · exact .inl rfl
    have fj := fk.imp (spF_says sy)
    rw [hps, hk, ← hl'] at fj
    exact toA fj
end Mi

set_option maxRecDepth 100000
set_option maxHeartbeats 4000000
/-! Small facts for reckoning: dicts, slices, loops over what is encoded. -/
namespace Mi
open PySem PySem.Spec L2
@[simp] theorem mapO_rd_p (cf : Nat → List Str) (lo : Nat) (M : Sto) (k : Nat) : ∀ xs : List P, mapO (rd cf lo M k) (xs.map D.p) = some xs
  | [] => rfl
  | x :: xs => by
    have ih := mapO_rd_p cf lo M k xs
    simp only [List.map_cons, mapO, rd_p, ih]
    rfl
@[simp] theorem wipeE_e1 : type_of% @wipeE.eq_1 := @wipeE.eq_1
@[simp] theorem wipeE_e2 : type_of% @wipeE.eq_2 := @wipeE.eq_2
@[simp] theorem tgs_e1 : type_of% @tgs.eq_1 := @tgs.eq_1
@[simp] theorem tgs_e2 : type_of% @tgs.eq_2 := @tgs.eq_2
/-! ### dicts -/
section
variable {α : Type}
def keys (kvs : List (Key × α)) : List Key := kvs.map (·.1)
@[simp] theorem look_nil (k : Key) : look ([] : List (Key × α)) k = none := rfl
end
/-! ### slices -/
/-! ### loops over encoded things -/
theorem eqD_int {cf : Nat → List Str} {a b : Int} {M : Sto} : eqD cf (.p (.int a)) (.p (.int b)) M = some (decide (a = b)) := by
  simp [eqD, P.sh, SH, P.eqv]
  by_cases h : a = b <;> simp [h]
theorem eqD_str {cf : Nat → List Str} {a b : Str} {M : Sto} : eqD cf (.p (.str a)) (.p (.str b)) M = some (decide (a = b)) := by
  simp [eqD, P.sh, SH, P.eqv]
  by_cases h : a = b <;> simp [h]
end Mi

set_option maxRecDepth 100000
set_option maxHeartbeats 4000000
/-! The head's facts, read over fewer objects: each object is looked into once, what is known stands in the bits of a number. -/
namespace Mi
open PySem PySem.Spec PyProof.Rows L2
def addR : List Addr → List Addr → Nat → (List Addr → Nat → List Addr) → List Addr
  | [], f, B, k => k f B
  | r :: rs, f, B, k => match Nat.testBit B r with
    | true => addR rs f B k
    | false => addR rs (r :: f) (Nat.lor B (Nat.shiftLeft 1 r)) k
def addO (g : Addr → Option Obj) : List Addr → List Addr → Nat → (List Addr → Nat → List Addr) → List Addr
  | [], f, B, k => k f B
  | a :: as, f, B, k => match g a with
    | none => addO g as f B k
    | some o => addR (He.refsD o) f B fun f B => addO g as f B k
/-- frontier by frontier -/
def bfs (g : Addr → Option Obj) : Nat → List Addr → Nat → List Addr
  | 0, f, _ => f
  | n + 1, f, B => f ++ addO g f [] B fun f' B' => bfs g n f' B'
def asY (g : Addr → Option Obj) (n : Nat) : List Addr := bfs g n [mainGlobals, cStatics] (Nat.lor (Nat.shiftLeft 1 mainGlobals) (Nat.shiftLeft 1 cStatics))
def obsMY (n : Nat) (L : Lw) (g : Addr → Option Obj) : AlM := obsM L (He.frG g (asY g n))
def hookY (n : Nat) (L : Lw) : PySem.W.Hook where
  α := AlM
  obs := fun s => obsMY n L s.heap.get?
  val := fun _ => valM L
  says := fun _ h => ∃ K : PySem.W.Frag, K.In h ∧ SaysM L K
  of := fun _ _ e => ⟨_, He.frG_in, e⟩
  keeps := fun _ _ _ ⟨K, hK, c⟩ k => ⟨K, PySem.W.Frag.In.keeps hK k, c⟩
theorem obsMY_eq {n : Nat} {L : Lw} {g : Addr → Option Obj} {s : Shared} (h : ∀ a, g a = s.heap.get? a) : obsMY n L g = (hookY n L).obs s := by
  have e : g = s.heap.get? := funext h
  rw [e] <;> rfl
end Mi

set_option maxRecDepth 100000
/-! The bodies of the defs (printed by gen2.py). -/
namespace Law
open PySem L2 Mi
/-- the fields of the classes -/
def CF : Nat → List Str
  | 0 => ["many", "rows", "ears", "doors"]
  | 1 => ["numbers"]
  | 2 => ["limits", "queue", "issued", "released", "last_issue", "gaps"]
  | 3 => ["size", "order", "rest", "spare", "released", "ranks", "made", "now"]
  | 4 => ["kept", "steps"]
  | 10 => []
  | 11 => ["value"]
  | 12 => ["value"]
  | 13 => ["value"]
  | 14 => ["value"]
  | 15 => ["name"]
  | 16 => ["name"]
  | 17 => ["name"]
  | 18 => ["number"]
  | 19 => []
  | 20 => []
  | _ => []
/-- 8 is_whole pure ['value'] -/
def b_is_whole : List MS := [
  .ret (some (.and (.isi (.v 0) (.int)) (.not (.isi (.v 0) (.bool)))))]
def f_is_whole : Fd := ⟨.pure, 1, 1, b_is_whole⟩
/-- 12 is_event pure ['value', 'count'] -/
def b_is_event : List MS := [
  .ret (some (.and (.call 8 .pure [(.v 0)] []) (.chain .le .lt (.c (.int 0)) (.v 0) (.v 1))))]
def f_is_event : Fd := ⟨.pure, 2, 2, b_is_event⟩
/-- 13 is_link pure ['value', 'count', 'cause', 'effect', 'least', 'most', 'many'] -/
def b_is_link : List MS := [
  .ifs (.or (.not (.isi (.v 0) (.tuple))) (.cmp .ne (.bi .len [(.v 0)]) (.c (.int 5)))) [.ret (some (.c (.bl false)))] [],
  .asg (.many [2, 3, 4, 5, 6]) (.v 0),
  .ifs (.or (.not (.call 12 .pure [(.v 2), (.v 1)] [])) (.or (.not (.call 12 .pure [(.v 3), (.v 1)] [])) (.or (.cmp .eq (.v 3) (.c (.int 0))) (.not (.isi (.v 6) (.bool)))))) [.ret (some (.c (.bl false)))] [],
  .ifs (.or (.not (.call 8 .pure [(.v 4)] [])) (.cmp .lt (.v 4) (.c (.int 0)))) [.ret (some (.c (.bl false)))] [],
  .ret (some (.or (.cmp .isn (.v 5) (.c .non)) (.and (.call 8 .pure [(.v 5)] []) (.cmp .ge (.v 5) (.v 4)))))]
def f_is_link : Fd := ⟨.pure, 7, 2, b_is_link⟩
/-- 14 are_pairs pure ['value', 'count', 'at', 'pair'] -/
def l_are_pairs_0 : List MS := [.ifs (.or (.not (.isi (.v 3) (.tuple))) (.or (.cmp .ne (.bi .len [(.v 3)]) (.c (.int 2))) (.not (.call 12 .pure [(.ix (.v 3) (.c (.int 0))), (.v 1)] [])))) [.ret (some (.c (.bl false)))] [], .ifs (.or (.not (.call 8 .pure [(.ix (.v 3) (.c (.int 1)))] [])) (.or (.cmp .lt (.ix (.v 3) (.c (.int 1))) (.c (.int 0))) (.cmp .inn (.v 3) (.sl (.v 0) none (some (.v 2)))))) [.ret (some (.c (.bl false)))] []]
def b_are_pairs : List MS := [
  .ifs (.not (.isi (.v 0) (.list))) [.ret (some (.c (.bl false)))] [],
  .for_ (.many [2, 3]) .enum [(.v 0)] l_are_pairs_0,
  .ret (some (.c (.bl true)))]
def f_are_pairs : Fd := ⟨.pure, 4, 2, b_are_pairs⟩
/-- 15 in_order pure ['pairs', 'found', 'pair', 'at', 'one'] -/
def l_in_order_0 : List MS := [.asg (.one 3) (.bi .len [(.comp false (.one 4) .seq [(.v 1)] (some (.cmp .lt (.v 4) (.v 2))) (.v 4))]), .asg (.one 1) (.bin .add (.bin .add (.sl (.v 1) none (some (.v 3))) (.lst false [(.v 2)])) (.sl (.v 1) (some (.v 3)) none))]
def b_in_order : List MS := [
  .asg (.one 1) (.lst false []),
  .for_ (.one 2) .seq [(.v 0)] l_in_order_0,
  .ret (some (.bi .tuple [(.v 1)]))]
def f_in_order : Fd := ⟨.pure, 5, 1, b_in_order⟩
/-- 16 Behavior.__init__ mut ['self', 'events', 'links', 'heard', 'opens', 'fine', 'link'] -/
def b_Behavior_init : List MS := [
  .asg (.one 5) (.and (.call 8 .pure [(.v 1)] []) (.and (.cmp .ge (.v 1) (.c (.int 2))) (.isi (.v 2) (.list)))),
  .asg (.one 5) (.and (.v 5) (.cmp .eq (.comp false (.one 6) .seq [(.v 2)] (some (.not (.call 13 .pure [(.v 6), (.v 1)] []))) (.v 6)) (.lst false []))),
  .ifs (.or (.not (.v 5)) (.or (.not (.call 14 .pure [(.v 3), (.v 1)] [])) (.not (.call 14 .pure [(.v 4), (.v 1)] [])))) [.rais 11 (.tup [(.v 1), (.v 2), (.v 3), (.v 4)])] [],
  .setf (.v 0) "many" (.v 1),
  .setf (.v 0) "rows" (.bi .tuple [(.v 2)]),
  .setf (.v 0) "ears" (.call 15 .pure [(.v 3)] []),
  .setf (.v 0) "doors" (.call 15 .pure [(.v 4)] [])]
def f_Behavior_init : Fd := ⟨.mut, 7, 5, b_Behavior_init⟩
/-- 17 Behavior.events pure ['self'] -/
def b_Behavior_events : List MS := [
  .ret (some (.fld (.v 0) "many"))]
def f_Behavior_events : Fd := ⟨.pure, 1, 1, b_Behavior_events⟩
/-- 19 Behavior.heard pure ['self'] -/
def b_Behavior_heard : List MS := [
  .ret (some (.bi .list [(.fld (.v 0) "ears")]))]
def f_Behavior_heard : Fd := ⟨.pure, 1, 1, b_Behavior_heard⟩
/-- 20 Behavior.opens pure ['self'] -/
def b_Behavior_opens : List MS := [
  .ret (some (.bi .list [(.fld (.v 0) "doors")]))]
def f_Behavior_opens : Fd := ⟨.pure, 1, 1, b_Behavior_opens⟩
/-- 160 _law_mixed#5b7f7e pure ['_law_cell', '_law_k', '_law_drawn_on'] -/
def b_law_mixed : List MS := [
  .asg (.one 2) (.bin .mod (.bin .add (.bin .add (.bin .add (.bin .mul (.v 0) (.c (.int 1103515245))) (.bin .mul (.bin .mul (.c (.int 7919)) (.v 1)) (.v 1))) (.v 1)) (.c (.int 1))) (.c (.int 2147483647))),
  .asg (.one 2) (.bin .mod (.bin .add (.bin .mul (.v 2) (.v 2)) (.c (.int 69621))) (.c (.int 2147483629))),
  .ret (some (.bin .mod (.bin .mul (.v 2) (.c (.int 48271))) (.c (.int 2147483587))))]
def f_law_mixed : Fd := ⟨.pure, 3, 2, b_law_mixed⟩
/-- 161 _law_purse#43f945 own ['_law_script', '_law_at', '_law_cell'] -/
def b_law_purse : List MS := [
  .asg (.one 2) (.bi .sum [(.sl (.v 0) (some (.v 1)) (some (.bin .add (.v 1) (.c (.int 1)))))]),
  .ret (some (.lst true [(.bin .mod (.bi .max2 [(.bin .sub (.v 2) (.bin .pow (.c (.int 10)) (.c (.int 18)))), (.c (.int 0))]) (.bin .pow (.bin .pow (.c (.int 10)) (.c (.int 60))) (.c (.int 10)))), (.bin .mod (.v 2) (.c (.int 2147483647))), (.bin .mul (.c (.int 1000)) (.v 1))]))]
def f_law_purse : Fd := ⟨.own, 3, 2, b_law_purse⟩
/-- 162 _law_draw#ea910f mut ['_law_purse_here', '_law_out_of', '_law_drawn_on', '_law_k', '_law_drawn'] -/
def l_law_draw_0 : List MS := [.sub (.v 0) (.c (.int 2)) (.bin .add (.ix (.v 0) (.c (.int 2))) (.c (.int 1))), .asg (.one 2) (.bin .add (.bin .mul (.v 2) (.c (.int 2147483587))) (.call 160 .pure [(.ix (.v 0) (.c (.int 1))), (.ix (.v 0) (.c (.int 2)))] []))]
def b_law_draw : List MS := [
  .ifs (.cmp .gt (.ix (.v 0) (.c (.int 0))) (.c (.int 0))) [.asg (.one 4) (.bin .mod (.ix (.v 0) (.c (.int 0))) (.v 1)), .sub (.v 0) (.c (.int 0)) (.bin .fdiv (.ix (.v 0) (.c (.int 0))) (.v 1)), .ret (some (.v 4))] [],
  .asg (.one 2) (.c (.int 0)),
  .for_ (.one 3) .rng1 [(.bin .add (.c (.int 1)) (.bin .fdiv (.mt .bits (.v 1) []) (.c (.int 30))))] l_law_draw_0,
  .ret (some (.bin .mod (.v 2) (.v 1)))]
def f_law_draw : Fd := ⟨.mut, 5, 2, b_law_draw⟩
/-- 163 _law_kinds#34f47c full ['_law_error', '_law_some', '_law_at'] -/
def b_law_kinds_34f47c : List MS := [
  .asg (.one 1) (.lst true [(.isi (.v 0) (.own 11)), (.isi (.v 0) (.own 12)), (.isi (.v 0) (.own 13))]),
  .asg (.one 1) (.bin .addM (.v 1) (.lst false [(.isi (.v 0) (.own 14)), (.isi (.v 0) (.own 15)), (.isi (.v 0) (.own 16))])),
  .asg (.one 1) (.bin .addM (.v 1) (.lst false [(.isi (.v 0) (.own 17)), (.isi (.v 0) (.own 18)), (.isi (.v 0) (.own 19))])),
  .ex (.mt .append (.v 1) [(.isi (.v 0) (.own 20))]),
  .ifs (.or (.not (.isi (.v 0) (.own 10))) (.not (.isVE (.v 0)))) [.ret (some (.lst false []))] [],
  .ret (some (.comp false (.one 2) .rng1 [(.c (.int 10))] (some (.ix (.v 1) (.v 2))) (.v 2)))]
def f_law_kinds_34f47c : Fd := ⟨.full, 3, 1, b_law_kinds_34f47c⟩
/-- 164 _law_right#b4ce7c full ['_law_errors', '_law_due', '_law_found', '_law_error', '_law_at'] -/
def b_law_right_b4ce7c : List MS := [
  .asg (.one 2) (.bin .addM (.bin .addM (.comp true (.one 3) .seqM [(.slm (.v 0) none (some (.c (.int 4))))] none (.fld (.v 3) "value")) (.comp true (.one 3) .seqM [(.slm (.v 0) (some (.c (.int 4))) (some (.c (.int 7))))] none (.fld (.v 3) "name"))) (.lst true [(.fld (.ix (.v 0) (.c (.int 7))) "number")])),
  .ret (some (.and (.cmp .eq (.bi .repr [(.v 2)]) (.bi .repr [(.bin .repM (.lst true [(.v 1)]) (.c (.int 8)))])) (.cmp .eq (.comp false (.one 3) .seqM [(.v 0)] none (.call 163 .full [(.v 3)] [])) (.comp false (.one 4) .rng1 [(.c (.int 8))] none (.lst false [(.v 4)])))))]
def f_law_right_b4ce7c : Fd := ⟨.full, 5, 2, b_law_right_b4ce7c⟩
/-- 165 _law_given_right#8e14a3 full ['_law_given', '_law_placed', '_law_named'] -/
def b_law_given_right : List MS := [
  .asg (.one 1) (.lst true [(.xmk 11 false [(.v 0)]), (.xmk 12 false [(.v 0)]), (.xmk 13 false [(.v 0)]), (.xmk 14 false [(.v 0)]), (.xmk 15 false [(.v 0)])]),
  .asg (.one 1) (.bin .addM (.v 1) (.lst true [(.xmk 16 false [(.v 0)]), (.xmk 17 false [(.v 0)]), (.xmk 18 false [(.v 0)])])),
  .asg (.one 2) (.lst true [(.xmk 11 true [(.v 0)]), (.xmk 12 true [(.v 0)]), (.xmk 13 true [(.v 0)])]),
  .asg (.one 2) (.bin .addM (.v 2) (.lst true [(.xmk 14 true [(.v 0)]), (.xmk 15 true [(.v 0)]), (.xmk 16 true [(.v 0)])])),
  .asg (.one 2) (.bin .addM (.v 2) (.lst true [(.xmk 17 true [(.v 0)]), (.xmk 18 true [(.v 0)])])),
  .ifs (.or (.not (.call 164 .full [(.v 1), (.v 0)] [])) (.not (.call 164 .full [(.v 2), (.v 0)] []))) [.ret (some (.c (.bl false)))] [],
  .ifs (.isi (.v 0) (.list)) [.ex (.mt .append (.v 0) [(.c (.str "more"))])] [],
  .ret (some (.and (.call 164 .full [(.v 1), (.v 0)] []) (.call 164 .full [(.v 2), (.v 0)] [])))]
def f_law_given_right : Fd := ⟨.full, 3, 1, b_law_given_right⟩
/-- 166 law#05788f pure ['_law_script', '_law_drawn', '_law_some', '_law_bare', '_law_given'] -/
def b_law_05788f : List MS := [
  .asg (.one 1) (.call 162 .mut [(.call 161 .own [(.v 0), (.c (.int 0))] []), (.bin .pow (.c (.int 10)) (.c (.int 12)))] []),
  .asg (.one 2) (.lst true [(.v 1), (.bin .sub (.c (.int 0)) (.v 1)), (.c (.int 0)), (.tup []), (.tup [(.c (.int 1)), (.c (.int 2))]), (.tup [(.c (.str "a")), (.c (.str "b"))]), (.tup [(.v 1)]), (.lst true []), (.lst true [(.c (.int 1))]), .dct0, (.dsp [(.c (.str "a")), (.v 1)]), (.c (.str "")), (.c (.str "a")), (.c (.bl true)), (.c (.bl false))]),
  .ifs (.cmp .ne (.comp false (.one 4) .seqM [(.bin .addM (.v 2) (.lst true [(.c .non)]))] (some (.not (.call 165 .full [(.v 4)] []))) (.v 4)) (.lst false [])) [.ret (some (.c (.bl false)))] [],
  .asg (.one 3) (.lst true [(.xmk 11 false []), (.xmk 12 false []), (.xmk 13 false []), (.xmk 14 false []), (.xmk 15 false []), (.xmk 16 false [])]),
  .asg (.one 3) (.bin .addM (.v 3) (.lst true [(.xmk 17 false []), (.xmk 18 false [])])),
  .ifs (.not (.call 164 .full [(.v 3), (.c .non)] [])) [.ret (some (.c (.bl false)))] [],
  .ret (some (.and (.cmp .eq (.call 163 .full [(.xmk 19 false [])] []) (.lst false [(.c (.int 8))])) (.cmp .eq (.call 163 .full [(.xmk 20 false [])] []) (.lst false [(.c (.int 9))]))))]
def f_law_05788f : Fd := ⟨.pure, 5, 1, b_law_05788f⟩
/-- 362 _law_hash#200c06 pure ['_law_seed', '_law_index', '_law_mixed'] -/
def b_law_hash : List MS := [
  .asg (.one 2) (.bin .mod (.bi .int [(.bin .add (.bin .add (.bin .add (.bin .mul (.v 0) (.c (.int 1103515245))) (.bin .mul (.bin .mul (.c (.int 7919)) (.v 1)) (.v 1))) (.v 1)) (.c (.int 1)))]) (.c (.int 2147483647))),
  .asg (.one 2) (.bin .mod (.bi .int [(.bin .add (.bin .mul (.v 2) (.v 2)) (.c (.int 69621)))]) (.c (.int 2147483629))),
  .ret (some (.bin .mod (.bi .int [(.bin .mul (.v 2) (.c (.int 48271)))]) (.c (.int 2147483587))))]
def f_law_hash : Fd := ⟨.pure, 3, 2, b_law_hash⟩
/-- 364 _law_random#38ef0c mut ['_law_generator_here', '_law_bound', '_law_drawn', '_law_part'] -/
def b_law_random : List MS := [
  .ifs (.cmp .gt (.ix (.v 0) (.c (.int 0))) (.c (.int 0))) [.asg (.one 2) (.bin .mod (.bi .int [(.ix (.v 0) (.c (.int 0)))]) (.v 1)), .sub (.v 0) (.c (.int 0)) (.bin .fdiv (.ix (.v 0) (.c (.int 0))) (.v 1)), .ret (some (.v 2))] [],
  .asg (.one 2) (.c (.int 0)),
  .for_ (.one 3) .rng1 [(.bin .add (.c (.int 1)) (.bin .fdiv (.mt .bits (.v 1) []) (.c (.int 30))))] [.sub (.v 0) (.c (.int 2)) (.bin .add (.ix (.v 0) (.c (.int 2))) (.c (.int 1))), .asg (.one 2) (.bin .add (.bin .mul (.v 2) (.c (.int 2147483587))) (.call 362 .pure [(.ix (.v 0) (.c (.int 1))), (.ix (.v 0) (.c (.int 2)))] []))],
  .ret (some (.bin .mod (.bi .int [(.v 2)]) (.v 1)))]
def f_law_random : Fd := ⟨.mut, 4, 2, b_law_random⟩
end Law

set_option maxRecDepth 100000
set_option maxHeartbeats 4000000
namespace LawK
open Law PySem PySem.Spec L2 Mi
def top (i : Nat) : Stmt := PySem.Challenge.pw_reissue_k01_errors_made.main.body.getD i (.Pass ⟨0, 0, 0, 0⟩)
def cbody : Stmt → List Stmt
  | .ClassDef (body := b) .. => b
  | _ => []
def d_law_mixed : Df := ⟨("_law_mixed", none), top 13, "_law_mixed", "_law_mixed", ["_law_cell", "_law_k", "_law_drawn_on"], ⟨"_law_mixed", ["_law_cell", "_law_k"], [], 1, .fn, [], []⟩, f_law_mixed⟩
def d_law_purse : Df := ⟨("_law_purse", none), top 14, "_law_purse", "_law_purse", ["_law_script", "_law_at", "_law_cell"], ⟨"_law_purse", ["_law_script", "_law_at"], [], 1, .fn, [], []⟩, f_law_purse⟩
def d_law_draw : Df := ⟨("_law_draw", none), top 15, "_law_draw", "_law_draw", ["_law_purse_here", "_law_out_of", "_law_drawn_on", "_law_k", "_law_drawn"], ⟨"_law_draw", ["_law_purse_here", "_law_out_of"], [], 2, .fn, [], []⟩, f_law_draw⟩
def d_law_kinds_34f47c : Df := ⟨("_law_kinds", none), top 16, "_law_kinds", "_law_kinds", ["_law_error", "_law_some", "_law_at"], ⟨"_law_kinds", ["_law_error"], [], 1, .fn, [], []⟩, f_law_kinds_34f47c⟩
def d_law_right_b4ce7c : Df := ⟨("_law_right", none), top 17, "_law_right", "_law_right", ["_law_errors", "_law_due", "_law_found", "_law_error", "_law_at"], ⟨"_law_right", ["_law_errors", "_law_due"], [], 2, .fn, [], []⟩, f_law_right_b4ce7c⟩
def d_law_given_right : Df := ⟨("_law_given_right", none), top 18, "_law_given_right", "_law_given_right", ["_law_given", "_law_placed", "_law_named"], ⟨"_law_given_right", ["_law_given"], [], 3, .fn, [], []⟩, f_law_given_right⟩
def d_law_05788f : Df := ⟨("law", none), top 19, "law", "law", ["_law_script", "_law_drawn", "_law_some", "_law_bare", "_law_given"], ⟨"law", ["_law_script"], [], 4, .fn, [], []⟩, f_law_05788f⟩
def L : Lw := ⟨[], ["value", "name", "number"], [], [(160, d_law_mixed), (161, d_law_purse), (162, d_law_draw), (163, d_law_kinds_34f47c), (164, d_law_right_b4ce7c), (165, d_law_given_right), (166, d_law_05788f)], CF, [(10, "ReissueError"), (11, "InvalidBehavior"), (12, "InvalidNumber"), (13, "InvalidRule"), (14, "InvalidList"), (15, "InvalidName"), (16, "UnknownName"), (17, "TakenName"), (18, "NotOut"), (19, "NoneFree"), (20, "NothingToUndo")], [⟨11, "InvalidBehavior", "InvalidBehavior.__init__", "value", (cbody (top 2)).getD 0 (.Pass ⟨0, 0, 0, 0⟩)⟩, ⟨12, "InvalidNumber", "InvalidNumber.__init__", "value", (cbody (top 3)).getD 0 (.Pass ⟨0, 0, 0, 0⟩)⟩, ⟨13, "InvalidRule", "InvalidRule.__init__", "value", (cbody (top 4)).getD 0 (.Pass ⟨0, 0, 0, 0⟩)⟩, ⟨14, "InvalidList", "InvalidList.__init__", "value", (cbody (top 5)).getD 0 (.Pass ⟨0, 0, 0, 0⟩)⟩, ⟨15, "InvalidName", "InvalidName.__init__", "name", (cbody (top 6)).getD 0 (.Pass ⟨0, 0, 0, 0⟩)⟩, ⟨16, "UnknownName", "UnknownName.__init__", "name", (cbody (top 7)).getD 0 (.Pass ⟨0, 0, 0, 0⟩)⟩, ⟨17, "TakenName", "TakenName.__init__", "name", (cbody (top 8)).getD 0 (.Pass ⟨0, 0, 0, 0⟩)⟩, ⟨18, "NotOut", "NotOut.__init__", "number", (cbody (top 9)).getD 0 (.Pass ⟨0, 0, 0, 0⟩)⟩], "/claim/cut.py", [], [19, 20]⟩
theorem xi_InvalidBehavior : InitTxt "value" ((cbody (top 2)).getD 0 (.Pass ⟨0, 0, 0, 0⟩)) := ⟨_, _, _, _, _, _, _, _, _, _, _, _, _, rfl, rfl, rfl, rfl⟩
theorem xi_InvalidNumber : InitTxt "value" ((cbody (top 3)).getD 0 (.Pass ⟨0, 0, 0, 0⟩)) := ⟨_, _, _, _, _, _, _, _, _, _, _, _, _, rfl, rfl, rfl, rfl⟩
theorem xi_InvalidRule : InitTxt "value" ((cbody (top 4)).getD 0 (.Pass ⟨0, 0, 0, 0⟩)) := ⟨_, _, _, _, _, _, _, _, _, _, _, _, _, rfl, rfl, rfl, rfl⟩
theorem xi_InvalidList : InitTxt "value" ((cbody (top 5)).getD 0 (.Pass ⟨0, 0, 0, 0⟩)) := ⟨_, _, _, _, _, _, _, _, _, _, _, _, _, rfl, rfl, rfl, rfl⟩
theorem xi_InvalidName : InitTxt "name" ((cbody (top 6)).getD 0 (.Pass ⟨0, 0, 0, 0⟩)) := ⟨_, _, _, _, _, _, _, _, _, _, _, _, _, rfl, rfl, rfl, rfl⟩
theorem xi_UnknownName : InitTxt "name" ((cbody (top 7)).getD 0 (.Pass ⟨0, 0, 0, 0⟩)) := ⟨_, _, _, _, _, _, _, _, _, _, _, _, _, rfl, rfl, rfl, rfl⟩
theorem xi_TakenName : InitTxt "name" ((cbody (top 8)).getD 0 (.Pass ⟨0, 0, 0, 0⟩)) := ⟨_, _, _, _, _, _, _, _, _, _, _, _, _, rfl, rfl, rfl, rfl⟩
theorem xi_NotOut : InitTxt "number" ((cbody (top 9)).getD 0 (.Pass ⟨0, 0, 0, 0⟩)) := ⟨_, _, _, _, _, _, _, _, _, _, _, _, _, rfl, rfl, rfl, rfl⟩
theorem xdis : ∀ c n, L.xcs.lookup c = some n → L.cls.lookup c = none := fun c n h => by
  have h := look_mem h
  simp only [L, List.mem_cons, Prod.mk.injEq, List.not_mem_nil, or_false] at h
  rcases h with ⟨rfl, rfl⟩ | ⟨rfl, rfl⟩ | ⟨rfl, rfl⟩ | ⟨rfl, rfl⟩ | ⟨rfl, rfl⟩ | ⟨rfl, rfl⟩ | ⟨rfl, rfl⟩ | ⟨rfl, rfl⟩ | ⟨rfl, rfl⟩ | ⟨rfl, rfl⟩ | ⟨rfl, rfl⟩ <;> rfl
theorem xok : L.Xok := ⟨xdis, fun x h => by
  simp only [L, List.mem_cons, List.not_mem_nil, or_false] at h
  rcases h with rfl | rfl | rfl | rfl | rfl | rfl | rfl | rfl
  · exact ⟨rfl, rfl, xi_InvalidBehavior⟩
  · exact ⟨rfl, rfl, xi_InvalidNumber⟩
  · exact ⟨rfl, rfl, xi_InvalidRule⟩
  · exact ⟨rfl, rfl, xi_InvalidList⟩
  · exact ⟨rfl, rfl, xi_InvalidName⟩
  · exact ⟨rfl, rfl, xi_UnknownName⟩
  · exact ⟨rfl, rfl, xi_TakenName⟩
  · exact ⟨rfl, rfl, xi_NotOut⟩
  , fun c n f h hf => by
  have h := look_mem h
  simp only [L, List.mem_cons, Prod.mk.injEq, List.not_mem_nil, or_false] at h
  rcases h with ⟨rfl, rfl⟩ | ⟨rfl, rfl⟩ | ⟨rfl, rfl⟩ | ⟨rfl, rfl⟩ | ⟨rfl, rfl⟩ | ⟨rfl, rfl⟩ | ⟨rfl, rfl⟩ | ⟨rfl, rfl⟩ | ⟨rfl, rfl⟩ | ⟨rfl, rfl⟩ | ⟨rfl, rfl⟩
  · cases hf
  · exact ⟨_, List.mem_of_getElem? (l := L.xin) (i := 0) rfl, rfl⟩
  · exact ⟨_, List.mem_of_getElem? (l := L.xin) (i := 1) rfl, rfl⟩
  · exact ⟨_, List.mem_of_getElem? (l := L.xin) (i := 2) rfl, rfl⟩
  · exact ⟨_, List.mem_of_getElem? (l := L.xin) (i := 3) rfl, rfl⟩
  · exact ⟨_, List.mem_of_getElem? (l := L.xin) (i := 4) rfl, rfl⟩
  · exact ⟨_, List.mem_of_getElem? (l := L.xin) (i := 5) rfl, rfl⟩
  · exact ⟨_, List.mem_of_getElem? (l := L.xin) (i := 6) rfl, rfl⟩
  · exact ⟨_, List.mem_of_getElem? (l := L.xin) (i := 7) rfl, rfl⟩
  · cases hf
  · cases hf
  ⟩
theorem t_law_mixed : txtB L.T d_law_mixed = true := by decide +kernel
theorem n_law_mixed : BndOk d_law_mixed.name d_law_mixed.qual (defArgs d_law_mixed.st) (defBody d_law_mixed.st) (defScope d_law_mixed.st) d_law_mixed.ent.ps d_law_mixed.ent.dfl.length := ⟨fun _ _ _ _ _ _ _ us hl => match us, hl with | [_, _], _ => rfl, fun h => absurd rfl h⟩
theorem t_law_purse : txtB L.T d_law_purse = true := by decide +kernel
theorem n_law_purse : BndOk d_law_purse.name d_law_purse.qual (defArgs d_law_purse.st) (defBody d_law_purse.st) (defScope d_law_purse.st) d_law_purse.ent.ps d_law_purse.ent.dfl.length := ⟨fun _ _ _ _ _ _ _ us hl => match us, hl with | [_, _], _ => rfl, fun h => absurd rfl h⟩
theorem t_law_draw : txtB L.T d_law_draw = true := by decide +kernel
theorem n_law_draw : BndOk d_law_draw.name d_law_draw.qual (defArgs d_law_draw.st) (defBody d_law_draw.st) (defScope d_law_draw.st) d_law_draw.ent.ps d_law_draw.ent.dfl.length := ⟨fun _ _ _ _ _ _ _ us hl => match us, hl with | [_, _], _ => rfl, fun h => absurd rfl h⟩
theorem t_law_kinds_34f47c : txtB L.T d_law_kinds_34f47c = true := by decide +kernel
theorem n_law_kinds_34f47c : BndOk d_law_kinds_34f47c.name d_law_kinds_34f47c.qual (defArgs d_law_kinds_34f47c.st) (defBody d_law_kinds_34f47c.st) (defScope d_law_kinds_34f47c.st) d_law_kinds_34f47c.ent.ps d_law_kinds_34f47c.ent.dfl.length := ⟨fun _ _ _ _ _ _ _ us hl => match us, hl with | [_], _ => rfl, fun h => absurd rfl h⟩
theorem t_law_right_b4ce7c : txtB L.T d_law_right_b4ce7c = true := by decide +kernel
theorem n_law_right_b4ce7c : BndOk d_law_right_b4ce7c.name d_law_right_b4ce7c.qual (defArgs d_law_right_b4ce7c.st) (defBody d_law_right_b4ce7c.st) (defScope d_law_right_b4ce7c.st) d_law_right_b4ce7c.ent.ps d_law_right_b4ce7c.ent.dfl.length := ⟨fun _ _ _ _ _ _ _ us hl => match us, hl with | [_, _], _ => rfl, fun h => absurd rfl h⟩
theorem t_law_given_right : txtB L.T d_law_given_right = true := by decide +kernel
theorem n_law_given_right : BndOk d_law_given_right.name d_law_given_right.qual (defArgs d_law_given_right.st) (defBody d_law_given_right.st) (defScope d_law_given_right.st) d_law_given_right.ent.ps d_law_given_right.ent.dfl.length := ⟨fun _ _ _ _ _ _ _ us hl => match us, hl with | [_], _ => rfl, fun h => absurd rfl h⟩
theorem t_law_05788f : txtB L.T d_law_05788f = true := by decide +kernel
theorem n_law_05788f : BndOk d_law_05788f.name d_law_05788f.qual (defArgs d_law_05788f.st) (defBody d_law_05788f.st) (defScope d_law_05788f.st) d_law_05788f.ent.ps d_law_05788f.ent.dfl.length := ⟨fun _ _ _ _ _ _ _ us hl => match us, hl with | [_], _ => rfl, fun h => absurd rfl h⟩
theorem hT : ∀ (j : Nat) (d : Df), L.defs.lookup j = some d → txtB L.T d = true := fun j d h => by
  have h := look_mem h
  simp only [L, List.mem_cons, Prod.mk.injEq, List.not_mem_nil, or_false] at h
  rcases h with ⟨_, rfl⟩ | ⟨_, rfl⟩ | ⟨_, rfl⟩ | ⟨_, rfl⟩ | ⟨_, rfl⟩ | ⟨_, rfl⟩ | ⟨_, rfl⟩
  · exact t_law_mixed
  · exact t_law_purse
  · exact t_law_draw
  · exact t_law_kinds_34f47c
  · exact t_law_right_b4ce7c
  · exact t_law_given_right
  · exact t_law_05788f
theorem hB : ∀ (j : Nat) (d : Df), L.defs.lookup j = some d → BOk d := fun j d h => by
  have h := look_mem h
  simp only [L, List.mem_cons, Prod.mk.injEq, List.not_mem_nil, or_false] at h
  rcases h with ⟨_, rfl⟩ | ⟨_, rfl⟩ | ⟨_, rfl⟩ | ⟨_, rfl⟩ | ⟨_, rfl⟩ | ⟨_, rfl⟩ | ⟨_, rfl⟩
  · exact ⟨fun _ => ⟨n_law_mixed, by decide⟩, fun s h => (by cases h)⟩
  · exact ⟨fun _ => ⟨n_law_purse, by decide⟩, fun s h => (by cases h)⟩
  · exact ⟨fun _ => ⟨n_law_draw, by decide⟩, fun s h => (by cases h)⟩
  · exact ⟨fun _ => ⟨n_law_kinds_34f47c, by decide⟩, fun s h => (by cases h)⟩
  · exact ⟨fun _ => ⟨n_law_right_b4ce7c, by decide⟩, fun s h => (by cases h)⟩
  · exact ⟨fun _ => ⟨n_law_given_right, by decide⟩, fun s h => (by cases h)⟩
  · exact ⟨fun _ => ⟨n_law_05788f, by decide⟩, fun s h => (by cases h)⟩
end LawK

set_option maxRecDepth 100000
set_option maxHeartbeats 0
namespace LawK
open Law PySem PySem.Spec PyProof.Rows L2 Mi
abbrev R : PySem.W.OpenRow := PySem.W.OpenLaw.row PySem.Challenge.rw_reissue_k01_errors_made
abbrev hk : PySem.W.Hook := hookY 6 L
def ob (s : PySem.W.SharedT) : AlM := obsMY 6 L (HandSHeadRun.getT s)
theorem ob_eq (s : PySem.W.SharedT) : ob s = hk.obs s.abs := obsMY_eq (HandSHeadRun.getT_eq s)
def nm0 : List PySem.Str := ["__name__", "ReissueError", "InvalidBehavior", "InvalidNumber", "InvalidRule", "InvalidList", "InvalidName", "UnknownName", "TakenName", "NotOut", "NoneFree", "NothingToUndo", "_law_mixed", "_law_purse", "_law_draw", "_law_kinds", "_law_right", "_law_given_right"]
def loose : List PySem.Str := nm0
theorem map3 {α β γ δ : Type} {o : Option α} {A : α → β} {B : α → γ} {C : α → δ} {a : β} {b : γ} {c : δ} (h1 : o.map (fun s => (A s, B s)) = some (a, b)) (h3 : o.map C = some c) : o.map (fun s => (A s, B s, C s)) = some (a, b, c) := by
  cases o with
  | none => cases h1
  | some s =>
    simp only [Option.map_some, Option.some.injEq, Prod.mk.injEq] at h1 h3
    rw [Option.map_some, h1.1, h1.2, h3]
open HandSHeadRun PySem.W PySem.Calls in
theorem run_a (w : World) (os : OsState) : (endF (stepQ (denQ tabQ) R.prog w) 20000 R.prog w os).map (fun s => (looksF R.prog (boot_heap w.params) s.abs, seenQ (PySem.W.view R.prog [19]) loose (importedModules R.prog.main.body) (fun s => xlAt (PySem.W.view R.prog [19]) [] s && recOk R.toRowW.records s) s.abs)) = some (true, openGood (PySem.W.view R.prog [19]) loose) := by
  kernel_rfl
open HandSHeadRun PySem.W PySem.Calls in
theorem run_c (w : World) (os : OsState) : (endF (stepQ (denQ tabQ) R.prog w) 20000 R.prog w os).map (fun s => ob s) = some (hk.val w) := by
  kernel_rfl
theorem run_eq (w : World) : HandSHeadRun.RunEq R (PySem.W.view R.prog [19]) hk ob 20000 loose w := fun os => map3 (run_a w os) (run_c w os)
end LawK

set_option maxRecDepth 100000
set_option maxHeartbeats 4000000
/-! The table of the defs (printed by gen2.py). -/
namespace Law
open PySem L2 Mi
def FT : FTab := [
  (8, 1, f_is_whole),
  (12, 2, f_is_event),
  (13, 3, f_is_link),
  (14, 3, f_are_pairs),
  (15, 1, f_in_order),
  (16, 4, f_Behavior_init),
  (17, 1, f_Behavior_events),
  (19, 1, f_Behavior_heard),
  (20, 1, f_Behavior_opens),
  (160, 1, f_law_mixed),
  (161, 1, f_law_purse),
  (162, 2, f_law_draw),
  (163, 1, f_law_kinds_34f47c),
  (164, 2, f_law_right_b4ce7c),
  (165, 3, f_law_given_right),
  (166, 4, f_law_05788f),
  (362, 1, f_law_hash),
  (364, 2, f_law_random)]
theorem FT_ok : FT.okB 13 = true := by decide +kernel
@[irreducible] def Φ : Nat → Fn := Psi CF FT 14
theorem Φ_eq {j l : Nat} {fd : Fd} (z : FT.lookup j = some (l, fd)) : Φ j = Mi.run ⟨CF, Φ⟩ fd := by
  unfold Φ
  exact Psi_eq FT_ok z
theorem u_is_whole (ds : List D) (M : Sto) (h : ds.length = 1) : Φ 8 ds M = outR CF .pure M (exs ⟨CF, Φ⟩ b_is_whole (startE 1 ds) M) := by
  rw [Φ_eq (j := 8) rfl]
  exact run_out _ _ _ _ h
theorem u_is_event (ds : List D) (M : Sto) (h : ds.length = 2) : Φ 12 ds M = outR CF .pure M (exs ⟨CF, Φ⟩ b_is_event (startE 2 ds) M) := by
  rw [Φ_eq (j := 12) rfl]
  exact run_out _ _ _ _ h
theorem u_is_link (ds : List D) (M : Sto) (h : ds.length = 2) : Φ 13 ds M = outR CF .pure M (exs ⟨CF, Φ⟩ b_is_link (startE 7 ds) M) := by
  rw [Φ_eq (j := 13) rfl]
  exact run_out _ _ _ _ h
theorem u_are_pairs (ds : List D) (M : Sto) (h : ds.length = 2) : Φ 14 ds M = outR CF .pure M (exs ⟨CF, Φ⟩ b_are_pairs (startE 4 ds) M) := by
  rw [Φ_eq (j := 14) rfl]
  exact run_out _ _ _ _ h
theorem u_in_order (ds : List D) (M : Sto) (h : ds.length = 1) : Φ 15 ds M = outR CF .pure M (exs ⟨CF, Φ⟩ b_in_order (startE 5 ds) M) := by
  rw [Φ_eq (j := 15) rfl]
  exact run_out _ _ _ _ h
theorem u_Behavior_init (ds : List D) (M : Sto) (h : ds.length = 5) : Φ 16 ds M = outR CF .mut M (exs ⟨CF, Φ⟩ b_Behavior_init (startE 7 ds) M) := by
  rw [Φ_eq (j := 16) rfl]
  exact run_out _ _ _ _ h
theorem u_Behavior_events (ds : List D) (M : Sto) (h : ds.length = 1) : Φ 17 ds M = outR CF .pure M (exs ⟨CF, Φ⟩ b_Behavior_events (startE 1 ds) M) := by
  rw [Φ_eq (j := 17) rfl]
  exact run_out _ _ _ _ h
theorem u_Behavior_heard (ds : List D) (M : Sto) (h : ds.length = 1) : Φ 19 ds M = outR CF .pure M (exs ⟨CF, Φ⟩ b_Behavior_heard (startE 1 ds) M) := by
  rw [Φ_eq (j := 19) rfl]
  exact run_out _ _ _ _ h
theorem u_Behavior_opens (ds : List D) (M : Sto) (h : ds.length = 1) : Φ 20 ds M = outR CF .pure M (exs ⟨CF, Φ⟩ b_Behavior_opens (startE 1 ds) M) := by
  rw [Φ_eq (j := 20) rfl]
  exact run_out _ _ _ _ h
theorem u_law_mixed (ds : List D) (M : Sto) (h : ds.length = 2) : Φ 160 ds M = outR CF .pure M (exs ⟨CF, Φ⟩ b_law_mixed (startE 3 ds) M) := by
  rw [Φ_eq (j := 160) rfl]
  exact run_out _ _ _ _ h
theorem u_law_purse (ds : List D) (M : Sto) (h : ds.length = 2) : Φ 161 ds M = outR CF .own M (exs ⟨CF, Φ⟩ b_law_purse (startE 3 ds) M) := by
  rw [Φ_eq (j := 161) rfl]
  exact run_out _ _ _ _ h
theorem u_law_draw (ds : List D) (M : Sto) (h : ds.length = 2) : Φ 162 ds M = outR CF .mut M (exs ⟨CF, Φ⟩ b_law_draw (startE 5 ds) M) := by
  rw [Φ_eq (j := 162) rfl]
  exact run_out _ _ _ _ h
theorem u_law_kinds_34f47c (ds : List D) (M : Sto) (h : ds.length = 1) : Φ 163 ds M = outR CF .full M (exs ⟨CF, Φ⟩ b_law_kinds_34f47c (startE 3 ds) M) := by
  rw [Φ_eq (j := 163) rfl]
  exact run_out _ _ _ _ h
theorem u_law_right_b4ce7c (ds : List D) (M : Sto) (h : ds.length = 2) : Φ 164 ds M = outR CF .full M (exs ⟨CF, Φ⟩ b_law_right_b4ce7c (startE 5 ds) M) := by
  rw [Φ_eq (j := 164) rfl]
  exact run_out _ _ _ _ h
theorem u_law_given_right (ds : List D) (M : Sto) (h : ds.length = 1) : Φ 165 ds M = outR CF .full M (exs ⟨CF, Φ⟩ b_law_given_right (startE 3 ds) M) := by
  rw [Φ_eq (j := 165) rfl]
  exact run_out _ _ _ _ h
theorem u_law_05788f (ds : List D) (M : Sto) (h : ds.length = 1) : Φ 166 ds M = outR CF .pure M (exs ⟨CF, Φ⟩ b_law_05788f (startE 5 ds) M) := by
  rw [Φ_eq (j := 166) rfl]
  exact run_out _ _ _ _ h
theorem u_law_hash (ds : List D) (M : Sto) (h : ds.length = 2) : Φ 362 ds M = outR CF .pure M (exs ⟨CF, Φ⟩ b_law_hash (startE 3 ds) M) := by
  rw [Φ_eq (j := 362) rfl]
  exact run_out _ _ _ _ h
theorem u_law_random (ds : List D) (M : Sto) (h : ds.length = 2) : Φ 364 ds M = outR CF .mut M (exs ⟨CF, Φ⟩ b_law_random (startE 4 ds) M) := by
  rw [Φ_eq (j := 364) rfl]
  exact run_out _ _ _ _ h
end Law

set_option maxRecDepth 100000
set_option maxHeartbeats 4000000
namespace Law
open PySem PySem.Spec L2 Mi
abbrev I (i : Int) : D := .p (.int i)
theorem c_is_whole (i : Int) : Φ 8 [I i] [] = .ok (.p (.bl true)) [] := by
  rw [u_is_whole _ _ rfl]
  simp [b_is_whole]
end Law

set_option maxRecDepth 100000
set_option maxHeartbeats 4000000
namespace Law
open PySem PySem.Spec L2 Mi
/-- the script's numbers, 0 behind its end -/
def cell (ns : List Int) (i : Nat) : Int := ns.getD i 0
def hash (s i : Int) : Int :=
  let m := (s * 1103515245 + 7919 * i * i + i + 1) % 2147483647
  let m := (m * m + 69621) % 2147483629
  (m * 48271) % 2147483587
def g0 (s : Int) : Int := (if 0 > s - 10 ^ 18 then 0 else s - 10 ^ 18) % (10 ^ 60) ^ 10
abbrev gl (a b c : Int) : Cell := .lst [I a, I b, I c]
theorem c_hash (s : Int) {i : Int} (h : i.natAbs < 2 ^ 40) : Φ 362 [I s, I i] [] = .ok (I (hash s i)) [] := by
  have m1 : mulOk s 1103515245 = true := mulOk_r (by decide)
  have m2 : mulOk 7919 i = true := mulOk_l (by decide)
  have m3 : mulOk (7919 * i) i = true := mulOk_r (by omega)
  have m4 : ∀ x, mulOk (x % 2147483647) (x % 2147483647) = true := fun x => mulOk_l (by omega)
  have m5 : ∀ x, mulOk x 48271 = true := fun x => mulOk_r (by decide)
  rw [u_law_hash _ _ rfl]
  simp [b_law_hash, hash, m1, m2, m3, m4, m5]
theorem g0_nonneg (s : Int) : 0 ≤ g0 s := Int.emod_nonneg _ (by decide +kernel)
end Law

set_option maxRecDepth 100000
set_option maxHeartbeats 4000000
namespace Law
open PySem PySem.Spec L2 Mi
def dr (b c : Int) : Nat → Int
  | 0 => 0
  | i + 1 => dr b c i * 2147483587 + hash b (c + (i : Int) + 1)
def rounds (m : Int) : Nat := (1 + bitLen m / 30).toNat
theorem rounds_le {m : Int} (h : m.natAbs < 2 ^ 256) : 0 ≤ bitLen m ∧ bitLen m ≤ 256 := by
  unfold bitLen PySem.Builtin.Int.intBits
  split
  · simp
  · rename_i hz
    have hz : m.natAbs ≠ 0 := by simpa using hz
    have := (Nat.log2_lt hz).mpr h
    omega
/-- the number drawn, the purse, the place -/
def rnd (a b c m : Int) : Int × Int × Int := if 0 < a then (a % m, a / m, c) else (dr b c (rounds m) % m, a, c + rounds m)
theorem c_rnd {a b c m : Int} (h1 : 0 < m) (h2 : m.natAbs < 2 ^ 256) (h3 : 0 ≤ c) (h4 : c < 2 ^ 30) : Φ 364 [.ref 0, I m] [gl a b c] = .ok (I (rnd a b c m).1) [gl (rnd a b c m).2.1 b (rnd a b c m).2.2] := by
  have m1 : divOk m = true := divOk_of h1 h2
  rw [u_law_random _ _ rfl]
  by_cases ha : 0 < a
  · simp [b_law_random, atI, ixN, ha, h1, m1, rnd, Cell.flat]
  · obtain ⟨r1, r2⟩ := rounds_le h2
    have m2 : divOk 30 = true := by decide +kernel
    have r3 : itR1 (.p (.int (1 + bitLen m / 30))) = some ((List.range (rounds m)).map fun i => .p (.int (i : Nat))) := itR1_ok rfl (by omega) (by omega)
    have r4 : rounds m ≤ 9 := by unfold rounds; omega
    obtain ⟨ρ', M', e, x, rfl, rfl⟩ := loop_nat (g := ⟨CF, Φ⟩) (t := .one 3) (b := [.sub (.v 0) (.c (.int 2)) (.bin .add (.ix (.v 0) (.c (.int 2))) (.c (.int 1))), .asg (.one 2) (.bin .add (.bin .mul (.v 2) (.c (.int 2147483587))) (.call 362 .pure [(.ix (.v 0) (.c (.int 1))), (.ix (.v 0) (.c (.int 2)))] []))])
      (its := (List.range (rounds m)).map fun i => .p (.int (i : Nat))) (fun i ρ M => ∃ x, ρ = [some (.ref 0), some (I m), some (I (dr b c i)), x] ∧ M = [gl a b (c + i)])
      (ρ := [some (.ref 0), some (I m), some (I 0), none]) (M := [gl a b c]) ⟨none, by simp [dr], by simp⟩ (fun i d ρ M hd hr => by
        obtain ⟨x, rfl, rfl⟩ := hr
        have hi : i < rounds m := by
          have := (List.getElem?_eq_some_iff.mp hd).1
          simpa using this
        have e1 : Φ 362 [I b, I (c + i + 1)] [] = .ok (I (hash b (c + i + 1))) [] := c_hash b (by omega)
        have m3 : mulOk (dr b c i) 2147483587 = true := mulOk_r (by decide)
        refine ⟨_, _, _, rfl, .inl ?_, some d, rfl, by rw [show c + ((i + 1 : Nat) : Int) = c + i + 1 by omega]⟩
        simp [atI, ixN, e1, m3, dr, gl])
    rw [List.length_map, List.length_range] at e
    simp [b_law_random, atI, ixN, ha, h1, m1, m2, r3, e, rnd, Cell.flat]
theorem rnd_ok {a b c m : Int} (h1 : 0 < m) (h2 : m.natAbs < 2 ^ 256) (h3 : 0 ≤ c) (h4 : c < 2 ^ 29) (ha : 0 ≤ a) : ∃ r a' c', Φ 364 [.ref 0, I m] [gl a b c] = .ok (I r) [gl a' b c'] ∧ 0 ≤ r ∧ r < m ∧ 0 ≤ a' ∧ c ≤ c' ∧ c' ≤ c + 9 := by
  refine ⟨_, _, _, c_rnd h1 h2 h3 (by omega), ?_⟩
  obtain ⟨r1, r2⟩ := rounds_le h2
  have r4 : rounds m ≤ 9 := by unfold rounds; omega
  have q1 := Int.emod_nonneg a (show m ≠ 0 by omega)
  have q2 := Int.emod_lt_of_pos a h1
  have q3 := Int.emod_nonneg (dr b c (rounds m)) (show m ≠ 0 by omega)
  have q4 := Int.emod_lt_of_pos (dr b c (rounds m)) h1
  have q5 := Int.ediv_nonneg ha (show 0 ≤ m by omega)
  show 0 ≤ (rnd a b c m).1 ∧ _
  unfold rnd
  split
  · exact ⟨q1, q2, q5, by simp only; omega, by simp only; omega⟩
  · exact ⟨q3, q4, ha, by simp only; omega, by simp only; omega⟩
end Law

set_option maxRecDepth 100000
set_option maxHeartbeats 4000000
namespace Law
open PySem PySem.Spec L2 Mi
end Law

set_option maxRecDepth 100000
set_option maxHeartbeats 4000000
namespace Law
open PySem PySem.Spec L2 Mi
end Law

set_option maxRecDepth 100000
set_option maxHeartbeats 4000000
/-! Loops and comprehensions over encoded things; draws. -/
namespace Law
open PySem PySem.Spec L2 Mi
@[simp] theorem toPs_comp {α : Type} (f : α → P) (xs : List α) : toPs (xs.map (D.p ∘ f)) = some (xs.map f) := by
  rw [← List.map_map, toPs_map]
@[simp] theorem toPs_lam {α : Type} (f : α → P) (xs : List α) : toPs (xs.map fun x => D.p (f x)) = some (xs.map f) := toPs_comp f xs
@[simp] theorem toPs_append (xs ys : List D) : toPs (xs ++ ys) = (toPs xs).bind fun a => (toPs ys).map (a ++ ·) := by
  induction xs with
  | nil => cases h : toPs ys <;> simp [toPs, h]
  | cons x xs ih =>
    cases x with
    | p x =>
      simp only [List.cons_append, toPs, ih]
      cases toPs xs with
      | none => rfl
      | some a => cases toPs ys <;> simp
    | ref n => rfl
    | tup ds => rfl
@[simp] theorem mapO_lam {α : Type} (cf : Nat → List Str) (lo : Nat) (M : Sto) (k : Nat) (f : α → P) (xs : List α) : mapO (rd cf lo M k) (xs.map fun x => D.p (f x)) = some (xs.map f) := by
  show mapO (rd cf lo M k) (xs.map (D.p ∘ f)) = some (xs.map f)
  rw [← List.map_map, mapO_rd_p]
@[simp] theorem mapO_comp {α : Type} (cf : Nat → List Str) (lo : Nat) (M : Sto) (k : Nat) (f : α → P) (xs : List α) : mapO (rd cf lo M k) (xs.map (D.p ∘ f)) = some (xs.map f) := by
  rw [← List.map_map, mapO_rd_p]
/-- .. by what has been gone through -/
theorem loop_pre {g : Cg} {t : Tg} {b : List MS} {α : Type} (enc : α → D) (R : List α → Mi.Env → Sto → Prop) {xs : List α}
    (hs : ∀ pre x post ρ M, xs = pre ++ x :: post → R pre ρ M → ∃ ρ1 ρ2 M2, bindT t (enc x) ρ = some ρ1 ∧ (exs g b ρ1 M = .nx ρ2 M2 ∨ exs g b ρ1 M = .ct ρ2 M2) ∧ R (pre ++ [x]) ρ2 M2)
    {ρ : Mi.Env} {M : Sto} (h : R [] ρ M) : ∃ ρ' M', loop g t b (some (xs.map enc)) ρ M = .nx ρ' M' ∧ R xs ρ' M' := by
  have key : ∀ (post pre : List α) (ρ : Mi.Env) (M : Sto), xs = pre ++ post → R pre ρ M → ∃ ρ' M', loop g t b (some (post.map enc)) ρ M = .nx ρ' M' ∧ R xs ρ' M' := by
    intro post
    induction post with
    | nil => intro pre ρ M hx hr; rw [List.append_nil] at hx; subst hx; exact ⟨ρ, M, rfl, hr⟩
    | cons x post ih =>
      intro pre ρ M hx hr
      obtain ⟨ρ1, ρ2, M2, e1, e2, h2⟩ := hs pre x post ρ M hx hr
      obtain ⟨ρ', M', e3, h3⟩ := ih (pre ++ [x]) ρ2 M2 (by rw [hx]; simp) h2
      refine ⟨ρ', M', ?_, h3⟩
      unfold loop at e3 ⊢
      simp only [List.map_cons, forL, e1]
      rcases e2 with e2 | e2 <;> simp only [e2] <;> exact e3
  exact key xs [] ρ M rfl h
theorem cmpr_filt {g : Cg} {t : Tg} {cond : Option ME} {e : ME} {ρ : Mi.Env} {M : Sto} {α : Type} (enc : α → D) (p : α → Bool) (f : α → D) {xs : List α} (h : ∀ x ∈ xs, ∃ ρ', bindT t (enc x) (wipeE ρ (tgs t)) = some ρ' ∧ evTO g cond ρ' M = .ok (p x) M ∧ (p x = true → ev g e ρ' M = .ok (f x) M)) :
    cmpr g t cond e (some (xs.map enc)) ρ M = .ok ((xs.filter p).map f) M := by
  have key : ∀ acc, compL (fun d M => match bindT t d (wipeE ρ (tgs t)) with
        | none => .stuck
        | some ρ' => (evTO g cond ρ' M).bind fun b M => match b with
          | true => (ev g e ρ' M).bind fun y M => .ok (some y) M
          | false => .ok none M) (xs.map enc) acc M = .ok (acc ++ (xs.filter p).map f) M := by
    induction xs with
    | nil => intro acc; simp [compL]
    | cons x xs ih =>
      intro acc
      obtain ⟨ρ', e1, e2, e3⟩ := h x List.mem_cons_self
      have ih := ih fun y hy => h y (List.mem_cons_of_mem _ hy)
      simp only [List.map_cons, compL, e1, e2, R.bind_ok]
      cases hp : p x with
      | true =>
        simp only [e3 hp, R.bind_ok, R.noex_ok, ih, List.filter_cons, hp, if_true, List.map_cons, List.append_assoc, List.singleton_append]
      | false =>
        simp only [R.bind_ok, R.noex_ok, ih, List.filter_cons, hp, Bool.false_eq_true, if_false]
  have := key []
  rw [List.nil_append] at this
  exact this
theorem cmpr_mapE {g : Cg} {t : Tg} {e : ME} {ρ : Mi.Env} {M : Sto} {α : Type} (enc : α → D) (f : α → D) {xs : List α} (h : ∀ x ∈ xs, ∃ ρ', bindT t (enc x) (wipeE ρ (tgs t)) = some ρ' ∧ ev g e ρ' M = .ok (f x) M) :
    cmpr g t none e (some (xs.map enc)) ρ M = .ok (xs.map f) M := by
  rw [cmpr_filt enc (fun _ => true) f fun x hx => let ⟨ρ', h1, h2⟩ := h x hx; ⟨ρ', h1, rfl, fun _ => h2⟩]
  rw [List.filter_eq_self.mpr (fun _ _ => rfl)]
/-! ### draws -/
/-- a purse with which n numbers more can be drawn -/
def GS (n : Nat) (C : Cell) : Prop := ∃ a b c, C = gl a b c ∧ 0 ≤ a ∧ 0 ≤ c ∧ c + 9 * n < 2 ^ 29
theorem GS.mono {n m : Nat} {C : Cell} (h : GS n C) (hm : m ≤ n) : GS m C := by
  obtain ⟨a, b, c, e, h1, h2, h3⟩ := h
  exact ⟨a, b, c, e, h1, h2, by omega⟩
theorem GS.flat {n : Nat} {C : Cell} (h : GS n C) : C.flat = true := by
  obtain ⟨a, b, c, rfl, _⟩ := h
  rfl
theorem draw {n : Nat} {C : Cell} {m : Int} (h : GS (n + 1) C) (h1 : 0 < m) (h2 : m ≤ 10 ^ 60) : ∃ r C', Φ 364 [.ref 0, I m] [C] = .ok (I r) [C'] ∧ 0 ≤ r ∧ r < m ∧ GS n C' := by
  obtain ⟨a, b, c, rfl, k1, k2, k3⟩ := h
  have big : m.natAbs < 2 ^ 256 := by
    have : (10 : Nat) ^ 60 < 2 ^ 256 := by decide +kernel
    omega
  obtain ⟨r, a', c', e, q1, q2, q3, q4, q5⟩ := rnd_ok (a := a) (b := b) (c := c) h1 big k2 (by omega) k1
  exact ⟨r, _, e, q1, q2, a', b, c', rfl, q3, by omega, by omega⟩
/-! ### small facts -/
@[simp] theorem allInts_comp (ns : List Int) : allInts (ns.map (D.p ∘ P.int)) = some ns := allInts_map ns
end Law

set_option maxRecDepth 100000
set_option maxHeartbeats 4000000
/-! Behaviors as data; how they are made. -/
namespace Law
open PySem PySem.Spec L2 Mi
@[simp] theorem at_t0 (a b c d e : P) : atI [a, b, c, d, e] 0 = some a := rfl
@[simp] theorem at_t1 (a b c d e : P) : atI [a, b, c, d, e] 1 = some b := rfl
@[simp] theorem at_t2 (a b c d e : P) : atI [a, b, c, d, e] 2 = some c := rfl
@[simp] theorem at_t3 (a b c d e : P) : atI [a, b, c, d, e] 3 = some d := rfl
@[simp] theorem at_t4 (a b c d e : P) : atI [a, b, c, d, e] 4 = some e := rfl
@[simp] theorem at_q0 (a b c d : P) : atI [a, b, c, d] 0 = some a := rfl
@[simp] theorem at_q1 (a b c d : P) : atI [a, b, c, d] 1 = some b := rfl
@[simp] theorem at_q2 (a b c d : P) : atI [a, b, c, d] 2 = some c := rfl
@[simp] theorem at_q3 (a b c d : P) : atI [a, b, c, d] 3 = some d := rfl
@[simp] theorem at_p0 (a b : P) : atI [a, b] 0 = some a := rfl
@[simp] theorem at_p1 (a b : P) : atI [a, b] 1 = some b := rfl
structure Lk where
  c : Nat
  e : Nat
  lo : Int
  hi : Option Int
  mn : Bool
def oI : Option Int → P
  | none => .non
  | some i => .int i
def Lk.P (l : Lk) : P := .tup [.int l.c, .int l.e, .int l.lo, oI l.hi, .bl l.mn]
abbrev Pr := Nat × Nat
def prP (q : Pr) : P := .tup [.int q.1, .int q.2]
structure Bh where
  n : Nat
  ls : List Lk
  ears : List Pr
  doors : List Pr
def Bh.P (b : Bh) : P := .obj 0 [.int b.n, .tup (b.ls.map Lk.P), .tup (b.ears.map prP), .tup (b.doors.map prP)]
structure Lk.Ok (n : Nat) (l : Lk) : Prop where
  c : l.c < n
  e0 : 0 < l.e
  e : l.e < n
  lo : 0 ≤ l.lo
  hi : ∀ h, l.hi = some h → l.lo ≤ h
structure PrsOk (n : Nat) (ps : List Pr) : Prop where
  ev : ∀ q ∈ ps, q.1 < n
  nd : ps.Nodup
  len : ps.length ≤ 1000
structure Bh.Ok (b : Bh) : Prop where
  n2 : 2 ≤ b.n
  n1 : b.n ≤ 1000
  ls : ∀ l ∈ b.ls, l.Ok b.n
  ll : b.ls.length ≤ 1000
  ears : PrsOk b.n b.ears
  doors : PrsOk b.n b.doors
theorem c_is_event {v n : Int} : Φ 12 [I v, I n] [] = .ok (.p (.bl (decide (0 ≤ v ∧ v < n)))) [] := by
  rw [u_is_event _ _ rfl]
  by_cases h : 0 ≤ v <;> simp [b_is_event, c_is_whole, h]
theorem c_is_link {n : Nat} {l : Lk} (h : l.Ok n) : Φ 13 [.p l.P, I n] [] = .ok (.p (.bl true)) [] := by
  obtain ⟨c, e, lo, hi, mn⟩ := l
  obtain ⟨h1, h2, h3, h4, h5⟩ := h
  simp only at h1 h2 h3 h4 h5
  have e3 : ¬ e = 0 := by omega
  have e4 : ¬ lo < 0 := by omega
  rw [u_is_link _ _ rfl]
  cases hi with
  | none => simp -dsimp [b_is_link, Lk.P, oI, c_is_event, c_is_whole, eqD_int, h1, h3, e3, e4, isTy]
  | some h => simp -dsimp [b_is_link, Lk.P, oI, c_is_event, c_is_whole, eqD_int, h1, h3, e3, e4, h5 h rfl, isTy]
theorem beq_nat (a b : Nat) : ((a : Int) == (b : Int)) = decide (a = b) := by
  by_cases h : a = b
  · simp [h]
  · have : ¬ (a : Int) = b := by omega
    simp [h, this]
theorem eqv_pr (q r : Pr) : P.eqv (prP q) (prP r) = decide (q = r) := by
  obtain ⟨a, b⟩ := q
  obtain ⟨c, d⟩ := r
  simp only [prP, P.eqv, P.eqvs, beq_nat]
  by_cases h : a = c <;> by_cases h' : b = d <;> simp [h, h']
theorem sh_pr (q : Pr) : P.sh SH (prP q) = true := rfl
theorem sh_prs (ps : List Pr) : (ps.map prP).all (P.sh SH) = true := by
  rw [List.all_eq_true]
  intro x hx
  obtain ⟨q, _, rfl⟩ := List.mem_map.mp hx
  rfl
theorem inD_prs {M : Sto} (q : Pr) (ps : List Pr) : inD CF (.p (prP q)) (.p (.lst (ps.map prP))) M = some (decide (q ∈ ps)) := by
  have e1 : rd CF 0 M FU (.p (prP q)) = some (prP q) := rfl
  have e2 : rd CF 0 M FU (.p (.lst (ps.map prP))) = some (.lst (ps.map prP)) := rfl
  have e3 : dctD M (.p (.lst (ps.map prP))) = none := rfl
  unfold inD
  simp only [e3, e1, e2, sh_pr, sh_prs, Bool.and_self, if_true]
  congr 1
  clear e2 e3
  induction ps with
  | nil => simp
  | cons r ps ih =>
    rw [List.map_cons, List.any_cons, ih, eqv_pr]
    by_cases h : q = r
    · simp [h]
    · simp [h, Ne.symm h]
theorem cut_take {α : Type} (xs : List α) (i : Nat) (h : i ≤ xs.length) : cut xs none (some (i : Int)) = xs.take i := by
  have e : HT.sIx xs.length 0 none = 0 := rfl
  have e2 : HT.sIx xs.length xs.length (some (i : Int)) = i := by
    rw [HT.sIx_nat]
    omega
  unfold cut
  rw [e, e2]
  simp
theorem cut_drop {α : Type} (xs : List α) (i : Nat) (h : i ≤ xs.length) : cut xs (some (i : Int)) none = xs.drop i := by
  have e : HT.sIx xs.length 0 (some (i : Int)) = i := by
    rw [HT.sIx_nat]
    omega
  have e2 : HT.sIx xs.length xs.length none = xs.length := rfl
  unfold cut
  rw [e, e2]
  apply List.take_of_length_le
  simp
theorem c_are_pairs {n : Nat} {ps : List Pr} (h : PrsOk n ps) : Φ 14 [.p (.lst (ps.map prP)), I n] [] = .ok (.p (.bl true)) [] := by
  obtain ⟨h1, h2, h3⟩ := h
  rw [u_are_pairs _ _ rfl]
  have key : ∀ (i : Nat) (q : Pr), ps[i]? = some q → slD (.p (.lst (ps.map prP))) none (some (i : Int)) [] = some (.p (.lst ((ps.take i).map prP))) ∧ inD CF (.p (prP q)) (.p (.lst ((ps.take i).map prP))) [] = some false ∧ q.1 < n := by
    intro i q hq
    obtain ⟨hi, rfl⟩ := List.getElem?_eq_some_iff.mp hq
    refine ⟨?_, ?_, h1 _ (List.getElem_mem hi)⟩
    · show (match lstD [] (.p (.lst (ps.map prP))) with | some ds => (toPs (cut ds none (some (i : Int)))).map fun xs => D.p (.lst xs) | none => none) = _
      show (toPs (cut ((ps.map prP).map D.p) none (some (i : Int)))).map (fun xs => D.p (.lst xs)) = _
      rw [cut_take _ _ (by simp; omega), ← List.map_take, ← List.map_take, toPs_map]
      rfl
    · rw [inD_prs]
      have nin : ¬ ps[i] ∈ ps.take i := fun hm => by
        obtain ⟨j, hj, ej⟩ := List.getElem_of_mem hm
        rw [List.getElem_take] at ej
        simp at hj
        have := (List.getElem_inj h2).mp ej
        omega
      simp [nin]
  have gt : ∀ (i : Nat) (x : P), (ps.map prP)[i]? = some x → ∃ q, ps[i]? = some q ∧ x = prP q := by
    intro i x hx
    rw [List.getElem?_map, Option.map_eq_some_iff] at hx
    obtain ⟨q, h1, h2⟩ := hx
    exact ⟨q, h1, h2.symm⟩
  generalize ps.map prP = L at *
  obtain ⟨ρ', M', e, y2, y3, rfl, rfl⟩ := loop_nat (g := ⟨CF, Φ⟩) (t := .many [2, 3]) (b := l_are_pairs_0) (its := enumP L) (fun _ ρ M => ∃ y2 y3, ρ = [some (.p (.lst L)), some (I n), y2, y3] ∧ M = [])
    (ρ := [some (.p (.lst L)), some (I n), none, none]) (M := []) ⟨none, none, rfl, rfl⟩ (fun i d ρ M hd hr => by
      obtain ⟨y2, y3, rfl, rfl⟩ := hr
      obtain ⟨x, hx, rfl⟩ := enumP_get hd
      obtain ⟨⟨qa, qb⟩, hq, rfl⟩ := gt i x hx
      obtain ⟨k1, k2, k3⟩ := key i _ hq
      generalize (ps.take i).map prP = L2 at *
      have k4 : ¬ (qb : Int) < 0 := by omega
      refine ⟨_, _, _, rfl, .inl ?_, some (I i), some (.p (prP (qa, qb))), rfl, rfl⟩
      simp only [prP] at k2 k3 ⊢
      simp -dsimp [l_are_pairs_0, c_is_event, c_is_whole, eqD_int, k1, k2, k3, k4, atI, ixN])
  simp -dsimp [b_are_pairs, e]
/-- pairs of numbers by order -/
def plt (a b : Pr) : Bool := decide (a.1 < b.1 ∨ (a.1 = b.1 ∧ a.2 < b.2))
def ins (xs : List Pr) (q : Pr) : List Pr := xs.take (xs.filter fun r => plt r q).length ++ [q] ++ xs.drop (xs.filter fun r => plt r q).length
def ord (xs : List Pr) : List Pr := xs.foldl ins []
theorem lex_pr (q r : Pr) : HT.lexLt [(q.1 : Int), (q.2 : Int)] [(r.1 : Int), (r.2 : Int)] = plt q r := by
  obtain ⟨a, b⟩ := q
  obtain ⟨c, d⟩ := r
  simp only [plt, HT.lexLt]
  split
  · rename_i h
    have h : a = c := by omega
    subst h
    split
    · rename_i h
      have h : b = d := by omega
      subst h
      simp
    · simp
  · rename_i h
    have h : ¬ a = c := by omega
    simp [h]
theorem ins_perm (xs : List Pr) (q : Pr) : (ins xs q).Perm (q :: xs) := by
  unfold ins
  rw [List.append_assoc, List.singleton_append]
  refine List.perm_middle.trans ?_
  rw [List.take_append_drop]
theorem ord_perm (xs : List Pr) : (ord xs).Perm xs := by
  have key : ∀ (xs acc : List Pr), (xs.foldl ins acc).Perm (acc ++ xs) := by
    intro xs
    induction xs with
    | nil => intro acc; simp
    | cons x xs ih =>
      intro acc
      rw [List.foldl_cons]
      refine (ih _).trans ?_
      refine ((ins_perm acc x).append_right xs).trans ?_
      exact (List.perm_middle (l₁ := acc) (l₂ := xs) (a := x)).symm
  have := key xs []
  rw [List.nil_append] at this
  exact this
theorem c_in_order {ps : List Pr} (hl : ps.length ≤ 1000) : Φ 15 [.p (.lst (ps.map prP))] [] = .ok (.p (.tup ((ord ps).map prP))) [] := by
  rw [u_in_order _ _ rfl]
  have it : itSeq (.p (.lst (ps.map prP))) = some (ps.map fun q => D.p (prP q)) := by
    show some ((ps.map prP).map D.p) = _
    rw [List.map_map]; rfl
  obtain ⟨ρ', M', e, x2, x3, x4, rfl, rfl, hlen⟩ := loop_pre (g := ⟨CF, Φ⟩) (t := .one 2) (b := l_in_order_0) (fun q => D.p (prP q)) (fun pre ρ M => ∃ x2 x3 x4, ρ = [some (.p (.lst (ps.map prP))), some (.p (.lst ((ord pre).map prP))), x2, x3, x4] ∧ M = [] ∧ True) (xs := ps)
    (fun pre q post ρ M hq hr => by
      obtain ⟨x2, x3, x4, rfl, rfl, hs⟩ := hr
      have hsl : (ord pre).length < 1000 := by
        have := congrArg List.length hq
        rw [(ord_perm pre).length_eq]
        simp at this
        omega
      have hor : ord (pre ++ [q]) = ins (ord pre) q := by unfold ord; simp
      rw [hor]
      generalize ord pre = s at *
      have cm : cmpr ⟨CF, Φ⟩ (.one 4) (some (.cmp .lt (.v 4) (.v 2))) (.v 4) (some (s.map fun r => D.p (prP r))) [some (.p (.lst (ps.map prP))), some (.p (.lst (s.map prP))), some (.p (prP q)), x3, x4] [] = .ok ((s.filter fun r => plt r q).map fun r => D.p (prP r)) [] :=
        cmpr_filt (fun r => D.p (prP r)) (fun r => plt r q) (fun r => D.p (prP r)) fun r hr => ⟨[some (.p (.lst (ps.map prP))), some (.p (.lst (s.map prP))), some (.p (prP q)), x3, some (.p (prP r))], rfl, by
          have hlx := lex_pr r q
          obtain ⟨ra, rb⟩ := r
          obtain ⟨qa, qb⟩ := q
          simp -dsimp [prP, intsOf, hlx], fun _ => rfl⟩
      have it2 : itSeq (.p (.lst (s.map prP))) = some (s.map fun q => D.p (prP q)) := by
        show some ((s.map prP).map D.p) = _
        rw [List.map_map]; rfl
      have hk : (s.filter fun r => plt r q).length ≤ s.length := List.length_filter_le _ _
      have sd : ∀ k : Nat, k ≤ s.length → slD (.p (.lst (s.map prP))) none (some (k : Int)) [] = some (.p (.lst ((s.take k).map prP))) ∧ slD (.p (.lst (s.map prP))) (some (k : Int)) none [] = some (.p (.lst ((s.drop k).map prP))) := by
        intro k hk
        constructor
        · show (toPs (cut ((s.map prP).map D.p) none (some (k : Int)))).map (fun xs => D.p (.lst xs)) = _
          rw [cut_take _ _ (by simp; omega), ← List.map_take, ← List.map_take, toPs_map]
          rfl
        · show (toPs (cut ((s.map prP).map D.p) (some (k : Int)) none)).map (fun xs => D.p (.lst xs)) = _
          rw [cut_drop _ _ (by simp; omega), ← List.map_drop, ← List.map_drop, toPs_map]
          rfl
      obtain ⟨sd1, sd2⟩ := sd _ hk
      refine ⟨_, [some (.p (.lst (ps.map prP))), some (.p (.lst ((ins s q).map prP))), some (.p (prP q)), some (I (s.filter fun r => plt r q).length), x4], [], rfl, .inl ?_, _, _, _, rfl, rfl, trivial⟩
      generalize hf : (s.filter fun r => plt r q) = fl at *
      have hin : (ins s q).map prP = (s.take fl.length).map prP ++ [prP q] ++ (s.drop fl.length).map prP := by
        unfold ins; rw [hf]; simp
      rw [hin]
      have hl1 : (s.take fl.length).length ≤ 1000 := by rw [List.length_take]; omega
      have hl2 : (s.drop fl.length).length ≤ 1000 := by rw [List.length_drop]; omega
      generalize s.take fl.length = s1 at *
      generalize s.drop fl.length = s2 at *
      have hlm : LIM = 1000000 := rfl
      have a1 : s1.length + 1 ≤ LIM := by omega
      have a2 : s1.length + 1 + s2.length ≤ LIM := by omega
      generalize ps.map prP = L at *
      simp -dsimp [l_in_order_0, cm, it2, sd1, sd2, catL, a1, a2]) (ρ := [some (.p (.lst (ps.map prP))), some (.p (.lst [])), none, none, none]) (M := []) ⟨none, none, none, rfl, rfl, trivial⟩
  generalize ps.map prP = L at *
  generalize (ps.map fun q => D.p (prP q)) = L2 at *
  generalize (ord ps).map prP = L3 at *
  show outR CF .pure [] (exs ⟨CF, Φ⟩ b_in_order [some (.p (.lst L)), none, none, none, none] []) = _
  simp -dsimp [b_in_order, it, e]
theorem PrsOk.ord {n : Nat} {ps : List Pr} (h : PrsOk n ps) : PrsOk n (Law.ord ps) :=
  ⟨fun q hq => h.ev q ((ord_perm ps).mem_iff.mp hq), (ord_perm ps).nodup_iff.mpr h.nd, by rw [(ord_perm ps).length_eq]; exact h.len⟩
/-- the parts of a behavior as they are handed in -/
structure Pts where
  n : Nat
  ls : List Lk
  h : List Pr
  o : List Pr
structure Pts.Ok (p : Pts) : Prop where
  n2 : 2 ≤ p.n
  n1 : p.n ≤ 1000
  ls : ∀ l ∈ p.ls, l.Ok p.n
  ll : p.ls.length ≤ 1000
  h : PrsOk p.n p.h
  o : PrsOk p.n p.o
def Pts.P (p : Pts) : P := .tup [.int p.n, .lst (p.ls.map Lk.P), .lst (p.h.map prP), .lst (p.o.map prP)]
def Pts.bh (p : Pts) : Bh := ⟨p.n, p.ls, ord p.h, ord p.o⟩
theorem Pts.Ok.bh {p : Pts} (h : p.Ok) : p.bh.Ok := ⟨h.n2, h.n1, h.ls, h.ll, h.h.ord, h.o.ord⟩
theorem c_init_bh {p : Pts} (h : p.Ok) : Φ 16 [.ref 0, I p.n, .p (.lst (p.ls.map Lk.P)), .p (.lst (p.h.map prP)), .p (.lst (p.o.map prP))] [.ins 0 []] = .ok (.p .non) [.ins 0 [("many", I p.n), ("rows", .p (.tup (p.ls.map Lk.P))), ("ears", .p (.tup ((ord p.h).map prP))), ("doors", .p (.tup ((ord p.o).map prP)))]] := by
  have cl := fun l hl => c_is_link (h.ls l hl)
  have a1 := c_are_pairs h.h
  have a2 := c_are_pairs h.o
  have o1 := c_in_order h.h.len
  have o2 := c_in_order h.o.len
  have h2 : (2 : Int) ≤ (p.n : Int) := by have := h.n2; omega
  obtain ⟨n, ls, hs, os⟩ := p
  simp only at *
  have cm : cmpr ⟨CF, Φ⟩ (.one 6) (some (.not (.call 13 .pure [(.v 6), (.v 1)] []))) (.v 6) (some (ls.map fun l => D.p l.P)) [some (.ref 0), some (I n), some (.p (.lst (ls.map Lk.P))), some (.p (.lst (hs.map prP))), some (.p (.lst (os.map prP))), some (.p (.bl true)), none] [.ins 0 []] = .ok [] [.ins 0 []] := by
    rw [cmpr_filt (fun l : Lk => D.p l.P) (fun _ => false) (fun l : Lk => D.p l.P) fun l hl => ⟨[some (.ref 0), some (I n), some (.p (.lst (ls.map Lk.P))), some (.p (.lst (hs.map prP))), some (.p (.lst (os.map prP))), some (.p (.bl true)), some (.p l.P)], rfl, by simp -dsimp [cl l hl], fun z => nomatch z⟩]
    simp
  have it : itSeq (.p (.lst (ls.map Lk.P))) = some (ls.map fun l => D.p l.P) := by
    show some ((ls.map Lk.P).map D.p) = _
    rw [List.map_map]; rfl
  rw [u_Behavior_init _ _ rfl]
  generalize (ls.map fun l => D.p l.P) = L2 at *
  generalize ls.map Lk.P = L at *
  generalize hs.map prP = Lh at *
  generalize os.map prP = Lo at *
  generalize (ord hs).map prP = Lh2 at *
  generalize (ord os).map prP = Lo2 at *
  have q : eqD CF (.p (.lst [])) (.p (.lst [])) [.ins 0 []] = some true := rfl
  have n1 : ¬ (("many" : Str) = "rows") := by decide
  have n2 : ¬ (("many" : Str) = "ears") := by decide
  have n3 : ¬ (("many" : Str) = "doors") := by decide
  have n4 : ¬ (("rows" : Str) = "ears") := by decide
  have n5 : ¬ (("rows" : Str) = "doors") := by decide
  have n6 : ¬ (("ears" : Str) = "doors") := by decide
  simp -dsimp [b_Behavior_init, c_is_whole, h2, it, cm, q, a1, a2, o1, o2, setF, putA, n1, n2, n3, n4, n5, n6, Cell.flat]
theorem c_make {p : Pts} (h : p.Ok) (M : Sto) : makeF CF 0 .pure (Φ 16) [I p.n, .p (.lst (p.ls.map Lk.P)), .p (.lst (p.h.map prP)), .p (.lst (p.o.map prP))] M = .ok (.p p.bh.P) M := by
  have e := c_init_bh h
  unfold makeF
  simp only [toPs, Option.map_some, e, List.map_cons, List.map_nil]
  rw [if_pos (by rfl)]
  rfl
end Law

set_option maxRecDepth 100000
set_option maxHeartbeats 4000000
/-! Behaviors read; the earliest times. -/
namespace Law
open PySem PySem.Spec L2 Mi
@[simp] theorem f_rows (b : Bh) (M : Sto) : fldOf CF (.p b.P) "rows" M = some (.p (.tup (b.ls.map Lk.P))) := rfl
@[simp] theorem f_ears (b : Bh) (M : Sto) : fldOf CF (.p b.P) "ears" M = some (.p (.tup (b.ears.map prP))) := rfl
@[simp] theorem f_doors (b : Bh) (M : Sto) : fldOf CF (.p b.P) "doors" M = some (.p (.tup (b.doors.map prP))) := rfl
@[simp] theorem f_many (b : Bh) (M : Sto) : fldOf CF (.p b.P) "many" M = some (I b.n) := rfl
@[simp] theorem ty_bh (b : Bh) (M : Sto) : isTy (.p b.P) (.own 0) M = some true := rfl
@[simp] theorem p_events (b : Bh) (M : Sto) : propR ⟨CF, Φ⟩ 0 "events" 17 (.p b.P) M = .ok (I b.n) M := by
  have e : Φ 17 [.p b.P] [] = .ok (I b.n) [] := by
    rw [u_Behavior_events _ _ rfl]
    simp -dsimp [b_Behavior_events]
  have i : isIns CF 0 "events" (.p b.P) M = true := rfl
  simp [propR, i, e]
@[simp] theorem p_heard (b : Bh) (M : Sto) : propR ⟨CF, Φ⟩ 0 "heard" 19 (.p b.P) M = .ok (.p (.lst (b.ears.map prP))) M := by
  have e : Φ 19 [.p b.P] [] = .ok (.p (.lst (b.ears.map prP))) [] := by
    rw [u_Behavior_heard _ _ rfl]
    simp -dsimp [b_Behavior_heard]
  have i : isIns CF 0 "heard" (.p b.P) M = true := rfl
  simp [propR, i, e]
@[simp] theorem p_opens (b : Bh) (M : Sto) : propR ⟨CF, Φ⟩ 0 "opens" 20 (.p b.P) M = .ok (.p (.lst (b.doors.map prP))) M := by
  have e : Φ 20 [.p b.P] [] = .ok (.p (.lst (b.doors.map prP))) [] := by
    rw [u_Behavior_opens _ _ rfl]
    simp -dsimp [b_Behavior_opens]
  have i : isIns CF 0 "opens" (.p b.P) M = true := rfl
  simp [propR, i, e]
/-! ### lists of numbers and None -/
@[simp] theorem oI_none : oI none = .non := rfl
@[simp] theorem oI_some (i : Int) : oI (some i) = .int i := rfl
end Law

set_option maxRecDepth 100000
set_option maxHeartbeats 4000000
/-! Greatest sums. -/
namespace Law
open PySem PySem.Spec L2 Mi
/-- none, a number, endless -/
inductive Wt where
  | no | nu (i : Int) | en
  deriving DecidableEq, Inhabited
def wP : Wt → P
  | .no => .non
  | .nu i => .int i
  | .en => .str "endless"
@[simp] theorem wP_no : wP .no = .non := rfl
@[simp] theorem wP_nu (i : Int) : wP (.nu i) = .int i := rfl
@[simp] theorem wP_en : wP .en = .str "endless" := rfl
@[simp] theorem eqD_is {M : Sto} (a : Int) (s : Str) : eqD CF (.p (.int a)) (.p (.str s)) M = some false := rfl
@[simp] theorem eqD_ns {M : Sto} (s : Str) : eqD CF (.p .non) (.p (.str s)) M = some false := rfl
@[simp] theorem eqD_nn {M : Sto} : eqD CF (.p .non) (.p .non) M = some true := rfl
@[simp] theorem eqD_ni {M : Sto} (a : Int) : eqD CF (.p .non) (.p (.int a)) M = some false := rfl
@[simp] theorem eqD_in {M : Sto} (a : Int) : eqD CF (.p (.int a)) (.p .non) M = some false := rfl
@[simp] theorem eqD_si {M : Sto} (a : Int) (s : Str) : eqD CF (.p (.str s)) (.p (.int a)) M = some false := rfl
end Law

set_option maxRecDepth 100000
set_option maxHeartbeats 4000000
/-! quiet. -/
namespace Law
open PySem PySem.Spec L2 Mi
end Law

set_option maxRecDepth 100000
set_option maxHeartbeats 4000000
/-! quiet as the law reckons it. -/
namespace Law
open PySem PySem.Spec L2 Mi
@[simp] theorem px0 (p : Pts) (M : Sto) : ixD (.p p.P) (.p (.int 0)) M = some (I p.n) := rfl
@[simp] theorem px1 (p : Pts) (M : Sto) : ixD (.p p.P) (.p (.int 1)) M = some (.p (.lst (p.ls.map Lk.P))) := rfl
@[simp] theorem px2 (p : Pts) (M : Sto) : ixD (.p p.P) (.p (.int 2)) M = some (.p (.lst (p.h.map prP))) := rfl
@[simp] theorem px3 (p : Pts) (M : Sto) : ixD (.p p.P) (.p (.int 3)) M = some (.p (.lst (p.o.map prP))) := rfl
end Law

set_option maxRecDepth 100000
set_option maxHeartbeats 4000000
/-! quiet: both reckonings agree. -/
namespace Law
open PySem PySem.Spec L2 Mi
/-! ### the greatest difference -/
end Law

set_option maxRecDepth 100000
set_option maxHeartbeats 4000000
/-! Behaviors that the laws draw (first family). -/
namespace Law
open PySem PySem.Spec L2 Mi
def BG : Int := 10 ^ 41
structure Lk.Sm (l : Lk) : Prop where
  lo : l.lo ≤ BG
  hi : ∀ h, l.hi = some h → h ≤ BG
end Law

set_option maxRecDepth 100000
set_option maxHeartbeats 4000000
/-! Rows drawn (printed by genT8.py). -/
namespace Law
open PySem PySem.Spec L2 Mi
@[simp] theorem cut5a (a b c d e : P) : cut [a, b, c, d, e] none (some 1) = [a] := rfl
@[simp] theorem cut5b (a b c d e : P) : cut [a, b, c, d, e] (some 2) none = [c, d, e] := rfl
structure LsOk (k : Nat) (ls : List Lk) : Prop where
  ok : ∀ l ∈ ls, l.Ok k
  sm : ∀ l ∈ ls, l.Sm
theorem LsOk.add {k : Nat} {ls : List Lk} {l : Lk} (h : LsOk k ls) (h1 : l.Ok k) (h2 : l.Sm) : LsOk k (ls ++ [l]) :=
  ⟨fun x hx => by
    rcases List.mem_append.mp hx with z | z
    · exact h.ok x z
    · simp at z; subst z; exact h1, fun x hx => by
    rcases List.mem_append.mp hx with z | z
    · exact h.sm x z
    · simp at z; subst z; exact h2⟩
theorem Lk.Ok.up {k m : Nat} {l : Lk} (h : l.Ok k) (hk : k ≤ m) : l.Ok m := ⟨Nat.lt_of_lt_of_le h.c hk, h.e0, Nat.lt_of_lt_of_le h.e hk, h.lo, h.hi⟩
end Law

set_option maxRecDepth 100000
set_option maxHeartbeats 4000000
/-! The law of quiet. -/
namespace Law
open PySem PySem.Spec L2 Mi
theorem reprD_T {a : P} {M : Sto} (h : P.sh SH a = true ∧ a.py.showable = true ∧ a.py.shown.length ≤ LIM) : reprD (.p a) M = some a.py.shown := by
  have e : rd (fun _ => []) 0 M FU (.p a) = some a := rfl
  unfold reprD
  simp only [e, if_pos h]
def gd : Bh := ⟨2, [], [], []⟩
def gdp : Pts := ⟨2, [], [], []⟩
theorem gdp_ok : gdp.Ok := ⟨by decide, by decide, by simp [gdp], by simp [gdp], ⟨by simp [gdp], by simp [gdp], by simp [gdp]⟩, ⟨by simp [gdp], by simp [gdp], by simp [gdp]⟩⟩
@[simp] theorem mk_gd (M : Sto) : makeF CF 0 .pure (Φ 16) [I 2, .p (.lst []), .p (.lst []), .p (.lst [])] M = .ok (.p gd.P) M := c_make gdp_ok M
/-! ### the ladder -/
def Asc (l : Lk) : Prop := l.c < l.e ∧ 1 < l.e ∧ ∃ m, l.hi = some m
def Lad (ls : List Lk) : Prop := ∃ r rest, ls = ⟨0, 1, r, none, false⟩ :: rest ∧ ∀ l ∈ rest, Asc l
theorem Lad.add {ls : List Lk} (h : Lad ls) {l1 l2 : Lk} (h1 : Asc l1) (h2 : Asc l2) : Lad (ls ++ [l1, l2]) := by
  obtain ⟨r, rest, rfl, h3⟩ := h
  refine ⟨r, rest ++ [l1, l2], rfl, fun l hl => ?_⟩
  simp only [List.mem_append, List.mem_cons, List.not_mem_nil, or_false] at hl
  rcases hl with hl | rfl | rfl
  · exact h3 l hl
  · exact h1
  · exact h2
end Law

set_option maxRecDepth 100000
set_option maxHeartbeats 4000000
/-! The purse family: drawn behaviors. -/
namespace Law
open PySem PySem.Spec L2 Mi
theorem c_mixed (s : Int) {i : Int} (h : i.natAbs < 2 ^ 40) : Φ 160 [I s, I i] [] = .ok (I (hash s i)) [] := by
  have m1 : mulOk s 1103515245 = true := mulOk_r (by decide)
  have m2 : mulOk 7919 i = true := mulOk_l (by decide)
  have m3 : mulOk (7919 * i) i = true := mulOk_r (by omega)
  have m4 : ∀ x, mulOk (x % 2147483647) (x % 2147483647) = true := fun x => mulOk_l (by omega)
  have m5 : ∀ x, mulOk x 48271 = true := fun x => mulOk_r (by decide)
  rw [u_law_mixed _ _ rfl]
  simp [b_law_mixed, hash, m1, m2, m3, m4, m5]
theorem c_draw {a b c m : Int} (h1 : 0 < m) (h2 : m.natAbs < 2 ^ 256) (h3 : 0 ≤ c) (h4 : c < 2 ^ 30) : Φ 162 [.ref 0, I m] [gl a b c] = .ok (I (rnd a b c m).1) [gl (rnd a b c m).2.1 b (rnd a b c m).2.2] := by
  have m1 : divOk m = true := divOk_of h1 h2
  rw [u_law_draw _ _ rfl]
  by_cases ha : 0 < a
  · simp [b_law_draw, atI, ixN, ha, h1, m1, rnd, Cell.flat]
  · obtain ⟨r1, r2⟩ := rounds_le h2
    have m2 : divOk 30 = true := by decide +kernel
    have r3 : itR1 (.p (.int (1 + bitLen m / 30))) = some ((List.range (rounds m)).map fun i => .p (.int (i : Nat))) := itR1_ok rfl (by omega) (by omega)
    have r4 : rounds m ≤ 9 := by unfold rounds; omega
    obtain ⟨ρ', M', e, x, rfl, rfl⟩ := loop_nat (g := ⟨CF, Φ⟩) (t := .one 3) (b := l_law_draw_0)
      (its := (List.range (rounds m)).map fun i => .p (.int (i : Nat))) (fun i ρ M => ∃ x, ρ = [some (.ref 0), some (I m), some (I (dr b c i)), x, none] ∧ M = [gl a b (c + i)])
      (ρ := [some (.ref 0), some (I m), some (I 0), none, none]) (M := [gl a b c]) ⟨none, by simp [dr], by simp⟩ (fun i d ρ M hd hr => by
        obtain ⟨x, rfl, rfl⟩ := hr
        have hi : i < rounds m := by
          have := (List.getElem?_eq_some_iff.mp hd).1
          simpa using this
        have e1 : Φ 160 [I b, I (c + i + 1)] [] = .ok (I (hash b (c + i + 1))) [] := c_mixed b (by omega)
        have m3 : mulOk (dr b c i) 2147483587 = true := mulOk_r (by decide)
        refine ⟨_, _, _, rfl, .inl ?_, some d, rfl, by rw [show c + ((i + 1 : Nat) : Int) = c + i + 1 by omega]⟩
        simp [l_law_draw_0, atI, ixN, e1, m3, dr, gl])
    rw [List.length_map, List.length_range] at e
    simp [b_law_draw, atI, ixN, ha, h1, m1, m2, r3, e, rnd, Cell.flat]
theorem drw_ok {a b c m : Int} (h1 : 0 < m) (h2 : m.natAbs < 2 ^ 256) (h3 : 0 ≤ c) (h4 : c < 2 ^ 29) (ha : 0 ≤ a) : ∃ r a' c', Φ 162 [.ref 0, I m] [gl a b c] = .ok (I r) [gl a' b c'] ∧ 0 ≤ r ∧ r < m ∧ 0 ≤ a' ∧ c ≤ c' ∧ c' ≤ c + 9 := by
  refine ⟨_, _, _, c_draw h1 h2 h3 (by omega), ?_⟩
  obtain ⟨r1, r2⟩ := rounds_le h2
  have r4 : rounds m ≤ 9 := by unfold rounds; omega
  have q1 := Int.emod_nonneg a (show m ≠ 0 by omega)
  have q2 := Int.emod_lt_of_pos a h1
  have q3 := Int.emod_nonneg (dr b c (rounds m)) (show m ≠ 0 by omega)
  have q4 := Int.emod_lt_of_pos (dr b c (rounds m)) h1
  have q5 := Int.ediv_nonneg ha (show 0 ≤ m by omega)
  show 0 ≤ (rnd a b c m).1 ∧ _
  unfold rnd
  split
  · exact ⟨q1, q2, q5, by simp only; omega, by simp only; omega⟩
  · exact ⟨q3, q4, ha, by simp only; omega, by simp only; omega⟩
/-- a number out of the purse -/
theorem drw {n : Nat} {C : Cell} {m : Int} (h : GS (n + 1) C) (h1 : 0 < m) (h2 : m ≤ 10 ^ 60) : ∃ r C', Φ 162 [.ref 0, I m] [C] = .ok (I r) [C'] ∧ 0 ≤ r ∧ r < m ∧ GS n C' := by
  obtain ⟨a, b, c, rfl, k1, k2, k3⟩ := h
  have big : m.natAbs < 2 ^ 256 := by
    have : (10 : Nat) ^ 60 < 2 ^ 256 := by decide +kernel
    omega
  obtain ⟨r, a', c', e, q1, q2, q3, q4, q5⟩ := drw_ok (a := a) (b := b) (c := c) h1 big k2 (by omega) k1
  exact ⟨r, _, e, q1, q2, a', b, c', rfl, q3, by omega, by omega⟩
theorem purse_ok (ns : List Int) (i : Nat) (hi : i ≤ 100) : ∃ C, Φ 161 [.p (.scr ns), I (i : Int)] [] = .ok (.ref 0) [C] ∧ GS 10000000 C := by
  have m1 : powOk 10 18 = true := by decide +kernel
  have m2 : powOk 10 60 = true := by decide +kernel
  have m3 : powOk 1000000000000000000000000000000000000000000000000000000000000 10 = true := by decide +kernel
  have m4 : mulOk 1000 (i : Int) = true := mulOk_l (by decide)
  have m5 : (0 : Int) < (10 ^ 60) ^ 10 := by decide +kernel
  have sl : ∀ M, slD (.p (.scr ns)) (some (i : Int)) (some ((i : Int) + 1)) M = some (.p (.lst ((cut ns (some (i : Int)) (some ((i : Int) + 1))).map P.int))) := fun M => rfl
  generalize cut ns (some (i : Int)) (some ((i : Int) + 1)) = xs at *
  refine ⟨gl (g0 xs.sum) (xs.sum % 2147483647) (1000 * (i : Int)), ?_, _, _, _, rfl, g0_nonneg _, by omega, by omega⟩
  rw [u_law_purse _ _ rfl]
  simp [b_law_purse, sl, g0, m1, m2, m3, m4, m5, gl, Cell.flat]
/-- a drawn link -/
def G9 : Int := 10 ^ 30
/-- small delays -/
structure Lk.Sq (l : Lk) : Prop where
  lo : l.lo ≤ G9
  hi : ∀ h, l.hi = some h → h ≤ G9
structure Lk.Sd (l : Lk) : Prop where
  sm : l.Sm
  sq : l.Sq
end Law

set_option maxRecDepth 100000
set_option maxHeartbeats 4000000
/-! k01: the kinds of an own exception. -/
namespace Law
open PySem PySem.Spec L2 Mi
theorem xc_ty {n c : Nat} {m : Option Nat} {M L : Sto} (h : M[n]? = some (.xc c m)) (hk : xcOk m M = true) (c' : Nat) : isTy (.ref n) (.own c') (M ++ L) = some (xsub c c') := by
  have hn : n < M.length := (List.getElem?_eq_some_iff.mp h).1
  have h2 : (M ++ L)[n]? = some (.xc c m) := by rw [List.getElem?_append_left hn]; exact h
  have hk2 : xcOk m (M ++ L) = true := by
    cases m with
    | none => rfl
    | some k =>
      have hk : (match M[k]? with | some (.xd _ _) => true | _ => false) = true := hk
      show (match (M ++ L)[k]? with | some (.xd _ _) => true | _ => false) = true
      have hl : k < M.length := by
        refine Classical.byContradiction fun z => ?_
        rw [List.getElem?_eq_none (by omega)] at hk
        cases hk
      rw [List.getElem?_append_left hl]
      exact hk
  unfold isTy
  simp only [h2, hk2, if_true]
theorem xc_ve {n c : Nat} {m : Option Nat} {M L : Sto} (h : M[n]? = some (.xc c m)) (hk : xcOk m M = true) : isVal (.ref n) (M ++ L) = some true := by
  have e := xc_ty (L := L) h hk 0
  unfold isTy at e
  unfold isVal
  have hn : n < M.length := (List.getElem?_eq_some_iff.mp h).1
  have h2 : (M ++ L)[n]? = some (.xc c m) := by rw [List.getElem?_append_left hn]; exact h
  simp only [h2] at e ⊢
  split at e
  · rename_i z
    rw [if_pos z]
  · cases e
end Law

set_option maxRecDepth 100000
set_option maxHeartbeats 4000000
/-! k01: the kinds of an own exception: the walk. -/
namespace Law
open PySem PySem.Spec L2 Mi
abbrev xb (c k : Nat) : D := .p (.bl (xsub c k))
theorem cat_cellX {M : Sto} {k : Nat} {ds es : List D} {xs : List P} (h : M[k]? = some (.lst ds)) (he : xs.map D.p = es) (hl : ds.length + es.length ≤ LIM) : catL true (.ref k) (.p (.lst xs)) M = .ok (.ref M.length) (M ++ [.lst (ds ++ es)]) := by
  unfold catL
  simp only [lstD, h, he, if_pos hl, newL]
theorem o_kinds01 {n c : Nat} {m : Option Nat} {M : Sto} (h : M[n]? = some (.xc c m)) (hk : xcOk m M = true) (h1 : 11 ≤ c) (h2 : c ≤ 20) : ∃ J, Φ 163 [.ref n] M = .ok (.p (.lst [.int ((c : Int) - 11)])) (M ++ J) := by
  have lim : 100 < LIM := by decide
  have t := fun L c' => xc_ty (L := L) h hk c'
  have t0 : ∀ c', isTy (.ref n) (.own c') M = some (xsub c c') := fun c' => by
    have := t [] c'
    rwa [List.append_nil] at this
  have ve := fun L => xc_ve (L := L) h hk
  have g0 : ∀ (x : Cell) (L : Sto), (M ++ x :: L)[M.length]? = some x := fun x L => by simp
  have g1 : ∀ (x y : Cell) (L : Sto), (M ++ x :: y :: L)[M.length + 1]? = some y := fun x y L => by
    rw [List.getElem?_append_right (by omega), show M.length + 1 - M.length = 1 by omega]; rfl
  have g2 : ∀ (x y z : Cell) (L : Sto), (M ++ x :: y :: z :: L)[M.length + 2]? = some z := fun x y z L => by
    rw [List.getElem?_append_right (by omega), show M.length + 2 - M.length = 2 by omega]; rfl
  obtain ⟨L1, hL1⟩ : ∃ L1, L1 = [xb c 11, xb c 12, xb c 13] := ⟨_, rfl⟩
  obtain ⟨L2, hL2⟩ : ∃ L2, L2 = L1 ++ [xb c 14, xb c 15, xb c 16] := ⟨_, rfl⟩
  obtain ⟨L3, hL3⟩ : ∃ L3, L3 = L2 ++ [xb c 17, xb c 18, xb c 19] := ⟨_, rfl⟩
  obtain ⟨L4, hL4⟩ : ∃ L4, L4 = L3 ++ [xb c 20] := ⟨_, rfl⟩
  have n1 : L1.length = 3 := by rw [hL1]; rfl
  have n2 : L2.length = 6 := by rw [hL2, hL1]; rfl
  have n3 : L3.length = 9 := by rw [hL3, hL2, hL1]; rfl
  have s1 : Mi.ex ⟨CF, Φ⟩ (.asg (.one 1) (.lst true [(.isi (.v 0) (.own 11)), (.isi (.v 0) (.own 12)), (.isi (.v 0) (.own 13))])) [some (.ref n), none, none] M = .nx [some (.ref n), some (.ref M.length), none] (M ++ [.lst L1]) := by
    rw [hL1]
    simp -dsimp [t0, newL]
  have c2 : catL true (.ref M.length) (.p (.lst [.bl (xsub c 14), .bl (xsub c 15), .bl (xsub c 16)])) (M ++ [.lst L1]) = .ok (.ref (M.length + 1)) (M ++ [.lst L1, .lst L2]) := by
    rw [cat_cellX (g0 _ _) rfl (by simp [n1]; omega), hL2]
    simp
  have s2 : Mi.ex ⟨CF, Φ⟩ (.asg (.one 1) (.bin .addM (.v 1) (.lst false [(.isi (.v 0) (.own 14)), (.isi (.v 0) (.own 15)), (.isi (.v 0) (.own 16))]))) [some (.ref n), some (.ref M.length), none] (M ++ [.lst L1]) = .nx [some (.ref n), some (.ref (M.length + 1)), none] (M ++ [.lst L1, .lst L2]) := by
    have t1 := t [.lst L1]
    generalize M ++ [.lst L1] = M1 at *
    simp -dsimp [t1, newL, toPs, c2]
  have c3 : catL true (.ref (M.length + 1)) (.p (.lst [.bl (xsub c 17), .bl (xsub c 18), .bl (xsub c 19)])) (M ++ [.lst L1, .lst L2]) = .ok (.ref (M.length + 2)) (M ++ [.lst L1, .lst L2, .lst L3]) := by
    rw [cat_cellX (g1 _ _ _) rfl (by simp [n2]; omega), hL3]
    simp
  have s3 : Mi.ex ⟨CF, Φ⟩ (.asg (.one 1) (.bin .addM (.v 1) (.lst false [(.isi (.v 0) (.own 17)), (.isi (.v 0) (.own 18)), (.isi (.v 0) (.own 19))]))) [some (.ref n), some (.ref (M.length + 1)), none] (M ++ [.lst L1, .lst L2]) = .nx [some (.ref n), some (.ref (M.length + 2)), none] (M ++ [.lst L1, .lst L2, .lst L3]) := by
    have t1 := t [.lst L1, .lst L2]
    generalize M ++ [.lst L1, .lst L2] = M1 at *
    simp -dsimp [t1, newL, toPs, c3]
  have a4 : mAppend (.ref (M.length + 2)) [xb c 20] (M ++ [.lst L1, .lst L2, .lst L3]) = .ok (.p .non) (M ++ [.lst L1, .lst L2, .lst L4]) := by
    unfold mAppend
    simp only [g2]
    rw [if_pos (by omega), ← hL4, List.set_append_right _ _ (by omega), show M.length + 2 - M.length = 2 by omega]
    rfl
  have p4 : mtTy .append (.ref (M.length + 2)) (M ++ [.lst L1, .lst L2, .lst L3]) = true := by
    show (lstD _ (.ref (M.length + 2))).isSome = true
    unfold lstD
    simp only [g2]
    rfl
  have s4 : Mi.ex ⟨CF, Φ⟩ (.ex (.mt .append (.v 1) [(.isi (.v 0) (.own 20))])) [some (.ref n), some (.ref (M.length + 2)), none] (M ++ [.lst L1, .lst L2, .lst L3]) = .nx [some (.ref n), some (.ref (M.length + 2)), none] (M ++ [.lst L1, .lst L2, .lst L4]) := by
    have t1 := t [.lst L1, .lst L2, .lst L3]
    have a4 : mtd .append (.ref (M.length + 2)) [xb c 20] (M ++ [.lst L1, .lst L2, .lst L3]) = .ok (.p .non) (M ++ [.lst L1, .lst L2, .lst L4]) := a4
    generalize M ++ [.lst L1, .lst L2, .lst L3] = M1 at *
    generalize Mi.Mt.append = mt1 at *
    simp -dsimp [t1, p4, a4]
  have s5 : Mi.ex ⟨CF, Φ⟩ (.ifs (.or (.not (.isi (.v 0) (.own 10))) (.not (.isVE (.v 0)))) [.ret (some (.lst false []))] []) [some (.ref n), some (.ref (M.length + 2)), none] (M ++ [.lst L1, .lst L2, .lst L4]) = .nx [some (.ref n), some (.ref (M.length + 2)), none] (M ++ [.lst L1, .lst L2, .lst L4]) := by
    have t1 := t [.lst L1, .lst L2, .lst L4] 10
    have v1 := ve [.lst L1, .lst L2, .lst L4]
    have x1 : xsub c 10 = true := rfl
    rw [x1] at t1
    generalize M ++ [.lst L1, .lst L2, .lst L4] = M1 at *
    simp -dsimp [t1, v1]
  refine ⟨[.lst L1, .lst L2, .lst L4], ?_⟩
  have e4 : (M ++ [.lst L1, .lst L2, .lst L4])[M.length + 2]? = some (.lst L4) := g2 _ _ _ _
  have r10 : itR1 (I 10) = some ((List.range 10).map fun i => I (i : Nat)) := itR1_ok (by decide) (by decide) (by decide)
  have full : L4 = (List.range 10).map fun i => xb c (i + 11) := by rw [hL4, hL3, hL2, hL1]; rfl
  have cm : cmpr ⟨CF, Φ⟩ (.one 2) (some (.ix (.v 1) (.v 2))) (.v 2) (some ((List.range 10).map fun i => I (i : Nat))) [some (.ref n), some (.ref (M.length + 2)), none] (M ++ [.lst L1, .lst L2, .lst L4]) = .ok (((List.range 10).filter fun i => xsub c (i + 11)).map fun i => I (i : Nat)) (M ++ [.lst L1, .lst L2, .lst L4]) := by
    refine cmpr_filt (fun i : Nat => I (i : Nat)) (fun i => xsub c (i + 11)) (fun i : Nat => I (i : Nat)) fun i hi => ⟨[some (.ref n), some (.ref (M.length + 2)), some (I (i : Nat))], rfl, ?_, fun _ => rfl⟩
    rw [List.mem_range] at hi
    have ix : ixD (.ref (M.length + 2)) (I (i : Nat)) (M ++ [.lst L1, .lst L2, .lst L4]) = some (xb c (i + 11)) := by
      unfold ixD
      have e5 : lstD (M ++ [.lst L1, .lst L2, .lst L4]) (.ref (M.length + 2)) = some L4 := by
        unfold lstD
        simp only [e4]
      simp only [e5]
      rw [atIn, full, List.getElem?_map, List.getElem?_range hi]
      rfl
    generalize M ++ [.lst L1, .lst L2, .lst L4] = M1 at *
    simp -dsimp [ix]
  have nl : newL false (((List.range 10).filter fun i => xsub c (i + 11)).map fun i => I (i : Nat)) (M ++ [.lst L1, .lst L2, .lst L4]) = .ok (.p (.lst [.int ((c : Int) - 11)])) (M ++ [.lst L1, .lst L2, .lst L4]) := by
    have : ((List.range 10).filter fun i => xsub c (i + 11)) = [c - 11] := by
      have : c = 11 ∨ c = 12 ∨ c = 13 ∨ c = 14 ∨ c = 15 ∨ c = 16 ∨ c = 17 ∨ c = 18 ∨ c = 19 ∨ c = 20 := by omega
      rcases this with rfl | rfl | rfl | rfl | rfl | rfl | rfl | rfl | rfl | rfl <;> decide
    rw [this]
    unfold newL
    simp only [List.map_cons, List.map_nil, toPs, Option.map_some]
    rw [show ((c - 11 : Nat) : Int) = (c : Int) - 11 by omega]
  rw [u_law_kinds_34f47c _ _ rfl]
  show outR CF .full M (exs ⟨CF, Φ⟩ b_law_kinds_34f47c [some (.ref n), none, none] M) = _
  unfold b_law_kinds_34f47c
  rw [exs_cons, s1, RS.bd_nx, exs_cons, s2, RS.bd_nx, exs_cons, s3, RS.bd_nx, exs_cons, s4, RS.bd_nx, exs_cons, s5, RS.bd_nx]
  generalize M ++ [.lst L1, .lst L2, .lst L4] = M1 at *
  generalize (((List.range 10).filter fun i => xsub c (i + 11)).map fun i => I (i : Nat)) = R1 at *
  generalize ((List.range 10).map fun i => I (i : Nat)) = R2 at *
  simp -dsimp [r10, cm, nl, fin]
end Law

set_option maxRecDepth 100000
set_option maxHeartbeats 4000000
/-! k01: a list of eight own exceptions that hold the same value. -/
namespace Law
open PySem PySem.Spec L2 Mi
def xfn (i : Nat) : Str := if i < 4 then "value" else if i < 7 then "name" else "number"
/-- the exception of class 11 + i at n holds v -/
structure XAt (M : Sto) (i n : Nat) (v : D) : Prop where
  ex : ∃ k, M[n]? = some (.xc (11 + i) (some k)) ∧ M[k]? = some (.xd (xfn i) v)
theorem XAt.app {M : Sto} {i n : Nat} {v : D} (h : XAt M i n v) (L : Sto) : XAt (M ++ L) i n v := by
  obtain ⟨k, a, b⟩ := h.ex
  exact ⟨k, by rw [List.getElem?_append_left (List.getElem?_eq_some_iff.mp a).1]; exact a, by rw [List.getElem?_append_left (List.getElem?_eq_some_iff.mp b).1]; exact b⟩
theorem XAt.ok {M : Sto} {i n : Nat} {v : D} (h : XAt M i n v) : ∃ m, M[n]? = some (.xc (11 + i) m) ∧ xcOk m M = true := by
  obtain ⟨k, a, b⟩ := h.ex
  refine ⟨some k, a, ?_⟩
  show (match M[k]? with | some (.xd _ _) => true | _ => false) = true
  rw [b]
theorem XAt.fld {M : Sto} {i n : Nat} {v : D} (hi : i < 8) (h : XAt M i n v) : fldOf CF (.ref n) (xfn i) M = some v := by
  obtain ⟨k, a, b⟩ := h.ex
  have cf : CF (11 + i) = [xfn i] := by
    have : i = 0 ∨ i = 1 ∨ i = 2 ∨ i = 3 ∨ i = 4 ∨ i = 5 ∨ i = 6 ∨ i = 7 := by omega
    rcases this with rfl | rfl | rfl | rfl | rfl | rfl | rfl | rfl <;> rfl
  unfold fldOf
  simp only [a, b, cf, and_self, if_true]
/-- the kinds of it -/
theorem XAt.kinds {M : Sto} {i n : Nat} {v : D} (hi : i < 8) (h : XAt M i n v) : ∃ J, Φ 163 [.ref n] M = .ok (.p (.lst [.int (i : Nat)])) (M ++ J) := by
  obtain ⟨m, a, b⟩ := h.ok
  obtain ⟨J, e⟩ := o_kinds01 a b (by omega) (by omega)
  refine ⟨J, ?_⟩
  rw [e, show ((11 + i : Nat) : Int) - 11 = (i : Nat) by omega]
end Law

set_option maxRecDepth 100000
set_option maxHeartbeats 4000000
/-! Walks over the list of a cell; while loops that return. -/
namespace Law
open PySem PySem.Spec L2 Mi
@[simp] theorem wat_sM (n : Nat) : wat .seqM [.ref n] = some n := rfl
theorem items_sM {n : Nat} {M : Sto} {ds : List D} (h : M[n]? = some (.lst ds)) : items .seqM [.ref n] M = some ds := by
  show itM (.ref n) M = some ds
  unfold itM
  simp only [h]
theorem live_sM {n : Nat} {M : Sto} {ds : List D} (h : M[n]? = some (.lst ds)) : live (some n) ds M = some ds := by
  unfold live
  simp only [h, if_true]
/-! ### comprehensions over the list of a cell -/
def cmprM (g : Cg) (t : Tg) (cond : Option ME) (e : ME) (w : Option Nat) (o : Option (List D)) (ρ : Mi.Env) (M : Sto) : R (List D) := match o with
  | some its => compK w (fun d M => match bindT t d (wipeE ρ (tgs t)) with
        | none => .stuck
        | some ρ' => (evTO g cond ρ' M).bind fun b M => match b with
          | true => (ev g e ρ' M).bind fun y M => .ok (some y) M
          | false => .ok none M) its M
  | none => .stuck
@[simp high] theorem qev_compM (g : Cg) (ρ : Mi.Env) (M : Sto) (m : Bool) (t : Tg) (es : List ME) (cond : Option ME) (e : ME) : ev g (.comp m t .seqM es cond e) ρ M = (evs g es ρ M).bd fun ds M => (cmprM g t cond e (wat .seqM ds) (items .seqM ds M) ρ M).bd fun acc M => newL m acc M := by
  rw [ev_comp]
  show _ = (evs g es ρ M).bind _
  congr 1
  funext ds M
  unfold cmprM
  cases items .seqM ds M with
  | none => rfl
  | some its => rfl
theorem cmprM_filt {g : Cg} {t : Tg} {cond : Option ME} {e : ME} {ρ : Mi.Env} {M : Sto} {α : Type} {n : Nat} (enc : α → D) (p : α → Bool) (f : α → D) {xs : List α} (hM : M[n]? = some (.lst (xs.map enc))) (h : ∀ x ∈ xs, ∃ ρ', bindT t (enc x) (wipeE ρ (tgs t)) = some ρ' ∧ evTO g cond ρ' M = .ok (p x) M ∧ (p x = true → ev g e ρ' M = .ok (f x) M)) :
    cmprM g t cond e (some n) (some (xs.map enc)) ρ M = .ok ((xs.filter p).map f) M := by
  have key : ∀ (post pre : List α) (acc : List D), xs = pre ++ post → compW (some n) (xs.map enc) (fun d M => match bindT t d (wipeE ρ (tgs t)) with
        | none => .stuck
        | some ρ' => (evTO g cond ρ' M).bind fun b M => match b with
          | true => (ev g e ρ' M).bind fun y M => .ok (some y) M
          | false => .ok none M) post.length acc M = .ok (acc ++ (post.filter p).map f) M := by
    intro post
    induction post with
    | nil => intro pre acc he; simp only [List.length_nil, compW, live_sM hM]; simp
    | cons x post ih =>
      intro pre acc he
      obtain ⟨ρ', e1, e2, e3⟩ := h x (by rw [he]; simp)
      have ix : (xs.map enc)[(xs.map enc).length - (post.length + 1)]? = some (enc x) := by
        have : (xs.map enc).length - (post.length + 1) = pre.length := by rw [he]; simp
        rw [this, List.getElem?_map, he]
        simp
      have ih := fun acc => ih (pre ++ [x]) acc (by rw [he]; simp)
      simp only [List.length_cons, compW, live_sM hM, Option.bind_some, ix, e1, e2, R.bind_ok]
      cases hp : p x with
      | true =>
        simp only [e3 hp, R.bind_ok, R.noex_ok, ih]
        simp [hp]
      | false =>
        simp only [R.bind_ok, R.noex_ok, ih]
        simp [hp]
  unfold cmprM
  simp only [compK]
  rw [List.length_map]
  have := key xs [] [] rfl
  simpa using this
/-! ### while loops that return -/
end Law

set_option maxRecDepth 100000
set_option maxHeartbeats 4000000
/-! k01: the values of eight exceptions. -/
namespace Law
open PySem PySem.Spec L2 Mi
abbrev er8 (ns : Nat → Nat) : List D := [.ref (ns 0), .ref (ns 1), .ref (ns 2), .ref (ns 3), .ref (ns 4), .ref (ns 5), .ref (ns 6), .ref (ns 7)]
theorem cut8a (ns : Nat → Nat) : cut (er8 ns) none (some 4) = [0, 1, 2, 3].map fun i => D.ref (ns i) := rfl
theorem cut8b (ns : Nat → Nat) : cut (er8 ns) (some 4) (some 7) = [4, 5, 6].map fun i => D.ref (ns i) := rfl
/-- the field of each -/
theorem xs_fld {M : Sto} {k : Nat} {ns : Nat → Nat} {v : D} {f : Str} {x0 x1 x2 x4 : Option D} {is : List Nat} (hM : M[k]? = some (.lst (is.map fun i => D.ref (ns i)))) (hx : ∀ i ∈ is, i < 8 ∧ xfn i = f ∧ XAt M i (ns i) v) {x3 : Option D} :
    cmprM ⟨CF, Φ⟩ (.one 3) none (.fld (.v 3) f) (some k) (some (is.map fun i => D.ref (ns i))) [x0, x1, x2, x3, x4] M = .ok (is.map fun _ => v) M := by
  have := cmprM_filt (g := ⟨CF, Φ⟩) (t := .one 3) (cond := none) (e := .fld (.v 3) f) (ρ := [x0, x1, x2, x3, x4]) (M := M) (n := k) (fun i => D.ref (ns i)) (fun _ => true) (fun _ => v) (xs := is) hM fun i hi => by
    obtain ⟨h8, hf, hxa⟩ := hx i hi
    refine ⟨[x0, x1, x2, some (.ref (ns i)), x4], rfl, rfl, fun _ => ?_⟩
    have e := hxa.fld h8
    rw [hf] at e
    simp -dsimp [e]
  rw [List.filter_eq_self.mpr (fun _ _ => rfl)] at this
  exact this
end Law

set_option maxRecDepth 100000
set_option maxHeartbeats 4000000
/-! k01: 164: the list of the eight values. -/
namespace Law
open PySem PySem.Spec L2 Mi
theorem app_at1 {M : Sto} {c : Cell} : (M ++ [c])[M.length]? = some c := by simp
theorem len1 {M : Sto} {c : Cell} : (M ++ [c]).length = M.length + 1 := by simp
/-- the first statement -/
theorem r164_1 {M : Sto} {e : Nat} {ns : Nat → Nat} {v : D} (hM : M[e]? = some (.lst (er8 ns))) (hx : ∀ i, i < 8 → XAt M i (ns i) v) {x2 x3 x4 : Option D} : ∃ (k : Nat) (J : Sto), (M ++ J)[k]? = some (.lst (List.replicate 8 v)) ∧
    Mi.ex ⟨CF, Φ⟩ (.asg (.one 2) (.bin .addM (.bin .addM (.comp true (.one 3) .seqM [(.slm (.v 0) none (some (.c (.int 4))))] none (.fld (.v 3) "value")) (.comp true (.one 3) .seqM [(.slm (.v 0) (some (.c (.int 4))) (some (.c (.int 7))))] none (.fld (.v 3) "name"))) (.lst true [(.fld (.ix (.v 0) (.c (.int 7))) "number")]))) [some (.ref e), some v, x2, x3, x4] M = .nx [some (.ref e), some v, some (.ref k), x3, x4] (M ++ J) := by
  have lim : 100 < LIM := by decide
  have hx' : ∀ L i, i < 8 → XAt (M ++ L) i (ns i) v := fun L i hi => (hx i hi).app L
  have he : ∀ L, (M ++ L)[e]? = some (.lst (er8 ns)) := fun L => by rw [List.getElem?_append_left (List.getElem?_eq_some_iff.mp hM).1]; exact hM
  have le : ∀ L, lstD (M ++ L) (.ref e) = some (er8 ns) := fun L => by
    unfold lstD
    simp only [he]
  have le0 : lstD M (.ref e) = some (er8 ns) := by
    unfold lstD
    simp only [hM]
  obtain ⟨c1, h1⟩ : ∃ c1 : Cell, c1 = .lst ([0, 1, 2, 3].map fun i => D.ref (ns i)) := ⟨_, rfl⟩
  obtain ⟨c2, h2⟩ : ∃ c2 : Cell, c2 = .lst [v, v, v, v] := ⟨_, rfl⟩
  obtain ⟨c3, h3⟩ : ∃ c3 : Cell, c3 = .lst ([4, 5, 6].map fun i => D.ref (ns i)) := ⟨_, rfl⟩
  obtain ⟨c4, h4⟩ : ∃ c4 : Cell, c4 = .lst [v, v, v] := ⟨_, rfl⟩
  obtain ⟨c5, h5⟩ : ∃ c5 : Cell, c5 = .lst [v, v, v, v, v, v, v] := ⟨_, rfl⟩
  obtain ⟨c6, h6⟩ : ∃ c6 : Cell, c6 = .lst [v] := ⟨_, rfl⟩
  obtain ⟨c7, h7⟩ : ∃ c7 : Cell, c7 = .lst (List.replicate 8 v) := ⟨_, rfl⟩
  have at_ : ∀ (L : Sto) (c : Cell) (L2 : Sto), (M ++ (L ++ c :: L2))[M.length + L.length]? = some c := fun L c L2 => by
    rw [List.getElem?_append_right (by omega), show M.length + L.length - M.length = L.length by omega]
    simp
  have e1 : slM (.ref e) none (some 4) M = .ok (.ref M.length) (M ++ [c1]) := by
    unfold slM
    rw [le0]
    simp only [cut8a, newL, h1]
  have f1 := xs_fld (M := M ++ [c1]) (k := M.length) (ns := ns) (v := v) (f := "value") (is := [0, 1, 2, 3]) (x0 := some (.ref e)) (x1 := some v) (x2 := x2) (x4 := x4) (x3 := x3) (by rw [← h1]; exact at_ [] c1 []) (fun i hi => by
    have : i < 4 := by simp at hi; omega
    exact ⟨by omega, by unfold xfn; rw [if_pos this], hx' _ i (by omega)⟩)
  have n1 : newL true ([0, 1, 2, 3].map fun _ => v) (M ++ [c1]) = .ok (.ref (M.length + 1)) (M ++ [c1, c2]) := by
    show R.ok (D.ref (M ++ [c1]).length) (M ++ [c1] ++ [.lst [v, v, v, v]]) = _
    rw [len1, ← h2, List.append_assoc]
    rfl
  have e2 : slM (.ref e) (some 4) (some 7) (M ++ [c1, c2]) = .ok (.ref (M.length + 2)) (M ++ [c1, c2, c3]) := by
    unfold slM
    rw [le]
    simp only [cut8b, newL, ← h3]
    simp
  have f2 := xs_fld (M := M ++ [c1, c2, c3]) (k := M.length + 2) (ns := ns) (v := v) (f := "name") (is := [4, 5, 6]) (x0 := some (.ref e)) (x1 := some v) (x2 := x2) (x4 := x4) (x3 := x3) (by rw [← h3]; exact at_ [c1, c2] c3 []) (fun i hi => by
    have : i = 4 ∨ i = 5 ∨ i = 6 := by simpa using hi
    rcases this with rfl | rfl | rfl <;> exact ⟨by omega, rfl, hx' _ _ (by omega)⟩)
  have n2 : newL true ([4, 5, 6].map fun _ => v) (M ++ [c1, c2, c3]) = .ok (.ref (M.length + 3)) (M ++ [c1, c2, c3, c4]) := by
    show R.ok (D.ref (M ++ [c1, c2, c3]).length) (M ++ [c1, c2, c3] ++ [.lst [v, v, v]]) = _
    rw [← h4]
    simp
  have a1 : catL true (.ref (M.length + 1)) (.ref (M.length + 3)) (M ++ [c1, c2, c3, c4]) = .ok (.ref (M.length + 4)) (M ++ [c1, c2, c3, c4, c5]) := by
    have q1 : (M ++ [c1, c2, c3, c4])[M.length + 1]? = some (.lst [v, v, v, v]) := by rw [← h2]; exact at_ [c1] c2 [c3, c4]
    have q2 : (M ++ [c1, c2, c3, c4])[M.length + 3]? = some (.lst [v, v, v]) := by rw [← h4]; exact at_ [c1, c2, c3] c4 []
    unfold catL
    simp only [lstD, q1, q2]
    rw [if_pos (by simp; omega)]
    show R.ok (D.ref (M ++ [c1, c2, c3, c4]).length) (M ++ [c1, c2, c3, c4] ++ [.lst [v, v, v, v, v, v, v]]) = _
    rw [← h5]
    simp
  have i7 : ixD (.ref e) (I 7) (M ++ [c1, c2, c3, c4, c5]) = some (.ref (ns 7)) := by
    unfold ixD
    simp only [le]
    rfl
  have v7 : fldOf CF (.ref (ns 7)) "number" (M ++ [c1, c2, c3, c4, c5]) = some v := (hx' [c1, c2, c3, c4, c5] 7 (by omega)).fld (by omega)
  have n3 : newL true [v] (M ++ [c1, c2, c3, c4, c5]) = .ok (.ref (M.length + 5)) (M ++ [c1, c2, c3, c4, c5, c6]) := by
    show R.ok (D.ref (M ++ [c1, c2, c3, c4, c5]).length) (M ++ [c1, c2, c3, c4, c5] ++ [.lst [v]]) = _
    rw [← h6]
    simp
  have a2 : catL true (.ref (M.length + 4)) (.ref (M.length + 5)) (M ++ [c1, c2, c3, c4, c5, c6]) = .ok (.ref (M.length + 6)) (M ++ [c1, c2, c3, c4, c5, c6, c7]) := by
    have q1 : (M ++ [c1, c2, c3, c4, c5, c6])[M.length + 4]? = some (.lst [v, v, v, v, v, v, v]) := by rw [← h5]; exact at_ [c1, c2, c3, c4] c5 [c6]
    have q2 : (M ++ [c1, c2, c3, c4, c5, c6])[M.length + 5]? = some (.lst [v]) := by rw [← h6]; exact at_ [c1, c2, c3, c4, c5] c6 []
    unfold catL
    simp only [lstD, q1, q2]
    rw [if_pos (by simp; omega)]
    show R.ok (D.ref (M ++ [c1, c2, c3, c4, c5, c6]).length) (M ++ [c1, c2, c3, c4, c5, c6] ++ [.lst (List.replicate 8 v)]) = _
    rw [← h7]
    simp
  have it1 : items .seqM [.ref M.length] (M ++ [c1]) = some ([0, 1, 2, 3].map fun i => D.ref (ns i)) := items_sM (by rw [← h1]; exact at_ [] c1 [])
  have it2 : items .seqM [.ref (M.length + 2)] (M ++ [c1, c2, c3]) = some ([4, 5, 6].map fun i => D.ref (ns i)) := items_sM (by rw [← h3]; exact at_ [c1, c2] c3 [])
  refine ⟨M.length + 6, [c1, c2, c3, c4, c5, c6, c7], by rw [← h7]; exact at_ [c1, c2, c3, c4, c5, c6] c7 [], ?_⟩
  clear h1 h2 h3 h4 h5 h6 h7 at_ he le hx' hx hM le0
  generalize M ++ [c1, c2, c3, c4, c5, c6, c7] = M7 at *
  generalize M ++ [c1, c2, c3, c4, c5, c6] = M6 at *
  generalize M ++ [c1, c2, c3, c4, c5] = M5 at *
  generalize M ++ [c1, c2, c3, c4] = M4 at *
  generalize M ++ [c1, c2, c3] = M3 at *
  generalize M ++ [c1, c2] = M2 at *
  generalize M ++ [c1] = M1 at *
  generalize ([0, 1, 2, 3].map fun i => D.ref (ns i)) = R1 at *
  generalize ([4, 5, 6].map fun i => D.ref (ns i)) = R2 at *
  generalize ([0, 1, 2, 3].map fun _ => v) = R3 at *
  generalize ([4, 5, 6].map fun _ => v) = R4 at *
  simp -dsimp [e1, it1, f1, n1, e2, it2, f2, n2, a1, i7, v7, n3, a2]
end Law

set_option maxRecDepth 100000
set_option maxHeartbeats 4000000
/-! k01: 164. -/
namespace Law
open PySem PySem.Spec L2 Mi
/-- a walk over the list of a cell, place by place, with other cells changed -/
theorem cmprM_ixX {g : Cg} {t : Tg} {e : ME} {ρ : Mi.Env} {n k : Nat} (X Y : Nat → D) (Rl : Nat → Sto → Prop)
    (hM : ∀ i M, Rl i M → M[k]? = some (.lst ((List.range n).map X)))
    (h : ∀ i, i < n → ∀ M, Rl i M → ∃ ρ' M2, bindT t (X i) (wipeE ρ (tgs t)) = some ρ' ∧ ev g e ρ' M = .ok (Y i) M2 ∧ Rl (i + 1) M2) :
    ∀ M, Rl 0 M → ∃ M', cmprM g t none e (some k) (some ((List.range n).map X)) ρ M = .ok ((List.range n).map Y) M' ∧ Rl n M' := by
  intro M h0
  have key : ∀ (m i : Nat) (acc : List D) (M : Sto), i + m = n → Rl i M → ∃ M', compW (some k) ((List.range n).map X) (fun d M => match bindT t d (wipeE ρ (tgs t)) with
        | none => .stuck
        | some ρ' => (evTO g none ρ' M).bind fun b M => match b with
          | true => (ev g e ρ' M).bind fun y M => .ok (some y) M
          | false => .ok none M) m acc M = .ok (acc ++ (List.range' i m).map Y) M' ∧ Rl n M' := by
    intro m
    induction m with
    | zero =>
      intro i acc M hi hR
      have e : i = n := by omega
      subst e
      exact ⟨M, by simp [compW, live_sM (hM _ _ hR)], hR⟩
    | succ m ih =>
      intro i acc M hi hR
      obtain ⟨ρ', M2, e1, e2, hr⟩ := h i (by omega) M hR
      obtain ⟨M', k1, k3⟩ := ih (i + 1) (acc ++ [Y i]) M2 (by omega) hr
      refine ⟨M', ?_, k3⟩
      have e3 : evTO g none ρ' M = .ok true M := rfl
      have ix : ((List.range n).map X)[((List.range n).map X).length - (m + 1)]? = some (X i) := by
        rw [List.length_map, List.length_range, List.getElem?_map, show n - (m + 1) = i by omega, List.getElem?_range (by omega)]
        rfl
      rw [List.range'_succ, List.map_cons]
      simp only [compW, live_sM (hM _ _ hR), Option.bind_some, ix, e1, e2, e3, R.bind_ok, R.noex_ok, k1]
      rw [List.append_assoc]
      rfl
  obtain ⟨M', k1, k3⟩ := key n 0 [] M (by omega) h0
  refine ⟨M', ?_, k3⟩
  rw [← List.range_eq_range', List.nil_append] at k1
  unfold cmprM
  simp only [compK]
  rw [List.length_map, List.length_range]
  exact k1

/-- what the value's text needs -/
def RpOk (M : Sto) (v : D) (s : Str) : Prop := ∀ (L : Sto) (k : Nat), (M ++ L)[k]? = some (.lst (List.replicate 8 v)) → reprD (.ref k) (M ++ L) = some s
abbrev kd8 : P := .lst ((List.range 8).map fun i => P.lst [.int (i : Nat)])
theorem eqD_kd8 {M : Sto} : eqD CF (.p kd8) (.p kd8) M = some true := by
  have e : rd CF 0 M FU (.p kd8) = some kd8 := rfl
  unfold eqD
  have h1 : P.sh SH kd8 = true := by decide +kernel
  have h2 : P.eqv kd8 kd8 = true := by decide +kernel
  simp only [e, h1, h2, Bool.and_self, if_true]
theorem o_right01 {M : Sto} {e : Nat} {ns : Nat → Nat} {v : D} {s : Str} (hM : M[e]? = some (.lst (er8 ns))) (hx : ∀ i, i < 8 → XAt M i (ns i) v) (hr : RpOk M v s) : ∃ J, Φ 164 [.ref e, v] M = .ok (.p (.bl true)) (M ++ J) := by
  have lim : 100 < LIM := by decide
  obtain ⟨k, J, hk, s1⟩ := r164_1 hM hx (x2 := none) (x3 := none) (x4 := none)
  have re1 := hr J k hk
  have b1 : bfn .repr [.ref k] (M ++ J) = .ok (.p (.str s)) (M ++ J) := by
    unfold bfn
    simp only [re1]
  obtain ⟨J2, hJ2⟩ : ∃ J2, J2 = J ++ [Cell.lst [v]] := ⟨_, rfl⟩
  obtain ⟨J3, hJ3⟩ : ∃ J3, J3 = J2 ++ [Cell.lst (List.replicate 8 v)] := ⟨_, rfl⟩
  have n1 : newL true [v] (M ++ J) = .ok (.ref (M ++ J).length) (M ++ J2) := by
    rw [hJ2, ← List.append_assoc]
    rfl
  have l2 : (M ++ J2)[(M ++ J).length]? = some (.lst [v]) := by
    rw [hJ2, ← List.append_assoc]
    exact app_at1
  have r2 : repL true (.ref (M ++ J).length) (I 8) (M ++ J2) = .ok (.ref (M ++ J2).length) (M ++ J3) := by
    unfold repL
    simp only [lstD, l2]
    rw [if_pos (by simp; omega), hJ3, ← List.append_assoc]
    rfl
  have l3 : (M ++ J3)[(M ++ J2).length]? = some (.lst (List.replicate 8 v)) := by
    rw [hJ3, ← List.append_assoc]
    exact app_at1
  have re2 := hr J3 _ l3
  have b2 : bfn .repr [.ref (M ++ J2).length] (M ++ J3) = .ok (.p (.str s)) (M ++ J3) := by
    unfold bfn
    simp only [re2]
  have eqs : ∀ M, eqD CF (.p (.str s)) (.p (.str s)) M = some true := fun M => by rw [eqD_str]; simp
  have he : ∀ L, (M ++ L)[e]? = some (.lst ((List.range 8).map fun i => D.ref (ns i))) := fun L => by rw [List.getElem?_append_left (List.getElem?_eq_some_iff.mp hM).1]; exact hM
  obtain ⟨M4, c4, J4, h4⟩ := cmprM_ixX (g := ⟨CF, Φ⟩) (t := .one 3) (e := .call 163 .full [(.v 3)] []) (ρ := [some (.ref e), some v, some (.ref k), none, none]) (n := 8) (k := e) (fun i => D.ref (ns i)) (fun i => D.p (.lst [.int (i : Nat)])) (fun _ M' => ∃ L, M' = M ++ L)
    (fun i M' ⟨L, h⟩ => by rw [h]; exact he L)
    (fun i hi M' ⟨L, h⟩ => by
      subst h
      obtain ⟨J5, e5⟩ := ((hx i hi).app L).kinds hi
      refine ⟨[some (.ref e), some v, some (.ref k), some (.ref (ns i)), none], M ++ L ++ J5, rfl, ?_, ⟨L ++ J5, by rw [List.append_assoc]⟩⟩
      generalize M ++ L ++ J5 = M8 at *
      generalize M ++ L = M7 at *
      simp -dsimp [e5]) (M ++ J3) ⟨J3, rfl⟩
  subst h4
  have it4 : items .seqM [.ref e] (M ++ J3) = some ((List.range 8).map fun i => D.ref (ns i)) := items_sM (he J3)
  have nl4 : ∀ M, newL false ((List.range 8).map fun i => D.p (.lst [.int (i : Nat)])) M = .ok (.p kd8) M := fun M => by
    unfold newL
    simp only [toPs_lam]
  have r8 : itR1 (I 8) = some ((List.range 8).map fun i => I (i : Nat)) := itR1_ok (by decide) (by decide) (by decide)
  have cm8 : cmpr ⟨CF, Φ⟩ (.one 4) none (.lst false [(.v 4)]) (some ((List.range 8).map fun i => I (i : Nat))) [some (.ref e), some v, some (.ref k), none, none] (M ++ J4) = .ok ((List.range 8).map fun i => D.p (.lst [.int (i : Nat)])) (M ++ J4) := cmpr_mapE (fun i : Nat => I (i : Nat)) (fun i => D.p (.lst [.int (i : Nat)])) fun i _ => ⟨[some (.ref e), some v, some (.ref k), none, some (I (i : Nat))], rfl, rfl⟩
  have eqk := fun M => eqD_kd8 (M := M)
  refine ⟨J4, ?_⟩
  rw [u_law_right_b4ce7c _ _ rfl]
  show outR CF .full M (exs ⟨CF, Φ⟩ b_law_right_b4ce7c [some (.ref e), some v, none, none, none] M) = _
  unfold b_law_right_b4ce7c
  rw [exs_cons, s1, RS.bd_nx]
  clear he hM hx hr hk hJ2 hJ3 s1 re1 re2 l2 l3
  generalize (M ++ J).length = a1 at *
  generalize (M ++ J2).length = a2 at *
  generalize M ++ J = M1 at *
  generalize M ++ J2 = M2 at *
  generalize M ++ J3 = M3 at *
  generalize M ++ J4 = M5 at *
  generalize kd8 = KD at *
  generalize ((List.range 8).map fun i => D.p (.lst [.int (i : Nat)])) = R1 at *
  generalize ((List.range 8).map fun i => I (i : Nat)) = R2 at *
  generalize ((List.range 8).map fun i => D.ref (ns i)) = R3 at *
  generalize hE : (ME.call 163 .full [(.v 3)] []) = E at *
  generalize Mi.Bi.repr = br at *
  simp -dsimp [b1, n1, r2, b2, eqs, it4, c4, nl4, r8, cm8, eqk]
end Law

set_option maxRecDepth 100000
set_option maxHeartbeats 4000000
/-! k01: exceptions made in a row. -/
namespace Law
open PySem PySem.Spec L2 Mi
/-- the cells of exceptions of the kinds is, from a on -/
def xCells (v : D) : Nat → List Nat → Sto
  | _, [] => []
  | a, i :: r => .xd (xfn i) v :: .xc (11 + i) (some a) :: xCells v (a + 2) r
def xRefs : Nat → List Nat → List Nat
  | _, [] => []
  | a, _ :: r => (a + 1) :: xRefs (a + 2) r
theorem cf_x {i : Nat} (hi : i < 8) : CF (11 + i) = [xfn i] := by
  have : i = 0 ∨ i = 1 ∨ i = 2 ∨ i = 3 ∨ i = 4 ∨ i = 5 ∨ i = 6 ∨ i = 7 := by omega
  rcases this with rfl | rfl | rfl | rfl | rfl | rfl | rfl | rfl <;> rfl
theorem xat_cells {v : D} : ∀ (is : List Nat) (M L : Sto) (j i n : Nat), is[j]? = some i → (xRefs M.length is)[j]? = some n → XAt (M ++ (xCells v M.length is ++ L)) i n v
  | [], M, L, j, i, n, h, _ => by simp at h
  | i0 :: r, M, L, 0, i, n, h, h2 => by
    simp only [List.getElem?_cons_zero, Option.some.injEq, xRefs] at h h2
    subst h
    subst h2
    refine ⟨M.length, ?_, ?_⟩
    · rw [List.getElem?_append_right (by omega), show M.length + 1 - M.length = 1 by omega]
      rfl
    · rw [List.getElem?_append_right (by omega), Nat.sub_self]
      rfl
  | i0 :: r, M, L, j + 1, i, n, h, h2 => by
    simp only [List.getElem?_cons_succ, xRefs] at h h2
    have l : (M ++ [Cell.xd (xfn i0) v, .xc (11 + i0) (some M.length)]).length = M.length + 2 := by simp
    have := xat_cells (v := v) r (M ++ [.xd (xfn i0) v, .xc (11 + i0) (some M.length)]) L j i n h (by rw [l]; exact h2)
    rw [l, List.append_assoc] at this
    exact this
end Law

set_option maxRecDepth 100000
set_option maxHeartbeats 4000000
/-! k01: 165. -/
namespace Law
open PySem PySem.Spec L2 Mi
/-- the list at k holds exceptions of these kinds, each with v -/
def Acc (M : Sto) (k : Nat) (is : List Nat) (v : D) : Prop := ∃ ns : List Nat, M[k]? = some (.lst (ns.map D.ref)) ∧ ns.length = is.length ∧ ∀ j i n : Nat, is[j]? = some i → ns[j]? = some n → XAt M i n v
theorem at_app {M : Sto} {k : Nat} {c : Cell} (h : M[k]? = some c) (L : Sto) : (M ++ L)[k]? = some c := by
  rw [List.getElem?_append_left (List.getElem?_eq_some_iff.mp h).1]
  exact h
theorem Acc.app {M : Sto} {k : Nat} {is : List Nat} {v : D} (h : Acc M k is v) (L : Sto) : Acc (M ++ L) k is v := by
  obtain ⟨ns, a, b, c⟩ := h
  exact ⟨ns, at_app a L, b, fun j i n h1 h2 => (c j i n h1 h2).app L⟩
theorem xRefs_len : ∀ (is : List Nat) (a : Nat), (xRefs a is).length = is.length
  | [], _ => rfl
  | _ :: r, a => by
    show (xRefs (a + 2) r).length + 1 = r.length + 1
    rw [xRefs_len r]
theorem evs_x {ρ : Mi.Env} {v : D} {E : Nat → ME} (hE : ∀ i, i < 8 → ∀ M : Sto, ev ⟨CF, Φ⟩ (E i) ρ M = .ok (.ref (M.length + 1)) (M ++ [.xd (xfn i) v, .xc (11 + i) (some M.length)])) : ∀ (is : List Nat) (M : Sto), (∀ i ∈ is, i < 8) → evs ⟨CF, Φ⟩ (is.map E) ρ M = .ok ((xRefs M.length is).map D.ref) (M ++ xCells v M.length is)
  | [], M, _ => by simp [xRefs, xCells]
  | i :: r, M, h => by
    have hi := h i List.mem_cons_self
    have ih := evs_x hE r (M ++ [.xd (xfn i) v, .xc (11 + i) (some M.length)]) fun j hj => h j (List.mem_cons_of_mem _ hj)
    have l : (M ++ [Cell.xd (xfn i) v, .xc (11 + i) (some M.length)]).length = M.length + 2 := by simp
    rw [l] at ih
    rw [List.map_cons, evs_cons, hE i hi M]
    simp only [R.bind_ok]
    rw [ih]
    simp [xRefs, xCells]
theorem hE_v {ρ : Mi.Env} {v : D} {kw : Bool} (h0 : ρ[0]? = some (some v)) : ∀ i, i < 8 → ∀ M : Sto, ev ⟨CF, Φ⟩ (.xmk (11 + i) kw [(.v 0)]) ρ M = .ok (.ref (M.length + 1)) (M ++ [.xd (xfn i) v, .xc (11 + i) (some M.length)]) := fun i hi M => by
  have e0 : evs ⟨CF, Φ⟩ [(.v 0)] ρ M = .ok [v] M := by
    simp [h0]
  rw [ev_xmk, e0]
  show xmkR CF (11 + i) [v] M = _
  unfold xmkR
  rw [cf_x hi]
  simp
theorem hE_0 {ρ : Mi.Env} : ∀ i, i < 8 → ∀ M : Sto, ev ⟨CF, Φ⟩ (.xmk (11 + i) false []) ρ M = .ok (.ref (M.length + 1)) (M ++ [.xd (xfn i) (.p .non), .xc (11 + i) (some M.length)]) := fun i hi M => by
  rw [ev_xmk, evs_nil]
  show xmkR CF (11 + i) [] M = _
  unfold xmkR
  rw [cf_x hi]
  simp
theorem acc_new {ρ : Mi.Env} {v : D} {E : Nat → ME} (hE : ∀ i, i < 8 → ∀ M : Sto, ev ⟨CF, Φ⟩ (E i) ρ M = .ok (.ref (M.length + 1)) (M ++ [.xd (xfn i) v, .xc (11 + i) (some M.length)])) (is : List Nat) (h8 : ∀ i ∈ is, i < 8) (M : Sto) : ∃ k J, ev ⟨CF, Φ⟩ (.lst true (is.map E)) ρ M = .ok (.ref k) (M ++ J) ∧ Acc (M ++ J) k is v := by
  refine ⟨(M ++ xCells v M.length is).length, xCells v M.length is ++ [.lst ((xRefs M.length is).map D.ref)], ?_, xRefs M.length is, ?_, xRefs_len _ _, fun j i n h1 h2 => xat_cells is M _ j i n h1 h2⟩
  · rw [qev_lst, evs_x hE is M h8, R.bd_ok, ← List.append_assoc]
    rfl
  · rw [← List.append_assoc]
    exact app_at1
theorem acc_add {ρ : Mi.Env} {v : D} {E : Nat → ME} {i k : Nat} {is : List Nat} {M : Sto} (hE : ∀ i, i < 8 → ∀ M : Sto, ev ⟨CF, Φ⟩ (E i) ρ M = .ok (.ref (M.length + 1)) (M ++ [.xd (xfn i) v, .xc (11 + i) (some M.length)])) (hi : ρ[i]? = some (some (.ref k))) (hA : Acc M k is v) (js : List Nat) (h8 : ∀ i ∈ js, i < 8) (hl : is.length + js.length ≤ 100) : ∃ k' J, ev ⟨CF, Φ⟩ (.bin .addM (.v i) (.lst true (js.map E))) ρ M = .ok (.ref k') (M ++ J) ∧ Acc (M ++ J) k' (is ++ js) v := by
  have lim : 100 < LIM := by decide
  obtain ⟨k2, J, e, hB⟩ := acc_new hE js h8 M
  obtain ⟨ns, a, b, c⟩ := hA
  obtain ⟨ms, a2, b2, c2⟩ := hB
  have e1 : ev ⟨CF, Φ⟩ (.v i) ρ M = .ok (.ref k) M := by rw [qev_v, hi]
  refine ⟨(M ++ J).length, J ++ [.lst ((ns ++ ms).map D.ref)], ?_, ns ++ ms, ?_, ?_, fun j x n h1 h2 => ?_⟩
  · rw [qev_bin, e1, R.bd_ok, e, R.bd_ok]
    show catL true (.ref k) (.ref k2) (M ++ J) = _
    unfold catL
    simp only [lstD, at_app a J, a2]
    rw [if_pos (by simp only [List.length_map]; omega), ← List.append_assoc, List.map_append]
    rfl
  · rw [← List.append_assoc]
    exact app_at1
  · simp only [List.length_append, b, b2]
  · rw [← List.append_assoc]
    refine XAt.app ?_ _
    by_cases z : j < is.length
    · rw [List.getElem?_append_left z] at h1
      rw [List.getElem?_append_left (by omega)] at h2
      exact (c j x n h1 h2).app J
    · rw [List.getElem?_append_right (by omega)] at h1
      rw [List.getElem?_append_right (by omega), b] at h2
      exact c2 _ x n h1 h2
theorem Acc.all {M : Sto} {k : Nat} {v : D} (h : Acc M k [0, 1, 2, 3, 4, 5, 6, 7] v) : ∃ f : Nat → Nat, M[k]? = some (.lst (er8 f)) ∧ ∀ i, i < 8 → XAt M i (f i) v := by
  obtain ⟨ns, a, b, c⟩ := h
  refine ⟨fun i => ns.getD i 0, ?_, fun i hi => ?_⟩
  · rw [a]
    match ns, b with
    | [a, b, c, d, e, f, g, h], _ => rfl
  · have h1 : [0, 1, 2, 3, 4, 5, 6, 7][i]? = some i := by
      have : i = 0 ∨ i = 1 ∨ i = 2 ∨ i = 3 ∨ i = 4 ∨ i = 5 ∨ i = 6 ∨ i = 7 := by omega
      rcases this with rfl | rfl | rfl | rfl | rfl | rfl | rfl | rfl <;> rfl
    have hn : i < ns.length := by rw [b]; exact hi
    refine c i i _ h1 ?_
    rw [List.getElem?_eq_getElem hn]
    simp [List.getD, List.getElem?_eq_getElem hn]
theorem RpOk.app {M : Sto} {v : D} {s : Str} (h : RpOk M v s) (J : Sto) : RpOk (M ++ J) v s := fun L k hk => by
  rw [List.append_assoc] at hk ⊢
  exact h _ k hk
/-- asked of a made list -/
theorem acc_right {M : Sto} {k : Nat} {v : D} {s : Str} (h : Acc M k [0, 1, 2, 3, 4, 5, 6, 7] v) (hr : RpOk M v s) : ∃ J, Φ 164 [.ref k, v] M = .ok (.p (.bl true)) (M ++ J) := by
  obtain ⟨f, a, b⟩ := h.all
  exact o_right01 a b hr
theorem asg_of {g : Cg} {e : ME} {ρ : Mi.Env} {M M' : Sto} {d : D} {i : Nat} (h : ev g e ρ M = .ok d M') : Mi.ex g (.asg (.one i) e) ρ M = .nx (ρ.set i (some d)) M' := by
  rw [ex_asg, h]
  rfl
/-- the five statements that make the two lists -/
theorem given_made (v : D) (M : Sto) : ∃ k1 k2 J, Acc (M ++ J) k1 [0, 1, 2, 3, 4, 5, 6, 7] v ∧ Acc (M ++ J) k2 [0, 1, 2, 3, 4, 5, 6, 7] v ∧ exs ⟨CF, Φ⟩ b_law_given_right [some v, none, none] M = exs ⟨CF, Φ⟩ (b_law_given_right.drop 5) [some v, some (.ref k1), some (.ref k2)] (M ++ J) := by
  obtain ⟨a1, J1, e1, A1⟩ := acc_new (hE_v (ρ := [some v, none, none]) (kw := false) rfl) [0, 1, 2, 3, 4] (by decide) M
  obtain ⟨a2, J2, e2, A2⟩ := acc_add (hE_v (ρ := [some v, some (.ref a1), none]) (kw := false) rfl) (i := 1) rfl A1 [5, 6, 7] (by decide) (by decide)
  obtain ⟨a3, J3, e3, A3⟩ := acc_new (hE_v (ρ := [some v, some (.ref a2), none]) (kw := true) rfl) [0, 1, 2] (by decide) (M ++ J1 ++ J2)
  obtain ⟨a4, J4, e4, A4⟩ := acc_add (hE_v (ρ := [some v, some (.ref a2), some (.ref a3)]) (kw := true) rfl) (i := 2) rfl A3 [3, 4, 5] (by decide) (by decide)
  obtain ⟨a5, J5, e5, A5⟩ := acc_add (hE_v (ρ := [some v, some (.ref a2), some (.ref a4)]) (kw := true) rfl) (i := 2) rfl A4 [6, 7] (by decide) (by decide)
  refine ⟨a2, a5, J1 ++ (J2 ++ (J3 ++ (J4 ++ J5))), ?_, ?_, ?_⟩
  · have := ((A2.app J3).app J4).app J5
    simp only [List.append_assoc] at this
    exact this
  · simp only [List.append_assoc] at A5
    exact A5
  · have s1 : Mi.ex ⟨CF, Φ⟩ (.asg (.one 1) (.lst true [(.xmk 11 false [(.v 0)]), (.xmk 12 false [(.v 0)]), (.xmk 13 false [(.v 0)]), (.xmk 14 false [(.v 0)]), (.xmk 15 false [(.v 0)])])) [some v, none, none] M = .nx [some v, some (.ref a1), none] (M ++ J1) := asg_of e1
    have s2 : Mi.ex ⟨CF, Φ⟩ (.asg (.one 1) (.bin .addM (.v 1) (.lst true [(.xmk 16 false [(.v 0)]), (.xmk 17 false [(.v 0)]), (.xmk 18 false [(.v 0)])]))) [some v, some (.ref a1), none] (M ++ J1) = .nx [some v, some (.ref a2), none] (M ++ J1 ++ J2) := asg_of e2
    have s3 : Mi.ex ⟨CF, Φ⟩ (.asg (.one 2) (.lst true [(.xmk 11 true [(.v 0)]), (.xmk 12 true [(.v 0)]), (.xmk 13 true [(.v 0)])])) [some v, some (.ref a2), none] (M ++ J1 ++ J2) = .nx [some v, some (.ref a2), some (.ref a3)] (M ++ J1 ++ J2 ++ J3) := asg_of e3
    have s4 : Mi.ex ⟨CF, Φ⟩ (.asg (.one 2) (.bin .addM (.v 2) (.lst true [(.xmk 14 true [(.v 0)]), (.xmk 15 true [(.v 0)]), (.xmk 16 true [(.v 0)])]))) [some v, some (.ref a2), some (.ref a3)] (M ++ J1 ++ J2 ++ J3) = .nx [some v, some (.ref a2), some (.ref a4)] (M ++ J1 ++ J2 ++ J3 ++ J4) := asg_of e4
    have s5 : Mi.ex ⟨CF, Φ⟩ (.asg (.one 2) (.bin .addM (.v 2) (.lst true [(.xmk 17 true [(.v 0)]), (.xmk 18 true [(.v 0)])]))) [some v, some (.ref a2), some (.ref a4)] (M ++ J1 ++ J2 ++ J3 ++ J4) = .nx [some v, some (.ref a2), some (.ref a5)] (M ++ J1 ++ J2 ++ J3 ++ J4 ++ J5) := asg_of e5
    show exs ⟨CF, Φ⟩ b_law_given_right _ M = _
    unfold b_law_given_right
    rw [exs_cons, s1, RS.bd_nx, exs_cons, s2, RS.bd_nx, exs_cons, s3, RS.bd_nx, exs_cons, s4, RS.bd_nx, exs_cons, s5, RS.bd_nx]
    simp only [List.append_assoc]
    rfl
/-- two asked in a row -/
theorem two_right {M : Sto} {k1 k2 : Nat} {v : D} {s : Str} (h1 : Acc M k1 [0, 1, 2, 3, 4, 5, 6, 7] v) (h2 : Acc M k2 [0, 1, 2, 3, 4, 5, 6, 7] v) (hr : RpOk M v s) : ∃ J1 J2, Φ 164 [.ref k1, v] M = .ok (.p (.bl true)) (M ++ J1) ∧ Φ 164 [.ref k2, v] (M ++ J1) = .ok (.p (.bl true)) (M ++ J2) := by
  obtain ⟨J1, e1⟩ := acc_right h1 hr
  obtain ⟨J2, e2⟩ := acc_right (h2.app J1) (hr.app J1)
  exact ⟨J1, J1 ++ J2, e1, by rw [e2, List.append_assoc]⟩
theorem o_given01 {M : Sto} {v : D} {s : Str} (hr : RpOk M v s) (hl : ∀ N, isTy v .list (M ++ N) = some false) : ∃ J, Φ 165 [v] M = .ok (.p (.bl true)) (M ++ J) := by
  obtain ⟨k1, k2, J, A1, A2, e⟩ := given_made v M
  obtain ⟨J1, J2, c1, c2⟩ := two_right A1 A2 (hr.app J)
  obtain ⟨J3, J4, c3, c4⟩ := two_right (A1.app J2) (A2.app J2) ((hr.app J).app J2)
  refine ⟨J ++ (J2 ++ J4), ?_⟩
  rw [u_law_given_right _ _ rfl]
  show outR CF .full M (exs ⟨CF, Φ⟩ b_law_given_right [some v, none, none] M) = _
  rw [e]
  have hl := hl (J ++ J2)
  rw [← List.append_assoc] at hl
  have fn : M ++ (J ++ (J2 ++ J4)) = M ++ J ++ J2 ++ J4 := by simp only [List.append_assoc]
  rw [fn]
  show outR CF .full M (exs ⟨CF, Φ⟩ [_, _, _] _ _) = _
  generalize M ++ J ++ J2 ++ J4 = M6 at *
  generalize M ++ J ++ J2 ++ J3 = M5 at *
  generalize M ++ J ++ J2 = M4 at *
  generalize M ++ J ++ J1 = M3 at *
  generalize M ++ J = M2 at *
  simp -dsimp [c1, c2, c3, c4, hl, fin]
/-- a cell that is no exception's is changed -/
theorem XAt.set {M : Sto} {i n m : Nat} {v : D} {ds : List D} {c : Cell} (h : XAt M i n v) (hm : M[m]? = some (.lst ds)) : XAt (M.set m c) i n v := by
  obtain ⟨k, a, b⟩ := h.ex
  refine ⟨k, ?_, ?_⟩
  · rw [List.getElem?_set_ne (fun z => by subst z; rw [a] at hm; cases hm)]; exact a
  · rw [List.getElem?_set_ne (fun z => by subst z; rw [b] at hm; cases hm)]; exact b
theorem Acc.set {M : Sto} {k m : Nat} {is : List Nat} {v : D} {ds : List D} {c : Cell} (h : Acc M k is v) (hm : M[m]? = some (.lst ds)) (hk : k ≠ m) : Acc (M.set m c) k is v := by
  obtain ⟨ns, a, b, z⟩ := h
  refine ⟨ns, ?_, b, fun j i n h1 h2 => (z j i n h1 h2).set hm⟩
  rw [List.getElem?_set_ne (fun z => hk z.symm)]
  exact a
theorem o_given01L {M : Sto} {n : Nat} {ds : List D} {s s' : Str} (hM : M[n]? = some (.lst ds)) (hx : ∀ d ∈ ds, ∃ x, d = .p x) (hd : ds.length < 100) (hr : RpOk M (.ref n) s) (hr' : RpOk (M.set n (.lst (ds ++ [.p (.str "more")]))) (.ref n) s') : ∃ J, Φ 165 [.ref n] M = .ok (.p (.bl true)) (M.set n (.lst (ds ++ [.p (.str "more")])) ++ J) := by
  have lim : 100 < LIM := by decide
  obtain ⟨k1, k2, J, A1, A2, e⟩ := given_made (.ref n) M
  obtain ⟨J1, J2, c1, c2⟩ := two_right A1 A2 (hr.app J)
  have nk : ∀ k, Acc (M ++ J) k [0, 1, 2, 3, 4, 5, 6, 7] (.ref n) → k ≠ n := fun k h z => by
    subst z
    obtain ⟨f, a, b⟩ := h.all
    rw [at_app hM] at a
    simp only [Option.some.injEq, Cell.lst.injEq] at a
    obtain ⟨x, hx⟩ := hx (.ref (f 0)) (by rw [a]; simp)
    cases hx
  have hM2 : (M ++ J ++ J2)[n]? = some (.lst ds) := at_app (at_app hM J) J2
  have hn : n < M.length := (List.getElem?_eq_some_iff.mp hM).1
  have st : (M ++ J ++ J2).set n (.lst (ds ++ [.p (.str "more")])) = M.set n (.lst (ds ++ [.p (.str "more")])) ++ (J ++ J2) := by
    rw [List.append_assoc, List.set_append_left _ _ hn]
  have B1 := (A1.app J2).set (c := .lst (ds ++ [.p (.str "more")])) hM2 (nk k1 A1)
  have B2 := (A2.app J2).set (c := .lst (ds ++ [.p (.str "more")])) hM2 (nk k2 A2)
  have hr2 : RpOk ((M ++ J ++ J2).set n (.lst (ds ++ [.p (.str "more")]))) (.ref n) s' := by
    rw [st]
    exact hr'.app _
  obtain ⟨J3, J4, c3, c4⟩ := two_right B1 B2 hr2
  have ty : isTy (.ref n) .list (M ++ J ++ J2) = some true := by
    unfold isTy
    simp only [hM2]
  have mt : mtTy .append (.ref n) (M ++ J ++ J2) = true := by
    show (lstD _ (.ref n)).isSome = true
    unfold lstD
    simp only [hM2]
    rfl
  have ma : mtd .append (.ref n) [.p (.str "more")] (M ++ J ++ J2) = .ok (.p .non) ((M ++ J ++ J2).set n (.lst (ds ++ [.p (.str "more")]))) := by
    show mAppend (.ref n) [.p (.str "more")] _ = _
    unfold mAppend
    simp only [hM2]
    rw [if_pos (by omega)]
  refine ⟨(J ++ J2) ++ J4, ?_⟩
  rw [u_law_given_right _ _ rfl]
  show outR CF .full M (exs ⟨CF, Φ⟩ b_law_given_right [some (.ref n), none, none] M) = _
  rw [e, ← List.append_assoc, ← st]
  show outR CF .full M (exs ⟨CF, Φ⟩ [_, _, _] _ _) = _
  clear hr2 B1 B2 st hr hr' A1 A2 e
  generalize (M ++ J ++ J2).set n (.lst (ds ++ [.p (.str "more")])) = M7 at *
  generalize M7 ++ J4 = M6 at *
  generalize M7 ++ J3 = M5 at *
  generalize M ++ J ++ J2 = M4 at *
  generalize M ++ J ++ J1 = M3 at *
  generalize M ++ J = M2 at *
  generalize Mi.Mt.append = mt1 at *
  simp -dsimp [c1, c2, c3, c4, ty, mt, ma, fin]
end Law

set_option maxRecDepth 100000
set_option maxHeartbeats 4000000
/-! repr of whole numbers. -/
namespace Law
open PySem PySem.Spec L2 Mi
theorem ofString_len (s : String) : (Str.ofString s).length = s.toList.length := by
  simp [Str.ofString, Str.length, cpsOfBytes_string]
theorem int_len {x : Int} {k : Nat} (hk : 0 < k) (h : x.natAbs < 10 ^ k) : (toString x).toList.length ≤ k + 1 := by
  cases x with
  | ofNat n =>
    have e := (Nat.length_repr_le_iff (n := n) hk).mpr h
    show (Nat.repr n).toList.length ≤ k + 1
    rw [String.length_toList]
    omega
  | negSucc n =>
    have e := (Nat.length_repr_le_iff (n := n + 1) hk).mpr h
    show ("-" ++ Nat.repr (n + 1)).toList.length ≤ k + 1
    rw [String.length_toList, String.length_append]
    have : "-".length = 1 := rfl
    omega
theorem repr_ok {x : Int} (h : x.natAbs < 10 ^ 100) : P.sh SH (.int x) = true ∧ (P.int x).py.showable = true ∧ (P.int x).py.shown.length ≤ LIM := by
  refine ⟨rfl, ?_, ?_⟩
  · show decide (x.natAbs.log2 < 1920) = true
    rw [decide_eq_true_eq]
    by_cases z : x.natAbs = 0
    · rw [z]; decide
    · rw [Nat.log2_lt z]
      exact Nat.lt_trans h (by decide +kernel)
  · show (Str.ofString (toString x)).length ≤ LIM
    rw [ofString_len]
    have := int_len (k := 100) (by omega) h
    have hl : LIM = 1000000 := rfl
    omega
end Law

set_option maxRecDepth 100000
set_option maxHeartbeats 4000000
/-! The text of data: how long it may be. -/
namespace Law
open PySem PySem.Spec L2 Mi
mutual
/-- how long the text may be -/
def wz : P → Nat
  | .non => 4
  | .bl _ => 5
  | .int _ => 110
  | .str x => (reprText x).length
  | .tup xs => 3 + wzs xs
  | .lst xs => 2 + wzs xs
  | .dK kvs => 2 + wzk kvs
  | .obj _ _ => 0
  | .scr _ => 0
def wzs : List P → Nat
  | [] => 0
  | x :: r => wz x + 2 + wzs r
def wzk : List (Key × P) → Nat
  | [] => 0
  | (k, x) :: r => (keyPy k).shown.length + 2 + wz x + 2 + wzk r
end
mutual
/-- no great number -/
def ib : P → Bool
  | .int i => decide (i.natAbs < 10 ^ 100)
  | .tup xs => ibs xs
  | .lst xs => ibs xs
  | .dK kvs => ibk kvs
  | .obj _ _ => false
  | .scr _ => false
  | _ => true
def ibs : List P → Bool
  | [] => true
  | x :: r => ib x && ibs r
def ibk : List (Key × P) → Bool
  | [] => true
  | (k, x) :: r => (match k with
    | .inl i => decide (i.natAbs < 10 ^ 100)
    | .inr _ => true) && (ib x && ibk r)
end
theorem sl_app (x y : Str) : (x ++ y).length = x.length + y.length := strLen_append x y
theorem textFrom_up : ∀ (ts : List Str) (k : Nat) (acc : Str), (textFrom k acc ts).length ≤ acc.length + piled ts
  | [], k, acc => by show acc.length ≤ _; omega
  | t :: r, k, acc => by
    have h := textFrom_up r (k + 1) (acc ++ (if k > 0 then ", " else "" : String) ++ t)
    have e : (acc ++ (if k > 0 then ", " else "" : String) ++ t).length ≤ acc.length + 2 + t.length := by
      rw [sl_app, sl_app]
      by_cases z : k > 0
      · rw [if_pos z]; have : ((", " : String) : Str).length = 2 := rfl; omega
      · rw [if_neg z]; have : (("" : String) : Str).length = 0 := rfl; omega
    rw [piled_cons]
    have e2 : (textFrom k acc (t :: r)).length = (textFrom (k + 1) (acc ++ (if k > 0 then ", " else "" : String) ++ t) r).length := rfl
    omega
theorem list_up (ts : List Str) : (listText ts).length ≤ 2 + piled ts := by
  unfold listText
  rw [sl_app]
  have := textFrom_up ts 0 "["
  have e1 : (("[" : String) : Str).length = 1 := rfl
  have e2 : (("]" : String) : Str).length = 1 := rfl
  omega
theorem join_up (ts : List Str) : (Str.join ", " ts).length ≤ piled ts := by
  cases ts with
  | nil => exact Nat.zero_le _
  | cons t r =>
    have := join_length_add (t :: r) (by simp)
    omega
theorem tup_up (ts : List Str) : (tupleText ts).length ≤ 3 + piled ts := by
  unfold tupleText
  rw [sl_app, sl_app]
  have := join_up ts
  have e1 : (("(" : String) : Str).length = 1 := rfl
  have e2 : ((if (ts.length == 1) = true then ",)" else ")" : String) : Str).length ≤ 2 := by
    by_cases z : (ts.length == 1) = true
    · rw [if_pos z]; exact Nat.le_refl 2
    · rw [if_neg z]; exact Nat.le_succ 1
  omega
theorem dict_up (ts : List Str) : (dictText ts).length ≤ 2 + piled ts := by
  unfold dictText
  rw [sl_app, sl_app]
  have := join_up ts
  have e1 : (("{" : String) : Str).length = 1 := rfl
  have e2 : (("}" : String) : Str).length = 1 := rfl
  omega
theorem int_show {x : Int} (h : x.natAbs < 10 ^ 100) : (PyData.int x).showable = true ∧ (PyData.int x).shown.length ≤ 110 := by
  refine ⟨(repr_ok h).2.1, ?_⟩
  show (Str.ofString (toString x)).length ≤ 110
  rw [ofString_len]
  have := int_len (k := 100) (by omega) h
  omega
mutual
theorem shown_up : ∀ {x : P}, ib x = true → x.pyw.showable = true ∧ x.pyw.shown.length ≤ wz x
  | .non, _ => ⟨rfl, by decide +kernel⟩
  | .bl true, _ => ⟨rfl, by decide +kernel⟩
  | .bl false, _ => ⟨rfl, by decide +kernel⟩
  | .int i, h => by
    simp only [ib, decide_eq_true_eq] at h
    exact int_show h
  | .str x, _ => ⟨by simp only [P.pyw, PyData.showable], Nat.le_of_eq (by simp only [P.pyw, PyData.shown, wz])⟩
  | .tup xs, h => by
    simp only [ib] at h
    obtain ⟨h1, h2⟩ := shown_ups h
    simp only [P.pyw, PyData.showable, PyData.shown, wz]
    exact ⟨h1, Nat.le_trans (tup_up _) (Nat.add_le_add_left h2 3)⟩
  | .lst xs, h => by
    simp only [ib] at h
    obtain ⟨h1, h2⟩ := shown_ups h
    simp only [P.pyw, PyData.showable, PyData.shown, wz]
    exact ⟨h1, Nat.le_trans (list_up _) (Nat.add_le_add_left h2 2)⟩
  | .dK kvs, h => by
    simp only [ib] at h
    obtain ⟨h1, h2⟩ := shown_upk h
    simp only [P.pyw, PyData.showable, PyData.shown, wz]
    exact ⟨h1, Nat.le_trans (dict_up _) (Nat.add_le_add_left h2 2)⟩
  | .obj _ _, h => by simp only [ib] at h; cases h
  | .scr _, h => by simp only [ib] at h; cases h
theorem shown_ups : ∀ {xs : List P}, ibs xs = true → PyData.showableAll (P.pyws xs) = true ∧ piled (PyData.shownAll (P.pyws xs)) ≤ wzs xs
  | [], _ => ⟨by simp only [P.pyws, PyData.showableAll], by simp only [P.pyws, PyData.shownAll, wzs, piled_nil]; exact Nat.le_refl 0⟩
  | x :: r, h => by
    simp only [ibs, Bool.and_eq_true] at h
    obtain ⟨h1, h2⟩ := shown_up h.1
    obtain ⟨h3, h4⟩ := shown_ups h.2
    simp only [P.pyws, PyData.showableAll, PyData.shownAll, wzs, piled_cons, h1, h3, Bool.and_self, true_and]
    omega
theorem shown_upk : ∀ {kvs : List (Key × P)}, ibk kvs = true → PyData.showableKv (P.pywk kvs) = true ∧ piled (PyData.shownKv (P.pywk kvs)) ≤ wzk kvs
  | [], _ => ⟨by simp only [P.pywk, PyData.showableKv], by simp only [P.pywk, PyData.shownKv, wzk, piled_nil]; exact Nat.le_refl 0⟩
  | (k, x) :: r, h => by
    simp only [ibk, Bool.and_eq_true] at h
    obtain ⟨h1, h2⟩ := shown_up h.2.1
    obtain ⟨h3, h4⟩ := shown_upk h.2.2
    have hk : (keyPy k).showable = true := by
      cases k with
      | inl i => exact (int_show (by simpa using h.1)).1
      | inr _ => simp only [keyPy, PyData.showable]
    simp only [P.pywk, PyData.showableKv, PyData.shownKv, wzk, piled_cons, h1, h3, hk, Bool.and_self, true_and, sl_app]
    have e : ((": " : String) : Str).length = 2 := rfl
    omega
end
/-- its text is told -/
theorem repr_w {x : P} (h1 : P.shw SH x = true) (h2 : ib x = true) (h3 : wz x ≤ LIM) : ∃ t, ∀ M, reprD (.p x) M = some t := by
  obtain ⟨q1, q2⟩ := shown_up h2
  by_cases z1 : P.sh SH x = true ∧ x.py.showable = true ∧ x.py.shown.length ≤ LIM
  · exact ⟨_, fun M => reprD_T z1⟩
  · by_cases z2 : isD0 (.p x) = true
    · refine ⟨(PyData.dict []).shown, fun M => ?_⟩
      have e : rd (fun _ => []) 0 M FU (.p x) = some x := rd_p _ _ _ _ _
      unfold reprD
      simp only [e, if_neg z1, if_pos z2]
    · refine ⟨x.pyw.shown, fun M => ?_⟩
      have e : rd (fun _ => []) 0 M FU (.p x) = some x := rd_p _ _ _ _ _
      unfold reprD
      simp only [e, if_neg z1, if_neg z2]
      rw [if_pos ⟨h1, q1, Nat.le_trans q2 h3⟩]
theorem ibs_all : ∀ {xs : List P}, (∀ x ∈ xs, ib x = true) → ibs xs = true
  | [], _ => by simp [ibs]
  | x :: xs, h => by simp [ibs, h x List.mem_cons_self, ibs_all fun y hy => h y (List.mem_cons_of_mem _ hy)]
theorem wzs_le {k : Nat} : ∀ {xs : List P}, (∀ x ∈ xs, wz x ≤ k) → wzs xs ≤ xs.length * (k + 2)
  | [], _ => Nat.zero_le _
  | x :: xs, h => by
    have h1 := h x List.mem_cons_self
    have h2 := wzs_le (xs := xs) fun y hy => h y (List.mem_cons_of_mem _ hy)
    simp only [wzs, List.length_cons, Nat.succ_mul]
    omega
end Law

set_option maxRecDepth 100000
set_option maxHeartbeats 4000000
/-! k01: the law. -/
namespace Law
open PySem PySem.Spec L2 Mi
/-- a comprehension over the list of a cell that keeps nothing -/
theorem cmprM_no {g : Cg} {t : Tg} {c e : ME} {ρ : Mi.Env} {k : Nat} {ds : List D} (Rl : Nat → Sto → Prop)
    (hM : ∀ i M, Rl i M → M[k]? = some (.lst ds))
    (h : ∀ i d, ds[i]? = some d → ∀ M, Rl i M → ∃ ρ' M2, bindT t d (wipeE ρ (tgs t)) = some ρ' ∧ evT g c ρ' M = .ok false M2 ∧ Rl (i + 1) M2) :
    ∀ M, Rl 0 M → ∃ M', cmprM g t (some c) e (some k) (some ds) ρ M = .ok [] M' := by
  intro M h0
  have key : ∀ (m i : Nat) (M : Sto), i + m = ds.length → Rl i M → ∃ M', compW (some k) ds (fun d M => match bindT t d (wipeE ρ (tgs t)) with
        | none => .stuck
        | some ρ' => (evTO g (some c) ρ' M).bind fun b M => match b with
          | true => (ev g e ρ' M).bind fun y M => .ok (some y) M
          | false => .ok none M) m [] M = .ok [] M' := by
    intro m
    induction m with
    | zero =>
      intro i M hi hR
      exact ⟨M, by simp [compW, live_sM (hM _ _ hR)]⟩
    | succ m ih =>
      intro i M hi hR
      have hl : i < ds.length := by omega
      obtain ⟨d, hd⟩ : ∃ d, ds[i]? = some d := ⟨_, List.getElem?_eq_getElem hl⟩
      obtain ⟨ρ', M2, e1, e2, hr⟩ := h i d hd M hR
      obtain ⟨M', k1⟩ := ih (i + 1) M2 (by omega) hr
      refine ⟨M', ?_⟩
      have e3 : evTO g (some c) ρ' M = .ok false M2 := e2
      have ix : ds[ds.length - (m + 1)]? = some d := by
        rw [show ds.length - (m + 1) = i by omega]
        exact hd
      simp only [compW, live_sM (hM _ _ hR), Option.bind_some, ix, e1, e3, R.bind_ok, R.noex_ok, k1]
  obtain ⟨M', k1⟩ := key ds.length 0 M (by omega) h0
  refine ⟨M', ?_⟩
  unfold cmprM
  simp only [compK]
  exact k1
/-- the text of eight of it -/
theorem rp_of {M : Sto} {v : D} {x : P} (h : ∀ L, rd (fun _ => []) 0 (M ++ L) 7 v = some x) (hw : P.shw 49 x = true) (hi : ib x = true) (hz : wz x ≤ 1000) : ∃ s, RpOk M v s := by
  have lim : 100000 < LIM := by decide
  have w8 : P.shw SH (.lst (List.replicate 8 x)) = true := by
    show (List.replicate 8 x).all (P.shw 49) = true
    simp [hw]
  have i8 : ib (.lst (List.replicate 8 x)) = true := by
    simp only [ib]
    exact ibs_all fun y hy => by rw [List.eq_of_mem_replicate hy]; exact hi
  have z8 : wz (.lst (List.replicate 8 x)) ≤ LIM := by
    have := wzs_le (k := 1000) (xs := List.replicate 8 x) fun y hy => by rw [List.eq_of_mem_replicate hy]; exact hz
    simp only [wz]
    rw [List.length_replicate] at this
    omega
  obtain ⟨t, ht⟩ := repr_w w8 i8 z8
  refine ⟨t, fun L k hk => ?_⟩
  have e2 : rd (fun _ => []) 0 (M ++ L) FU (.ref k) = some (.lst (List.replicate 8 x)) := by
    show (if k < 0 then none else match (M ++ L)[k]? with
      | some (.lst ds) => (mapO (rd (fun _ => []) 0 (M ++ L) 7) ds).map P.lst
      | some (.dK kvs) => (mapO (fun q : Key × D => (rd (fun _ => []) 0 (M ++ L) 7 q.2).map fun x => (q.1, x)) kvs).map P.dK
      | some (.ins c fs) => if fs.map (·.1) = [] then (mapO (fun q : Str × D => rd (fun _ => []) 0 (M ++ L) 7 q.2) fs).map fun xs => P.obj c xs else none
      | _ => none) = _
    rw [if_neg (Nat.not_lt_zero _), hk]
    show (mapO (rd (fun _ => []) 0 (M ++ L) 7) [v, v, v, v, v, v, v, v]).map P.lst = _
    simp only [mapO, h L]
    rfl
  have e1 := ht (M ++ L)
  unfold reprD at e1 ⊢
  rw [rd_p] at e1
  rw [e2]
  exact e1
def its16 (d : Int) : List D := [I d, I (0 - d), I 0, .p (.tup []), .p (.tup [.int 1, .int 2]), .p (.tup [.str "a", .str "b"]), .p (.tup [.int d]), .ref 1, .ref 2, .p (.dK []), .ref 3, .p (.str ""), .p (.str "a"), .p (.bl true), .p (.bl false), .p .non]
def base01 (C : Cell) (d : Int) (i : Nat) : Sto := [C, .lst (if i ≤ 7 then [] else [.p (.str "more")]), .lst (if i ≤ 8 then [I 1] else [I 1, .p (.str "more")]), .dK [(.inr "a", I d)], .lst ((its16 d).take 15), .lst [.p .non], .lst (its16 d)]
/-- each value is given -/
theorem turn01 {C : Cell} {d : Int} (h0 : 0 ≤ d) (h1 : d < 10 ^ 12) {i : Nat} {v : D} (hv : (its16 d)[i]? = some v) (L : Sto) : ∃ L', Φ 165 [v] (base01 C d i ++ L) = .ok (.p (.bl true)) (base01 C d (i + 1) ++ L') := by
  have big : (10 : Int) ^ 12 ≤ 10 ^ 100 := by decide +kernel
  have b1 : d.natAbs < 10 ^ 100 := by omega
  have b2 : (0 - d).natAbs < 10 ^ 100 := by omega
  have pu : ∀ x : P, (i ≠ 7 ∧ i ≠ 8) → P.shw 49 x = true → ib x = true → wz x ≤ 1000 → (∀ N, isTy (.p x) .list N = some false) → ∃ L', Φ 165 [.p x] (base01 C d i ++ L) = .ok (.p (.bl true)) (base01 C d (i + 1) ++ L') := fun x hi hw hb hz ht => by
    obtain ⟨s, hs⟩ := rp_of (M := base01 C d i ++ L) (v := .p x) (fun L => rd_p _ _ _ _ _) hw hb hz
    obtain ⟨J, e⟩ := o_given01 hs fun N => ht _
    refine ⟨L ++ J, ?_⟩
    rw [e]
    have : base01 C d (i + 1) = base01 C d i := by
      unfold base01
      by_cases z : i ≤ 7
      · rw [if_pos z, if_pos (show i + 1 ≤ 7 by omega), if_pos (show i + 1 ≤ 8 by omega), if_pos (show i ≤ 8 by omega)]
      · rw [if_neg z, if_neg (show ¬ i + 1 ≤ 7 by omega), if_neg (show ¬ i + 1 ≤ 8 by omega), if_neg (show ¬ i ≤ 8 by omega)]
    rw [this, List.append_assoc]
  have hi : i < 16 := (List.getElem?_eq_some_iff.mp hv).1
  have li : ∀ (n : Nat) (ds : List D) (xs : List P), ds = xs.map D.p → ds.length ≤ 3 → (∀ x ∈ xs, x = .int 1 ∨ x = .str "more") → ∀ N : Sto, N[n]? = some (.lst ds) → ∃ s, RpOk N (.ref n) s := fun n ds xs hd hl hx N hN => by
    have bound : P.shw 49 (.lst xs) = true ∧ ib (.lst xs) = true ∧ wz (.lst xs) ≤ 1000 := by
      have hl2 : xs.length ≤ 3 := by rw [hd, List.length_map] at hl; exact hl
      refine ⟨?_, ?_, ?_⟩
      · show xs.all (P.shw 48) = true
        rw [List.all_eq_true]
        intro x hx'
        rcases hx x hx' with rfl | rfl <;> rfl
      · simp only [ib]
        exact ibs_all fun y hy => by rcases hx y hy with rfl | rfl <;> decide +kernel
      · have := wzs_le (k := 200) (xs := xs) fun y hy => by rcases hx y hy with rfl | rfl <;> decide +kernel
        simp only [wz]
        have : xs.length * (200 + 2) ≤ 3 * 202 := Nat.mul_le_mul_right _ hl2
        omega
    refine rp_of (x := .lst xs) (fun L => ?_) bound.1 bound.2.1 bound.2.2
    have hN2 : (N ++ L)[n]? = some (.lst ds) := at_app hN L
    show (if n < 0 then none else match (N ++ L)[n]? with
      | some (.lst ds) => (mapO (rd (fun _ => []) 0 (N ++ L) 6) ds).map P.lst
      | some (.dK kvs) => (mapO (fun q : Key × D => (rd (fun _ => []) 0 (N ++ L) 6 q.2).map fun x => (q.1, x)) kvs).map P.dK
      | some (.ins c fs) => if fs.map (·.1) = [] then (mapO (fun q : Str × D => rd (fun _ => []) 0 (N ++ L) 6 q.2) fs).map fun xs => P.obj c xs else none
      | _ => none) = _
    rw [if_neg (Nat.not_lt_zero _), hN2, hd]
    show (mapO (rd (fun _ => []) 0 (N ++ L) 6) (xs.map D.p)).map P.lst = _
    have : ∀ ys : List P, mapO (rd (fun _ => []) 0 (N ++ L) 6) (ys.map D.p) = some ys := fun ys => by
      induction ys with
      | nil => rfl
      | cons y r ih => simp only [List.map_cons, mapO, rd_p, ih, Option.map_some]
    rw [this]
    rfl
  have : i = 0 ∨ i = 1 ∨ i = 2 ∨ i = 3 ∨ i = 4 ∨ i = 5 ∨ i = 6 ∨ i = 7 ∨ i = 8 ∨ i = 9 ∨ i = 10 ∨ i = 11 ∨ i = 12 ∨ i = 13 ∨ i = 14 ∨ i = 15 := by omega
  rcases this with rfl | rfl | rfl | rfl | rfl | rfl | rfl | rfl | rfl | rfl | rfl | rfl | rfl | rfl | rfl | rfl
  · cases hv; exact pu _ (by decide) rfl (by simp only [ib, decide_eq_true_eq]; exact b1) (by simp only [wz]; decide) fun _ => rfl
  · cases hv; exact pu _ (by decide) rfl (by simp only [ib, decide_eq_true_eq]; exact b2) (by simp only [wz]; decide) fun _ => rfl
  · cases hv; exact pu _ (by decide) rfl (by decide +kernel) (by decide +kernel) fun _ => rfl
  · cases hv; exact pu _ (by decide) rfl (by decide +kernel) (by decide +kernel) fun _ => rfl
  · cases hv; exact pu _ (by decide) rfl (by decide +kernel) (by decide +kernel) fun _ => rfl
  · cases hv; exact pu _ (by decide) rfl (by decide +kernel) (by decide +kernel) fun _ => rfl
  · cases hv; exact pu _ (by decide) rfl (by simp only [ib, ibs, Bool.and_true, decide_eq_true_eq]; exact b1) (by simp only [wz, wzs]; decide) fun _ => rfl
  · cases hv
    have hM : (base01 C d 7 ++ L)[1]? = some (.lst []) := rfl
    obtain ⟨s, hs⟩ := li 1 [] [] rfl (by decide) (by simp) _ hM
    obtain ⟨s', hs'⟩ := li 1 [.p (.str "more")] [.str "more"] rfl (by decide) (by simp) ((base01 C d 7 ++ L).set 1 (.lst [.p (.str "more")])) rfl
    obtain ⟨J, e⟩ := o_given01L hM (by simp) (by decide) hs hs'
    refine ⟨L ++ J, ?_⟩
    rw [e]
    rfl
  · cases hv
    have hM : (base01 C d 8 ++ L)[2]? = some (.lst [I 1]) := rfl
    obtain ⟨s, hs⟩ := li 2 [I 1] [.int 1] rfl (by decide) (by simp) _ hM
    obtain ⟨s', hs'⟩ := li 2 [I 1, .p (.str "more")] [.int 1, .str "more"] rfl (by decide) (by simp) ((base01 C d 8 ++ L).set 2 (.lst [I 1, .p (.str "more")])) rfl
    obtain ⟨J, e⟩ := o_given01L hM (by simp) (by decide) hs hs'
    refine ⟨L ++ J, ?_⟩
    rw [e]
    rfl
  · cases hv; exact pu _ (by decide) rfl (by decide +kernel) (by decide +kernel) fun _ => rfl
  · cases hv
    have hM : (base01 C d 10 ++ L)[3]? = some (.dK [(.inr "a", I d)]) := rfl
    obtain ⟨s, hs⟩ := rp_of (M := base01 C d 10 ++ L) (v := .ref 3) (x := .dK [(.inr "a", .int d)]) (fun L' => rfl) rfl (by simp only [ib, ibk, Bool.and_true, decide_eq_true_eq]; simpa using b1) (by simp only [wz, wzk]; decide +kernel)
    obtain ⟨J, e⟩ := o_given01 hs fun N => rfl
    exact ⟨L ++ J, by rw [e]; rfl⟩
  · cases hv; exact pu _ (by decide) rfl (by decide +kernel) (by decide +kernel) fun _ => rfl
  · cases hv; exact pu _ (by decide) rfl (by decide +kernel) (by decide +kernel) fun _ => rfl
  · cases hv; exact pu _ (by decide) rfl (by decide +kernel) (by decide +kernel) fun _ => rfl
  · cases hv; exact pu _ (by decide) rfl (by decide +kernel) (by decide +kernel) fun _ => rfl
  · cases hv; exact pu _ (by decide) rfl (by decide +kernel) (by decide +kernel) fun _ => rfl
theorem c_law01 (ns : List Int) : Φ 166 [.p (.scr ns)] [] = .ok (.p (.bl true)) [] := by
  have lim : 100 < LIM := by decide
  have p12 : powOk 10 12 = true := by decide +kernel
  obtain ⟨C0, e0, g0⟩ := purse_ok ns 0 (by omega)
  obtain ⟨d, C, e1, h0, h1, g1⟩ := drw (n := 9999999) g0 (show (0 : Int) < 10 ^ 12 by decide) (by decide +kernel)
  have f0 := g0.flat
  have f1 := g1.flat
  have st1 : Mi.ex ⟨CF, Φ⟩ (.asg (.one 1) (.call 162 .mut [(.call 161 .own [(.v 0), (.c (.int 0))] []), (.bin .pow (.c (.int 10)) (.c (.int 12)))] [])) [some (.p (.scr ns)), none, none, none, none] [] = .nx [some (.p (.scr ns)), some (I d), none, none, none] [C] := by
    have e0 : Φ 161 [.p (.scr ns), I 0] [] = .ok (.ref 0) [C0] := e0
    have e1 : Φ 162 [.ref 0, I 1000000000000] [C0] = .ok (I d) [C] := e1
    simp -dsimp [e0, f0, p12, e1, f1]
  have st2 : Mi.ex ⟨CF, Φ⟩ (.asg (.one 2) (.lst true [(.v 1), (.bin .sub (.c (.int 0)) (.v 1)), (.c (.int 0)), (.tup []), (.tup [(.c (.int 1)), (.c (.int 2))]), (.tup [(.c (.str "a")), (.c (.str "b"))]), (.tup [(.v 1)]), (.lst true []), (.lst true [(.c (.int 1))]), .dct0, (.dsp [(.c (.str "a")), (.v 1)]), (.c (.str "")), (.c (.str "a")), (.c (.bl true)), (.c (.bl false))])) [some (.p (.scr ns)), some (I d), none, none, none] [C] = .nx [some (.p (.scr ns)), some (I d), some (.ref 4), none, none] ((base01 C d 0).take 5) := rfl
  have hi : ∀ N : Sto, True := fun _ => trivial
  obtain ⟨M', cm⟩ := cmprM_no (g := ⟨CF, Φ⟩) (t := .one 4) (c := .not (.call 165 .full [(.v 4)] [])) (e := .v 4) (ρ := [some (.p (.scr ns)), some (I d), some (.ref 4), none, none]) (k := 6) (ds := its16 d) (fun i M => ∃ L, M = base01 C d i ++ L)
    (fun i M ⟨L, h⟩ => by subst h; rfl)
    (fun i v hv M ⟨L, h⟩ => by
      subst h
      obtain ⟨L', e⟩ := turn01 (C := C) h0 (by omega) hv L
      refine ⟨[some (.p (.scr ns)), some (I d), some (.ref 4), none, some v], base01 C d (i + 1) ++ L', rfl, ?_, L', rfl⟩
      generalize base01 C d (i + 1) ++ L' = M2 at *
      generalize base01 C d i ++ L = M1 at *
      simp -dsimp [e]) (base01 C d 0) ⟨[], by rw [List.append_nil]⟩
  have st3a : ev ⟨CF, Φ⟩ (.bin .addM (.v 2) (.lst true [(.c .non)])) [some (.p (.scr ns)), some (I d), some (.ref 4), none, none] ((base01 C d 0).take 5) = .ok (.ref 6) (base01 C d 0) := by
    show catL true (.ref 4) (.ref 5) ((base01 C d 0).take 6) = _
    unfold catL
    show (if (15 : Nat) + 1 ≤ LIM then _ else _) = _
    rw [if_pos (by omega)]
    rfl
  have it : items .seqM [.ref 6] (base01 C d 0) = some (its16 d) := rfl
  have nn : ∀ M, eqD CF (.p (.lst [])) (.p (.lst [])) M = some true := fun _ => rfl
  have nl : ∀ M, newL false [] M = .ok (.p (.lst [])) M := fun _ => rfl
  have st3 : Mi.ex ⟨CF, Φ⟩ (.ifs (.cmp .ne (.comp false (.one 4) .seqM [(.bin .addM (.v 2) (.lst true [(.c .non)]))] (some (.not (.call 165 .full [(.v 4)] []))) (.v 4)) (.lst false [])) [.ret (some (.c (.bl false)))] []) [some (.p (.scr ns)), some (I d), some (.ref 4), none, none] ((base01 C d 0).take 5) = .nx [some (.p (.scr ns)), some (I d), some (.ref 4), none, none] M' := by
    generalize (base01 C d 0).take 5 = M5 at *
    generalize base01 C d 0 = M6 at *
    generalize its16 d = R1 at *
    generalize hE : (ME.bin .addM (.v 2) (.lst true [(.c .non)])) = E at *
    generalize hE2 : (ME.not (.call 165 .full [(.v 4)] [])) = E2 at *
    simp -dsimp [st3a, it, cm, nl, nn]
  obtain ⟨a1, J1, x1, A1⟩ := acc_new (hE_0 (ρ := [some (.p (.scr ns)), some (I d), some (.ref 4), none, none])) [0, 1, 2, 3, 4, 5] (by decide) M'
  obtain ⟨a2, J2, x2, A2⟩ := acc_add (i := 3) (hE_0 (ρ := [some (.p (.scr ns)), some (I d), some (.ref 4), some (.ref a1), none])) rfl A1 [6, 7] (by decide) (by decide)
  have st4 : Mi.ex ⟨CF, Φ⟩ (.asg (.one 3) (.lst true [(.xmk 11 false []), (.xmk 12 false []), (.xmk 13 false []), (.xmk 14 false []), (.xmk 15 false []), (.xmk 16 false [])])) [some (.p (.scr ns)), some (I d), some (.ref 4), none, none] M' = .nx [some (.p (.scr ns)), some (I d), some (.ref 4), some (.ref a1), none] (M' ++ J1) := asg_of x1
  have st5 : Mi.ex ⟨CF, Φ⟩ (.asg (.one 3) (.bin .addM (.v 3) (.lst true [(.xmk 17 false []), (.xmk 18 false [])]))) [some (.p (.scr ns)), some (I d), some (.ref 4), some (.ref a1), none] (M' ++ J1) = .nx [some (.p (.scr ns)), some (I d), some (.ref 4), some (.ref a2), none] (M' ++ J1 ++ J2) := asg_of x2
  obtain ⟨s, hs⟩ := rp_of (M := M' ++ J1 ++ J2) (v := .p .non) (fun L => rd_p _ _ _ _ _) rfl rfl (by decide +kernel)
  obtain ⟨J3, e6⟩ := acc_right A2 hs
  have st6 : Mi.ex ⟨CF, Φ⟩ (.ifs (.not (.call 164 .full [(.v 3), (.c .non)] [])) [.ret (some (.c (.bl false)))] []) [some (.p (.scr ns)), some (I d), some (.ref 4), some (.ref a2), none] (M' ++ J1 ++ J2) = .nx [some (.p (.scr ns)), some (I d), some (.ref 4), some (.ref a2), none] (M' ++ J1 ++ J2 ++ J3) := by
    generalize M' ++ J1 ++ J2 ++ J3 = M8 at *
    generalize M' ++ J1 ++ J2 = M7 at *
    simp -dsimp [e6]
  obtain ⟨M7, hM7⟩ : ∃ M7, M7 = M' ++ J1 ++ J2 ++ J3 := ⟨_, rfl⟩
  rw [← hM7] at st6
  obtain ⟨J4, k8⟩ := o_kinds01 (n := M7.length) (c := 19) (m := none) (M := M7 ++ [.xc 19 none]) app_at1 rfl (by decide) (by decide)
  obtain ⟨M8, hM8⟩ : ∃ M8, M8 = M7 ++ [.xc 19 none] ++ J4 := ⟨_, rfl⟩
  rw [← hM8] at k8
  obtain ⟨J5, k9⟩ := o_kinds01 (n := M8.length) (c := 20) (m := none) (M := M8 ++ [.xc 20 none]) app_at1 rfl (by decide) (by decide)
  obtain ⟨M9, hM9⟩ : ∃ M9, M9 = M8 ++ [.xc 20 none] ++ J5 := ⟨_, rfl⟩
  rw [← hM9] at k9
  have m8 : xmkR CF 19 [] M7 = .ok (.ref M7.length) (M7 ++ [.xc 19 none]) := rfl
  have m9 : xmkR CF 20 [] M8 = .ok (.ref M8.length) (M8 ++ [.xc 20 none]) := rfl
  have q8 : ∀ M, eqD CF (.p (.lst [.int (((19 : Nat) : Int) - 11)])) (.p (.lst [.int 8])) M = some true := fun _ => rfl
  have q9 : ∀ M, eqD CF (.p (.lst [.int (((20 : Nat) : Int) - 11)])) (.p (.lst [.int 9])) M = some true := fun _ => rfl
  generalize P.int (((19 : Nat) : Int) - 11) = P8 at *
  generalize P.int (((20 : Nat) : Int) - 11) = P9 at *
  have n8 : ∀ M, newL false [.p (.int 8)] M = .ok (.p (.lst [.int 8])) M := fun _ => rfl
  have n9 : ∀ M, newL false [.p (.int 9)] M = .ok (.p (.lst [.int 9])) M := fun _ => rfl
  rw [u_law_05788f _ _ rfl]
  show outR CF .pure [] (exs ⟨CF, Φ⟩ b_law_05788f [some (.p (.scr ns)), none, none, none, none] []) = _
  unfold b_law_05788f
  rw [exs_cons, st1, RS.bd_nx, exs_cons, st2, RS.bd_nx, exs_cons, st3, RS.bd_nx, exs_cons, st4, RS.bd_nx, exs_cons, st5, RS.bd_nx, exs_cons, st6, RS.bd_nx]
  generalize M8 ++ [Cell.xc 20 none] = N8 at *
  generalize M7 ++ [Cell.xc 19 none] = N7 at *
  clear hM7 hM8 hM9
  simp -dsimp [m8, k8, n8, q8, m9, k9, n9, q9, fin]
end Law

set_option maxRecDepth 100000
set_option maxHeartbeats 0
namespace LawK
open Law PySem PySem.Spec L2 Mi
theorem eqs_K01 : ∀ (j : Nat) (d : Df), L.defs.lookup j = some d → Φ j = Mi.run ⟨L.cf, Φ⟩ d.fd := fun j d h => by
  have h := look_mem h
  simp only [L, List.mem_cons, Prod.mk.injEq, List.not_mem_nil, or_false] at h
  rcases h with ⟨rfl, rfl⟩ | ⟨rfl, rfl⟩ | ⟨rfl, rfl⟩ | ⟨rfl, rfl⟩ | ⟨rfl, rfl⟩ | ⟨rfl, rfl⟩ | ⟨rfl, rfl⟩ <;> exact Φ_eq rfl
end LawK
open PySem PySem.W PySem.Calls PyProof.Rows
theorem PySem.Challenge.cw_reissue_k01_errors_made_holds : PySem.Challenge.rw_reissue_k01_errors_made.Holds :=
  by
  w_on; o_law
  refine HandSHeadRun.head_any (r := OpenLaw.row PySem.Challenge.rw_reissue_k01_errors_made) (q := view (OpenLaw.row PySem.Challenge.rw_reissue_k01_errors_made).prog [19]) (H := LawK.hk) (ob := LawK.ob) (M := 20000) (loose := LawK.loose) (d := HandSHeadRun.topDef (OpenLaw.row PySem.Challenge.rw_reissue_k01_errors_made).prog 19) (kwd := []) LawK.ob_eq
    (by kernel_rfl) (fun s => by kernel_rfl) LawK.run_eq (by kernel_rfl) (by kernel_rfl) (by kernel_rfl) (by rfl) (by first | assumption | decide +kernel) (by decide +kernel) ⟨rfl, rfl, rfl, rfl, rfl, by decide +kernel⟩ ?hw ?hc
  case hw => w_witness2
  case hc =>
    refine L2.walk_ofG (l := PySem.Challenge.rw_reissue_k01_errors_made) (n := 63) (k := 4) (x := "_law_script") (CX := Mi.CXa) rfl (by decide) (by kernel_rfl) ⟨rfl, by decide, by decide⟩ ?F Mi.CXa_no
    intro w mg fa h Y G hmg0
    obtain ⟨K, KX, c⟩ := Y
    have hmg : mg LawK.d_law_05788f.ent.name = some (.ref fa) := by
      have e : (HandSHeadRun.topDef (OpenLaw.row PySem.Challenge.rw_reissue_k01_errors_made).prog 19).name = LawK.d_law_05788f.ent.name := by kernel_rfl
      rw [← e]
      exact hmg0
    obtain ⟨fd, sp, hb, hs, hF⟩ := Mi.law_end2 (L := LawK.L) (j := 166) (d := LawK.d_law_05788f) (P := (PySem.Challenge.rw_reissue_k01_errors_made).prog) (w := w) (x := "_law_script") (n := 63) LawK.xok ⟨by kernel_rfl, by kernel_rfl⟩ c KX G hmg Law.Φ rfl rfl rfl rfl (fun ns h => Law.c_law01 ns) LawK.hT LawK.hB LawK.eqs_K01
    exact ⟨K, fd, sp, KX, hb, hs, hF⟩




