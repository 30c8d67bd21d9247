import PyProof.Rows.All
import Wide.All
import OpenK.AllK
import Wide.FinOn
import HandS.ForMost
import HandS.ForExc
import HandS.WordsExc
import HandS.IsInst
import HandS.Deep
import HandS.Zip
import KE.KDictKeyed
import KE.KDictDisplayH
import PySem.Challenge.RW_arrowfind_k01_words
set_option Elab.async false
set_option linter.all false
set_option maxRecDepth 100000
/-! Dz0: data, the small language IE/IS, its evaluator, the checker against the text. -/
namespace Dz
open PySem

/-- tree values: frozen data, owned lists, tuples with owned parts, owned and frozen dicts, exceptions -/
inductive T where
  | fz (d : PyData)
  | ow (ts : List T)
  | tp (ts : List T)
  | od (ks : List PyData) (ts : List T)
  | fd (ks : List PyData) (ts : List T)
  | ex (c : Str) (pl : Option (Str × PyData))

abbrev Sto := List (Option T)

inductive Rs (α : Type) where
  | st
  | ok (a : α)
  | ex (c : Str) (pl : Option (Str × PyData))

@[inline] def Rs.bind {α β : Type} (x : Rs α) (f : α → Rs β) : Rs β := match x with
  | .st => .st
  | .ok a => f a
  | .ex c p => .ex c p
instance : Monad Rs where
  pure := .ok
  bind := Rs.bind
@[simp] theorem Rs.bind_ok {α β : Type} (a : α) (f : α → Rs β) : (Rs.ok a >>= f) = f a := (rfl)
@[simp] theorem Rs.bind_st {α β : Type} (f : α → Rs β) : (Rs.st >>= f) = Rs.st := (rfl)
@[simp] theorem Rs.bind_ex {α β : Type} (c : Str) (p) (f : α → Rs β) : (Rs.ex c p >>= f) = Rs.ex c p := (rfl)
@[simp] theorem Rs.pure_eq {α : Type} (a : α) : (pure a : Rs α) = Rs.ok a := (rfl)
def Rs.ofO {α : Type} : Option α → Rs α
  | some a => .ok a
  | none => .st
@[simp] theorem Rs.ofO_some {α : Type} (a : α) : Rs.ofO (some a) = .ok a := (rfl)
@[simp] theorem Rs.ofO_none {α : Type} : Rs.ofO (none : Option α) = .st := (rfl)
/-- what raises is left out -/
def Rs.ne {α : Type} : Rs α → Rs α
  | .ex _ _ => .st
  | r => r
@[simp] theorem Rs.ne_ok {α : Type} (a : α) : (Rs.ok a).ne = .ok a := (rfl)
@[simp] theorem Rs.ne_st {α : Type} : (Rs.st : Rs α).ne = .st := (rfl)
theorem Rs.ne_ok_iff {α : Type} {x : Rs α} {a : α} (h : x.ne = .ok a) : x = .ok a := by
  cases x with
  | st => cases h
  | ok b => exact h
  | ex c p => cases h
/-- a check -/
def chk (b : Bool) : Rs Unit := if b then .ok () else .st
@[simp] theorem chk_true : chk true = .ok () := (rfl)
@[simp] theorem chk_false : chk false = .st := (rfl)
theorem Rs.bind_ok_iff {α β : Type} {x : Rs α} {f : α → Rs β} {b : β} (h : (x >>= f) = .ok b) : ∃ a, x = .ok a ∧ f a = .ok b := by
  cases x with
  | st => cases h
  | ok a => exact ⟨a, rfl, h⟩
  | ex c p => cases h

mutual
/-- the data of a tree without dicts -/
def T.dat : T → Option PyData
  | .fz d => some d
  | .ow ts => (T.datL ts).map .list
  | .tp ts => (T.datL ts).map .tuple
  | .od _ _ => none
  | .fd _ _ => none
  | .ex _ _ => none
def T.datL : List T → Option (List PyData)
  | [] => some []
  | t :: ts => match t.dat, T.datL ts with
    | some d, some ds => some (d :: ds)
    | _, _ => none
end
mutual
def T.isFz : T → Bool
  | .fz _ => true
  | .fd _ _ => true
  | .ex _ _ => true
  | .tp ts => T.allFz ts
  | .ow _ => false
  | .od _ _ => false
def T.allFz : List T → Bool
  | [] => true
  | t :: ts => t.isFz && T.allFz ts
end
mutual
def T.frz : T → Option T
  | .fz d => some (.fz d)
  | .ow ts => (T.datL ts).map fun ds => .fz (.list ds)
  | .tp ts => match T.datL ts with
    | some ds => some (.fz (.tuple ds))
    | none => (T.frzL ts).map .tp
  | .od ks ts => (T.frzL ts).map (.fd ks)
  | .fd ks ts => some (.fd ks ts)
  | .ex c p => some (.ex c p)
def T.frzL : List T → Option (List T)
  | [] => some []
  | t :: ts => match t.frz, T.frzL ts with
    | some x, some xs => some (x :: xs)
    | _, _ => none
end
mutual
/-- no list within: data that none can change -/
def noLst : PyData → Bool
  | .list _ => false
  | .dict _ => false
  | .tuple xs => noLstL xs
  | .none => true
  | .bool _ => true
  | .int _ => true
  | .str _ => true
def noLstL : List PyData → Bool
  | [] => true
  | d :: ds => noLst d && noLstL ds
end
mutual
/-- no frozen part that could be changed from elsewhere -/
def T.indep : T → Bool
  | .fz d => noLst d
  | .ow ts => T.indepL ts
  | .tp ts => T.indepL ts
  | .od _ ts => T.indepL ts
  | .fd _ _ => false
  | .ex _ _ => false
def T.indepL : List T → Bool
  | [] => true
  | t :: ts => t.indep && T.indepL ts
end
@[simp] theorem datL_map (ds : List PyData) : T.datL (ds.map T.fz) = some ds := by
  induction ds with
  | nil => rfl
  | cons d ds ih => simp [T.datL, T.dat, ih]
@[simp] theorem allFz_map (ds : List PyData) : T.allFz (ds.map T.fz) = true := by
  induction ds with
  | nil => rfl
  | cons d ds ih => simp [T.allFz, T.isFz, ih]

/-! ### strings and data that may be -/
def okS (x : Str) : Bool := PyData.strOk x && decide (x.length ≤ 16777216)
mutual
def okD : PyData → Bool
  | .str x => okS x
  | .list xs => decide (xs.length ≤ 16777216) && okDL xs
  | .tuple xs => decide (xs.length ≤ 16777216) && okDL xs
  | .dict _ => false
  | .none => true
  | .bool _ => true
  | .int _ => true
def okDL : List PyData → Bool
  | [] => true
  | d :: ds => okD d && okDL ds
end

/-! ### the language -/
inductive Bn where
  | len | list | tuple | max | min | int
  deriving DecidableEq
def Bn.name : Bn → Str
  | .len => "len" | .list => "list" | .tuple => "tuple" | .max => "max" | .min => "min" | .int => "int"
inductive Mn where
  | join | index
  deriving DecidableEq
def Mn.name : Mn → Str
  | .join => "join" | .index => "index"
inductive ItK where
  | seq | range | enum | zip
  deriving DecidableEq
inductive Mu where
  | append | clear | reverse | extend | insert
  deriving DecidableEq
def Mu.name : Mu → Str
  | .append => "append" | .clear => "clear" | .reverse => "reverse" | .extend => "extend" | .insert => "insert"
def Mu.many : Mu → Nat
  | .append => 1 | .clear => 0 | .reverse => 0 | .extend => 1 | .insert => 2
inductive Cl where
  | int | str | bool | list | tuple
  deriving DecidableEq
def Cl.name : Cl → Str
  | .int => "int" | .str => "str" | .bool => "bool" | .list => "list" | .tuple => "tuple"
def Cl.ty : Cl → String
  | .int => "int" | .str => "str" | .bool => "bool" | .list => "list" | .tuple => "tuple"

inductive IE where
  | dat (d : PyData)
  | var (i : Nat)
  | glb (x : Str)
  | tup (es : List IE)
  | lst (es : List IE)
  | bin (op : Operator) (a b : IE)
  | neg (a : IE)
  | cmp (op : CmpOp) (a b : IE)
  | chn (o1 o2 : CmpOp) (a b c : IE)
  | bo (op : BoolOp) (a b : IE)
  | no (a : IE)
  | ite (c a b : IE)
  | ix (a b : IE)
  | sl (a lo hi : IE)
  | call (f : Str) (es : List IE)
  | blt (b : Bn) (es : List IE)
  | mth (m : Mn) (o : IE) (es : List IE)
  | isi (a : IE) (tup : Bool) (cs : List Cl)
  | lc (tg : List Nat) (tu : Bool) (elt : IE) (k : ItK) (src : List IE) (cond : List IE)

inductive IS where
  | frz (is : List Nat)
  | kil (is : List Nat)
  | asg (i : Nat) (e : IE)
  | unp (is : List Nat) (e : IE)
  | sub (p : IE) (b : IE) (e : IE)
  | aug (i : Nat) (op : Operator) (e : IE)
  | exp (e : IE)
  | mut (m : Mu) (p : IE) (es : List IE)
  | pop (i : Nat) (p : IE) (es : List IE)
  | apop (p : IE) (q : IE) (es : List IE)
  | ret (e : IE)
  | ifs (c : IE) (a b : List IS)
  | whl (c : IE) (b : List IS)
  | fr (tg : List Nat) (tu : Bool) (k : ItK) (src : List IE) (b : List IS)
  | brk | cnt | pas
  | rai (c : Str) (msg : Str)
  | nev

def IE.isPath : IE → Bool
  | .var _ => true
  | .ix a _ => a.isPath
  | _ => false
def IE.isNon : IE → Bool
  | .dat .none => true
  | _ => false
def IE.root : IE → Nat
  | .var i => i
  | .ix a _ => a.root
  | _ => 0

/-! ### data operations -/
def truD : PyData → Bool
  | .none => false
  | .bool b => b
  | .int i => i != 0
  | .str x => (x.length : Int) != 0
  | .list xs => !xs.isEmpty
  | .tuple xs => !xs.isEmpty
  | .dict _ => false
def truT : T → Rs Bool
  | .fz d => .ok (truD d)
  | .ow ts => .ok (!ts.isEmpty)
  | .tp ts => .ok (!ts.isEmpty)
  | _ => .st
def two64 : Int := 18446744073709551616
def intOp (op : Operator) (i j : Int) : Rs Int := match op with
  | .Add => .ok (i + j)
  | .Sub => .ok (i - j)
  | .Mult => if (-two64 < i ∧ i < two64) ∨ (-two64 < j ∧ j < two64) then .ok (i * j) else .st
  | .FloorDiv => if j ≠ 0 ∧ j.natAbs < 1073741824 then .ok (i.fdiv j) else .st
  | .Mod => if j ≠ 0 then .ok (i.fmod j) else .st
  | .Pow => if 0 ≤ j ∧ j ≤ 1000000 ∧ i.natAbs < 2 ^ 64 then .ok (i ^ j.toNat) else .st
  | .LShift => if 0 ≤ j ∧ j ≤ 1000000 ∧ i.natAbs < 2 ^ 64 then .ok (i * 2 ^ j.toNat) else .st
  | _ => .st
/-- the items of a list -/
def lstT : T → Option (List T)
  | .fz (.list ds) => some (ds.map .fz)
  | .ow ts => some ts
  | _ => none
def sqT : T → Option (List T)
  | .fz (.list ds) => some (ds.map .fz)
  | .fz (.tuple ds) => some (ds.map .fz)
  | .ow ts => some ts
  | .tp ts => some ts
  | _ => none
/-- may its items be taken over? of a path: only frozen ones -/
def itemsOk (path : Bool) (t : T) : Bool := match t with
  | .ow ts => !path || T.allFz ts
  | .tp ts => !path || T.allFz ts
  | .fz _ => true
  | _ => false
def sizeOk (n : Nat) : Bool := decide (n ≤ 16777216)
def binT (op : Operator) (pa pb : Bool) (x y : T) : Rs T := match x, y with
  | .fz (.int i), .fz (.int j) => do let k ← intOp op i j; return .fz (.int k)
  | .fz (.str a), .fz (.str b) => if op = .Add ∧ a.length + b.length ≤ 16777216 then .ok (.fz (.str (a ++ b))) else .st
  | x, y => match lstT x, lstT y with
    | some xs, some ys => if op = .Add ∧ xs.length + ys.length ≤ 16777216 ∧ itemsOk pa x = true ∧ itemsOk pb y = true then .ok (.ow (xs ++ ys)) else .st
    | _, _ => .st
def eqT (x y : T) : Rs Bool := match x.dat, y.dat with
  | some a, some b => if a.depth ≤ 60 ∨ b.depth ≤ 60 then .ok (PyData.eqv a b) else .st
  | _, _ => .st
def dseq : PyData → Option (List PyData)
  | .list ds => some ds
  | .tuple ds => some ds
  | _ => none
def inT (x y : T) : Rs Bool := match x.dat, y.dat with
  | some (.str a), some (.str b) => match a.cps.toList with
    | [c] => .ok (decide (c ∈ b.cps.toList))
    | _ => .st
  | some a, some b => match dseq b with
    | some ds => if a.depth ≤ 60 then .ok (ds.any fun z => PyData.eqv z a) else .st
    | none => .st
  | _, _ => .st
def ordD (op : CmpOp) : PyData → PyData → Rs Bool
  | .int i, .int j => match op with
    | .Lt => .ok (decide (i < j))
    | .LtE => .ok (decide (i ≤ j))
    | .Gt => .ok (decide (j < i))
    | .GtE => .ok (decide (j ≤ i))
    | _ => .st
  | .str a, .str b => match op with
    | .Lt => .ok (decide (a.cps.toList < b.cps.toList))
    | .Gt => .ok (decide (b.cps.toList < a.cps.toList))
    | _ => .st
  | _, _ => .st
def cmpT (op : CmpOp) (x y : T) : Rs Bool := match op with
  | .Eq => eqT x y
  | .NotEq => do let b ← eqT x y; return !b
  | .In => inT x y
  | .NotIn => do let b ← inT x y; return !b
  | .Is => match y with
    | .fz .none => (match x with | .fz .none => .ok true | _ => .ok false)
    | _ => .st
  | .IsNot => match y with
    | .fz .none => (match x with | .fz .none => .ok false | _ => .ok true)
    | _ => .st
  | op => match x, y with
    | .fz a, .fz b => ordD op a b
    | _, _ => .st
def ixT (t i : T) : Rs T := match i with
  | .fz (.int k) => match t with
    | .fz (.str z) => match L2.atI z.cps.toList k with
      | some c => .ok (.fz (.str ⟨#[c]⟩))
      | none => .st
    | t => match sqT t with
      | some ts => Rs.ofO (L2.atI ts k)
      | none => .st
  | _ => .st
def partD (lit : Bool) (t : T) : Rs (Option Int) := if lit then .ok none else match t with
  | .fz (.int i) => .ok (some i)
  | _ => .st
def strS (t : T) : Rs T := match t with
  | .fz (.str _) => .ok t
  | _ => .st
def strict (lit : Bool) (t : T) : Rs T := if lit then (match t with
  | .fz .none => .ok t
  | _ => .st) else match t with
  | .fz (.int _) => .ok t
  | _ => .st
/-- the items of xs[lo:hi] -/
def cutL {α : Type} (xs : List α) (lo hi : Option Int) : List α := (xs.drop (HT.sIx xs.length 0 lo)).take (HT.sIx xs.length xs.length hi - HT.sIx xs.length 0 lo)
def slT (path : Bool) (t : T) (lo hi : Option Int) : Rs T := match t with
  | .fz (.str z) => .ok (.fz (.str (L2.cutS z lo hi)))
  | .fz (.list ds) => .ok (.ow ((cutL ds lo hi).map .fz))
  | .fz (.tuple ds) => if HT.sIx ds.length 0 lo = 0 ∧ HT.sIx ds.length ds.length hi = ds.length then .st else .ok (.fz (.tuple (cutL ds lo hi)))
  | .ow ts => if itemsOk path t = true then .ok (.ow (cutL ts lo hi)) else .st
  | _ => .st
def strsOf : List PyData → Option (List Str)
  | [] => some []
  | .str x :: ds => match strsOf ds with
    | some r => some (x :: r)
    | none => none
  | _ => none
def tagT : T → Option Cl
  | .fz (.bool _) => some .bool
  | .fz (.int _) => some .int
  | .fz (.str _) => some .str
  | .fz (.list _) => some .list
  | .fz (.tuple _) => some .tuple
  | .ow _ => some .list
  | .tp _ => some .tuple
  | _ => none
def isNone : T → Bool
  | .fz .none => true
  | _ => false
/-- bool is an int -/
def clIs (t c : Cl) : Bool := t == c || (t == .bool && c == .int)
def isiT (t : T) (cs : List Cl) : Rs Bool := match tagT t with
  | some k => .ok (cs.any (clIs k))
  | none => if isNone t then .ok false else .st
def bltT (b : Bn) (ps : List Bool) (ts : List T) : Rs T := match b, ts with
  | .len, [.fz (.str x)] => .ok (.fz (.int x.length))
  | .len, [t] => match sqT t with
    | some xs => .ok (.fz (.int xs.length))
    | none => .st
  | .list, [t] => match sqT t with
    | some xs => if itemsOk (ps.headD true) t = true then .ok (.ow xs) else .st
    | none => .st
  | .tuple, [.fz (.tuple ds)] => .ok (.fz (.tuple ds))
  | .tuple, [t] => match lstT t, t.dat with
    | some _, some (.list ds) => if itemsOk true t = true then .ok (.fz (.tuple ds)) else .st
    | _, _ => .st
  | .max, [.fz (.int i), .fz (.int j)] => .ok (.fz (.int (if j > i then j else i)))
  | .min, [.fz (.int i), .fz (.int j)] => .ok (.fz (.int (if j < i then j else i)))
  | .int, [.fz (.int i)] => .ok (.fz (.int i))
  | .int, [.fz (.bool b)] => .ok (.fz (.int (if b then 1 else 0)))
  | _, _ => .st
def mthT (m : Mn) (o : T) (ts : List T) : Rs T := match m, o, ts with
  | .join, .fz (.str a), [t] => match t.dat with
    | some d => match (dseq d).bind strsOf with
      | some xs => if (xs.map (·.length)).sum + xs.length * a.length ≤ 16777216 then .ok (.fz (.str (Txt.join a xs))) else .st
      | none => .st
    | none => .st
  | _, _, _ => .st

/-- what is walked -/
def iterT (k : ItK) (ps : List Bool) (ts : List T) : Rs (List PyData) := match k, ts with
  | .seq, [.fz (.str x)] => .ok (x.cps.toList.map fun c => .str ⟨#[c]⟩)
  | .seq, [t] => match t.dat with
    | some d => match dseq d with
      | some ds => if itemsOk (ps.headD true) t = true then .ok ds else .st
      | none => .st
    | none => .st
  | .range, [.fz (.int j)] => if -(2 ^ 62) ≤ j ∧ j < 2 ^ 62 then .ok ((List.range j.toNat).map fun (i : Nat) => .int (0 + (i : Int))) else .st
  | .range, [.fz (.int i), .fz (.int j)] => if -(2 ^ 62) ≤ i ∧ i < 2 ^ 62 ∧ -(2 ^ 62) ≤ j ∧ j < 2 ^ 62 then .ok ((List.range (j - i).toNat).map fun (n : Nat) => .int (i + (n : Int))) else .st
  | .enum, [t] => match t.dat with
    | some (.list ds) => if itemsOk (ps.headD true) t = true then .ok (ds.zipIdx.map fun p => .tuple [.int (p.2 : Int), p.1]) else .st
    | _ => .st
  | .zip, [t, u] => match t.dat, u.dat with
    | some (.list xs), some (.list ys) => if itemsOk (ps.headD true) t = true ∧ itemsOk ((ps.drop 1).headD true) u = true then .ok ((xs.zip ys).map fun p => .tuple [p.1, p.2]) else .st
    | some (.tuple xs), some (.tuple ys) => if itemsOk (ps.headD true) t = true ∧ itemsOk ((ps.drop 1).headD true) u = true then .ok ((xs.zip ys).map fun p => .tuple [p.1, p.2]) else .st
    | _, _ => .st
  | _, _ => .st

/-! ### stores -/
def getS (S : Sto) (i : Nat) : Rs T := match S[i]? with
  | some (some t) => .ok t
  | _ => .st
def killS (S : Sto) : List Nat → Sto
  | [] => S
  | i :: is => (killS S is).set i none
def setAll (S : Sto) : List Nat → List T → Option Sto
  | [], [] => some S
  | i :: is, t :: ts => setAll (S.set i (some t)) is ts
  | _, _ => none
def bindTg (S : Sto) (tg : List Nat) (tu : Bool) (d : PyData) : Option Sto :=
  if tu then (dseq d).bind fun ds => setAll S tg (ds.map .fz)
  else setAll S tg [.fz d]
def frzS (S : Sto) : List Nat → Option Sto
  | [] => some S
  | i :: is => match S[i]? with
    | some (some t) => match t.frz with
      | some t' => frzS (S.set i (some t')) is
      | none => none
    | _ => frzS S is

def evL {α β : Type} (f : α → Rs β) : List α → Rs (List β)
  | [] => .ok []
  | e :: es => do let t ← f e; let ts ← evL f es; return t :: ts
def useT (e : IE) (t : T) : Rs T := if e.isPath && !t.isFz then .st else .ok t
def fzL : List T → Option (List PyData)
  | [] => some []
  | .fz d :: ts => (fzL ts).map (d :: ·)
  | _ => none
def mkTup (ts : List T) : T := match fzL ts with
  | some ds => .fz (.tuple ds)
  | none => .tp ts
@[simp] theorem fzL_map (ds : List PyData) : fzL (ds.map T.fz) = some ds := by
  induction ds with
  | nil => rfl
  | cons d ds ih => simp [fzL, ih]
/-- a comprehension's turns -/
def lcLoop (bindF : PyData → Option Sto) (cond : Sto → Rs Bool) (elt : Sto → Rs T) : List PyData → Rs (List T)
  | [] => .ok []
  | d :: ds => match bindF d with
    | none => .st
    | some S => do
      let c ← cond S
      if c then do
        let t ← elt S
        let r ← lcLoop bindF cond elt ds
        return t :: r
      else lcLoop bindF cond elt ds
/-- what a call gives: a borrowed owned thing must not be within -/
def callT (r : Rs T) (borrowed : Bool) : Rs T := match r with
  | .ok t => if borrowed && !t.indep then .st else .ok t
  | r => r
def argT (e : IE) (t : T) : Option T := t.frz
def isBor (e : IE) (t : T) : Bool := e.isPath && !t.isFz

/-- a comprehension's tests: none or one -/
def condF (g : Sto → IE → Rs Bool) (cond : List IE) (S : Sto) : Rs Bool := match cond with
  | [] => .ok true
  | [c] => (g S c).ne
  | _ => .st
section
variable (G : Str → Option PyData) (orc : Str → List T → Rs T)
mutual
def ev : Nat → Sto → IE → Rs T
  | 0, _, _ => .st
  | n + 1, S, e => match e with
    | .dat d => .ok (.fz d)
    | .var i => getS S i
    | .glb x => match G x with
      | some d => .ok (.fz d)
      | none => .st
    | .tup es => do let ts ← evL (fun e => do let t ← ev n S e; useT e t) es; return mkTup ts
    | .lst es => do let ts ← evL (fun e => do let t ← ev n S e; useT e t) es; return .ow ts
    | .bin op a b => do let x ← ev n S a; let y ← ev n S b; binT op a.isPath b.isPath x y
    | .neg a => do
      let x ← ev n S a
      match x with
      | .fz (.int i) => .ok (.fz (.int (-i)))
      | _ => .st
    | .cmp op a b => do let x ← ev n S a; let y ← ev n S b; let c ← cmpT op x y; return .fz (.bool c)
    | .chn o1 o2 a b c => do
      let x ← ev n S a
      match x with
      | .fz (.int i) => do
        let y ← ev n S b
        match y with
        | .fz (.int j) => do
          let k ← ordD o1 (.int i) (.int j)
          if k then do
            let z ← ev n S c
            match z with
            | .fz (.int l) => do let k2 ← ordD o2 (.int j) (.int l); return .fz (.bool k2)
            | _ => .st
          else return .fz (.bool false)
        | _ => .st
      | _ => .st
    | .bo .And a b => do
      let x ← ev n S a
      match x with
      | .fz (.bool k) => if k then (do let y ← ev n S b; useT b y) else .ok (.fz (.bool false))
      | _ => .st
    | .bo .Or a b => do
      let x ← ev n S a
      match x with
      | .fz (.bool k) => if k then .ok (.fz (.bool true)) else (do let y ← ev n S b; useT b y)
      | _ => .st
    | .no a => do
      let x ← ev n S a
      match x with
      | .fz (.bool k) => return .fz (.bool (!k))
      | _ => .st
    | .ite c a b => do
      let k ← evT n S c
      if k then do let y ← ev n S a; useT a y else do let y ← ev n S b; useT b y
    | .ix a b => do let x ← ev n S a; let i ← ev n S b; ixT x i
    | .sl a lo hi => do
      let x ← ev n S a
      let l ← (do let l ← ev n S lo; strict lo.isNon l)
      let h ← (do let h ← ev n S hi; strict hi.isNon h)
      let l' ← partD lo.isNon l
      let h' ← partD hi.isNon h
      slT a.isPath x l' h'
    | .call f es => do
      let ts ← evL (fun e => ev n S e) es
      match T.frzL ts with
      | some us => callT (orc f us) ((es.zip ts).any fun p => isBor p.1 p.2)
      | none => .st
    | .blt b es => do
      let ts ← evL (fun e => ev n S e) es
      bltT b (es.map (·.isPath)) ts
    | .mth m o es => do
      let x ← (do let x ← ev n S o; strS x)
      let ts ← evL (fun e => ev n S e) es
      mthT m x ts
    | .isi a _ cs => do
      let x ← ev n S a
      let k ← isiT x cs
      return .fz (.bool k)
    | .lc tg tu elt k src cond => do
      let ts ← evL (fun e => ev n S e) src
      let ds ← iterT k (src.map (·.isPath)) ts
      let _ ← chk (k != .range || decide (ds.length ≤ 16777216))
      let r ← lcLoop (fun d => bindTg (killS S tg) tg tu d)
        (condF (evT n) cond)
        (fun S1 => ((do let t ← ev n S1 elt; useT elt t) : Rs T).ne) ds
      return .ow r
def evT : Nat → Sto → IE → Rs Bool
  | 0, _, _ => .st
  | n + 1, S, e => match e with
    | .no a => do let k ← evT n S a; return !k
    | .bo .And a b => do let k ← evT n S a; if k then evT n S b else return false
    | .bo .Or a b => do let k ← evT n S a; if k then return true else evT n S b
    | .ite _ _ _ => .st
    | e => do let t ← ev n S e; truT t
end
end
end Dz
namespace Dz
open PySem

inductive Out where
  | st
  | nx (S : Sto)
  | rt (t : T)
  | bk (S : Sto)
  | ct (S : Sto)
  | ex (c : Str) (pl : Option (Str × PyData)) (S : Sto)

/-- a value, then on -/
def Rs.out {α : Type} (r : Rs α) (S : Sto) (f : α → Out) : Out := match r with
  | .st => .st
  | .ok a => f a
  | .ex c p => .ex c p S
@[simp] theorem Rs.out_ok {α : Type} (a : α) (S : Sto) (f : α → Out) : (Rs.ok a).out S f = f a := (rfl)
@[simp] theorem Rs.out_st {α : Type} (S : Sto) (f : α → Out) : (Rs.st : Rs α).out S f = .st := (rfl)
@[simp] theorem Rs.out_ex {α : Type} (c p) (S : Sto) (f : α → Out) : (Rs.ex c p : Rs α).out S f = .ex c p S := (rfl)
/-- one behind the other -/
def Out.seq (o : Out) (f : Sto → Out) : Out := match o with
  | .nx S => f S
  | o => o
@[simp] theorem Out.seq_nx (S : Sto) (f : Sto → Out) : (Out.nx S).seq f = f S := (rfl)
@[simp] theorem Out.seq_rt (t : T) (f : Sto → Out) : (Out.rt t).seq f = .rt t := (rfl)
@[simp] theorem Out.seq_bk (S : Sto) (f : Sto → Out) : (Out.bk S).seq f = .bk S := (rfl)
@[simp] theorem Out.seq_ct (S : Sto) (f : Sto → Out) : (Out.ct S).seq f = .ct S := (rfl)
@[simp] theorem Out.seq_st (f : Sto → Out) : Out.st.seq f = .st := (rfl)
@[simp] theorem Out.seq_ex (c p S) (f : Sto → Out) : (Out.ex c p S).seq f = .ex c p S := (rfl)

def owS (S : Sto) (j : Nat) : Rs (List T) := match S[j]? with
  | some (some (.ow ts)) => .ok ts
  | _ => .st
def mutL (m : Mu) (ts us : List T) : Rs (List T) := match m, us with
  | .append, [u] => if ts.length < 16777216 then .ok (ts ++ [u]) else .st
  | .clear, [] => .ok []
  | .reverse, [] => .ok ts.reverse
  | .extend, [.ow us] => if ts.length + us.length ≤ 16777216 then .ok (ts ++ us) else .st
  | _, _ => .st
/-- p.pop(..): the item and what is left -/
def popL (ts us : List T) : Rs (T × List T) := match us with
  | [] => match ts[ts.length - 1]? with
    | some u => .ok (u, ts.dropLast)
    | none => .st
  | [.fz (.int i)] => if -(2 ^ 63) ≤ i ∧ i < 2 ^ 63 then match seqIndex? i ts.length with
    | some k => match ts[k]? with
      | some u => .ok (u, ts.eraseIdx k)
      | none => .st
    | none => .st else .st
  | _ => .st

/-- the turns of a for -/
def forLoop (bindF : Sto → PyData → Option Sto) (body : Sto → Out) : List PyData → Sto → Out
  | [], S => .nx S
  | d :: ds, S => match bindF S d with
    | none => .st
    | some S1 => match body S1 with
      | .nx S2 => forLoop bindF body ds S2
      | .ct S2 => forLoop bindF body ds S2
      | .bk S2 => .nx S2
      | o => o
def whLoop (cond : Sto → Rs Bool) (body : Sto → Out) : Nat → Sto → Out
  | 0, _ => .st
  | n + 1, S => (cond S).out S fun k => if k then (match body S with
      | .nx S2 => whLoop cond body n S2
      | .ct S2 => whLoop cond body n S2
      | .bk S2 => .nx S2
      | o => o) else .nx S

section
variable (G : Str → Option PyData) (orc : Str → List T → Rs T)
def wlim : Nat := 1000000
mutual
def exS : Nat → IS → Sto → Out
  | 0, _, _ => .st
  | n + 1, s, S => match s with
    | .frz is => match frzS S is with
      | some S' => .nx S'
      | none => .st
    | .kil is => .nx (killS S is)
    | .asg i e => ((do let t ← ev G orc n S e; useT e t) : Rs T).out S fun t => if i < S.length then .nx (S.set i (some t)) else .st
    | .unp is e => ((do let t ← ev G orc n S e; useT e t) : Rs T).out S fun t => match sqT t with
      | some ts => match setAll S is ts with
        | some S' => .nx S'
        | none => .st
      | none => .st
    | .sub (.var j) b e => ((do
        let ts ← owS S j
        let t ← (do let t ← ev G orc n S e; useT e t)
        let i ← ev G orc n S b
        match i with
        | .fz (.int k) => match L2.ixN ts.length k with
          | some m => .ok (S.set j (some (.ow (ts.set m t))))
          | none => .st
        | _ => .st) : Rs Sto).out S .nx
    | .sub _ _ _ => .st
    | .aug i op e => ((do
        let x ← getS S i
        let t ← ev G orc n S e
        match x, t with
        | .fz (.int a), .fz (.int b) => do let k ← intOp op a b; return S.set i (some (.fz (.int k)))
        | _, _ => .st) : Rs Sto).out S .nx
    | .exp e => (ev G orc n S e).out S fun _ => .nx S
    | .mut m (.var j) es => ((do
        let ts ← owS S j
        let us ← evL (fun e => do let t ← ev G orc n S e; useT e t) es
        let r ← mutL m ts us
        return S.set j (some (.ow r))) : Rs Sto).out S .nx
    | .mut _ _ _ => .st
    | .pop i (.var j) es => if i = j then .st else ((do
        let ts ← owS S j
        let us ← evL (fun e => do let t ← ev G orc n S e; useT e t) es
        let r ← popL ts us
        return (S.set j (some (.ow r.2))).set i (some r.1)) : Rs Sto).out S .nx
    | .pop _ _ _ => .st
    | .apop (.var i) (.var j) es => if i = j then .st else ((do
        let ls ← owS S i
        let ts ← owS S j
        let us ← evL (fun e => do let t ← ev G orc n S e; useT e t) es
        let r ← popL ts us
        let l ← mutL .append ls [r.1]
        return (S.set j (some (.ow r.2))).set i (some (.ow l))) : Rs Sto).out S .nx
    | .apop _ _ _ => .st
    | .ret e => (ev G orc n S e).out S .rt
    | .ifs c a b => (evT G orc n S c).out S fun k => if k then exB n a S else exB n b S
    | .whl c b => whLoop (fun S => evT G orc n S c) (fun S => exB n b S) wlim S
    | .fr tg tu k src b => ((do
        let ts ← evL (fun e => do let t ← ev G orc n S e; useT e t) src
        iterT k (src.map fun _ => false) ts) : Rs (List PyData)).out S fun ds => forLoop (fun S d => bindTg S tg tu d) (fun S => exB n b S) ds S
    | .brk => .bk S
    | .cnt => .ct S
    | .pas => .nx S
    | .rai c _ => .ex c none S
    | .nev => .st
def exB : Nat → List IS → Sto → Out
  | 0, _, _ => .st
  | n + 1, l, S => match l with
    | [] => .nx S
    | s :: r => (exS n s S).seq fun S' => exB n r S'
end
end

/-- a def: its parameters' number, its names' number, its body -/
structure FnD where
  np : Nat
  nn : Nat
  body : List IS
def fuel : Nat := 200
def startS (fd : FnD) (ts : List T) : Sto := ts.map some ++ List.replicate (fd.nn - ts.length) none
def runFn (G : Str → Option PyData) (orc : Str → List T → Rs T) (fd : FnD) (ts : List T) : Rs T :=
  if ts.length = fd.np then match exB G orc fuel fd.body (startS fd ts) with
    | .rt t => .ok t
    | .nx _ => .ok (.fz .none)
    | .ex c p _ => .ex c p
    | _ => .st
  else .st
/-- the defs of a table, called k deep -/
def callF (G : Str → Option PyData) (tbl : Str → Option FnD) : Nat → Str → List T → Rs T
  | 0, _, _ => .st
  | k + 1, f, ts => match tbl f with
    | some fd => runFn G (callF G tbl k) fd ts
    | none => .st

/-! ### the checker: does the IR say what the text says? -/
def visB (sc : Scope) (x : Str) : Bool := match sc.names.lookup x with
  | some .local => true
  | some .cell => true
  | some .free => true
  | _ => false
def locB (sc : Scope) (x : Str) : Bool := match sc.names.lookup x with
  | some .local => true
  | some .cell => true
  | _ => false
def dbg (x : Str) : Bool := !(x == "__debug__") && !(x == "__classdict__")
def glB (sc : Scope) (x : Str) : Bool := decide (sc.names.lookup x = some .globalImplicit) && dbg x
def nameB (N : List Str) (sc : Scope) (x : Str) (i : Nat) : Bool := decide (N[i]? = some x) && visB sc x && dbg x
def litB : Const → PyData → Bool
  | .int i, .int j => decide (i = j)
  | .bool i, .bool j => decide (i = j)
  | .none, .none => true
  | .str x, .str y => decide (x = y) && okS y
  | _, _ => false
def allB {α β : Type} (f : α → β → Bool) : List α → List β → Bool
  | [], [] => true
  | a :: as, b :: bs => f a b && allB f as bs
  | _, _ => false
/-- a target: names into slots -/
def tgB (N : List Str) (sc : Scope) : Expr → List Nat → Bool → Bool
  | .Name x _, [i], false => decide (N[i]? = some x) && locB sc x
  | .Tuple es _ _, is, true => allB (fun e i => match e with
    | .Name x _ => decide (N[i]? = some x) && locB sc x
    | _ => false) es is
  | _, _, _ => false
def isComp : Expr → Bool
  | .ListComp .. => true
  | .SetComp .. => true
  | .DictComp .. => true
  | _ => false
def clB (sc : Scope) (e : Expr) (c : Cl) : Bool := match e with
  | .Name x _ => decide (x = c.name) && glB sc x
  | _ => false
def tgNames : Expr → List Nat → List (Str × Nat)
  | .Name x _, [i] => [(x, i)]
  | .Tuple es _ _, is => (es.zip is).filterMap fun p => match p.1 with
    | .Name x _ => some (x, p.2)
    | _ => none
  | _, _ => []
/-- what a for or a comprehension walks, by the checker -/
def itB (f : Expr → IE → Bool) (g : Str → Bool) (κ : ItK) (iter : Expr) (src : List IE) (tu : Bool) : Bool := match κ, iter, src with
  | .seq, e, [y] => f e y
  | .range, .Call (.Name fn _) [a] [] _, [y] => decide (fn = "range") && g fn && f a y
  | .range, .Call (.Name fn _) [a, b] [] _, [y, z] => decide (fn = "range") && g fn && f a y && f b z
  | .enum, .Call (.Name fn _) [a] [] _, [y] => decide (fn = "enumerate") && g fn && f a y && tu
  | .zip, .Call (.Name fn _) [a, b] [] _, [y, z] => decide (fn = "zip") && g fn && f a y && f b z && tu
  | _, _, _ => false
def chkE (D N : List Str) : Nat → Scope → Expr → IE → Bool
  | 0, _, _, _ => false
  | n + 1, sc, e, ie => match e, ie with
    | .Constant c _ _, .dat d => litB c d
    | .Name x _, .var i => nameB N sc x i
    | .Name x _, .glb y => decide (x = y) && glB sc x
    | .Tuple es _ _, .tup is => decide (es.length ≤ 1000) && allB (chkE D N n sc) es is
    | .List es _, .lst is => decide (es.length ≤ 1000) && allB (chkE D N n sc) es is
    | .BinOp a op b _, .bin op' x y => decide (op = op') && chkE D N n sc a x && chkE D N n sc b y
    | .UnaryOp .USub a _, .neg x => chkE D N n sc a x
    | .UnaryOp .Not a _, .no x => chkE D N n sc a x
    | .Compare a [op] [b] _, .cmp op' x y => decide (op = op') && chkE D N n sc a x && chkE D N n sc b y
    | .Compare a [o1, o2] [b, c] _, .chn p1 p2 x y z => decide (o1 = p1) && decide (o2 = p2) && chkE D N n sc a x && chkE D N n sc b y && chkE D N n sc c z
    | .BoolOp op [a, b] _, .bo op' x y => decide (op = op') && chkE D N n sc a x && chkE D N n sc b y
    | .BoolOp op (a :: b :: c :: r) pos, .bo op' x y => decide (op = op') && chkE D N n sc a x && chkE D N n sc (.BoolOp op (b :: c :: r) pos) y
    | .IfExp c a b _, .ite x y z => chkE D N n sc c x && chkE D N n sc a y && chkE D N n sc b z
    | .Subscript a (.Slice lo hi none _) _, .sl x l h => chkE D N n sc a x &&
        (match lo with | none => l.isNon | some e => !l.isNon && chkE D N n sc e l) &&
        (match hi with | none => h.isNon | some e => !h.isNon && chkE D N n sc e h)
    | .Subscript a b _, .ix x y => chkE D N n sc a x && chkE D N n sc b y
    | .Call (.Name f _) (e :: es) [] _, .call g is => decide (f = g) && glB sc f && decide (g ∈ D) && allB (chkE D N n sc) (e :: es) is
    | .Call (.Name f _) (e :: es) [] _, .blt b is => decide (f = b.name) && glB sc f && allB (chkE D N n sc) (e :: es) is
    | .Call (.Name f _) [e, .Tuple cs _ _] [] _, .isi x true is => decide (f = "isinstance") && glB sc f && chkE D N n sc e x && (decide (is.length ≤ 1000) && allB (clB sc) cs is)
    | .Call (.Name f _) [e, c] [] _, .isi x false [i] => decide (f = "isinstance") && glB sc f && chkE D N n sc e x && clB sc c i
    | .Call (.Attribute o m apos) (e :: es) [] pos, .mth m' x is => decide (m' = .join) && decide (is.length = 1) && decide (m = m'.name) && decide (apos.endLine = pos.line) && chkE D N n sc o x && allB (chkE D N n sc) (e :: es) is
    | .ListComp elt [⟨tg, iter, ifs, 0⟩] scope _, .lc is tu x k src cond =>
        L2.blkC N sc scope (tgNames tg is) && tgB N scope tg is tu && decide ((tgNames tg is).map (·.2) = is) &&
        itB (chkE D N n sc) (glB sc) k iter src tu &&
        allB (chkE D N n (L2.relS scope sc)) ifs cond && decide (ifs.length ≤ 1) && chkE D N n (L2.relS scope sc) elt x
    | _, _ => false
/-- what the machine does by itself at name = [.. for ..] on one line: the name must be a local, not the block's own -/
def swB (sc : Scope) (e tg : Expr) : Bool := match e with
  | .ListComp _ _ s pos => match tg with
    | .Name y py => decide (sc.names.lookup y = some .local) && (py.line == pos.line) && !(s.names.any fun p => p.1 == y && (p.2 == .local || p.2 == .cell))
    | _ => false
  | _ => true
def isTup : Expr → Bool
  | .Tuple .. => true
  | _ => false
def augB : Operator → Bool
  | .Add => true
  | .Sub => true
  | _ => false
mutual
def chkS (D N : List Str) : Nat → Scope → Stmt → IS → Bool
  | 0, _, _, _ => false
  | n + 1, sc, st, i => match st, i with
    | _, .nev => true
    | .Pass _, .pas => true
    | .Break _, .brk => true
    | .Continue _, .cnt => true
    | .Expr (.Constant (.str _) _ _) _, .pas => true
    | .Assign [.Name x p] e _, .asg i ie => decide (N[i]? = some x) && locB sc x && chkE D N n sc e ie && swB sc e (.Name x p)
    | .Assign [.Tuple es j p] e _, .unp is ie => tgB N sc (.Tuple es j p) is true && chkE D N n sc e ie && !isTup e && !isComp e
    | .Assign [.Subscript (.Name x p) b _] e _, .sub (.var j) ib ie => nameB N sc x j && chkE D N n sc b ib && chkE D N n sc e ie && !isComp e
    | .AugAssign (.Name x _) op e _, .aug i op' ie => decide (op = op') && augB op && decide (N[i]? = some x) && locB sc x && chkE D N n sc e ie
    | .Assign [.Name x p] (.Call (.Attribute (.Name y q) m apos) args [] pos) _, .pop i (.var j) is => decide (N[i]? = some x) && locB sc x && decide (m = "pop") && nameB N sc y j && decide (apos.endLine = pos.line) && allB (chkE D N n sc) args is && decide (is.length ≤ 1)
    | .Expr (.Call (.Attribute (.Name x p) m apos) [.Call (.Attribute (.Name y q) m2 apos2) args [] pos2] [] pos) _, .apop (.var i) (.var j) is => decide (m = "append") && nameB N sc x i && decide (apos.endLine = pos.line) && decide (m2 = "pop") && nameB N sc y j && decide (apos2.endLine = pos2.line) && allB (chkE D N n sc) args is && decide (is.length ≤ 1)
    | .Expr (.Call (.Attribute (.Name x p) m apos) (e :: es) [] pos) _, .mut mu (.var j) is => decide (m = mu.name) && nameB N sc x j && decide (apos.endLine = pos.line) && allB (chkE D N n sc) (e :: es) is && decide (is.length = 1) && decide (mu.many = 1)
    | .Expr (.Call (.Attribute (.Name x p) m apos) [] [] pos) _, .mut mu (.var j) [] => decide (m = mu.name) && nameB N sc x j && decide (apos.endLine = pos.line) && decide (mu.many = 0)
    | .Expr e _, .exp ie => chkE D N n sc e ie && !isComp e
    | .Return (some e) _, .ret ie => chkE D N n sc e ie
    | .Return none _, .ret (.dat .none) => true
    | .If c a b _, .ifs ic ia ib => chkE D N n sc c ic && chkB D N n sc a ia && chkB D N n sc b ib
    | .While c b [] _, .whl ic ib => chkE D N n sc c ic && chkB D N n sc b ib
    | .For tg iter b [] _, .fr is tu κ src ib => itB (chkE D N n sc) (glB sc) κ iter src tu && tgB N sc tg is tu && chkB D N n sc b ib
    | _, _ => false
def chkB (D N : List Str) : Nat → Scope → List Stmt → List IS → Bool
  | 0, _, _, _ => false
  | n + 1, sc, sts, is => match is with
    | [] => sts.isEmpty
    | .frz _ :: r => chkB D N n sc sts r
    | .kil _ :: r => chkB D N n sc sts r
    | .nev :: _ => true
    | i :: r => match sts with
      | s :: ss => chkS D N n sc s i && chkB D N n sc ss r
      | [] => false
end
end Dz
namespace Dz
open PySem PySem.Spec PyProof.Rows L2

/-! ### heaps -/
abbrev AS := Addr → Prop
open Classical in
noncomputable def mask (H : Hp) (A : AS) : Hp := fun b => if A b then none else H b
theorem mask_some {H : Hp} {A : AS} {b : Addr} {o : HO} (h : mask H A b = some o) : H b = some o ∧ ¬ A b := by
  unfold mask at h
  split at h
  · cases h
  · rename_i q; exact ⟨h, q⟩
theorem mask_of {H : Hp} {A : AS} {b : Addr} {o : HO} (h : H b = some o) (n : ¬ A b) : mask H A b = some o := by
  unfold mask; rw [if_neg n]; exact h
theorem mask_same {H : Hp} {A : AS} : Same (mask H A) H := fun _ _ e => (mask_some e).1
theorem mask_mono {H H' : Hp} {A A' : AS} (s : Same H H') (h : ∀ b, H b ≠ none → A' b → A b) : Same (mask H A) (mask H' A') := fun b o e => by
  obtain ⟨e1, n⟩ := mask_some e
  exact mask_of (s _ _ e1) fun q => n (h b (by rw [e1]; simp) q)

theorem SqT.mono {K : PySem.W.Frag} {H H' : Hp} {a : Addr} {xs : List V} (e : Same H H') (h : SqT K H a xs) : SqT K H' a xs := by
  rcases h with (h | ⟨o, h⟩) | h
  · exact .inl (.inl (e _ _ h))
  · exact .inl (.inr ⟨o, e _ _ h⟩)
  · exact .inr h
mutual
theorem Dp.mono {K : PySem.W.Frag} {H H' : Hp} (e : Same H H') : ∀ {d : PyData} {v : V}, Dp K H v d → Dp K H' v d
  | _, _, .non => .non
  | _, _, .bl b => .bl b
  | _, _, .int i => .int i
  | _, _, .str x => .str x
  | _, _, .lst h hs => .lst (e.seq h) (DpAll.mono e hs)
  | _, _, .tup h hs => .tup (SqT.mono e h) (DpAll.mono e hs)
theorem DpAll.mono {K : PySem.W.Frag} {H H' : Hp} (e : Same H H') : ∀ {ds : List PyData} {vs : List V}, DpAll K H vs ds → DpAll K H' vs ds
  | _, _, .nil => .nil
  | _, _, .cons h hs => .cons (Dp.mono e h) (DpAll.mono e hs)
end
theorem DpAll.length {K : PySem.W.Frag} {H : Hp} : ∀ {ds : List PyData} {vs : List V}, DpAll K H vs ds → vs.length = ds.length
  | _, _, .nil => rfl
  | _, _, .cons _ hs => by simp [DpAll.length hs]
theorem DpAll.get {K : PySem.W.Frag} {H : Hp} : ∀ {ds : List PyData} {vs : List V} {i : Nat} {d : PyData}, DpAll K H vs ds → ds[i]? = some d → ∃ v, vs[i]? = some v ∧ Dp K H v d
  | _, _, _, _, .nil, h => by simp at h
  | _, _, 0, _, .cons h _, e => by simp at e; subst e; exact ⟨_, rfl, h⟩
  | _, _, i + 1, _, .cons _ hs, e => by
    obtain ⟨v, h1, h2⟩ := DpAll.get (i := i) hs (by simpa using e)
    exact ⟨v, by simpa using h1, h2⟩
theorem DpAll.getV {K : PySem.W.Frag} {H : Hp} {ds : List PyData} {vs : List V} {i : Nat} {v : V} (h : DpAll K H vs ds) (e : vs[i]? = some v) : ∃ d, ds[i]? = some d ∧ Dp K H v d := by
  obtain ⟨hl, _⟩ := List.getElem?_eq_some_iff.mp e
  have : i < ds.length := by have := DpAll.length h; omega
  obtain ⟨v', h1, h2⟩ := DpAll.get h (List.getElem?_eq_getElem this)
  rw [e] at h1; cases h1
  exact ⟨_, List.getElem?_eq_getElem this, h2⟩
theorem DpAll.app {K : PySem.W.Frag} {H : Hp} : ∀ {ds es : List PyData} {vs ws : List V}, DpAll K H vs ds → DpAll K H ws es → DpAll K H (vs ++ ws) (ds ++ es)
  | _, _, _, _, .nil, h => h
  | _, _, _, _, .cons a b, h => .cons a (DpAll.app b h)
theorem DpAll.take {K : PySem.W.Frag} {H : Hp} : ∀ {ds : List PyData} {vs : List V} (n : Nat), DpAll K H vs ds → DpAll K H (vs.take n) (ds.take n)
  | _, _, 0, _ => .nil
  | _, _, _ + 1, .nil => .nil
  | _, _, n + 1, .cons a b => .cons a (DpAll.take n b)
theorem DpAll.drop {K : PySem.W.Frag} {H : Hp} : ∀ {ds : List PyData} {vs : List V} (n : Nat), DpAll K H vs ds → DpAll K H (vs.drop n) (ds.drop n)
  | _, _, 0, h => h
  | _, _, _ + 1, .nil => .nil
  | _, _, n + 1, .cons _ b => DpAll.drop n b

/-! ### data that may be -/
theorem okD_list {ds : List PyData} : okD (.list ds) = true ↔ ds.length ≤ 16777216 ∧ okDL ds = true := by simp [okD]
theorem okD_tuple {ds : List PyData} : okD (.tuple ds) = true ↔ ds.length ≤ 16777216 ∧ okDL ds = true := by simp [okD]
theorem okDL_mem : ∀ {ds : List PyData}, okDL ds = true → ∀ d ∈ ds, okD d = true
  | [], _, _, h => by cases h
  | d :: ds, h, x, hx => by
    simp only [okDL, Bool.and_eq_true] at h
    rcases List.mem_cons.mp hx with rfl | hx
    · exact h.1
    · exact okDL_mem h.2 x hx
theorem okDL_of : ∀ {ds : List PyData}, (∀ d ∈ ds, okD d = true) → okDL ds = true
  | [], _ => rfl
  | d :: ds, h => by
    simp only [okDL, Bool.and_eq_true]
    exact ⟨h d (by simp), okDL_of fun x hx => h x (by simp [hx])⟩
theorem okDL_get {ds : List PyData} (h : okDL ds = true) {i : Nat} {d : PyData} (e : ds[i]? = some d) : okD d = true :=
  okDL_mem h d (List.mem_of_getElem? e)
mutual
theorem okD_lay : ∀ {d : PyData}, okD d = true → d.canLay0 = true
  | .none, _ => rfl
  | .bool _, _ => rfl
  | .int _, _ => rfl
  | .str x, h => by
    simp only [okD, okS, Bool.and_eq_true] at h
    simpa [PyData.canLay0] using h.1
  | .list xs, h => by simpa [PyData.canLay0] using okDL_lay (okD_list.mp h).2
  | .tuple xs, h => by simpa [PyData.canLay0] using okDL_lay (okD_tuple.mp h).2
  | .dict _, h => by simp [okD] at h
theorem okDL_lay : ∀ {ds : List PyData}, okDL ds = true → PyData.canLayAll0 ds = true
  | [], _ => rfl
  | d :: ds, h => by
    simp only [okDL, Bool.and_eq_true] at h
    simp [PyData.canLayAll0, okD_lay h.1, okDL_lay h.2]
end

theorem datL_len : ∀ {ts : List T} {ds : List PyData}, T.datL ts = some ds → ds.length = ts.length
  | [], ds, h => by simp only [T.datL, Option.some.injEq] at h; subst h; rfl
  | t :: ts, ds, h => by
    simp only [T.datL] at h
    cases e : t.dat with
    | none => rw [e] at h; simp at h
    | some d =>
      cases e2 : T.datL ts with
      | none => rw [e, e2] at h; simp at h
      | some r => rw [e, e2] at h; simp only [Option.some.injEq] at h; subst h; simp [datL_len e2]
theorem frzL_len : ∀ {ts us : List T}, T.frzL ts = some us → us.length = ts.length
  | [], ds, h => by simp only [T.frzL, Option.some.injEq] at h; subst h; rfl
  | t :: ts, ds, h => by
    simp only [T.frzL] at h
    cases e : t.frz with
    | none => rw [e] at h; simp at h
    | some d =>
      cases e2 : T.frzL ts with
      | none => rw [e, e2] at h; simp at h
      | some r => rw [e, e2] at h; simp only [Option.some.injEq] at h; subst h; simp [frzL_len e2]
/-! ### what a tree is in the heap -/
mutual
inductive RT (K : PySem.W.Frag) (M H : Hp) : T → V → List Addr → Prop
  | fz {d : PyData} {v : V} : Dp K M v d → okD d = true → RT K M H (.fz d) v []
  | ow {ts : List T} {a : Addr} {vs : List V} {as : List Addr} : H a = some (.lst vs) → ts.length ≤ 16777216 → RTs K M H ts vs as → RT K M H (.ow ts) (.ref a) (a :: as)
  | tp {ts : List T} {a : Addr} {vs : List V} {as : List Addr} : SqT K M a vs → ts.length ≤ 16777216 → RTs K M H ts vs as → RT K M H (.tp ts) (.ref a) as
inductive RTs (K : PySem.W.Frag) (M H : Hp) : List T → List V → List Addr → Prop
  | nil : RTs K M H [] [] []
  | cons {t : T} {v : V} {as : List Addr} {ts : List T} {vs : List V} {bs : List Addr} : RT K M H t v as → RTs K M H ts vs bs → RTs K M H (t :: ts) (v :: vs) (as ++ bs)
end
section
variable {K : PySem.W.Frag} {M M' H H' : Hp}
mutual
theorem RT.mono (m : Same M M') : ∀ {t : T} {v : V} {as : List Addr}, (∀ a ∈ as, H' a = H a) → RT K M H t v as → RT K M' H' t v as
  | _, _, _, _, .fz h o => .fz (Dp.mono m h) o
  | _, _, _, e, .ow h z hs => .ow ((e _ (by simp)).trans h) z (RTs.mono m (fun a ha => e a (by simp [ha])) hs)
  | _, _, _, e, .tp h z hs => .tp (SqT.mono m h) z (RTs.mono m e hs)
theorem RTs.mono (m : Same M M') : ∀ {ts : List T} {vs : List V} {as : List Addr}, (∀ a ∈ as, H' a = H a) → RTs K M H ts vs as → RTs K M' H' ts vs as
  | _, _, _, _, .nil => .nil
  | _, _, _, e, .cons h hs => .cons (RT.mono m (fun a ha => e a (by simp [ha])) h) (RTs.mono m (fun a ha => e a (by simp [ha])) hs)
end
mutual
theorem RT.dp (m : Same M H) : ∀ {t : T} {v : V} {as : List Addr} {d : PyData}, RT K M H t v as → t.dat = some d → Dp K H v d ∧ okD d = true
  | _, _, _, _, .fz h o, e => by
    simp only [T.dat, Option.some.injEq] at e; subst e
    exact ⟨Dp.mono m h, o⟩
  | _, _, _, d, .ow (ts := ts) h z0 hs, e => by
    simp only [T.dat] at e
    cases q : T.datL ts with
    | none => rw [q] at e; cases e
    | some ds =>
      rw [q] at e; cases e
      obtain ⟨h1, h2⟩ := RTs.dp m hs q
      exact ⟨.lst (.of h) h1, okD_list.mpr ⟨by rw [datL_len q]; exact z0, h2⟩⟩
  | _, _, _, d, .tp (ts := ts) h z0 hs, e => by
    simp only [T.dat] at e
    cases q : T.datL ts with
    | none => rw [q] at e; cases e
    | some ds =>
      rw [q] at e; cases e
      obtain ⟨h1, h2⟩ := RTs.dp m hs q
      exact ⟨.tup (SqT.mono m h) h1, okD_tuple.mpr ⟨by rw [datL_len q]; exact z0, h2⟩⟩
theorem RTs.dp (m : Same M H) : ∀ {ts : List T} {vs : List V} {as : List Addr} {ds : List PyData}, RTs K M H ts vs as → T.datL ts = some ds → DpAll K H vs ds ∧ okDL ds = true
  | _, _, _, ds, .nil, e => by
    simp only [T.datL, Option.some.injEq] at e; subst e
    exact ⟨.nil, rfl⟩
  | _, _, _, ds, .cons (t := t) (ts := ts) h hs, e => by
    simp only [T.datL] at e
    cases q : t.dat with
    | none => rw [q] at e; simp at e
    | some d =>
      cases q2 : T.datL ts with
      | none => rw [q, q2] at e; simp at e
      | some r =>
        rw [q, q2] at e; simp only [Option.some.injEq] at e; subst e
        obtain ⟨h1, h2⟩ := RT.dp m h q
        obtain ⟨h3, h4⟩ := RTs.dp m hs q2
        exact ⟨.cons h1 h3, by simp [okDL, h2, h4]⟩
end
mutual
/-- own addresses hold lists -/
theorem RT.own : ∀ {t : T} {v : V} {as : List Addr}, RT K M H t v as → ∀ a ∈ as, ∃ vs, H a = some (.lst vs)
  | _, _, _, .fz _ _, _, ha => by cases ha
  | _, _, _, .ow h _ hs, a, ha => by
    rcases List.mem_cons.mp ha with rfl | ha
    · exact ⟨_, h⟩
    · exact RTs.own hs a ha
  | _, _, _, .tp _ _ hs, a, ha => RTs.own hs a ha
theorem RTs.own : ∀ {ts : List T} {vs : List V} {as : List Addr}, RTs K M H ts vs as → ∀ a ∈ as, ∃ vs, H a = some (.lst vs)
  | _, _, _, .nil, _, ha => by cases ha
  | _, _, _, .cons h hs, a, ha => by
    rcases List.mem_append.mp ha with ha | ha
    · exact RT.own h a ha
    · exact RTs.own hs a ha
end
mutual
theorem RT.isFz : ∀ {t : T} {v : V} {as : List Addr}, RT K M H t v as → t.isFz = true → as = []
  | _, _, _, .fz _ _, _ => rfl
  | _, _, _, .ow _ _ _, e => by simp [T.isFz] at e
  | _, _, _, .tp _ _ hs, e => RTs.allFz hs (by simpa [T.isFz] using e)
theorem RTs.allFz : ∀ {ts : List T} {vs : List V} {as : List Addr}, RTs K M H ts vs as → T.allFz ts = true → as = []
  | _, _, _, .nil, _ => rfl
  | _, _, _, .cons h hs, e => by
    simp only [T.allFz, Bool.and_eq_true] at e
    rw [RT.isFz h e.1, RTs.allFz hs e.2]; rfl
end
theorem RTs.length : ∀ {ts : List T} {vs : List V} {as : List Addr}, RTs K M H ts vs as → vs.length = ts.length
  | _, _, _, .nil => rfl
  | _, _, _, .cons _ hs => by simp [RTs.length hs]
/-- trees that are data all through, as frozen ones -/
theorem RTs.ofDp : ∀ {ds : List PyData} {vs : List V}, DpAll K M vs ds → okDL ds = true → RTs K M H (ds.map .fz) vs []
  | _, _, .nil, _ => .nil
  | _, _, .cons h hs, o => by
    simp only [okDL, Bool.and_eq_true] at o
    exact .cons (as := []) (.fz h o.1) (RTs.ofDp hs o.2)
theorem RTs.toDp : ∀ {ds : List PyData} {vs : List V} {as : List Addr}, RTs K M H (ds.map .fz) vs as → DpAll K M vs ds ∧ okDL ds = true ∧ as = []
  | [], _, _, .nil => ⟨.nil, rfl, rfl⟩
  | d :: ds, _, _, .cons (.fz h o) hs => by
    obtain ⟨a, b, c⟩ := RTs.toDp hs
    exact ⟨.cons h a, by simp [okDL, o, b], by simp [c]⟩
theorem RTs.app : ∀ {ts us : List T} {vs ws : List V} {as bs : List Addr}, RTs K M H ts vs as → RTs K M H us ws bs → RTs K M H (ts ++ us) (vs ++ ws) (as ++ bs)
  | _, _, _, _, _, _, .nil, h => h
  | _, _, _, _, _, _, .cons a b, h => by
    rw [List.append_assoc]
    exact .cons a (RTs.app b h)
theorem RTs.get : ∀ {ts : List T} {vs : List V} {as : List Addr} {i : Nat} {t : T}, RTs K M H ts vs as → ts[i]? = some t → ∃ v bs, vs[i]? = some v ∧ RT K M H t v bs ∧ bs.Sublist as
  | _, _, _, _, _, .nil, h => by simp at h
  | _, _, _, 0, _, .cons h _, e => by simp at e; subst e; exact ⟨_, _, rfl, h, List.sublist_append_left _ _⟩
  | _, _, _, i + 1, _, .cons _ hs, e => by
    obtain ⟨v, bs, h1, h2, h3⟩ := RTs.get (i := i) hs (by simpa using e)
    exact ⟨v, bs, by simpa using h1, h2, h3.trans (List.sublist_append_right _ _)⟩
theorem RTs.drop : ∀ {ts : List T} {vs : List V} {as : List Addr} (n : Nat), RTs K M H ts vs as → ∃ bs, RTs K M H (ts.drop n) (vs.drop n) bs ∧ bs.Sublist as
  | _, _, as, 0, h => ⟨as, h, List.Sublist.refl _⟩
  | _, _, _, _ + 1, .nil => ⟨[], .nil, List.Sublist.refl _⟩
  | _, _, _, n + 1, .cons _ hs => by
    obtain ⟨bs, h, s⟩ := RTs.drop n hs
    exact ⟨bs, h, s.trans (List.sublist_append_right _ _)⟩
theorem RTs.take : ∀ {ts : List T} {vs : List V} {as : List Addr} (n : Nat), RTs K M H ts vs as → ∃ bs, RTs K M H (ts.take n) (vs.take n) bs ∧ bs.Sublist as
  | _, _, as, 0, _ => ⟨[], .nil, List.nil_sublist _⟩
  | _, _, _, _ + 1, .nil => ⟨[], .nil, List.Sublist.refl _⟩
  | _, _, _, n + 1, .cons h hs => by
    obtain ⟨bs, h2, s⟩ := RTs.take n hs
    exact ⟨_, .cons h h2, List.Sublist.append (List.Sublist.refl _) s⟩
mutual
theorem RT.frz : ∀ {t t' : T} {v : V} {as : List Addr}, Same M M' → (∀ a ∈ as, M' a = H a) → RT K M H t v as → t.frz = some t' → RT K M' H t' v []
  | _, _, _, _, m, e, .fz h o, q => by
    simp only [T.frz, Option.some.injEq] at q; subst q
    exact .fz (Dp.mono m h) o
  | _, _, _, _, m, e, .ow (ts := ts) h z0 hs, q => by
    simp only [T.frz] at q
    cases z : T.datL ts with
    | none => rw [z] at q; cases q
    | some ds =>
      rw [z] at q; cases q
      obtain ⟨h1, h2⟩ := RTs.frzD m (fun a ha => e a (by simp [ha])) hs z
      exact .fz (.lst (.of ((e _ (by simp)).trans h)) h1) (okD_list.mpr ⟨by rw [datL_len z]; exact z0, h2⟩)
  | _, _, _, _, m, e, .tp (ts := ts) h z0 hs, q => by
    simp only [T.frz] at q
    cases z : T.datL ts with
    | some ds =>
      rw [z] at q; simp only [Option.some.injEq] at q; subst q
      obtain ⟨h1, h2⟩ := RTs.frzD m e hs z
      exact .fz (.tup (SqT.mono m h) h1) (okD_tuple.mpr ⟨by rw [datL_len z]; exact z0, h2⟩)
    | none =>
      rw [z] at q
      cases z2 : T.frzL ts with
      | none => rw [z2] at q; cases q
      | some us =>
        rw [z2] at q; cases q
        exact .tp (SqT.mono m h) (by rw [frzL_len z2]; exact z0) (RTs.frz m e hs z2)
theorem RTs.frzD : ∀ {ts : List T} {vs : List V} {as : List Addr} {ds : List PyData}, Same M M' → (∀ a ∈ as, M' a = H a) → RTs K M H ts vs as → T.datL ts = some ds → DpAll K M' vs ds ∧ okDL ds = true
  | _, _, _, _, m, e, .nil, q => by
    simp only [T.datL, Option.some.injEq] at q; subst q
    exact ⟨.nil, rfl⟩
  | _, _, _, _, m, e, .cons (t := t) (ts := ts) h hs, q => by
    simp only [T.datL] at q
    cases z : t.dat with
    | none => rw [z] at q; simp at q
    | some d =>
      cases z2 : T.datL ts with
      | none => rw [z, z2] at q; simp at q
      | some r =>
        rw [z, z2] at q; simp only [Option.some.injEq] at q; subst q
        obtain ⟨h3, h4⟩ := RTs.frzD m (fun a ha => e a (by simp [ha])) hs z2
        obtain ⟨h5, h6⟩ := RT.frzD m (fun a ha => e a (by simp [ha])) h z
        exact ⟨.cons h5 h3, by simp [okDL, h6, h4]⟩
theorem RT.frzD : ∀ {t : T} {v : V} {as : List Addr} {d : PyData}, Same M M' → (∀ a ∈ as, M' a = H a) → RT K M H t v as → t.dat = some d → Dp K M' v d ∧ okD d = true
  | _, _, _, _, m, e, .fz h o, q => by
    simp only [T.dat, Option.some.injEq] at q; subst q
    exact ⟨Dp.mono m h, o⟩
  | _, _, _, _, m, e, .ow (ts := ts) h z0 hs, q => by
    simp only [T.dat] at q
    cases z : T.datL ts with
    | none => rw [z] at q; cases q
    | some ds =>
      rw [z] at q; cases q
      obtain ⟨h1, h2⟩ := RTs.frzD m (fun a ha => e a (by simp [ha])) hs z
      exact ⟨.lst (.of ((e _ (by simp)).trans h)) h1, okD_list.mpr ⟨by rw [datL_len z]; exact z0, h2⟩⟩
  | _, _, _, _, m, e, .tp (ts := ts) h z0 hs, q => by
    simp only [T.dat] at q
    cases z : T.datL ts with
    | none => rw [z] at q; cases q
    | some ds =>
      rw [z] at q; cases q
      obtain ⟨h1, h2⟩ := RTs.frzD m e hs z
      exact ⟨.tup (SqT.mono m h) h1, okD_tuple.mpr ⟨by rw [datL_len z]; exact z0, h2⟩⟩
theorem RTs.frz : ∀ {ts us : List T} {vs : List V} {as : List Addr}, Same M M' → (∀ a ∈ as, M' a = H a) → RTs K M H ts vs as → T.frzL ts = some us → RTs K M' H us vs []
  | _, _, _, _, m, e, .nil, q => by
    simp only [T.frzL, Option.some.injEq] at q; subst q
    exact .nil
  | _, _, _, _, m, e, .cons (t := t) (ts := ts) h hs, q => by
    simp only [T.frzL] at q
    cases z : t.frz with
    | none => rw [z] at q; simp at q
    | some d =>
      cases z2 : T.frzL ts with
      | none => rw [z, z2] at q; simp at q
      | some r =>
        rw [z, z2] at q; simp only [Option.some.injEq] at q; subst q
        exact .cons (as := []) (bs := []) (RT.frz m (fun a ha => e a (by simp [ha])) h z) (RTs.frz m (fun a ha => e a (by simp [ha])) hs z2)
end
end
/-! ### data without lists lean on nothing that may be written -/
section
variable {K : PySem.W.Frag} {H : Hp} {A A' : AS}
def AllLst (H : Hp) (A : AS) : Prop := ∀ a, A a → ∃ vs, H a = some (.lst vs)
theorem SqT.anyMask (hA : AllLst H A') {a : Addr} {xs : List V} (h : SqT K (mask H A) a xs) : SqT K (mask H A') a xs := by
  rcases h with (h | ⟨o, h⟩) | h
  · obtain ⟨e, _⟩ := mask_some h
    exact .inl (.inl (mask_of e fun q => by obtain ⟨vs, z⟩ := hA _ q; rw [e] at z; cases z))
  · obtain ⟨e, _⟩ := mask_some h
    exact .inl (.inr ⟨o, mask_of e fun q => by obtain ⟨vs, z⟩ := hA _ q; rw [e] at z; cases z⟩)
  · exact .inr h
mutual
theorem Dp.anyMask (hA : AllLst H A') : ∀ {d : PyData} {v : V}, Dp K (mask H A) v d → noLst d = true → Dp K (mask H A') v d
  | _, _, .non, _ => .non
  | _, _, .bl b, _ => .bl b
  | _, _, .int i, _ => .int i
  | _, _, .str x, _ => .str x
  | _, _, .lst _ _, q => by simp [noLst] at q
  | _, _, .tup h hs, q => .tup (SqT.anyMask hA h) (DpAll.anyMask hA hs (by simpa [noLst] using q))
theorem DpAll.anyMask (hA : AllLst H A') : ∀ {ds : List PyData} {vs : List V}, DpAll K (mask H A) vs ds → noLstL ds = true → DpAll K (mask H A') vs ds
  | _, _, .nil, _ => .nil
  | _, _, .cons h hs, q => by
    simp only [noLstL, Bool.and_eq_true] at q
    exact .cons (Dp.anyMask hA h q.1) (DpAll.anyMask hA hs q.2)
end
mutual
theorem RT.anyMask (hA : AllLst H A') : ∀ {t : T} {v : V} {as : List Addr}, RT K (mask H A) H t v as → t.indep = true → RT K (mask H A') H t v as
  | _, _, _, .fz h o, q => .fz (Dp.anyMask hA h (by simpa [T.indep] using q)) o
  | _, _, _, .ow h z hs, q => .ow h z (RTs.anyMask hA hs (by simpa [T.indep] using q))
  | _, _, _, .tp h z hs, q => .tp (SqT.anyMask hA h) z (RTs.anyMask hA hs (by simpa [T.indep] using q))
theorem RTs.anyMask (hA : AllLst H A') : ∀ {ts : List T} {vs : List V} {as : List Addr}, RTs K (mask H A) H ts vs as → T.indepL ts = true → RTs K (mask H A') H ts vs as
  | _, _, _, .nil, _ => .nil
  | _, _, _, .cons h hs, q => by
    simp only [T.indepL, Bool.and_eq_true] at q
    exact .cons (RT.anyMask hA h q.1) (RTs.anyMask hA hs q.2)
end
end
/-! ### the store -/
inductive SR (K : PySem.W.Frag) (M H : Hp) : Sto → L2.St → List Addr → Prop
  | nil : SR K M H [] [] []
  | no {S : Sto} {σ : L2.St} {L : List Addr} {x : Option V} : SR K M H S σ L → SR K M H (none :: S) (x :: σ) L
  | so {S : Sto} {σ : L2.St} {L : List Addr} {t : T} {v : V} {as : List Addr} : RT K M H t v as → SR K M H S σ L → SR K M H (some t :: S) (some v :: σ) (as ++ L)
section
variable {K : PySem.W.Frag} {M M' H H' : Hp}
theorem SR.mono (m : Same M M') : ∀ {S : Sto} {σ : L2.St} {L : List Addr}, (∀ a ∈ L, H' a = H a) → SR K M H S σ L → SR K M' H' S σ L
  | _, _, _, _, .nil => .nil
  | _, _, _, e, .no h => .no (SR.mono m e h)
  | _, _, _, e, .so h hs => .so (h.mono m fun a ha => e a (by simp [ha])) (SR.mono m (fun a ha => e a (by simp [ha])) hs)
theorem SR.length : ∀ {S : Sto} {σ : L2.St} {L : List Addr}, SR K M H S σ L → σ.length = S.length
  | _, _, _, .nil => rfl
  | _, _, _, .no h => by simp [SR.length h]
  | _, _, _, .so _ h => by simp [SR.length h]
theorem SR.get : ∀ {S : Sto} {σ : L2.St} {L : List Addr} {i : Nat} {t : T}, SR K M H S σ L → S[i]? = some (some t) → ∃ v as, σ[i]? = some (some v) ∧ RT K M H t v as ∧ as.Sublist L
  | _, _, _, _, _, .nil, e => by simp at e
  | _, _, _, 0, _, .no _, e => by simp at e
  | _, _, _, i + 1, _, .no h, e => by
    obtain ⟨v, as, a, b, c⟩ := SR.get (i := i) h (by simpa using e)
    exact ⟨v, as, by simpa using a, b, c⟩
  | _, _, _, 0, _, .so h _, e => by simp at e; subst e; exact ⟨_, _, rfl, h, List.sublist_append_left _ _⟩
  | _, _, _, i + 1, _, .so _ h, e => by
    obtain ⟨v, as, a, b, c⟩ := SR.get (i := i) h (by simpa using e)
    exact ⟨v, as, by simpa using a, b, c.trans (List.sublist_append_right _ _)⟩
theorem SR.own : ∀ {S : Sto} {σ : L2.St} {L : List Addr}, SR K M H S σ L → ∀ a ∈ L, ∃ vs, H a = some (.lst vs)
  | _, _, _, .nil, _, h => by cases h
  | _, _, _, .no h, a, ha => SR.own h a ha
  | _, _, _, .so h hs, a, ha => by
    rcases List.mem_append.mp ha with ha | ha
    · exact h.own a ha
    · exact SR.own hs a ha
/-- a slot is forgotten -/
theorem SR.kill : ∀ {S : Sto} {σ : L2.St} {L : List Addr} (i : Nat) (x : Option V), SR K M H S σ L → ∃ L', SR K M H (S.set i none) (σ.set i x) L' ∧ L'.Sublist L
  | _, _, _, _, _, .nil => ⟨[], .nil, List.Sublist.refl _⟩
  | _, _, L, 0, x, .no h => ⟨L, .no h, List.Sublist.refl _⟩
  | _, _, _, i + 1, x, .no h => by
    obtain ⟨L', a, b⟩ := SR.kill i x h
    exact ⟨L', .no a, b⟩
  | _, _, _, 0, x, .so _ h => ⟨_, .no h, List.sublist_append_right _ _⟩
  | _, _, _, i + 1, x, .so h hs => by
    obtain ⟨L', a, b⟩ := SR.kill i x hs
    exact ⟨_, .so h a, List.Sublist.append (List.Sublist.refl _) b⟩
theorem SR.kill' : ∀ {S : Sto} {σ : L2.St} {L : List Addr} (i : Nat), SR K M H S σ L → ∃ L', SR K M H (S.set i none) σ L' ∧ L'.Sublist L
  | _, _, _, _, .nil => ⟨[], .nil, List.Sublist.refl _⟩
  | _, _, L, 0, .no h => ⟨L, .no h, List.Sublist.refl _⟩
  | _, _, _, i + 1, .no h => by
    obtain ⟨L', a, b⟩ := SR.kill' i h
    exact ⟨L', .no a, b⟩
  | _, _, _, 0, .so _ h => ⟨_, .no h, List.sublist_append_right _ _⟩
  | _, _, _, i + 1, .so h hs => by
    obtain ⟨L', a, b⟩ := SR.kill' i hs
    exact ⟨_, .so h a, List.Sublist.append (List.Sublist.refl _) b⟩
/-- a slot is stored anew; the place of its own addresses in the list is of no matter -/
theorem SR.set : ∀ {S : Sto} {σ : L2.St} {L : List Addr} {i : Nat} {t : T} {v : V} {as : List Addr}, SR K M H S σ L → i < S.length → RT K M H t v as →
    ∃ L1 L2, SR K M H (S.set i (some t)) (σ.set i (some v)) (L1 ++ as ++ L2) ∧ (L1 ++ L2).Sublist L
  | _, _, _, _, _, _, _, .nil, h, _ => by simp at h
  | _, _, L, 0, _, _, as, .no h, _, r => ⟨[], L, by simpa using SR.so r h, by simp⟩
  | _, _, _, i + 1, _, _, _, .no h, l, r => by
    obtain ⟨L1, L2, a, b⟩ := SR.set (i := i) h (by simpa using l) r
    exact ⟨L1, L2, .no a, b⟩
  | _, _, _, 0, _, _, as, .so (L := L) _ h, _, r => ⟨[], L, by simpa using SR.so r h, by simpa using List.sublist_append_right _ _⟩
  | _, _, _, i + 1, _, _, _, .so (as := bs) h hs, l, r => by
    obtain ⟨L1, L2, a, b⟩ := SR.set (i := i) hs (by simpa using l) r
    refine ⟨bs ++ L1, L2, by simpa [List.append_assoc] using SR.so h a, ?_⟩
    rw [List.append_assoc]
    exact List.Sublist.append (List.Sublist.refl _) b
/-- a slot apart from the rest -/
theorem SR.split : ∀ {S : Sto} {σ : L2.St} {L : List Addr} {i : Nat} {t : T}, SR K M H S σ L → S[i]? = some (some t) →
    ∃ v as L1 L2, σ[i]? = some (some v) ∧ RT K M H t v as ∧ L = L1 ++ as ++ L2 ∧ SR K M H (S.set i none) σ (L1 ++ L2)
  | _, _, _, _, _, .nil, e => by simp at e
  | _, _, _, 0, _, .no _, e => by simp at e
  | _, _, _, i + 1, _, .no h, e => by
    obtain ⟨v, as, L1, L2, a, b, c, d⟩ := SR.split (i := i) h (by simpa using e)
    exact ⟨v, as, L1, L2, by simpa using a, b, c, .no d⟩
  | _, _, _, 0, _, .so (L := L) h hs, e => by
    simp at e; subst e
    exact ⟨_, _, [], L, rfl, h, by simp, by simpa using SR.no hs⟩
  | _, _, _, i + 1, _, .so (as := bs) h hs, e => by
    obtain ⟨v, as, L1, L2, a, b, c, d⟩ := SR.split (i := i) hs (by simpa using e)
    refine ⟨v, as, bs ++ L1, L2, by simpa using a, b, by rw [c]; simp [List.append_assoc], ?_⟩
    simpa [List.append_assoc] using SR.so h d
end
end Dz
namespace Dz
open PySem PySem.Spec PyProof.Rows L2

/-! ### judgements -/
abbrev Frag := PySem.W.Frag
structure Wf (K : Frag) (S : Sto) (L : List Addr) (X : AS) (σ : L2.St) (H : Hp) : Prop where
  sr : SR K (mask H fun b => b ∈ L ∨ X b) H S σ L
  nd : L.Nodup
  ap : ∀ a ∈ L, ¬ X a
  xl : AllLst H X
theorem AllLst.same {H H' : Hp} {A : AS} (s : Same H H') (h : AllLst H A) : AllLst H' A := fun a ha => let ⟨vs, e⟩ := h a ha; ⟨vs, s _ _ e⟩
theorem Wf.lst {K : Frag} {S : Sto} {L : List Addr} {X : AS} {σ : L2.St} {H : Hp} (w : Wf K S L X σ H) : AllLst H (fun b => b ∈ L ∨ X b) := fun a ha => by
  rcases ha with ha | ha
  · exact w.sr.own a ha
  · exact w.xl a ha
theorem Wf.mono {K : Frag} {S : Sto} {L : List Addr} {X : AS} {σ : L2.St} {H H' : Hp} (w : Wf K S L X σ H) (s : Same H H') : Wf K S L X σ H' :=
  ⟨SR.mono (mask_mono s fun b _ q => q) (fun a ha => by obtain ⟨vs, e⟩ := w.sr.own a ha; rw [e, s _ _ e]) w.sr, w.nd, w.ap, w.xl.same s⟩

/-- an exception that the def lets out -/
def exP (mg : Str → Option Value) (W : WX) (σ : L2.St) (H : Hp) (c : Str) : Prop := ∀ C H', mg c = some (.ref C) → Same H H' → W (.ref C) none σ H'
def tE (K : Frag) (mg : Str → Option Value) (W : WX) (p : Bool) (f : Sto → Rs T) : TE := fun σ H Q => ∃ S L X, Wf K S L X σ H ∧
  ((∃ t, f S = .ok t ∧ ∀ v H' as, Same H H' → as.Nodup → (∀ a ∈ as, if p = true then a ∈ L else H a = none) → RT K (mask H' fun b => (b ∈ L ∨ X b) ∨ b ∈ as) H' t v as → Q v H') ∨
    ∃ c pl, f S = .ex c pl ∧ exP mg W σ H c)
def tT (K : Frag) (mg : Str → Option Value) (W : WX) (f : Sto → Rs Bool) : TT := fun σ H Q => ∃ S L X, Wf K S L X σ H ∧
  ((∃ k, f S = .ok k ∧ ∀ H', Same H H' → Q k H') ∨ ∃ c pl, f S = .ex c pl ∧ exP mg W σ H c)

/-- evaluated things in flight: p of each: it is a view of the store's -/
inductive Args (K : Frag) (M H : Hp) (L : List Addr) (H0 : Hp) : List Bool → List T → List V → List Addr → Prop
  | nil : Args K M H L H0 [] [] [] []
  | view {t : T} {v : V} {as : List Addr} {ps : List Bool} {ts : List T} {vs : List V} {bs : List Addr} : RT K M H t v as → as.Nodup → (∀ a ∈ as, a ∈ L) → Args K M H L H0 ps ts vs bs → Args K M H L H0 (true :: ps) (t :: ts) (v :: vs) bs
  | temp {t : T} {v : V} {as : List Addr} {ps : List Bool} {ts : List T} {vs : List V} {bs : List Addr} : RT K M H t v as → (∀ a ∈ as, H0 a = none) → Args K M H L H0 ps ts vs bs → Args K M H L H0 (false :: ps) (t :: ts) (v :: vs) (as ++ bs)
theorem Args.mono {K : Frag} {M M' H H' : Hp} {L : List Addr} {H0 : Hp} (m : Same M M') (s : Same H H') : ∀ {ps : List Bool} {ts : List T} {vs : List V} {bs : List Addr}, Args K M H L H0 ps ts vs bs → Args K M' H' L H0 ps ts vs bs
  | _, _, _, _, .nil => .nil
  | _, _, _, _, .view r n i h => .view (r.mono m fun a ha => by obtain ⟨vs, e⟩ := r.own a ha; rw [e, s _ _ e]) n i (Args.mono m s h)
  | _, _, _, _, .temp r f h => .temp (r.mono m fun a ha => by obtain ⟨vs, e⟩ := r.own a ha; rw [e, s _ _ e]) f (Args.mono m s h)
theorem Args.fresh {K : Frag} {M H : Hp} {L : List Addr} {H0 : Hp} : ∀ {ps : List Bool} {ts : List T} {vs : List V} {bs : List Addr}, Args K M H L H0 ps ts vs bs → ∀ a ∈ bs, H0 a = none
  | _, _, _, _, .nil, _, h => by cases h
  | _, _, _, _, .view _ _ _ h, a, ha => Args.fresh h a ha
  | _, _, _, _, .temp _ f h, a, ha => by
    rcases List.mem_append.mp ha with ha | ha
    · exact f a ha
    · exact Args.fresh h a ha
theorem Args.own {K : Frag} {M H : Hp} {L : List Addr} {H0 : Hp} : ∀ {ps : List Bool} {ts : List T} {vs : List V} {bs : List Addr}, Args K M H L H0 ps ts vs bs → ∀ a ∈ bs, ∃ vs, H a = some (.lst vs)
  | _, _, _, _, .nil, _, h => by cases h
  | _, _, _, _, .view _ _ _ h, a, ha => Args.own h a ha
  | _, _, _, _, .temp r f h, a, ha => by
    rcases List.mem_append.mp ha with ha | ha
    · exact r.own a ha
    · exact Args.own h a ha
theorem Args.length {K : Frag} {M H : Hp} {L : List Addr} {H0 : Hp} : ∀ {ps : List Bool} {ts : List T} {vs : List V} {bs : List Addr}, Args K M H L H0 ps ts vs bs → ts.length = ps.length ∧ vs.length = ps.length
  | _, _, _, _, .nil => ⟨rfl, rfl⟩
  | _, _, _, _, .view _ _ _ h => by simp [Args.length h]
  | _, _, _, _, .temp _ _ h => by simp [Args.length h]
/-- the situation behind the evaluation of some things, their own addresses bs -/
structure Sit (K : Frag) (L : List Addr) (X : AS) (H0 H : Hp) (bs : List Addr) : Prop where
  same : Same H0 H
  lst : AllLst H (fun b => b ∈ L ∨ X b)
  old : ∀ b, (b ∈ L ∨ X b) → H0 b ≠ none
  nd : bs.Nodup
  lnd : L.Nodup
noncomputable abbrev msk (H : Hp) (L : List Addr) (X : AS) (bs : List Addr) : Hp := mask H fun b => (b ∈ L ∨ X b) ∨ b ∈ bs
/-- what is wanted of a result -/
def PostQ (K : Frag) (L : List Addr) (X : AS) (H0 H : Hp) (t : T) (Q : VK) : Prop :=
  ∀ v H' as, Same H H' → as.Nodup → (∀ a ∈ as, H0 a = none) → RT K (msk H' L X as) H' t v as → Q v H'
def tA (K : Frag) (mg : Str → Option Value) (W : WX) (ps : List Bool) (f : Sto → Rs (List T)) : TA := fun σ H Q => ∃ S L X, Wf K S L X σ H ∧
  ((∃ ts, f S = .ok ts ∧ ∀ vs H' bs, Sit K L X H H' bs → Args K (msk H' L X bs) H' L H ps ts vs bs → Q vs H') ∨ ∃ c pl, f S = .ex c pl ∧ exP mg W σ H c)

section
variable {K : Frag} {mg : Str → Option Value} {W : WX} {X : Cx}
theorem PE.weak {e : Expr} {t t' : TE} (h : PE X e t) (w : ∀ σ H Q, t' σ H Q → t σ H Q) : PE X e t' := ⟨fun pins s σ H Q I q => h.run pins s σ H Q I (w σ H Q q)⟩
theorem PT.weak {e : Expr} {t t' : TT} (h : PT X e t) (w : ∀ σ H Q, t' σ H Q → t σ H Q) : PT X e t' := ⟨fun pins s σ H Q I q => h.run pins s σ H Q I (w σ H Q q)⟩
theorem PW.weak {e : Expr} {t t' : TT} (h : PW X e t) (w : ∀ σ H Q, t' σ H Q → t σ H Q) : PW X e t' := ⟨fun wh pins s σ H Q I q => h.run wh pins s σ H Q I (w σ H Q q)⟩
theorem PA.weak {es : List Expr} {t t' : TA} (h : PA X es t) (w : ∀ σ H Q, t' σ H Q → t σ H Q) : PA X es t' := ⟨fun pos pins s σ H Q I q => h.run pos pins s σ H Q I (w σ H Q q)⟩
theorem PS.weak {e : Stmt} {t t' : TS} (h : PS X e t) (w : ∀ D σ H, t' D σ H → t D σ H) : PS X e t' := ⟨fun pins s σ H D I q => h.run pins s σ H D I (w D σ H q)⟩
theorem PSs.weak {e : List Stmt} {t t' : TS} (h : PSs X e t) (w : ∀ D σ H, t' D σ H → t D σ H) : PSs X e t' := ⟨fun pins s σ H D I q => h.run pins s σ H D I (w D σ H q)⟩

theorem Wf.old {S : Sto} {L : List Addr} {Y : AS} {σ : L2.St} {H : Hp} (w : Wf K S L Y σ H) : ∀ b, (b ∈ L ∨ Y b) → H b ≠ none := fun b hb z => by
  obtain ⟨vs, e⟩ := w.lst b hb; rw [z] at e; cases e

theorem exP.mono {σ : L2.St} {H H' : Hp} {c : Str} (s : Same H H') (h : exP mg W σ H c) : exP mg W σ H' c := fun C H2 m s2 => h C H2 m (s.trans s2)

/-- no expression: nothing -/
theorem tA_nil {σ : L2.St} {H : Hp} {Q : List V → Hp → Prop} (h : tA K mg W [] (fun S => .ok []) σ H Q) : Q [] H := by
  obtain ⟨S, L, Y, w, (⟨ts, e, q⟩ | ⟨c, pl, e, _⟩)⟩ := h
  · cases e
    exact q [] H [] ⟨Same.refl H, w.lst, w.old, List.nodup_nil, w.nd⟩ .nil
  · cases e
/-- one expression and the rest, for any continuation that takes the things one by one -/
theorem tA_cons {p : Bool} {ps : List Bool} {f : Sto → Rs T} {g : Sto → Rs (List T)} {σ : L2.St} {H : Hp} {Q : List V → Hp → Prop}
    (h : tA K mg W (p :: ps) (fun S => do let t ← f S; let ts ← g S; return t :: ts) σ H Q) :
    tE K mg W p f σ H fun x H1 => tA K mg W ps g σ H1 fun xs H2 => Q (x :: xs) H2 := by
  obtain ⟨S, L, Y, w, h⟩ := h
  refine ⟨S, L, Y, w, ?_⟩
  cases ef : f S with
  | st =>
    rcases h with ⟨ts, e, _⟩ | ⟨c, pl, e, _⟩ <;> simp [ef] at e
  | ex c pl =>
    rcases h with ⟨ts, e, _⟩ | ⟨c', pl', e, q⟩
    · simp [ef] at e
    · simp only [ef, Rs.bind_ex, Rs.ex.injEq] at e
      exact .inr ⟨c, pl, rfl, by rw [e.1]; exact q⟩
  | ok t =>
    refine .inl ⟨t, rfl, fun v H1 as s1 nd fr rt => ?_⟩
    -- the set of those in flight: X and, where it is a temp, its own
    cases p with
    | true =>
      simp only [if_true] at fr
      refine ⟨S, L, Y, w.mono s1, ?_⟩
      cases eg : g S with
      | st => rcases h with ⟨ts, e, _⟩ | ⟨c, pl, e, _⟩ <;> simp [ef, eg] at e
      | ex c pl =>
        rcases h with ⟨ts, e, _⟩ | ⟨c', pl', e, q⟩
        · simp [ef, eg] at e
        · simp only [ef, eg, Rs.bind_ok, Rs.bind_ex, Rs.ex.injEq] at e
          exact .inr ⟨c, pl, rfl, exP.mono s1 (by rw [e.1]; exact q)⟩
      | ok ts =>
        rcases h with ⟨ts', e, q⟩ | ⟨c, pl, e, _⟩
        · simp only [ef, eg, Rs.bind_ok, Rs.pure_eq, Rs.ok.injEq] at e
          refine .inl ⟨ts, rfl, fun vs H2 bs si ar => q _ _ bs ⟨s1.trans si.same, si.lst, fun b hb z => ?_, si.nd, si.lnd⟩ ?_⟩
          · exact w.old b hb z
          · rw [← e]
            refine .view (rt.mono (mask_mono si.same fun b hb qb => ?_) fun a ha => ?_) nd fr ?_
            · rcases qb with qb | qb
              · exact .inl qb
              · exact absurd (ar.fresh b qb) hb
            · obtain ⟨ws, e1⟩ := rt.own a ha; rw [e1, si.same _ _ e1]
            · have : ∀ {ps : List Bool} {ts : List T} {vs : List V} {bs' : List Addr} {M H2 : Hp}, Args K M H2 L H1 ps ts vs bs' → Args K M H2 L H ps ts vs bs' := by
                intro ps ts vs bs' M H2 ar
                induction ar with
                | nil => exact .nil
                | view a b c _ ih => exact .view a b c ih
                | temp a b _ ih => exact .temp a (fun z hz => Same.free s1 (b z hz)) ih
              exact this ar
        · simp [ef, eg] at e
    | false =>
      simp only [Bool.false_eq_true, if_false] at fr
      have w1 : Wf K S L (fun b => Y b ∨ b ∈ as) σ H1 := by
        refine ⟨SR.mono (mask_mono s1 fun b hb qb => ?_) (fun a ha => ?_) w.sr, w.nd, fun a ha z => ?_, fun a ha => ?_⟩
        · rcases qb with qb | qb | qb
          · exact .inl qb
          · exact .inr qb
          · exact absurd (fr b qb) hb
        · obtain ⟨vs, e⟩ := w.sr.own a ha; rw [e, s1 _ _ e]
        · rcases z with z | z
          · exact w.ap a ha z
          · exact w.old a (.inl ha) (fr a z)
        · rcases ha with ha | ha
          · exact (w.xl.same s1) a ha
          · exact rt.own a ha
      refine ⟨S, L, fun b => Y b ∨ b ∈ as, w1, ?_⟩
      cases eg : g S with
      | st => rcases h with ⟨ts, e, _⟩ | ⟨c, pl, e, _⟩ <;> simp [ef, eg] at e
      | ex c pl =>
        rcases h with ⟨ts, e, _⟩ | ⟨c', pl', e, q⟩
        · simp [ef, eg] at e
        · simp only [ef, eg, Rs.bind_ok, Rs.bind_ex, Rs.ex.injEq] at e
          exact .inr ⟨c, pl, rfl, exP.mono s1 (by rw [e.1]; exact q)⟩
      | ok ts =>
        rcases h with ⟨ts', e, q⟩ | ⟨c, pl, e, _⟩
        · simp only [ef, eg, Rs.bind_ok, Rs.pure_eq, Rs.ok.injEq] at e
          refine .inl ⟨ts, rfl, fun vs H2 bs si ar => q _ _ (as ++ bs) ⟨s1.trans si.same, ?_, w.old, ?_, w.nd⟩ ?_⟩
          · intro a ha
            refine si.lst a ?_
            rcases ha with ha | ha
            · exact .inl ha
            · exact .inr (.inl ha)
          · refine List.nodup_append.mpr ⟨nd, si.nd, fun a ha b hb z => ?_⟩
            subst z
            exact si.old a (.inr (.inr ha)) (ar.fresh a hb)
          · rw [← e]
            refine .temp (rt.mono (mask_mono si.same fun b hb qb => ?_) fun a ha => ?_) fr ?_
            · rcases qb with qb | qb
              · exact .inl qb
              · rcases List.mem_append.mp qb with qb | qb
                · exact .inr qb
                · exact absurd (ar.fresh b qb) hb
            · obtain ⟨ws, e1⟩ := rt.own a ha; rw [e1, si.same _ _ e1]
            · have mm : Same (mask H2 fun b => (b ∈ L ∨ Y b ∨ b ∈ as) ∨ b ∈ bs) (msk H2 L Y (as ++ bs)) := mask_mono (Same.refl _) fun b _ qb => by
                rcases qb with (qb | qb) | qb
                · exact .inl (.inl qb)
                · exact .inl (.inr (.inl qb))
                · rcases List.mem_append.mp qb with qb | qb
                  · exact .inl (.inr (.inr qb))
                  · exact .inr qb
              have : ∀ {ps : List Bool} {ts : List T} {vs : List V} {bs' : List Addr} {M H2 : Hp}, Args K M H2 L H1 ps ts vs bs' → Args K M H2 L H ps ts vs bs' := by
                intro ps ts vs bs' M H2 ar
                induction ar with
                | nil => exact .nil
                | view a b c _ ih => exact .view a b c ih
                | temp a b _ ih => exact .temp a (fun z hz => Same.free s1 (b z hz)) ih
              exact this (ar.mono mm (Same.refl _))
        · simp [ef, eg] at e
end
end Dz
namespace Dz
open PySem PySem.Spec PyProof.Rows L2

section
variable {K : Frag} {mg : Str → Option Value} {W : WX} {L : List Addr} {Y : AS} {H0 H : Hp} {bs : List Addr} {Q : VK}

theorem upd_ext {H : Hp} {p : Addr} {o : HO} (n : H p = none) : Same H (upd H p o) := fun b x e => by
  rw [upd_ne (ne_of_none e n)]; exact e
theorem Sit.notOld (si : Sit K L Y H0 H bs) {p : Addr} (n : H p = none) : ¬ (p ∈ L ∨ Y p) := fun z => by
  obtain ⟨vs, e⟩ := si.lst p z; rw [n] at e; cases e

def PostP (K : Frag) (L : List Addr) (X : AS) (H0 H : Hp) (p : Bool) (t : T) (Q : VK) : Prop :=
  ∀ v H' as, Same H H' → as.Nodup → (∀ a ∈ as, if p = true then a ∈ L else H0 a = none) → RT K (msk H' L X as) H' t v as → Q v H'
theorem PostP.q {t : T} (q : PostP K L Y H0 H false t Q) : PostQ K L Y H0 H t Q := fun v H' as s nd fr rt => q v H' as s nd (by simpa using fr) rt
/-- from the things in flight on -/
theorem tE_argsP {p : Bool} {ps : List Bool} {fl : Sto → Rs (List T)} {g : List T → Rs T} {R : List V → Hp → Prop} {σ : L2.St}
    (hr : ∀ S L Y H2 ts vs bs t, Wf K S L Y σ H → fl S = .ok ts → g ts = .ok t → Sit K L Y H H2 bs → Args K (msk H2 L Y bs) H2 L H ps ts vs bs → PostP K L Y H H2 p t Q → R vs H2)
    (hx : ∀ S ts c pl, fl S = .ok ts → g ts = .ex c pl → exP mg W σ H c → ∀ vs H2, Same H H2 → R vs H2)
    (h : tE K mg W p (fun S => do let ts ← fl S; g ts) σ H Q) : tA K mg W ps fl σ H R := by
  obtain ⟨S, L, Y, w, h⟩ := h
  refine ⟨S, L, Y, w, ?_⟩
  cases ef : fl S with
  | st => rcases h with ⟨t, e, _⟩ | ⟨c, pl, e, _⟩ <;> simp [ef] at e
  | ex c pl =>
    rcases h with ⟨t, e, _⟩ | ⟨c', pl', e, q⟩
    · simp [ef] at e
    · simp only [ef, Rs.bind_ex, Rs.ex.injEq] at e
      exact .inr ⟨c, pl, rfl, by rw [e.1]; exact q⟩
  | ok ts =>
    refine .inl ⟨ts, rfl, fun vs H2 bs si ar => ?_⟩
    rcases h with ⟨t, e, q⟩ | ⟨c, pl, e, q⟩
    · simp only [ef, Rs.bind_ok] at e
      exact hr S L Y H2 ts vs bs t w ef e si ar fun v H' as s nd fr rt => q v H' as (si.same.trans s) nd fr rt
    · simp only [ef, Rs.bind_ok] at e
      exact hx S ts c pl ef e q vs H2 si.same
theorem tE_args {ps : List Bool} {fl : Sto → Rs (List T)} {g : List T → Rs T} {R : List V → Hp → Prop} {σ : L2.St}
    (hr : ∀ S L Y H2 ts vs bs t, Wf K S L Y σ H → fl S = .ok ts → g ts = .ok t → Sit K L Y H H2 bs → Args K (msk H2 L Y bs) H2 L H ps ts vs bs → PostQ K L Y H H2 t Q → R vs H2)
    (hx : ∀ S ts c pl, fl S = .ok ts → g ts = .ex c pl → exP mg W σ H c → ∀ vs H2, Same H H2 → R vs H2)
    (h : tE K mg W false (fun S => do let ts ← fl S; g ts) σ H Q) : tA K mg W ps fl σ H R :=
  tE_argsP (fun S L Y H2 ts vs bs t a b c d e q => hr S L Y H2 ts vs bs t a b c d e q.q) hx h
/-- two things -/
theorem two_eq (fa fb : Sto → Rs T) (g : T → T → Rs T) (S : Sto) : (do let x ← fa S; let y ← fb S; g x y) =
    (do let ts ← (do let x ← fa S; let ts ← (do let y ← fb S; let ts ← (Rs.ok [] : Rs (List T)); return y :: ts); return x :: ts); match ts with | [x, y] => g x y | _ => Rs.st) := by
  cases fa S with
  | st => rfl
  | ex c p => rfl
  | ok x => cases fb S with
    | st => rfl
    | ex c p => rfl
    | ok y => rfl
theorem one_eq (fa : Sto → Rs T) (g : T → Rs T) (S : Sto) : (do let x ← fa S; g x) =
    (do let ts ← (do let x ← fa S; let ts ← (Rs.ok [] : Rs (List T)); return x :: ts); match ts with | [x] => g x | _ => Rs.st) := by
  cases fa S with
  | st => rfl
  | ex c p => rfl
  | ok x => rfl
def NoEx {α : Type} (r : Rs α) : Prop := ∀ c p, r ≠ .ex c p
theorem tE_twoP {p pa pb : Bool} {fa fb : Sto → Rs T} {g : T → T → Rs T} {r : R2} {σ : L2.St} (hn : ∀ x y, NoEx (g x y))
    (hr : ∀ L Y H0 H2 x y vx vy bs t Q, g x y = .ok t → Sit K L Y H0 H2 bs → Args K (msk H2 L Y bs) H2 L H0 [pa, pb] [x, y] [vx, vy] bs → PostP K L Y H0 H2 p t Q → r vx vy H2 Q)
    (h : tE K mg W p (fun S => do let x ← fa S; let y ← fb S; g x y) σ H Q) : tOp r (tE K mg W pa fa) (tE K mg W pb fb) σ H Q := by
  have h1 : tA K mg W [pa, pb] (fun S => do let x ← fa S; let ts ← (do let y ← fb S; let ts ← (Rs.ok [] : Rs (List T)); return y :: ts); return x :: ts) σ H (fun vs H2 => ∀ vx vy, vs = [vx, vy] → r vx vy H2 Q) := by
    refine tE_argsP (Q := Q) (p := p) (g := fun ts => match ts with | [x, y] => g x y | _ => Rs.st) (fun S L Y H2 ts vs bs t w e1 e2 si ar q vx vy ev => ?_) (fun S ts c pl _ e _ => ?_) ?_
    · subst ev
      have hl := ar.length
      obtain ⟨x, y, rfl⟩ : ∃ x y, ts = [x, y] := by
        match ts, hl with
        | [x, y], _ => exact ⟨x, y, rfl⟩
      exact hr L Y H H2 x y vx vy bs t Q e2 si ar q
    · match ts, e with
      | [x, y], e => exact absurd e (hn x y c pl)
    · obtain ⟨S, L, Y, w, h⟩ := h
      refine ⟨S, L, Y, w, ?_⟩
      have e := two_eq fa fb g S
      rcases h with ⟨t, q1, q2⟩ | ⟨c, pl, q1, q2⟩
      · exact .inl ⟨t, e.symm.trans q1, q2⟩
      · exact .inr ⟨c, pl, e.symm.trans q1, q2⟩
  have h2 := tA_cons h1
  obtain ⟨S, L, Y, w, h2⟩ := h2
  refine ⟨S, L, Y, w, ?_⟩
  rcases h2 with ⟨t, e, q⟩ | z
  · refine .inl ⟨t, e, fun v H' as s nd fr rt => ?_⟩
    have h3 := tA_cons (q v H' as s nd fr rt)
    obtain ⟨S, L, Y, w, h3⟩ := h3
    refine ⟨S, L, Y, w, ?_⟩
    rcases h3 with ⟨t, e, q⟩ | z
    · exact .inl ⟨t, e, fun v2 H2 as s nd fr rt => tA_nil (q v2 H2 as s nd fr rt) v v2 rfl⟩
    · exact .inr z
  · exact .inr z
theorem tE_two {pa pb : Bool} {fa fb : Sto → Rs T} {g : T → T → Rs T} {r : R2} {σ : L2.St} (hn : ∀ x y, NoEx (g x y))
    (hr : ∀ L Y H0 H2 x y vx vy bs t Q, g x y = .ok t → Sit K L Y H0 H2 bs → Args K (msk H2 L Y bs) H2 L H0 [pa, pb] [x, y] [vx, vy] bs → PostQ K L Y H0 H2 t Q → r vx vy H2 Q)
    (h : tE K mg W false (fun S => do let x ← fa S; let y ← fb S; g x y) σ H Q) : tOp r (tE K mg W pa fa) (tE K mg W pb fb) σ H Q :=
  tE_twoP hn (fun L Y H0 H2 x y vx vy bs t Q a b c q => hr L Y H0 H2 x y vx vy bs t Q a b c q.q) h
theorem tE_one {pa : Bool} {fa : Sto → Rs T} {g : T → Rs T} {r : V → Hp → VK → Prop} {σ : L2.St} (hn : ∀ x, NoEx (g x))
    (hr : ∀ L Y H0 H2 x vx bs t Q, g x = .ok t → Sit K L Y H0 H2 bs → Args K (msk H2 L Y bs) H2 L H0 [pa] [x] [vx] bs → PostQ K L Y H0 H2 t Q → r vx H2 Q)
    (h : tE K mg W false (fun S => do let x ← fa S; g x) σ H Q) : tE K mg W pa fa σ H fun vx H2 => r vx H2 Q := by
  have h1 : tA K mg W [pa] (fun S => do let x ← fa S; let ts ← (Rs.ok [] : Rs (List T)); return x :: ts) σ H (fun vs H2 => ∀ vx, vs = [vx] → r vx H2 Q) := by
    refine tE_args (Q := Q) (g := fun ts => match ts with | [x] => g x | _ => Rs.st) (fun S L Y H2 ts vs bs t w e1 e2 si ar q vx ev => ?_) (fun S ts c pl _ e _ => ?_) ?_
    · subst ev
      have hl := ar.length
      obtain ⟨x, rfl⟩ : ∃ x, ts = [x] := by
        match ts, hl with
        | [x], _ => exact ⟨x, rfl⟩
      exact hr L Y H H2 x vx bs t Q e2 si ar q
    · match ts, e with
      | [x], e => exact absurd e (hn x c pl)
    · obtain ⟨S, L, Y, w, h⟩ := h
      refine ⟨S, L, Y, w, ?_⟩
      have e := one_eq fa g S
      rcases h with ⟨t, q1, q2⟩ | ⟨c, pl, q1, q2⟩
      · exact .inl ⟨t, e.symm.trans q1, q2⟩
      · exact .inr ⟨c, pl, e.symm.trans q1, q2⟩
  have h2 := tA_cons h1
  obtain ⟨S, L, Y, w, h2⟩ := h2
  refine ⟨S, L, Y, w, ?_⟩
  rcases h2 with ⟨t, e, q⟩ | z
  · exact .inl ⟨t, e, fun v H' as s nd fr rt => tA_nil (q v H' as s nd fr rt) v rfl⟩
  · exact .inr z

/-! ### results -/
theorem PostQ.flat {d : PyData} {v : V} (q : PostQ K L Y H0 H (.fz d) Q) (h : ∀ M, Dp K M v d) (o : okD d = true) : Q v H :=
  q v H [] (Same.refl H) List.nodup_nil (fun _ z => by cases z) (.fz (h _) o)
theorem PostQ.bool {b : Bool} (q : PostQ K L Y H0 H (.fz (.bool b)) Q) : Q (.bl b) H := q.flat (fun _ => .bl b) rfl
theorem PostQ.int {i : Int} (q : PostQ K L Y H0 H (.fz (.int i)) Q) : Q (.int i) H := q.flat (fun _ => .int i) rfl
theorem PostQ.str {x : Str} (q : PostQ K L Y H0 H (.fz (.str x)) Q) (o : okS x = true) : Q (.str x) H := q.flat (fun _ => .str x) (by simpa [okD] using o)
theorem PostQ.non (q : PostQ K L Y H0 H (.fz .none) Q) : Q .non H := q.flat (fun _ => .non) rfl
theorem Sit.msk_none (si : Sit K L Y H0 H bs) : Same (msk H L Y bs) (msk H L Y []) := mask_mono (Same.refl H) fun b _ q => by
  rcases q with q | q
  · exact .inl q
  · cases q
/-- a frozen thing that is there -/
theorem PostQ.data {d : PyData} {v : V} (q : PostQ K L Y H0 H (.fz d) Q) (si : Sit K L Y H0 H bs) (h : Dp K (msk H L Y bs) v d) (o : okD d = true) : Q v H :=
  q v H [] (Same.refl H) List.nodup_nil (fun _ z => by cases z) (.fz (Dp.mono si.msk_none h) o)
theorem PostQ.there {t : T} {v : V} {as : List Addr} (q : PostQ K L Y H0 H t Q) (si : Sit K L Y H0 H bs) (fr : ∀ a ∈ bs, H0 a = none) (h : RT K (msk H L Y bs) H t v as) (sub : as.Sublist bs) : Q v H :=
  q v H as (Same.refl H) (si.nd.sublist sub) (fun a ha => fr a (sub.subset ha)) (h.mono (mask_mono (Same.refl H) fun b _ z => by
    rcases z with z | z
    · exact .inl z
    · exact .inr (sub.subset z)) fun _ _ => rfl)
theorem RTs.upd {M : Hp} {ts : List T} {vs : List V} {as : List Addr} {p : Addr} {o : HO} (h : RTs K M H ts vs as) (n : H p = none) (m : Same M M') : RTs K M' (upd H p o) ts vs as :=
  h.mono m fun a ha => by
    obtain ⟨ws, e⟩ := h.own a ha
    rw [upd_ne (ne_of_none e n)]
/-- a new list -/
theorem PostQ.lst {ts : List T} {vs : List V} {as : List Addr} (q : PostQ K L Y H0 H (.ow ts) Q) (si : Sit K L Y H0 H bs) (fr : ∀ a ∈ bs, H0 a = none) (h : RTs K (msk H L Y bs) H ts vs as) (sub : as.Sublist bs)
    {p : Addr} (n : H p = none) (hz : ts.length ≤ 16777216) : Q (.ref p) (upd H p (.lst vs)) := by
  have hp : p ∉ as := fun z => by obtain ⟨ws, e⟩ := h.own p z; rw [n] at e; cases e
  refine q (.ref p) _ (p :: as) (upd_ext n) (List.nodup_cons.mpr ⟨hp, si.nd.sublist sub⟩) (fun a ha => ?_) (.ow upd_same hz (h.upd n (mask_mono (upd_ext n) fun b hb z => ?_)))
  · rcases List.mem_cons.mp ha with rfl | ha
    · exact Same.free si.same n
    · exact fr a (sub.subset ha)
  · rcases z with z | z
    · exact .inl z
    · rcases List.mem_cons.mp z with rfl | z
      · exact absurd n hb
      · exact .inr (sub.subset z)
theorem fzL_some : ∀ {ts : List T} {ds : List PyData}, fzL ts = some ds → ts = ds.map .fz
  | [], ds, h => by simp only [fzL, Option.some.injEq] at h; subst h; rfl
  | .fz d :: ts, ds, h => by
    simp only [fzL, Option.map_eq_some_iff] at h
    obtain ⟨r, h1, h2⟩ := h
    subst h2
    rw [fzL_some h1]; rfl
  | .ow _ :: _, _, h => by simp [fzL] at h
  | .tp _ :: _, _, h => by simp [fzL] at h
  | .od _ _ :: _, _, h => by simp [fzL] at h
  | .fd _ _ :: _, _, h => by simp [fzL] at h
  | .ex _ _ :: _, _, h => by simp [fzL] at h
/-- a new tuple -/
theorem PostQ.tup {ts : List T} {vs : List V} {as : List Addr} (q : PostQ K L Y H0 H (mkTup ts) Q) (si : Sit K L Y H0 H bs) (fr : ∀ a ∈ bs, H0 a = none) (h : RTs K (msk H L Y bs) H ts vs as) (sub : as.Sublist bs)
    {p : Addr} (n : H p = none) (hz : ts.length ≤ 16777216) : Q (.ref p) (upd H p (.tup vs)) := by
  have np : ¬ (p ∈ L ∨ Y p) := si.notOld n
  have hp : p ∉ as := fun z => by obtain ⟨ws, e⟩ := h.own p z; rw [n] at e; cases e
  unfold mkTup at q
  cases e : fzL ts with
  | some ds =>
    rw [e] at q
    have := fzL_some e
    subst this
    obtain ⟨h1, h2, h3⟩ := h.toDp
    refine q (.ref p) _ [] (upd_ext n) List.nodup_nil (fun _ z => by cases z) (.fz (.tup (.of (mask_of upd_same fun z => ?_)) (DpAll.mono (mask_mono (upd_ext n) fun b hb z => ?_) h1)) (okD_tuple.mpr ⟨by simpa using hz, h2⟩))
    · rcases z with z | z
      · exact np z
      · cases z
    · rcases z with z | z
      · exact .inl z
      · cases z
  | none =>
    rw [e] at q
    refine q (.ref p) _ as (upd_ext n) (si.nd.sublist sub) (fun a ha => fr a (sub.subset ha)) (.tp (.of (mask_of upd_same fun z => ?_)) hz (h.upd n (mask_mono (upd_ext n) fun b hb z => ?_)))
    · rcases z with z | z
      · exact np z
      · exact hp z
    · rcases z with z | z
      · exact .inl z
      · exact .inr (sub.subset z)
theorem Args.all {M : Hp} : ∀ {ps : List Bool} {ts : List T} {vs : List V} {bs : List Addr}, Args K M H L H0 ps ts vs bs → (∀ p ∈ ps, p = false) → RTs K M H ts vs bs
  | _, _, _, _, .nil, _ => .nil
  | _, _, _, _, .view _ _ _ _, h => by have := h true (by simp); cases this
  | _, _, _, _, .temp r _ a, h => .cons r (Args.all a fun p hp => h p (by simp [hp]))
/-- the one thing -/
theorem Args.one {M : Hp} {p : Bool} {t : T} {v : V} (a : Args K M H L H0 [p] [t] [v] bs) : ∃ as, RT K M H t v as ∧ (p = false → as = bs) := by
  cases a with
  | view r n i a => exact ⟨_, r, fun z => by cases z⟩
  | temp r f a => cases a; exact ⟨_, r, fun _ => by simp⟩
theorem Args.two {M : Hp} {p p' : Bool} {t t' : T} {v v' : V} (a : Args K M H L H0 [p, p'] [t, t'] [v, v'] bs) : ∃ as as', RT K M H t v as ∧ RT K M H t' v' as' ∧ (if p then [] else as) ++ (if p' then [] else as') = bs := by
  cases a with
  | view r n i a =>
    cases a with
    | view r2 n i a => cases a; exact ⟨_, _, r, r2, rfl⟩
    | temp r2 f a => cases a; exact ⟨_, _, r, r2, by simp⟩
  | temp r f a =>
    cases a with
    | view r2 n i a => cases a; exact ⟨_, _, r, r2, by simp⟩
    | temp r2 f a => cases a; exact ⟨_, _, r, r2, by simp⟩
theorem Args.first {M : Hp} {p : Bool} {ps : List Bool} {t : T} {ts : List T} {v : V} {vs : List V} (a : Args K M H L H0 (p :: ps) (t :: ts) (v :: vs) bs) (nd : bs.Nodup) :
    ∃ as, RT K M H t v as ∧ as.Nodup ∧ (∀ a ∈ as, if p = true then a ∈ L else H0 a = none) ∧ (∀ a ∈ as, a ∈ L ∨ a ∈ bs) ∧ (p = false → as.Sublist bs) := by
  cases a with
  | view r n i a => exact ⟨_, r, n, by simpa using i, fun a ha => .inl (i a ha), fun z => by cases z⟩
  | temp r f a => exact ⟨_, r, (List.nodup_append.mp nd).1, by simpa using f, fun a ha => .inr (by simp [ha]), fun _ => List.sublist_append_left _ _⟩
theorem PostP.flat {p : Bool} {d : PyData} {v : V} (q : PostP K L Y H0 H p (.fz d) Q) (h : ∀ M, Dp K M v d) (o : okD d = true) : Q v H :=
  q v H [] (Same.refl H) List.nodup_nil (fun _ z => by cases z) (.fz (h _) o)
theorem PostP.there {p : Bool} {t : T} {v : V} {as : List Addr} (q : PostP K L Y H0 H p t Q) (nd : as.Nodup) (fr : ∀ a ∈ as, if p = true then a ∈ L else H0 a = none) (h : RT K (msk H L Y bs) H t v as) (sub : ∀ a ∈ as, a ∈ L ∨ a ∈ bs) : Q v H :=
  q v H as (Same.refl H) nd fr (h.mono (mask_mono (Same.refl H) fun b _ z => by
    rcases z with z | z
    · exact .inl z
    · rcases sub b z with z | z
      · exact .inl (.inl z)
      · exact .inr z) fun _ _ => rfl)
theorem Sit.msk_H (si : Sit K L Y H0 H bs) : Same (msk H L Y bs) H := mask_same
end
end Dz
namespace Dz
open PySem PySem.Spec PyProof.Rows L2

/-! ### strings that may be -/
theorem okS_iff {x : Str} : okS x = true ↔ (∀ c ∈ x.cps.toList, c < 0x110000) ∧ x.length ≤ 16777216 := by
  unfold okS PyData.strOk
  rw [Bool.and_eq_true, decide_eq_true_iff]
  constructor
  · rintro ⟨h1, h2⟩
    refine ⟨fun c hc => ?_, h2⟩
    rw [← Array.all_toList, List.all_eq_true] at h1
    simpa using h1 c hc
  · rintro ⟨h1, h2⟩
    refine ⟨?_, h2⟩
    rw [← Array.all_toList, List.all_eq_true]
    intro c hc
    simpa using h1 c hc
theorem okS_len {x : Str} (h : okS x = true) : x.length ≤ sizeLine := by rw [sizeLine_eq]; exact (okS_iff.mp h).2
theorem tl_app (a b : Str) : (a ++ b).cps.toList = a.cps.toList ++ b.cps.toList := TL.tl_append a b
theorem len_app (a b : Str) : (a ++ b).length = a.length + b.length := by
  rw [TL.len_tl, TL.len_tl, TL.len_tl, TL.tl_append, List.length_append]
theorem okS_app {a b : Str} (ha : okS a = true) (hb : okS b = true) (h : a.length + b.length ≤ 16777216) : okS (a ++ b) = true := by
  rw [okS_iff] at *
  refine ⟨fun c hc => ?_, by rw [len_app]; exact h⟩
  rw [tl_app] at hc
  rcases List.mem_append.mp hc with z | z
  · exact ha.1 c z
  · exact hb.1 c z
theorem okS_sub {a b : Str} (ha : okS a = true) (h : ∀ c ∈ b.cps.toList, c ∈ a.cps.toList) (hl : b.length ≤ a.length) : okS b = true := by
  rw [okS_iff] at *
  exact ⟨fun c hc => ha.1 c (h c hc), Nat.le_trans hl ha.2⟩
theorem okS_one {a : Str} (ha : okS a = true) {c : Nat} (h : c ∈ a.cps.toList) : okS ⟨#[c]⟩ = true := by
  rw [okS_iff] at *
  refine ⟨fun d hd => ?_, by show 1 ≤ 16777216; decide⟩
  have : d = c := by simpa using hd
  rw [this]; exact ha.1 c h
theorem okS_cut {z : Str} (h : okS z = true) (lo hi : Option Int) : okS (cutS z lo hi) = true := by
  refine okS_sub h (fun c hc => ?_) (cutS_length z lo hi)
  have e : (cutS z lo hi).cps.toList = (z.cps.toList.drop (HT.sIx z.cps.toList.length 0 lo)).take (HT.sIx z.cps.toList.length z.cps.toList.length hi - HT.sIx z.cps.toList.length 0 lo) := by
    unfold cutS
    rfl
  rw [e] at hc
  exact List.mem_of_mem_drop (List.mem_of_mem_take hc)

theorem okS_nil : okS Str.empty = true := by
  rw [okS_iff]
  exact ⟨fun c hc => (by cases hc), Nat.zero_le _⟩
theorem okS_join {y : Str} (hy : okS y = true) : ∀ {xs : List Str}, (∀ x ∈ xs, okS x = true) → (xs.map (·.length)).sum + xs.length * y.length ≤ 16777216 → okS (Str.join y xs) = true ∧ (Str.join y xs).length ≤ (xs.map (·.length)).sum + xs.length * y.length
  | [], _, _ => ⟨okS_nil, Nat.zero_le _⟩
  | [x], h, hl => ⟨h x (by simp), by simp [Str.join]⟩
  | x :: z :: r, h, hl => by
    have ih := okS_join (xs := z :: r) hy (fun a ha => h a (by simp [ha]))
    simp only [List.map_cons, List.sum_cons, List.length_cons, Nat.add_mul, Nat.one_mul] at hl ih ⊢
    obtain ⟨i1, i2⟩ := ih (by omega)
    have e : Str.join y (x :: z :: r) = x ++ y ++ Str.join y (z :: r) := rfl
    have l2 : (x ++ y).length = x.length + y.length := len_app x y
    have hxy : okS (x ++ y) = true := okS_app (h x (by simp)) hy (by omega)
    have l3 : (x ++ y ++ Str.join y (z :: r)).length = (x ++ y).length + (Str.join y (z :: r)).length := len_app _ _
    rw [e]
    exact ⟨okS_app hxy i1 (by omega), by omega⟩

section
variable {K : Frag} {mg : Str → Option Value} {W : WX} {L : List Addr} {Y : AS} {H0 H : Hp} {bs : List Addr} {Q : VK} {M : Hp}
theorem RT.strV {x : Str} {v : V} {as : List Addr} (h : RT K M H (.fz (.str x)) v as) : v = .str x ∧ okS x = true := by
  cases h with
  | fz h o => cases h; exact ⟨rfl, by simpa [okD] using o⟩
theorem RT.intV {i : Int} {v : V} {as : List Addr} (h : RT K M H (.fz (.int i)) v as) : v = .int i := by
  cases h with
  | fz h o => cases h; rfl
theorem RT.blV {i : Bool} {v : V} {as : List Addr} (h : RT K M H (.fz (.bool i)) v as) : v = .bl i := by
  cases h with
  | fz h o => cases h; rfl
theorem RT.nonV {v : V} {as : List Addr} (h : RT K M H (.fz .none) v as) : v = .non := by
  cases h with
  | fz h o => cases h; rfl
/-- a list: where it stands, its items -/
theorem RT.lstV {t : T} {ts : List T} {v : V} {as : List Addr} (m : Same M H) (h : RT K M H t v as) (e : lstT t = some ts) : ∃ a vs bs, v = .ref a ∧ SqL K H a vs ∧ RTs K M H ts vs bs ∧ (bs = as ∨ as = a :: bs) ∧ (∀ p, itemsOk p t = true → p = true → bs = []) ∧ ts.length ≤ 16777216 := by
  cases h with
  | fz h o =>
    rename_i d
    cases d with
    | list ds =>
      simp only [lstT, Option.some.injEq] at e; subst e
      have o := okD_list.mp o
      cases h with
      | lst h hs => exact ⟨_, _, [], rfl, m.seq h, RTs.ofDp hs o.2, .inl rfl, fun _ _ _ => rfl, by simpa using o.1⟩
    | _ => simp [lstT] at e
  | ow h z hs =>
    simp only [lstT, Option.some.injEq] at e; subst e
    refine ⟨_, _, _, rfl, .of h, hs, .inr rfl, fun p h2 hp => ?_, z⟩
    subst hp
    simp only [itemsOk, Bool.not_true, Bool.false_or] at h2
    exact hs.allFz h2
  | tp h z hs => simp [lstT] at e
theorem RT.sqV {t : T} {ts : List T} {v : V} {as : List Addr} (m : Same M H) (h : RT K M H t v as) (e : sqT t = some ts) : ∃ a vs bs, v = .ref a ∧ (SqL K H a vs ∨ SqT K H a vs) ∧ RTs K M H ts vs bs ∧ bs.Sublist as ∧ (∀ p, itemsOk p t = true → p = true → bs = []) ∧ ts.length ≤ 16777216 := by
  cases h with
  | fz h o =>
    rename_i d
    cases d with
    | list ds =>
      simp only [sqT, Option.some.injEq] at e; subst e
      have o := okD_list.mp o
      cases h with
      | lst h hs => exact ⟨_, _, [], rfl, .inl (m.seq h), RTs.ofDp hs o.2, List.Sublist.refl _, fun _ _ _ => rfl, by simpa using o.1⟩
    | tuple ds =>
      simp only [sqT, Option.some.injEq] at e; subst e
      have o := okD_tuple.mp o
      cases h with
      | tup h hs => exact ⟨_, _, [], rfl, .inr (SqT.mono m h), RTs.ofDp hs o.2, List.Sublist.refl _, fun _ _ _ => rfl, by simpa using o.1⟩
    | _ => simp [sqT] at e
  | ow h z hs =>
    simp only [sqT, Option.some.injEq] at e; subst e
    refine ⟨_, _, _, rfl, .inl (.of h), hs, List.sublist_cons_self _ _, fun p h2 hp => ?_, z⟩
    subst hp
    simp only [itemsOk, Bool.not_true, Bool.false_or] at h2
    exact hs.allFz h2
  | tp h z hs =>
    simp only [sqT, Option.some.injEq] at e; subst e
    refine ⟨_, _, _, rfl, .inr (SqT.mono m h), hs, List.Sublist.refl _, fun p h2 hp => ?_, z⟩
    subst hp
    simp only [itemsOk, Bool.not_true, Bool.false_or] at h2
    exact hs.allFz h2
/-- data: as data of the whole heap -/
theorem RT.datV {t : T} {d : PyData} {v : V} {as : List Addr} (m : Same M H) (h : RT K M H t v as) (e : t.dat = some d) : Dp K H v d ∧ okD d = true := RT.dp m h e
end

/-! ### operators on two -/
section
variable {X : Cx}
/-- list + list, any that are read -/
theorem op_catS : OpR X (binaryOp .Add) (fun x y H Q => ∃ l b xs zs, x = .ref l ∧ y = .ref b ∧ SqL X.K H l xs ∧ SqL X.K H b zs ∧ xs.length + zs.length ≤ sizeLine ∧ ∀ p, H p = none → Q (.ref p) (upd H p (.lst (xs ++ zs)))) := by
  intro pins s σ H x y v u Q I rx ry h
  obtain ⟨l, b, xs, zs, rfl, rfl, hH, hB, hz, q⟩ := h
  cases rx
  cases ry
  obtain ⟨its, r, p1, _⟩ := I.list hH
  obtain ⟨its2, r2, p2, _⟩ := I.list hB
  obtain ⟨⟨cls, dd, data, sl⟩, ho, hc, n, hd⟩ := p1.isList
  obtain ⟨⟨cls2, dd2, data2, sl2⟩, ho2, hc2, n2, hd2⟩ := p2.isList
  simp only at hc hd hc2 hd2
  subst hc hd hc2 hd2
  have e : its.toArray ++ its2.toArray = (its ++ its2).toArray := by simp
  have hsz : its.length + its2.length ≤ sizeLine := by rw [← r.length, ← r2.length]; exact hz
  refine concat_meets ⟨_, ho, rfl⟩ ⟨_, ho2, rfl⟩ noFill_list_add seq_list_add PySem.F.slot_list_add PySem.F.entry_list_add (PySem.F.args_list_add_2 _ _) (list_addW l b its.toArray its2.toArray n n2 dd dd2 sl sl2 (by simpa using hsz)) ⟨ho, ho2, ?_⟩
  rw [e]
  exact ⟨.ref _, _, I.lnew (t' := s.toks) (r.append r2) (by rw [List.length_append]; omega), rfl, q _ I.fresh⟩
def rBin (K : Frag) (op : Operator) : R2 := fun x y H Q =>
  (∃ i j k, x = .int i ∧ y = .int j ∧ intOp op i j = .ok k ∧ Q (.int k) H) ∨ (op = .Add ∧ ∃ a b, x = .str a ∧ y = .str b ∧ a.length + b.length ≤ sizeLine ∧ Q (.str (a ++ b)) H) ∨
  (op = .Add ∧ ∃ l b xs zs, x = .ref l ∧ y = .ref b ∧ SqL K H l xs ∧ SqL K H b zs ∧ xs.length + zs.length ≤ sizeLine ∧ ∀ p, H p = none → Q (.ref p) (upd H p (.lst (xs ++ zs))))
theorem op_int (op : Operator) : OpR X (binaryOp op) (fun x y H Q => ∃ i j k, x = .int i ∧ y = .int j ∧ intOp op i j = .ok k ∧ Q (.int k) H) := by
  intro pins s σ H x y v u Q I rx ry h
  obtain ⟨i, j, k, rfl, rfl, e, q⟩ := h
  cases op with
  | Add => simp only [intOp, Rs.ok.injEq] at e; subst e; exact op_add pins s σ H _ _ v u Q I rx ry ⟨i, j, rfl, rfl, q⟩
  | Sub => simp only [intOp, Rs.ok.injEq] at e; subst e; exact op_sub pins s σ H _ _ v u Q I rx ry ⟨i, j, rfl, rfl, q⟩
  | Mult =>
    simp only [intOp] at e
    split at e
    · rename_i c
      simp only [Rs.ok.injEq] at e; subst e
      exact op_mul pins s σ H _ _ v u Q I rx ry ⟨i, j, rfl, rfl, by simpa [CMul, two64] using c, q⟩
    · cases e
  | FloorDiv =>
    simp only [intOp] at e
    split at e
    · rename_i c
      simp only [Rs.ok.injEq] at e; subst e
      exact op_fdivN pins s σ H _ _ v u Q I rx ry ⟨i, j, rfl, rfl, c, q⟩
    · cases e
  | Mod =>
    simp only [intOp] at e
    split at e
    · rename_i c
      simp only [Rs.ok.injEq] at e; subst e
      exact op_modN pins s σ H _ _ v u Q I rx ry ⟨i, j, rfl, rfl, c, q⟩
    · cases e
  | Pow =>
    simp only [intOp] at e
    split at e
    · rename_i c
      simp only [Rs.ok.injEq] at e; subst e
      exact op_pow pins s σ H _ _ v u Q I rx ry ⟨i, j, rfl, rfl, c, q⟩
    · cases e
  | LShift =>
    simp only [intOp] at e
    split at e
    · rename_i c
      simp only [Rs.ok.injEq] at e; subst e
      exact op_shl pins s σ H _ _ v u Q I rx ry ⟨i, j, rfl, rfl, c, q⟩
    · cases e
  | _ => simp [intOp] at e
theorem op_bin (op : Operator) : OpR X (binaryOp op) (rBin X.K op) := by
  intro pins s σ H x y v u Q I rx ry h
  rcases h with h | ⟨rfl, a, b, h⟩ | ⟨rfl, h⟩
  · exact op_int op pins s σ H x y v u Q I rx ry h
  · exact op_add_str pins s σ H x y v u Q I rx ry ⟨a, b, h⟩
  · exact op_catS pins s σ H x y v u Q I rx ry h
end
section
variable {K : Frag} {L : List Addr} {Y : AS} {H0 H : Hp} {bs : List Addr} {Q : VK}
theorem bin_noex {op : Operator} {pa pb : Bool} {x y : T} : NoEx (binT op pa pb x y) := by
  intro c p h
  unfold binT at h
  split at h
  · rename_i i j
    unfold intOp at h
    cases op <;> simp at h <;> split at h <;> simp at h
  · split at h <;> cases h
  · split at h
    · split at h <;> cases h
    · cases h
theorem bin_ok {op : Operator} {pa pb : Bool} {x y t : T} {vx vy : V} (e : binT op pa pb x y = .ok t) (si : Sit K L Y H0 H bs) (ar : Args K (msk H L Y bs) H L H0 [pa, pb] [x, y] [vx, vy] bs) (q : PostQ K L Y H0 H t Q) : rBin K op vx vy H Q := by
  obtain ⟨as, as', r1, r2, eb⟩ := ar.two
  have fr := ar.fresh
  unfold binT at e
  split at e
  · rename_i i j
    obtain ⟨k, e1, e2⟩ := Rs.bind_ok_iff e
    simp only [Rs.pure_eq, Rs.ok.injEq] at e2; subst e2
    exact .inl ⟨i, j, k, r1.intV, r2.intV, e1, q.int⟩
  · rename_i a b
    split at e
    · rename_i c
      simp only [Rs.ok.injEq] at e; subst e
      obtain ⟨e1, o1⟩ := r1.strV
      obtain ⟨e2, o2⟩ := r2.strV
      exact .inr (.inl ⟨c.1, a, b, e1, e2, by rw [sizeLine_eq]; exact c.2, q.str (okS_app o1 o2 c.2)⟩)
    · cases e
  · split at e
    · rename_i xs ys e1 e2
      split at e
      · rename_i c
        simp only [Rs.ok.injEq] at e; subst e
        obtain ⟨a, vs, cs, rfl, h1, h2, h3, h4, _⟩ := r1.lstV si.msk_H e1
        obtain ⟨a', vs', cs', rfl, h1', h2', h3', h4', _⟩ := r2.lstV si.msk_H e2
        refine .inr (.inr ⟨c.1, a, a', vs, vs', rfl, rfl, h1, h1', ?_, fun p hp => ?_⟩)
        · rw [sizeLine_eq, h2.length, h2'.length]; exact c.2.1
        · refine PostQ.lst q si fr (h2.app h2') ?_ hp (by rw [List.length_append]; exact c.2.1)
          rw [← eb]
          refine List.Sublist.append ?_ ?_
          · cases pa with
            | true => rw [h4 true c.2.2.1 rfl]; exact List.nil_sublist _
            | false => rcases h3 with z | z
                       · rw [z]; exact List.Sublist.refl _
                       · rw [z]; exact List.sublist_cons_self _ _
          · cases pb with
            | true => rw [h4' true c.2.2.2 rfl]; exact List.nil_sublist _
            | false => rcases h3' with z | z
                       · rw [z]; exact List.Sublist.refl _
                       · rw [z]; exact List.sublist_cons_self _ _
      · cases e
    · cases e
end
end Dz
namespace Dz
open PySem PySem.Spec PyProof.Rows L2

def inV' (K : Frag) (x y : V) (H : Hp) (b : Bool) : Prop :=
  (∃ c z, x = .str ⟨#[c]⟩ ∧ y = .str z ∧ b = decide (c ∈ z.cps.toList)) ∨ (∃ a ds, Dp K H x a ∧ (Dp K H y (.list ds) ∨ Dp K H y (.tuple ds)) ∧ okD a = true ∧ okDL ds = true ∧ a.depth ≤ 60 ∧ b = ds.any fun z => PyData.eqv z a)
def eqV' (K : Frag) (x y : V) (H : Hp) (b : Bool) : Prop := ∃ a c, Dp K H x a ∧ Dp K H y c ∧ okD a = true ∧ okD c = true ∧ (a.depth ≤ 60 ∨ c.depth ≤ 60) ∧ b = PyData.eqv a c
def CmpV (K : Frag) (op : CmpOp) (x y : V) (H : Hp) (b : Bool) : Prop := match op with
  | .Eq => eqV' K x y H b
  | .NotEq => ∃ c, eqV' K x y H c ∧ b = !c
  | .In => inV' K x y H b
  | .NotIn => ∃ c, inV' K x y H c ∧ b = !c
  | .Is => y = .non ∧ b = decide (x = .non)
  | .IsNot => y = .non ∧ b = !decide (x = .non)
  | .Lt => (∃ i j : Int, x = .int i ∧ y = .int j ∧ b = decide (i < j)) ∨ (∃ i j : Str, x = .str i ∧ y = .str j ∧ b = decide (i.cps.toList < j.cps.toList))
  | .LtE => ∃ i j : Int, x = .int i ∧ y = .int j ∧ b = decide (i ≤ j)
  | .Gt => (∃ i j : Int, x = .int i ∧ y = .int j ∧ b = decide (j < i)) ∨ (∃ i j : Str, x = .str i ∧ y = .str j ∧ b = decide (j.cps.toList < i.cps.toList))
  | .GtE => ∃ i j : Int, x = .int i ∧ y = .int j ∧ b = decide (j ≤ i)
def rCmp (K : Frag) (op : CmpOp) : R2 := fun x y H Q => ∃ b, CmpV K op x y H b ∧ Q (.bl b) H
section
variable {X : Cx}
theorem op_cmp (op : CmpOp) (hu : X.A.units + 100 < cLine) : OpR X (compareOp op) (rCmp X.K op) := by
  intro pins s σ H x y v u Q I rx ry ⟨b, h, q⟩
  have eqr : ∀ (b : Bool), eqV' X.K x y H b → ∃ as bs d e, Reads s.heap v d as ∧ Reads s.heap u e bs ∧ d.canLay0 = true ∧ e.canLay0 = true ∧ X.A.units + min d.depth e.depth < cLine ∧ b = PyData.eqv d e := by
    rintro b ⟨d, e, hd, he, od, oe, dp, rfl⟩
    obtain ⟨as, r1⟩ := Dp.reads I d x v hd rx
    obtain ⟨bs, r2⟩ := Dp.reads I e y u he ry
    refine ⟨as, bs, d, e, r1, r2, okD_lay od, okD_lay oe, ?_, rfl⟩
    rcases dp with z | z <;> omega
  cases op with
  | Eq =>
    obtain ⟨as, bs, d, e, r1, r2, o1, o2, hr, rfl⟩ := eqr b h
    exact SeqAt.compareEq_reads r1 r2 o1 o2 hr ⟨.bl _, H, I, rfl, q⟩
  | NotEq =>
    obtain ⟨c, h, rfl⟩ := h
    obtain ⟨as, bs, d, e, r1, r2, o1, o2, hr, rfl⟩ := eqr c h
    exact SeqAt.compareNe_reads r1 r2 o1 o2 hr ⟨.bl _, H, I, rfl, q⟩
  | In =>
    rcases h with ⟨c, z, rfl, rfl, rfl⟩ | ⟨a, ds, hd, he, od, oe, dp, rfl⟩
    · exact op_in_sign pins s σ H _ _ v u Q I rx ry ⟨c, z, rfl, rfl, q⟩
    · obtain ⟨as, r1⟩ := Dp.reads I a x v hd rx
      have hr : X.A.units + 1 + min (PyData.depthAll ds) a.depth < cLine := by omega
      rcases he with he | he
      · obtain ⟨bs, r2⟩ := Dp.reads I _ y u he ry
        exact SeqAt.in_list_reads r2 r1 (okDL_lay oe) (okD_lay od) hr ⟨.bl _, H, I, rfl, q⟩
      · obtain ⟨bs, r2⟩ := Dp.reads I _ y u he ry
        exact SeqAt.in_tuple_reads r2 r1 (okDL_lay oe) (okD_lay od) hr ⟨.bl _, H, I, rfl, q⟩
  | NotIn =>
    obtain ⟨c, h, rfl⟩ := h
    rcases h with ⟨c, z, rfl, rfl, rfl⟩ | ⟨a, ds, hd, he, od, oe, dp, rfl⟩
    · exact op_notIn_sign pins s σ H _ _ v u Q I rx ry ⟨c, z, rfl, rfl, q⟩
    · obtain ⟨as, r1⟩ := Dp.reads I a x v hd rx
      have hr : X.A.units + 1 + min (PyData.depthAll ds) a.depth < cLine := by omega
      rcases he with he | he
      · obtain ⟨bs, r2⟩ := Dp.reads I _ y u he ry
        exact SeqAt.notIn_list_reads r2 r1 (okDL_lay oe) (okD_lay od) hr ⟨.bl _, H, I, rfl, q⟩
      · obtain ⟨bs, r2⟩ := Dp.reads I _ y u he ry
        exact SeqAt.notIn_tuple_reads r2 r1 (okDL_lay oe) (okD_lay od) hr ⟨.bl _, H, I, rfl, q⟩
  | Is => obtain ⟨rfl, rfl⟩ := h; exact op_isN pins s σ H _ _ v u Q I rx ry ⟨rfl, q⟩
  | IsNot => obtain ⟨rfl, rfl⟩ := h; exact op_notN pins s σ H _ _ v u Q I rx ry ⟨rfl, q⟩
  | Lt =>
    rcases h with ⟨i, j, rfl, rfl, rfl⟩ | ⟨i, j, rfl, rfl, rfl⟩
    · exact op_lt pins s σ H _ _ v u Q I rx ry ⟨i, j, rfl, rfl, q⟩
    · exact op_lt_str pins s σ H _ _ v u Q I rx ry ⟨i, j, rfl, rfl, q⟩
  | LtE => obtain ⟨i, j, rfl, rfl, rfl⟩ := h; exact op_le pins s σ H _ _ v u Q I rx ry ⟨i, j, rfl, rfl, q⟩
  | Gt =>
    rcases h with ⟨i, j, rfl, rfl, rfl⟩ | ⟨i, j, rfl, rfl, rfl⟩
    · exact op_gt pins s σ H _ _ v u Q I rx ry ⟨i, j, rfl, rfl, q⟩
    · exact op_gt_str pins s σ H _ _ v u Q I rx ry ⟨i, j, rfl, rfl, q⟩
  | GtE => obtain ⟨i, j, rfl, rfl, rfl⟩ := h; exact op_ge pins s σ H _ _ v u Q I rx ry ⟨i, j, rfl, rfl, q⟩
end
section
variable {K : Frag} {L : List Addr} {Y : AS} {H0 H : Hp} {bs : List Addr} {Q : VK}
theorem eqT_noex {x y : T} : NoEx (eqT x y) := by
  intro c p h
  unfold eqT at h
  split at h
  · split at h <;> cases h
  · cases h
theorem inT_noex {x y : T} : NoEx (inT x y) := by
  intro c p h
  unfold inT at h
  split at h
  · split at h <;> cases h
  · split at h
    · split at h <;> cases h
    · cases h
  · cases h
theorem ordD_noex {op : CmpOp} {x y : PyData} : NoEx (ordD op x y) := by
  intro c p h
  unfold ordD at h
  split at h
  · split at h <;> cases h
  · split at h <;> cases h
  · cases h
theorem cmpT_noex {op : CmpOp} {x y : T} : NoEx (cmpT op x y) := by
  intro c p h
  unfold cmpT at h
  split at h
  · exact eqT_noex c p h
  · cases e : eqT x y <;> rw [e] at h <;> simp at h
    exact eqT_noex _ _ (e.trans (by rw [h.1, h.2]))
  · exact inT_noex c p h
  · cases e : inT x y <;> rw [e] at h <;> simp at h
    exact inT_noex _ _ (e.trans (by rw [h.1, h.2]))
  · split at h
    · split at h <;> cases h
    · cases h
  · split at h
    · split at h <;> cases h
    · cases h
  · split at h
    · exact ordD_noex c p h
    · cases h
theorem cmp_noex {op : CmpOp} {x y : T} : NoEx (do let c ← cmpT op x y; return T.fz (.bool c) : Rs T) := by
  intro c p h
  cases e : cmpT op x y <;> rw [e] at h <;> simp at h
  exact cmpT_noex _ _ (e.trans (by rw [h.1, h.2]))
theorem eqT_ok {x y : T} {vx vy : V} {as as' : List Addr} {b : Bool} {M : Hp} (m : Same M H) (r1 : RT K M H x vx as) (r2 : RT K M H y vy as') (e : eqT x y = .ok b) : eqV' K vx vy H b := by
  unfold eqT at e
  split at e
  · rename_i a c e1 e2
    split at e
    · rename_i d
      simp only [Rs.ok.injEq] at e; subst e
      obtain ⟨h1, o1⟩ := r1.datV m e1
      obtain ⟨h2, o2⟩ := r2.datV m e2
      exact ⟨a, c, h1, h2, o1, o2, d, rfl⟩
    · cases e
  · cases e
theorem RT.nonV' {x : T} {v : V} {as : List Addr} {M : Hp} (h : RT K M H x v as) : v = .non ↔ x = .fz .none := by
  constructor
  · intro e; subst e
    cases h with
    | fz h o => cases h; rfl
  · intro e; subst e; exact h.nonV
theorem cps_one {a : Str} {c : Nat} (h : a.cps.toList = [c]) : a = ⟨#[c]⟩ := TL.ext_tl (by rw [show TL.tl a = [c] from h])
theorem inT_ok {x y : T} {vx vy : V} {as as' : List Addr} {b : Bool} {M : Hp} (m : Same M H) (r1 : RT K M H x vx as) (r2 : RT K M H y vy as') (e : inT x y = .ok b) : inV' K vx vy H b := by
  unfold inT at e
  split at e
  · rename_i a c e1 e2
    split at e
    · rename_i k hk
      simp only [Rs.ok.injEq] at e; subst e
      obtain ⟨h1, o1⟩ := r1.datV m e1
      obtain ⟨h2, o2⟩ := r2.datV m e2
      cases h1
      cases h2
      exact .inl ⟨k, c, by rw [cps_one hk], rfl, rfl⟩
    · cases e
  · rename_i a c _ e1 e2
    split at e
    · rename_i ds ed
      split at e
      · rename_i d
        simp only [Rs.ok.injEq] at e; subst e
        obtain ⟨h1, o1⟩ := r1.datV m e1
        obtain ⟨h2, o2⟩ := r2.datV m e2
        refine .inr ⟨a, ds, h1, ?_, o1, ?_, d, rfl⟩
        · cases c <;> simp [dseq] at ed
          · subst ed; exact .inl h2
          · subst ed; exact .inr h2
        · cases c <;> simp [dseq] at ed
          · subst ed; exact (okD_list.mp o2).2
          · subst ed; exact (okD_tuple.mp o2).2
      · cases e
    · cases e
  · cases e
theorem cmp_ok {op : CmpOp} {x y : T} {vx vy : V} {as as' : List Addr} {b : Bool} {M : Hp} (m : Same M H) (r1 : RT K M H x vx as) (r2 : RT K M H y vy as') (e : cmpT op x y = .ok b) : CmpV K op vx vy H b := by
  unfold cmpT at e
  split at e
  · exact eqT_ok m r1 r2 e
  · obtain ⟨c, e1, e2⟩ := Rs.bind_ok_iff e
    simp only [Rs.pure_eq, Rs.ok.injEq] at e2; subst e2
    exact ⟨c, eqT_ok m r1 r2 e1, rfl⟩
  · exact inT_ok m r1 r2 e
  · obtain ⟨c, e1, e2⟩ := Rs.bind_ok_iff e
    simp only [Rs.pure_eq, Rs.ok.injEq] at e2; subst e2
    exact ⟨c, inT_ok m r1 r2 e1, rfl⟩
  · split at e
    · refine ⟨r2.nonV, ?_⟩
      split at e
      · cases e; rw [decide_eq_true (r1.nonV)]
      · rename_i h
        cases e
        exact (decide_eq_false fun z => h (r1.nonV'.mp z)).symm
    · cases e
  · split at e
    · refine ⟨r2.nonV, ?_⟩
      split at e
      · cases e; rw [decide_eq_true (r1.nonV)]; rfl
      · rename_i h
        cases e
        rw [decide_eq_false fun z => h (r1.nonV'.mp z)]; rfl
    · cases e
  · rename_i op n1 n2 n3 n4 n5 n6
    split at e
    · unfold ordD at e
      split at e
      · have h1 := r1.intV
        have h2 := r2.intV
        split at e
        · cases e; exact .inl ⟨_, _, h1, h2, rfl⟩
        · cases e; exact ⟨_, _, h1, h2, rfl⟩
        · cases e; exact .inl ⟨_, _, h1, h2, rfl⟩
        · cases e; exact ⟨_, _, h1, h2, rfl⟩
        · cases e
      · have h1 := r1.strV.1
        have h2 := r2.strV.1
        split at e
        · cases e; exact .inr ⟨_, _, h1, h2, rfl⟩
        · cases e; exact .inr ⟨_, _, h1, h2, rfl⟩
        · cases e
      · cases e
    · cases e
end
end Dz
namespace Dz
open PySem PySem.Spec PyProof.Rows L2

section
variable {K : Frag} {mg : Str → Option Value} {W : WX} {L : List Addr} {Y : AS} {H0 H : Hp} {bs : List Addr} {Q : VK}
theorem atI_get' {α : Type} {xs : List α} {k : Int} {x : α} (h : atI xs k = some x) : ∃ j, ixN xs.length k = some j ∧ xs[j]? = some x := by
  unfold atI at h
  cases e : ixN xs.length k with
  | none => rw [e] at h; cases h
  | some j => rw [e] at h; exact ⟨j, rfl, h⟩
theorem ixT_noex {x i : T} : NoEx (ixT x i) := by
  intro c p h
  unfold ixT at h
  split at h
  · split at h
    · split at h <;> cases h
    · split at h
      · rename_i ts e
        cases z : atI ts _ <;> rw [z] at h <;> cases h
      · cases h
  · cases h
theorem ix_ok {p pb : Bool} {x i t : T} {vx vi : V} (e : ixT x i = .ok t) (si : Sit K L Y H0 H bs) (ar : Args K (msk H L Y bs) H L H0 [p, pb] [x, i] [vx, vi] bs) (q : PostP K L Y H0 H p t Q) : rIx K vx vi H Q := by
  obtain ⟨as, r1, nd, fr, sub, _⟩ := ar.first si.nd
  obtain ⟨_, as', _, r2, _⟩ := ar.two
  unfold ixT at e
  split at e
  · rename_i k
    have hi := r2.intV
    split at e
    · rename_i z r1
      obtain ⟨e1, o1⟩ := r1.strV
      split at e
      · rename_i c hc
        cases e
        obtain ⟨j, _, hj⟩ := atI_get' hc
        have hm : c ∈ z.cps.toList := List.mem_of_getElem? hj
        exact .inr (.inr ⟨z, k, c, e1, hi, okS_len o1, hc, q.flat (fun _ => .str _) (by simpa [okD] using okS_one o1 hm)⟩)
      · cases e
    · split at e
      · rename_i ts et
        cases z : atI ts k with
        | none => rw [z] at e; cases e
        | some u =>
          rw [z] at e; cases e
          obtain ⟨a, vs, cs, rfl, hs, rs, cs1, _, _⟩ := r1.sqV si.msk_H et
          obtain ⟨j, j1, j2⟩ := atI_get' z
          obtain ⟨v, ds, e1, r, s⟩ := rs.get j2
          have hat : atI vs k = some v := by unfold atI; rw [rs.length, j1]; exact e1
          have q' : Q v H := q.there (nd.sublist (s.trans cs1)) (fun b hb => fr b (cs1.subset (s.subset hb))) r fun b hb => sub b (cs1.subset (s.subset hb))
          rcases hs with hs | hs
          · exact .inl ⟨a, vs, k, v, rfl, hi, hs, hat, q'⟩
          · exact .inr (.inl ⟨a, vs, k, v, rfl, hi, hs, hat, q'⟩)
      · cases e
  · cases e

/-! ### slices -/
theorem cutL_get {α : Type} (xs : List α) (lo hi : Option Int) : ∃ m n, cutL xs lo hi = (xs.drop m).take n := ⟨_, _, rfl⟩
theorem cutL_len {α : Type} (xs : List α) (lo hi : Option Int) : (cutL xs lo hi).length ≤ xs.length := by
  unfold cutL
  rw [List.length_take, List.length_drop]
  omega
theorem RTs.cut {M : Hp} {ts : List T} {vs : List V} {as : List Addr} (h : RTs K M H ts vs as) (lo hi : Option Int) : ∃ bs, RTs K M H (cutL ts lo hi) (cutV vs lo hi) bs ∧ bs.Sublist as := by
  unfold cutL cutV
  rw [h.length]
  obtain ⟨b1, h1, s1⟩ := h.drop (HT.sIx ts.length 0 lo)
  obtain ⟨b2, h2, s2⟩ := h1.take (HT.sIx ts.length ts.length hi - HT.sIx ts.length 0 lo)
  exact ⟨b2, h2, s2.trans s1⟩
def rSl (K : Frag) : V → Option Int → Option Int → Hp → VK → Prop := fun x lo hi H Q => rSlS x lo hi H Q ∨ rSlL K x lo hi H Q ∨ rSlT K x lo hi H Q
theorem sl_any {X : Cx} : SlR X (rSl X.K) := SlR.or sl_str (SlR.or sl_list sl_tup)
theorem okDL_cut {ds : List PyData} (h : okDL ds = true) (lo hi : Option Int) : okDL (cutL ds lo hi) = true :=
  okDL_of fun d hd => okDL_mem h d (by
    unfold cutL at hd
    exact List.mem_of_mem_drop (List.mem_of_mem_take hd))
theorem slT_noex {p : Bool} {x : T} {lo hi : Option Int} : NoEx (slT p x lo hi) := by
  intro c q h
  unfold slT at h
  split at h
  · cases h
  · cases h
  · split at h <;> cases h
  · split at h <;> cases h
  · cases h
theorem sl_ok {p : Bool} {x t : T} {vx : V} {as : List Addr} {lo hi : Option Int} (e : slT p x lo hi = .ok t) (si : Sit K L Y H0 H bs) (fr : ∀ a ∈ bs, H0 a = none) (r : RT K (msk H L Y bs) H x vx as) (hp : p = false → as.Sublist bs) (q : PostQ K L Y H0 H t Q) : rSl K vx lo hi H Q := by
  unfold slT at e
  split at e
  · rename_i z
    cases e
    obtain ⟨e1, o1⟩ := r.strV
    exact .inl ⟨z, e1, okS_len o1, q.str (okS_cut o1 lo hi)⟩
  · rename_i ds
    cases e
    obtain ⟨a, vs, cs, rfl, hs, rs, _, _, hzz⟩ := r.lstV (ts := ds.map .fz) si.msk_H rfl
    obtain ⟨d1, d2, d3⟩ := rs.toDp
    have := RTs.cut (RTs.ofDp (H := H) d1 d2) lo hi
    obtain ⟨b2, h2, s2⟩ := this
    have e2 : cutL (ds.map T.fz) lo hi = (cutL ds lo hi).map T.fz := by simp [cutL, List.map_take, List.map_drop]
    rw [e2] at h2
    exact .inr (.inl ⟨a, vs, rfl, hs, fun p hp => PostQ.lst q si fr h2 (by
      have : b2 = [] := by simpa using s2
      rw [this]; exact List.nil_sublist _) hp (by rw [List.length_map]; rw [List.length_map] at hzz; exact Nat.le_trans (cutL_len _ _ _) hzz)⟩)
  · rename_i ds
    split at e
    · cases e
    · rename_i hc
      cases e
      cases r with
      | fz h o =>
        cases h with
        | tup h hs =>
          rename_i a vs
          have hl := DpAll.length hs
          refine .inr (.inr ⟨a, vs, rfl, SqT.mono si.msk_H h, by rw [hl]; exact hc, fun p n => ?_⟩)
          have oo := okD_tuple.mp o
          have o' : okDL ds = true := oo.2
          have hd : DpAll K (msk H L Y bs) (cutV vs lo hi) (cutL ds lo hi) := by
            unfold cutL cutV
            rw [hl]
            exact DpAll.take _ (DpAll.drop _ hs)
          have e3 : mkTup ((cutL ds lo hi).map T.fz) = .fz (.tuple (cutL ds lo hi)) := by simp [mkTup]
          exact PostQ.tup (by rw [e3]; exact q) si fr (RTs.ofDp hd (okDL_cut o' lo hi)) (List.nil_sublist _) n (by rw [List.length_map]; exact Nat.le_trans (cutL_len _ _ _) oo.1)
  · rename_i ts
    split at e
    · rename_i hc
      cases e
      obtain ⟨a, vs, cs, rfl, hs, rs, h3, h4, hzz⟩ := r.lstV (ts := ts) si.msk_H rfl
      obtain ⟨b2, h2, s2⟩ := rs.cut lo hi
      refine .inr (.inl ⟨a, vs, rfl, hs, fun p' n => PostQ.lst q si fr h2 (s2.trans ?_) n (Nat.le_trans (cutL_len _ _ _) hzz)⟩)
      cases p with
      | true => rw [h4 true hc rfl]; exact List.nil_sublist _
      | false =>
        rcases h3 with z | z
        · rw [z]; exact hp rfl
        · exact (List.sublist_cons_self _ _).trans (z ▸ hp rfl)
    · cases e
  · cases e

/-! ### built-ins -/
def rBlt (K : Frag) : Bn → List V → Hp → VK → Prop
  | .len => fun xs H Q => (∃ z, xs = [.str z] ∧ z.length ≤ sizeLine ∧ Q (.int z.length) H) ∨ (∃ p ys, xs = [.ref p] ∧ (SqL K H p ys ∨ SqT K H p ys) ∧ Q (.int ys.length) H)
  | .list => fun xs H Q => ∃ p ys, xs = [.ref p] ∧ (SqL K H p ys ∨ SqT K H p ys) ∧ ∀ l, H l = none → Q (.ref l) (upd H l (.lst ys))
  | .tuple => fun xs H Q => ∃ p ys, xs = [.ref p] ∧ ((SqL K H p ys ∧ ∀ l, H l = none → Q (.ref l) (upd H l (.tup ys))) ∨ (SqT K H p ys ∧ Q (.ref p) H))
  | .max => fun xs H Q => ∃ i j, xs = [.int i, .int j] ∧ Q (.int (if j > i then j else i)) H
  | .min => fun xs H Q => ∃ i j, xs = [.int i, .int j] ∧ Q (.int (if j < i then j else i)) H
  | .int => fun xs H Q => (∃ i, xs = [.int i] ∧ Q (.int i) H) ∨ ∃ k, xs = [.bl k] ∧ Q (.int (if k then 1 else 0)) H
def Bn.val : Bn → Value
  | .len => .builtin "len" | .list => .type "list" | .tuple => .type "tuple" | .max => .builtin "max" | .min => .builtin "min" | .int => .type "int"
theorem blt_call {X : Cx} (hc : X.calm = true) : ∀ b : Bn, CallR X b.val (rBlt X.K b)
  | .len => CallR.or call_len_str call_len_seq
  | .list => call_list_of
  | .tuple => call_tuple_of
  | .max => call_max2 hc
  | .min => call_min2 hc
  | .int => call_int1
theorem blt_boot : ∀ b : Bn, bootBuiltins b.name = some b.val
  | .len => by decide +kernel
  | .list => by decide +kernel
  | .tuple => by decide +kernel
  | .max => by decide +kernel
  | .min => by decide +kernel
  | .int => by decide +kernel
theorem blt_noex {b : Bn} {ps : List Bool} {ts : List T} : NoEx (bltT b ps ts) := by
  intro c p h
  unfold bltT at h
  split at h
  · cases h
  · split at h <;> cases h
  · split at h
    · split at h <;> cases h
    · cases h
  · cases h
  · split at h
    · split at h <;> cases h
    · cases h
  all_goals cases h
theorem datL_of {t : T} {ts : List T} {ds : List PyData} (h : lstT t = some ts) (e : t.dat = some (.list ds)) : T.datL ts = some ds := by
  cases t with
  | fz d =>
    cases d with
    | list xs =>
      simp only [lstT, Option.some.injEq] at h
      simp only [T.dat, Option.some.injEq, PyData.list.injEq] at e
      subst h; subst e
      exact datL_map _
    | _ => simp [lstT] at h
  | ow us =>
    simp only [lstT, Option.some.injEq] at h; subst h
    simpa [T.dat] using e
  | _ => simp [lstT] at h
theorem Args.inv1 {M : Hp} {ps : List Bool} {t : T} {vs : List V} (a : Args K M H L H0 ps [t] vs bs) : ∃ p v, ps = [p] ∧ vs = [v] := by
  have h := a.length
  match ps, vs, h with
  | [p], [v], _ => exact ⟨p, v, rfl, rfl⟩
theorem Args.inv2 {M : Hp} {ps : List Bool} {t u : T} {vs : List V} (a : Args K M H L H0 ps [t, u] vs bs) : ∃ p p' v v', ps = [p, p'] ∧ vs = [v, v'] := by
  have h := a.length
  match ps, vs, h with
  | [p, p'], [v, v'], _ => exact ⟨p, p', v, v', rfl, rfl⟩
theorem blt_ok {b : Bn} {ps : List Bool} {ts : List T} {t : T} {vs : List V} (e : bltT b ps ts = .ok t) (si : Sit K L Y H0 H bs) (ar : Args K (msk H L Y bs) H L H0 ps ts vs bs) (q : PostQ K L Y H0 H t Q) : rBlt K b vs H Q := by
  have fr := ar.fresh
  unfold bltT at e
  split at e
  · obtain ⟨p, v, rfl, rfl⟩ := ar.inv1
    cases e
    obtain ⟨as, r, _⟩ := ar.one
    obtain ⟨rfl, o⟩ := r.strV
    exact .inl ⟨_, rfl, okS_len o, q.int⟩
  · obtain ⟨p, v, rfl, rfl⟩ := ar.inv1
    split at e
    · rename_i xs ex
      cases e
      obtain ⟨as, r, _⟩ := ar.one
      obtain ⟨a, ws, cs, rfl, hs, rs, _, _, _⟩ := r.sqV si.msk_H ex
      refine .inr ⟨a, ws, rfl, hs, ?_⟩
      rw [rs.length]; exact q.int
    · cases e
  · obtain ⟨p, v, rfl, rfl⟩ := ar.inv1
    split at e
    · rename_i xs ex
      split at e
      · rename_i hc
        cases e
        obtain ⟨as, r, _, _, _, hb⟩ := ar.first si.nd
        obtain ⟨a, ws, cs, rfl, hs, rs, h3, h4, hzz⟩ := r.sqV si.msk_H ex
        refine ⟨a, ws, rfl, hs, fun l n => PostQ.lst q si fr rs ?_ n hzz⟩
        cases p with
        | true => rw [h4 true (by simpa using hc) rfl]; exact List.nil_sublist _
        | false => exact h3.trans (hb rfl)
      · cases e
    · cases e
  · obtain ⟨p, v, rfl, rfl⟩ := ar.inv1
    cases e
    obtain ⟨as, r, _⟩ := ar.one
    cases r with
    | fz h o =>
      cases h with
      | tup h hs =>
        refine ⟨_, _, rfl, .inr ⟨SqT.mono si.msk_H h, q.data si (.tup h hs) o⟩⟩
  · obtain ⟨p, v, rfl, rfl⟩ := ar.inv1
    split at e
    · rename_i ds e1 e2
      split at e
      · rename_i hc
        cases e
        obtain ⟨as, r, _, _, _, hb⟩ := ar.first si.nd
        obtain ⟨a, ws, cs, rfl, hs, rs, h3, h4, hzz⟩ := r.lstV si.msk_H e1
        have hcs := h4 true hc rfl
        refine ⟨a, ws, rfl, .inl ⟨hs, fun l n => ?_⟩⟩
        -- the items are frozen data
        have hd : DpAll K (msk H L Y bs) ws ds ∧ okDL ds = true := by
          subst hcs
          have := datL_of e1 e2
          exact RTs.frzD (Same.refl _) (fun _ z => by cases z) rs this
        have e3 : mkTup (ds.map T.fz) = .fz (.tuple ds) := by simp [mkTup]
        exact PostQ.tup (by rw [e3]; exact q) si fr (RTs.ofDp hd.1 hd.2) (List.nil_sublist _) n (by rw [List.length_map, datL_len (datL_of e1 e2)]; exact hzz)
      · cases e
    · cases e
  · obtain ⟨p, p', v, v', rfl, rfl⟩ := ar.inv2
    cases e
    obtain ⟨as, as', r1, r2, _⟩ := ar.two
    exact ⟨_, _, by rw [r1.intV, r2.intV], q.int⟩
  · obtain ⟨p, p', v, v', rfl, rfl⟩ := ar.inv2
    cases e
    obtain ⟨as, as', r1, r2, _⟩ := ar.two
    exact ⟨_, _, by rw [r1.intV, r2.intV], q.int⟩
  · obtain ⟨p, v, rfl, rfl⟩ := ar.inv1
    cases e
    obtain ⟨as, r, _⟩ := ar.one
    exact .inl ⟨_, by rw [r.intV], q.int⟩
  · obtain ⟨p, v, rfl, rfl⟩ := ar.inv1
    cases e
    obtain ⟨as, r, _⟩ := ar.one
    exact .inr ⟨_, by rw [r.blV], q.int⟩
  · cases e

/-! ### join -/
theorem strsOf_some : ∀ {ds : List PyData} {xs : List Str}, strsOf ds = some xs → ds = xs.map .str
  | [], xs, h => by simp only [strsOf, Option.some.injEq] at h; subst h; rfl
  | .str x :: ds, xs, h => by
    simp only [strsOf] at h
    cases e : strsOf ds with
    | none => rw [e] at h; cases h
    | some r => rw [e] at h; cases h; rw [strsOf_some e]; rfl
  | .none :: _, _, h => by simp [strsOf] at h
  | .bool _ :: _, _, h => by simp [strsOf] at h
  | .int _ :: _, _, h => by simp [strsOf] at h
  | .list _ :: _, _, h => by simp [strsOf] at h
  | .tuple _ :: _, _, h => by simp [strsOf] at h
  | .dict _ :: _, _, h => by simp [strsOf] at h
theorem DpAll.strs {M : Hp} : ∀ {xs : List Str} {vs : List V}, DpAll K M vs (xs.map .str) → vs = xs.map .str
  | [], _, .nil => rfl
  | x :: xs, _, .cons h hs => by cases h; rw [DpAll.strs hs]; rfl
def rMth (K : Frag) : Mn → V → List V → Hp → VK → Prop
  | .join => fun x xs H Q => ∃ a p, ∃ ys : List Str, x = .str a ∧ xs = [.ref p] ∧ (SqL K H p (ys.map V.str) ∨ SqT K H p (ys.map V.str)) ∧ (ys.map (·.length)).sum + ys.length * a.length ≤ 16777216 ∧ Q (.str (Txt.join a ys)) H
  | .index => fun _ _ _ _ => False
theorem mth_noex {m : Mn} {x : T} {ts : List T} : NoEx (mthT m x ts) := by
  intro c p h
  unfold mthT at h
  split at h
  · split at h
    · split at h
      · split at h <;> cases h
      · cases h
    · cases h
  · cases h
theorem join_inv {x u t : T} (e : mthT .join x [u] = .ok t) : ∃ a d xs, x = .fz (.str a) ∧ u.dat = some d ∧ (dseq d).bind strsOf = some xs ∧ (xs.map (·.length)).sum + xs.length * a.length ≤ 16777216 ∧ t = .fz (.str (Txt.join a xs)) := by
  cases x with
  | fz dx =>
    cases dx with
    | str a =>
      cases eu : u.dat with
      | none => simp [mthT, eu] at e
      | some d =>
        cases ex : (dseq d).bind strsOf with
        | none => simp [mthT, eu, ex] at e
        | some xs =>
          simp only [mthT, eu, ex] at e
          split at e
          · rename_i hl
            cases e
            exact ⟨a, d, xs, rfl, rfl, ex, hl, rfl⟩
          · cases e
    | _ => simp [mthT] at e
  | _ => simp [mthT] at e
theorem join_ok {p p' : Bool} {x u t : T} {vx vu : V} (e : mthT .join x [u] = .ok t) (si : Sit K L Y H0 H bs) (ar : Args K (msk H L Y bs) H L H0 [p, p'] [x, u] [vx, vu] bs) (q : PostQ K L Y H0 H t Q) :
    (∃ a, vx = .str a) ∧ rMth K .join vx [vu] H Q := by
  obtain ⟨as, as', r1, r2, _⟩ := ar.two
  obtain ⟨a, d, xs, rfl, ed, exs, hl, rfl⟩ := join_inv e
  obtain ⟨rfl, o1⟩ := r1.strV
  obtain ⟨h2, o2⟩ := r2.datV si.msk_H ed
  refine ⟨⟨a, rfl⟩, ?_⟩
  have oj : okDL (xs.map .str) = true → okS (Txt.join a xs) = true := fun o => by
    rw [TL.join_eq]
    exact (okS_join o1 (fun z hz => by
      have := okDL_mem o (.str z) (List.mem_map_of_mem hz)
      simpa [okD] using this) hl).1
  cases d with
  | list ds =>
    simp only [dseq, Option.bind_some] at exs
    have := strsOf_some exs
    subst this
    cases h2 with
    | lst h hs =>
      have hv := DpAll.strs hs
      subst hv
      exact ⟨a, _, xs, rfl, rfl, .inl h, hl, q.str (oj (okD_list.mp o2).2)⟩
  | tuple ds =>
    simp only [dseq, Option.bind_some] at exs
    have := strsOf_some exs
    subst this
    cases h2 with
    | tup h hs =>
      have hv := DpAll.strs hs
      subst hv
      exact ⟨a, _, xs, rfl, rfl, .inr h, hl, q.str (oj (okD_tuple.mp o2).2)⟩
  | _ => simp [dseq] at exs
end
end Dz
namespace Dz
open PySem PySem.Spec PyProof.Rows L2

/-! ### isinstance -/
theorem kit_cl : ∀ k c : Cl, kitB k.ty c.ty = some (clIs k c)
  | .int, .int => by decide +kernel
  | .int, .str => by decide +kernel
  | .int, .bool => by decide +kernel
  | .int, .list => by decide +kernel
  | .int, .tuple => by decide +kernel
  | .str, .int => by decide +kernel
  | .str, .str => by decide +kernel
  | .str, .bool => by decide +kernel
  | .str, .list => by decide +kernel
  | .str, .tuple => by decide +kernel
  | .bool, .int => by decide +kernel
  | .bool, .str => by decide +kernel
  | .bool, .bool => by decide +kernel
  | .bool, .list => by decide +kernel
  | .bool, .tuple => by decide +kernel
  | .list, .int => by decide +kernel
  | .list, .str => by decide +kernel
  | .list, .bool => by decide +kernel
  | .list, .list => by decide +kernel
  | .list, .tuple => by decide +kernel
  | .tuple, .int => by decide +kernel
  | .tuple, .str => by decide +kernel
  | .tuple, .bool => by decide +kernel
  | .tuple, .list => by decide +kernel
  | .tuple, .tuple => by decide +kernel
theorem kit_none : ∀ c : Cl, kitB "NoneType" c.ty = some false
  | .int => by decide +kernel
  | .str => by decide +kernel
  | .bool => by decide +kernel
  | .list => by decide +kernel
  | .tuple => by decide +kernel
theorem cl_boot : ∀ c : Cl, bootBuiltins c.name = some (.type c.ty)
  | .int => by decide +kernel
  | .str => by decide +kernel
  | .bool => by decide +kernel
  | .list => by decide +kernel
  | .tuple => by decide +kernel
section
variable {K : Frag} {mg : Str → Option Value} {W : WX} {L : List Addr} {Y : AS} {H0 H M : Hp} {bs : List Addr} {Q : VK}
theorem tyx_list {a : Addr} {vs : List V} (h : SqL K H a vs) : TyX K H (.ref a) (.type "list") := by
  rcases h with (h | ⟨o, h⟩) | ⟨o, its, n, h1, h2, _⟩
  · exact .base (.lst h)
  · exact .base (.frz h)
  · exact .kList h1 h2
theorem tyx_tuple {a : Addr} {vs : List V} (h : SqT K H a vs) : TyX K H (.ref a) (.type "tuple") := by
  rcases h with (h | ⟨o, h⟩) | ⟨o, its, n, h1, h2, _⟩
  · exact .base (.tup h)
  · exact .fTuple h
  · exact .kTuple h1 h2
theorem tag_ty {t : T} {v : V} {as : List Addr} {k : Cl} (m : Same M H) (r : RT K M H t v as) (e : tagT t = some k) : TyX K H v (.type k.ty) := by
  cases r with
  | fz h o =>
    cases h with
    | non => simp [tagT] at e
    | bl b => simp only [tagT, Option.some.injEq] at e; subst e; exact .base (.bl b)
    | int i => simp only [tagT, Option.some.injEq] at e; subst e; exact .base (.int i)
    | str x => simp only [tagT, Option.some.injEq] at e; subst e; exact .base (.str x)
    | lst h hs => simp only [tagT, Option.some.injEq] at e; subst e; exact tyx_list (m.seq h)
    | tup h hs => simp only [tagT, Option.some.injEq] at e; subst e; exact tyx_tuple (SqT.mono m h)
  | ow h _ hs => simp only [tagT, Option.some.injEq] at e; subst e; exact tyx_list (.of h)
  | tp h _ hs => simp only [tagT, Option.some.injEq] at e; subst e; exact tyx_tuple (SqT.mono m h)
/-- what isinstance asks of one class -/
theorem isi_one {t : T} {v : V} {as : List Addr} {c : Cl} {b : Bool} (m : Same M H) (r : RT K M H t v as) (e : isiT t [c] = .ok b) : ∃ ty, TyX K H v ty ∧ PySem.W.kitOne K ty (.type c.ty) = some b := by
  unfold isiT at e
  cases q : tagT t with
  | some k =>
    rw [q] at e
    simp only [List.any_cons, List.any_nil, Bool.or_false, Rs.ok.injEq] at e; subst e
    exact ⟨_, tag_ty m r q, kit_ty (kit_cl k c)⟩
  | none =>
    rw [q] at e
    simp only at e
    split at e
    · rename_i hn
      cases e
      have : t = .fz .none := by
        cases t with
        | fz d => cases d <;> simp [isNone] at hn; rfl
        | _ => simp [isNone] at hn
      subst this
      rw [r.nonV]
      exact ⟨_, .base .non, kit_ty (kit_none c)⟩
    · cases e
theorem kitAny_all {ty : Value} {f : Cl → Bool} (h : ∀ c, PySem.W.kitOne K ty (.type c.ty) = some (f c)) : ∀ cs : List Cl, PySem.W.kitAny K ty (cs.map fun c => .type c.ty) = some (cs.any f)
  | [] => kitAny_nil
  | c :: cs => by
    simp only [List.map_cons, List.any_cons]
    refine kitAny_cons (h c) (fun z => ?_) (fun z => by rw [z, Bool.true_or])
    rw [z, Bool.false_or]
    exact kitAny_all h cs
theorem isi_many {t : T} {v : V} {as : List Addr} {cs : List Cl} {b : Bool} (m : Same M H) (r : RT K M H t v as) (e : isiT t cs = .ok b) : ∃ ty, TyX K H v ty ∧ PySem.W.kitAny K ty (cs.map fun c => .type c.ty) = some b := by
  unfold isiT at e
  cases q : tagT t with
  | some k =>
    rw [q] at e
    simp only [Rs.ok.injEq] at e; subst e
    exact ⟨_, tag_ty m r q, kitAny_all (fun c => kit_ty (kit_cl k c)) cs⟩
  | none =>
    rw [q] at e
    simp only at e
    split at e
    · rename_i hn
      cases e
      have : t = .fz .none := by
        cases t with
        | fz d => cases d <;> simp [isNone] at hn; rfl
        | _ => simp [isNone] at hn
      subst this
      rw [r.nonV]
      refine ⟨_, .base .non, ?_⟩
      have := kitAny_all (K := K) (ty := .type "NoneType") (f := fun _ => false) (fun c => kit_ty (kit_none c)) cs
      rw [this]
      congr 1
      induction cs with
      | nil => rfl
      | cons c cs ih => simp
    · cases e

/-! ### what is walked -/
structure Wk (K : Frag) (J : It) (ds : List PyData) (Kp : Hp → Prop) (M1 : Hp) : Prop where
  go : ∀ i H, Kp H → i < ds.length → J.go i H
  stop : ∀ i H, Kp H → ds.length ≤ i → J.stop i H
  yld : ∀ i H x H', Kp H → i < ds.length → J.yld i H x H' → Same H H' ∧ ∃ d, ds[i]? = some d ∧ okD d = true ∧ ∀ M', Same M1 M' → (∀ b, H b = none → M' b = H' b) → Dp K M' x d
/-- the source stays -/
def KpOf (H1 : Hp) (L : List Addr) (ps : List Bool) (Kp : Hp → Prop) : Prop := ∀ H, Kp H → Same (mask H1 fun b => b ∈ L ∧ ∀ p ∈ ps, p = false) H
/-- a list or tuple that is walked -/
theorem src_items {p : Bool} {t : T} {v : V} {as : List Addr} {d : PyData} {ds : List PyData} (si : Sit K L Y H0 H bs) (r : RT K (msk H L Y bs) H t v as) (fr : p = false → ∀ a ∈ as, H0 a = none) (ed : t.dat = some d) (es : dseq d = some ds) (ok : itemsOk p t = true) :
    ∃ a vs, v = .ref a ∧ ((d = .list ds ∧ SqL K (mask H fun b => b ∈ L ∧ p = false) a vs) ∨ (d = .tuple ds ∧ SqT K (mask H fun b => b ∈ L ∧ p = false) a vs)) ∧ DpAll K (msk H L Y []) vs ds ∧ okDL ds = true ∧ ds.length ≤ 16777216 := by
  have m1 : Same (msk H L Y bs) (msk H L Y []) := si.msk_none
  have m2 : Same (msk H L Y bs) (mask H fun b => b ∈ L ∧ p = false) := mask_mono (Same.refl H) fun b _ q => .inl (.inl q.1)
  have up : p = false → ∀ a ∈ as, msk H L Y [] a = H a := fun hp a ha => by
    obtain ⟨ws, e⟩ := r.own a ha
    rw [e]
    refine mask_of e fun z => ?_
    rcases z with z | z
    · exact si.old a z (fr hp a ha)
    · cases z
  cases r with
  | fz h o =>
    rename_i d0
    simp only [T.dat, Option.some.injEq] at ed; subst ed
    cases h with
    | lst h hs =>
      simp only [dseq, Option.some.injEq] at es; subst es
      exact ⟨_, _, rfl, .inl ⟨rfl, m2.seq h⟩, DpAll.mono m1 hs, (okD_list.mp o).2, (okD_list.mp o).1⟩
    | tup h hs =>
      simp only [dseq, Option.some.injEq] at es; subst es
      exact ⟨_, _, rfl, .inr ⟨rfl, SqT.mono m2 h⟩, DpAll.mono m1 hs, (okD_tuple.mp o).2, (okD_tuple.mp o).1⟩
    | _ => simp [dseq] at es
  | ow h zz hs =>
    rename_i ts a vs as'
    have e1 : ∃ xs, T.datL ts = some xs := by
      simp only [T.dat, Option.map_eq_some_iff] at ed
      obtain ⟨xs, e, _⟩ := ed
      exact ⟨xs, e⟩
    obtain ⟨xs, e1⟩ := e1
    simp only [T.dat, e1, Option.map_some, Option.some.injEq] at ed; subst ed
    simp only [dseq, Option.some.injEq] at es; subst es
    cases p with
    | false =>
      obtain ⟨h1, h2⟩ := RTs.frzD m1 (fun b hb => up rfl b (by simp [hb])) hs e1
      have na : a ∉ L := fun z => si.old a (.inl z) (fr rfl a (by simp))
      exact ⟨a, vs, rfl, .inl ⟨rfl, .of (mask_of h fun z => na z.1)⟩, h1, h2, by rw [datL_len e1]; exact zz⟩
    | true =>
      simp only [itemsOk, Bool.not_true, Bool.false_or] at ok
      have := hs.allFz ok
      subst this
      obtain ⟨h1, h2⟩ := RTs.frzD m1 (fun b hb => by cases hb) hs e1
      exact ⟨a, vs, rfl, .inl ⟨rfl, .of (mask_of h fun z => by cases z.2)⟩, h1, h2, by rw [datL_len e1]; exact zz⟩
  | tp h zz hs =>
    rename_i ts a vs
    have e1 : ∃ xs, T.datL ts = some xs := by
      simp only [T.dat, Option.map_eq_some_iff] at ed
      obtain ⟨xs, e, _⟩ := ed
      exact ⟨xs, e⟩
    obtain ⟨xs, e1⟩ := e1
    simp only [T.dat, e1, Option.map_some, Option.some.injEq] at ed; subst ed
    simp only [dseq, Option.some.injEq] at es; subst es
    cases p with
    | false =>
      obtain ⟨h1, h2⟩ := RTs.frzD m1 (fun b hb => up rfl b hb) hs e1
      exact ⟨a, vs, rfl, .inr ⟨rfl, SqT.mono m2 h⟩, h1, h2, by rw [datL_len e1]; exact zz⟩
    | true =>
      simp only [itemsOk, Bool.not_true, Bool.false_or] at ok
      have := hs.allFz ok
      subst this
      obtain ⟨h1, h2⟩ := RTs.frzD m1 (fun b hb => by cases hb) hs e1
      exact ⟨a, vs, rfl, .inr ⟨rfl, SqT.mono m2 h⟩, h1, h2, by rw [datL_len e1]; exact zz⟩
theorem Wk.list {a : Addr} {vs : List V} {ds : List PyData} {Kp : Hp → Prop} (hk : ∀ H', Kp H' → SqL K H' a vs) (hd : DpAll K M vs ds) (o : okDL ds = true) : Wk K (Itl K a) ds Kp M where
  go := fun i H' k hi => by
    have hl := DpAll.length hd
    exact ⟨vs, vs[i], hk H' k, List.getElem?_eq_getElem (by omega)⟩
  stop := fun i H' k hi => ⟨vs, hk H' k, by have := DpAll.length hd; omega⟩
  yld := fun i H' x H2 k hi hy => by
    obtain ⟨rfl, hy⟩ := hy
    obtain ⟨d, h1, h2⟩ := DpAll.getV hd (hy _ (hk _ k))
    exact ⟨Same.refl _, d, h1, okDL_get o h1, fun M' m _ => Dp.mono m h2⟩
theorem Wk.tuple {a : Addr} {vs : List V} {ds : List PyData} {Kp : Hp → Prop} (hk : ∀ H', Kp H' → SqT K H' a vs) (hd : DpAll K M vs ds) (o : okDL ds = true) : Wk K (Itt K a) ds Kp M where
  go := fun i H' k hi => by
    have hl := DpAll.length hd
    exact ⟨vs, vs[i], hk H' k, List.getElem?_eq_getElem (by omega)⟩
  stop := fun i H' k hi => ⟨vs, hk H' k, by have := DpAll.length hd; omega⟩
  yld := fun i H' x H2 k hi hy => by
    obtain ⟨rfl, hy⟩ := hy
    obtain ⟨d, h1, h2⟩ := DpAll.getV hd (hy _ (hk _ k))
    exact ⟨Same.refl _, d, h1, okDL_get o h1, fun M' m _ => Dp.mono m h2⟩
theorem Wk.str {x : Str} {Kp : Hp → Prop} (o : okS x = true) : Wk K (Its x) (x.cps.toList.map fun c => .str ⟨#[c]⟩) Kp M where
  go := fun i H' k hi => by simpa [Its] using hi
  stop := fun i H' k hi => by simpa [Its] using hi
  yld := fun i H' v H2 k hi hy => by
    obtain ⟨rfl, c, hc, rfl⟩ := hy
    have hm : c ∈ x.cps.toList := Array.mem_def.mp (Array.mem_of_getElem? hc)
    exact ⟨Same.refl _, .str ⟨#[c]⟩, by simp [hc], by simpa [okD] using okS_one o hm, fun M' _ _ => .str _⟩
theorem Wk.range {lo : Int} {n : Nat} {Kp : Hp → Prop} : Wk K (Itr lo n) ((List.range n).map fun (i : Nat) => .int (lo + (i : Int))) Kp M where
  go := fun i H' k hi => by simpa [Itr] using hi
  stop := fun i H' k hi => by simpa [Itr] using hi
  yld := fun i H' v H2 k hi hy => by
    obtain ⟨rfl, rfl⟩ := hy
    have hi' : i < n := by simpa using hi
    exact ⟨Same.refl _, .int (lo + i), by simp [List.getElem?_map, List.getElem?_range hi'], rfl, fun M' _ _ => .int _⟩
theorem DpAll.two {M : Hp} {a b : V} {d e : PyData} (h : Dp K M a d) (h' : Dp K M b e) : DpAll K M [a, b] [d, e] := .cons h (.cons h' .nil)
theorem Wk.enum {a : Addr} {vs : List V} {ds : List PyData} {Kp : Hp → Prop} (hk : ∀ H', Kp H' → SqL K H' a vs) (hd : DpAll K M vs ds) (o : okDL ds = true) : Wk K (Ite K a) (ds.zipIdx.map fun p => .tuple [.int (p.2 : Int), p.1]) Kp M where
  go := fun i H' k hi => by
    have hl := DpAll.length hd
    have : i < ds.length := by simpa using hi
    exact ⟨vs, vs[i], hk H' k, List.getElem?_eq_getElem (by omega)⟩
  stop := fun i H' k hi => ⟨vs, hk H' k, by have := DpAll.length hd; have h2 : ds.length ≤ i := by simpa using hi
                                            omega⟩
  yld := fun i H' v H2 k hi hy => by
    obtain ⟨T, x, rfl, n, rfl, hy⟩ := hy
    obtain ⟨d, h1, h2⟩ := DpAll.getV hd (hy _ (hk H' k))
    refine ⟨upd_ext n, .tuple [.int (i : Nat), d], by simp [List.getElem?_map, List.getElem?_zipIdx, h1], ?_, fun M' m e => ?_⟩
    · have := okDL_get o h1
      simp [okD, okDL, this]
    · exact .tup (.of ((e T n).trans upd_same)) (DpAll.two (.int _) (Dp.mono m h2))
theorem Wk.zipL {a b : Addr} {vs ws : List V} {ds es : List PyData} {Kp : Hp → Prop} (hk : ∀ H', Kp H' → SqL K H' a vs ∧ SqL K H' b ws) (hd : DpAll K M vs ds) (he : DpAll K M ws es) (o : okDL ds = true) (o' : okDL es = true) : Wk K (Itz K a b) ((ds.zip es).map fun p => .tuple [p.1, p.2]) Kp M where
  go := fun i H' k hi => by
    have hl := DpAll.length hd
    have hl' := DpAll.length he
    have : i < ds.length ∧ i < es.length := by
      have h : i < (ds.zip es).length := by simpa using hi
      rw [List.length_zip] at h; omega
    exact ⟨vs, ws, vs[i], ws[i], (hk H' k).1, (hk H' k).2, List.getElem?_eq_getElem (by omega), List.getElem?_eq_getElem (by omega)⟩
  stop := fun i H' k hi => ⟨vs, ws, (hk H' k).1, (hk H' k).2, by
    have hl := DpAll.length hd
    have hl' := DpAll.length he
    have h : (ds.zip es).length ≤ i := by simpa using hi
    rw [List.length_zip] at h; omega⟩
  yld := fun i H' v H2 k hi hy => by
    obtain ⟨T, x, y, rfl, n, rfl, hx, hy⟩ := hy
    obtain ⟨d, h1, h2⟩ := DpAll.getV hd (hx _ (hk H' k).1)
    obtain ⟨e, h3, h4⟩ := DpAll.getV he (hy _ (hk H' k).2)
    refine ⟨upd_ext n, .tuple [d, e], by rw [List.getElem?_map, (List.getElem?_zip_eq_some (z := (d, e))).mpr ⟨h1, h3⟩]; rfl, ?_, fun M' m e => ?_⟩
    · have := okDL_get o h1
      have := okDL_get o' h3
      simp [okD, okDL, *]
    · exact .tup (.of ((e T n).trans upd_same)) (DpAll.two (Dp.mono m h2) (Dp.mono m h4))
theorem Wk.zipT {a b : Addr} {vs ws : List V} {ds es : List PyData} {Kp : Hp → Prop} (hk : ∀ H', Kp H' → SqT K H' a vs ∧ SqT K H' b ws) (hd : DpAll K M vs ds) (he : DpAll K M ws es) (o : okDL ds = true) (o' : okDL es = true) : Wk K (RZ.ItzT K a b) ((ds.zip es).map fun p => .tuple [p.1, p.2]) Kp M where
  go := fun i H' k hi => by
    have hl := DpAll.length hd
    have hl' := DpAll.length he
    have : i < ds.length ∧ i < es.length := by
      have h : i < (ds.zip es).length := by simpa using hi
      rw [List.length_zip] at h; omega
    exact ⟨vs, ws, vs[i], ws[i], (hk H' k).1, (hk H' k).2, List.getElem?_eq_getElem (by omega), List.getElem?_eq_getElem (by omega)⟩
  stop := fun i H' k hi => ⟨vs, ws, (hk H' k).1, (hk H' k).2, by
    have hl := DpAll.length hd
    have hl' := DpAll.length he
    have h : (ds.zip es).length ≤ i := by simpa using hi
    rw [List.length_zip] at h; omega⟩
  yld := fun i H' v H2 k hi hy => by
    obtain ⟨T, x, y, rfl, n, rfl, hx, hy⟩ := hy
    obtain ⟨d, h1, h2⟩ := DpAll.getV hd (hx _ (hk H' k).1)
    obtain ⟨e, h3, h4⟩ := DpAll.getV he (hy _ (hk H' k).2)
    refine ⟨upd_ext n, .tuple [d, e], by rw [List.getElem?_map, (List.getElem?_zip_eq_some (z := (d, e))).mpr ⟨h1, h3⟩]; rfl, ?_, fun M' m e => ?_⟩
    · have := okDL_get o h1
      have := okDL_get o' h3
      simp [okD, okDL, *]
    · exact .tup (.of ((e T n).trans upd_same)) (DpAll.two (Dp.mono m h2) (Dp.mono m h4))
end

/-! ### the iterators' rules -/
section
variable {K : Frag} {mg : Str → Option Value} {W : WX} {X : Cx} {tg : Expr}
theorem PI.weak {e : Expr} {w w' : TI} (h : PI X tg e w) (k : ∀ σ H R, w' σ H R → w σ H R) : PI X tg e w' := ⟨fun pins s σ H R I q => h.run pins s σ H R I (k σ H R q)⟩
theorem PI.or {e : Expr} {w w' : TI} (h : PI X tg e w) (h' : PI X tg e w') : PI X tg e (fun σ H R => w σ H R ∨ w' σ H R) := ⟨fun pins s σ H R I q => q.elim (h.run pins s σ H R I) (h'.run pins s σ H R I)⟩
def tI (K : Frag) (mg : Str → Option Value) (W : WX) (k : ItK) (ps : List Bool) (fl : Sto → Rs (List T)) : TI := fun σ H R => ∃ S L Y, Wf K S L Y σ H ∧
  ((∃ ts ds, fl S = .ok ts ∧ iterT k ps ts = .ok ds ∧ ∀ J H1 bs, Sit K L Y H H1 bs → (∀ Kp, KpOf H1 L ps Kp → Wk K J ds Kp (msk H1 L Y [])) → (k ≠ .range → ds.length ≤ 16777216) → R J H1) ∨ ∃ c pl, fl S = .ex c pl ∧ exP mg W σ H c)
theorem KpOf.one {H1 : Hp} {L : List Addr} {p : Bool} {Kp : Hp → Prop} (h : KpOf H1 L [p] Kp) : ∀ H, Kp H → Same (mask H1 fun b => b ∈ L ∧ p = false) H := fun H k b o e => h H k b o (by
  obtain ⟨e1, n⟩ := mask_some e
  exact mask_of e1 fun z => n ⟨z.1, z.2 p (by simp)⟩)
theorem KpOf.two {H1 : Hp} {L : List Addr} {p p' : Bool} {Kp : Hp → Prop} (h : KpOf H1 L [p, p'] Kp) : ∀ H, Kp H → Same (mask H1 fun b => b ∈ L ∧ p = false) H ∧ Same (mask H1 fun b => b ∈ L ∧ p' = false) H := fun H k => ⟨fun b o e => h H k b o (by
  obtain ⟨e1, n⟩ := mask_some e
  exact mask_of e1 fun z => n ⟨z.1, z.2 p (by simp)⟩), fun b o e => h H k b o (by
  obtain ⟨e1, n⟩ := mask_some e
  exact mask_of e1 fun z => n ⟨z.1, z.2 p' (by simp)⟩)⟩
/-- the sources are evaluated, then on -/
theorem tI_args {k : ItK} {ps : List Bool} {fl : Sto → Rs (List T)} {σ : L2.St} {H : Hp} {R : It → Hp → Prop} {R' : List V → Hp → Prop} (h : tI K mg W k ps fl σ H R)
    (hr : ∀ L Y H2 ts ds vs bs, iterT k ps ts = .ok ds → Sit K L Y H H2 bs → Args K (msk H2 L Y bs) H2 L H ps ts vs bs → (∀ J, (∀ Kp, KpOf H2 L ps Kp → Wk K J ds Kp (msk H2 L Y [])) → (k ≠ .range → ds.length ≤ 16777216) → R J H2) → R' vs H2) : tA K mg W ps fl σ H R' := by
  obtain ⟨S, L, Y, w, h⟩ := h
  refine ⟨S, L, Y, w, ?_⟩
  rcases h with ⟨ts, ds, e1, e2, q⟩ | ⟨c, pl, e, q⟩
  · exact .inl ⟨ts, e1, fun vs H2 bs si ar => hr L Y H2 ts ds vs bs e2 si ar fun J wk hl => q J H2 bs si wk hl⟩
  · exact .inr ⟨c, pl, e, q⟩
theorem Args.fr1 {M H : Hp} {L : List Addr} {H0 : Hp} {p : Bool} {t : T} {v : V} {bs : List Addr} (a : Args K M H L H0 [p] [t] [v] bs) : ∃ as, RT K M H t v as ∧ (p = false → ∀ a ∈ as, H0 a = none) := by
  cases a with
  | view r n i a => exact ⟨_, r, fun z => by cases z⟩
  | temp r f a => exact ⟨_, r, fun _ => f⟩
theorem Args.fr2 {M H : Hp} {L : List Addr} {H0 : Hp} {p p' : Bool} {t t' : T} {v v' : V} {bs : List Addr} (a : Args K M H L H0 [p, p'] [t, t'] [v, v'] bs) : ∃ as as', RT K M H t v as ∧ RT K M H t' v' as' ∧ (p = false → ∀ a ∈ as, H0 a = none) ∧ (p' = false → ∀ a ∈ as', H0 a = none) := by
  cases a with
  | view r n i a =>
    cases a with
    | view r2 n i a => exact ⟨_, _, r, r2, fun z => (by cases z), fun z => by cases z⟩
    | temp r2 f a => exact ⟨_, _, r, r2, fun z => (by cases z), fun _ => f⟩
  | temp r f a =>
    cases a with
    | view r2 n i a => exact ⟨_, _, r, r2, fun _ => f, fun z => by cases z⟩
    | temp r2 f2 a => exact ⟨_, _, r, r2, fun _ => f, fun _ => f2⟩
end
end Dz
namespace Dz
open PySem PySem.Spec PyProof.Rows L2

/-! ### wiped slots -/
theorem wipe_get {σ : L2.St} : ∀ {vs : List Nat} {i : Nat}, (wipe σ vs)[i]? = if i ∈ vs then (σ[i]?).map (fun _ => none) else σ[i]?
  | [], i => by simp [wipe]
  | v :: vs, i => by
    have hl := wipe_length σ vs
    simp only [wipe, List.mem_cons]
    by_cases h : v = i
    · subst h
      by_cases hi : v < σ.length
      · rw [List.getElem?_set_self (by omega)]
        simp [List.getElem?_eq_getElem hi]
      · rw [List.getElem?_eq_none (by simp; omega)]
        simp [List.getElem?_eq_none (by omega : σ.length ≤ v)]
    · rw [List.getElem?_set_ne h, wipe_get]
      have : (i = v ∨ i ∈ vs) ↔ i ∈ vs := ⟨fun z => z.resolve_left fun e => h e.symm, .inr⟩
      simp [this]
theorem wipe_of {σ τ : L2.St} {vs : List Nat} (h : ∀ i, i ∉ vs → τ[i]? = (wipe σ vs)[i]?) (hl : τ.length = σ.length) : wipe τ vs = wipe σ vs := by
  apply List.ext_getElem?
  intro i
  rw [wipe_get, wipe_get]
  by_cases hi : i ∈ vs
  · simp only [hi, if_true]
    by_cases hb : i < σ.length
    · rw [List.getElem?_eq_getElem hb, List.getElem?_eq_getElem (by omega : i < τ.length)]; rfl
    · rw [List.getElem?_eq_none (by omega : τ.length ≤ i), List.getElem?_eq_none (by omega : σ.length ≤ i)]
  · simp only [hi, if_false]
    rw [h i hi, wipe_get, if_neg hi]

/-! ### stores, owned less -/
section
variable {K : Frag} {mg : Str → Option Value} {W : WX} {X : Cx}
/-- what a smaller store lets go is kept aside -/
theorem Wf.less {S S2 : Sto} {L L' : List Addr} {Y : AS} {σ σ2 : L2.St} {H : Hp} (w : Wf K S L Y σ H) (h : SR K (mask H fun b => b ∈ L ∨ Y b) H S2 σ2 L') (s : L'.Sublist L) :
    Wf K S2 L' (fun b => Y b ∨ (b ∈ L ∧ b ∉ L')) σ2 H where
  sr := SR.mono (mask_mono (Same.refl H) fun b _ z => by
    rcases z with z | z | z
    · exact .inl (s.subset z)
    · exact .inr z
    · exact .inl z.1) (fun _ _ => rfl) h
  nd := w.nd.sublist s
  ap := fun a ha z => by
    rcases z with z | z
    · exact w.ap a (s.subset ha) z
    · exact z.2 ha
  xl := fun a ha => by
    rcases ha with ha | ha
    · exact w.xl a ha
    · exact w.sr.own a ha.1
/-- more is kept aside -/
theorem Wf.more {S : Sto} {L : List Addr} {Y Y' : AS} {σ : L2.St} {H : Hp} (w : Wf K S L Y σ H) (sub : ∀ b, Y b → Y' b) (ap : ∀ a ∈ L, ¬ Y' a) (xl : AllLst H Y') (h : SR K (mask H fun b => b ∈ L ∨ Y' b) H S σ L) : Wf K S L Y' σ H := ⟨h, w.nd, ap, xl⟩
theorem SR.killAll {M H : Hp} : ∀ {tg : List Nat} {S : Sto} {σ : L2.St} {L : List Addr}, SR K M H S σ L → ∃ L', SR K M H (killS S tg) (wipe σ tg) L' ∧ L'.Sublist L
  | [], S, σ, L, h => ⟨L, h, List.Sublist.refl _⟩
  | i :: is, S, σ, L, h => by
    obtain ⟨L1, h1, s1⟩ := SR.killAll (tg := is) h
    obtain ⟨L2, h2, s2⟩ := h1.kill i none
    exact ⟨L2, h2, s2.trans s1⟩
theorem SR.killAll' {M H : Hp} : ∀ {tg : List Nat} {S : Sto} {σ : L2.St} {L : List Addr}, SR K M H S σ L → ∃ L', SR K M H (killS S tg) σ L' ∧ L'.Sublist L
  | [], S, σ, L, h => ⟨L, h, List.Sublist.refl _⟩
  | i :: is, S, σ, L, h => by
    obtain ⟨L1, h1, s1⟩ := SR.killAll' (tg := is) h
    obtain ⟨L2, h2, s2⟩ := h1.kill' i
    exact ⟨L2, h2, s2.trans s1⟩
theorem killS_length {S : Sto} : ∀ {tg : List Nat}, (killS S tg).length = S.length
  | [] => rfl
  | i :: is => by simp [killS, killS_length (tg := is)]
/-- frozen things are stored -/
theorem SR.setFz {M H : Hp} {S : Sto} {σ : L2.St} {L : List Addr} {i : Nat} {d : PyData} {v : V} (h : SR K M H S σ L) (hi : i < S.length) (hd : Dp K M v d) (o : okD d = true) : ∃ L', SR K M H (S.set i (some (.fz d))) (σ.set i (some v)) L' ∧ L'.Sublist L := by
  obtain ⟨L1, L2, h1, h2⟩ := h.set hi (.fz hd o)
  exact ⟨L1 ++ L2, by simpa using h1, h2⟩
theorem set_big {α : Type} {l : List α} {i : Nat} {x : α} (h : ¬ i < l.length) : l.set i x = l := List.set_eq_of_length_le (by omega)
theorem SR.setFz' {M H : Hp} {S : Sto} {σ : L2.St} {L : List Addr} {i : Nat} {d : PyData} {v : V} (h : SR K M H S σ L) (hd : Dp K M v d) (o : okD d = true) : ∃ L', SR K M H (S.set i (some (.fz d))) (σ.set i (some v)) L' ∧ L'.Sublist L := by
  by_cases hi : i < S.length
  · exact h.setFz hi hd o
  · rw [set_big hi, set_big (by rw [h.length]; exact hi)]
    exact ⟨L, h, List.Sublist.refl _⟩
theorem SR.setAllFz {M H : Hp} : ∀ {tg : List Nat} {ds : List PyData} {vs : List V} {S S' : Sto} {σ : L2.St} {L : List Addr}, SR K M H S σ L → DpAll K M vs ds → okDL ds = true → setAll S tg (ds.map .fz) = some S' →
    ∃ σ' L', SR K M H S' σ' L' ∧ L'.Sublist L ∧ (∀ i, i ∉ tg → σ'[i]? = σ[i]?) ∧ σ'.length = σ.length ∧ ∀ Q : L2.St → Hp → Prop, Q σ' H → (tg.map gName).foldr gCons gNil vs σ H Q
  | [], [], _, S, S', σ, L, h, .nil, o, e => by
    simp only [List.map_nil, setAll, Option.some.injEq] at e; subst e
    exact ⟨σ, L, h, List.Sublist.refl _, fun _ _ => rfl, rfl, fun Q q => ⟨rfl, q⟩⟩
  | i :: is, d :: ds, _, S, S', σ, L, h, .cons hd hs, o, e => by
    simp only [okDL, Bool.and_eq_true] at o
    simp only [List.map_cons, setAll] at e
    obtain ⟨L1, h1, s1⟩ := h.setFz' (i := i) hd o.1
    obtain ⟨σ', L', h2, s2, k1, k2, k3⟩ := SR.setAllFz (tg := is) h1 hs o.2 e
    refine ⟨σ', L', h2, s2.trans s1, fun j hj => ?_, by rw [k2]; simp, fun Q q => ⟨_, _, rfl, k3 Q q⟩⟩
    have : i ≠ j := fun z => hj (by simp [z])
    rw [k1 j fun z => hj (by simp [z]), List.getElem?_set_ne this]
  | [], _ :: _, _, _, _, _, _, _, _, _, e => by simp [setAll] at e
  | _ :: _, [], _, _, _, _, _, _, _, _, e => by simp [setAll] at e

/-! ### targets -/
def gU (K : Frag) (n : Nat) (t : TGs) : TG := fun v σ H Q => gTup K n t v σ H Q ∨ gLst K n t v σ H Q
def gT (K : Frag) (tg : List Nat) (tu : Bool) : TG := if tu then gU K tg.length ((tg.map gName).foldr gCons gNil) else gName (tg.headD 0)
theorem pg_u {es : List Expr} {k : Nat} {t : TGs} {n : Nat} {pos : Pos} (hc : X.calm = true) (h : PGs X es t) (hn : (assignEach es X.env).length = n) (hst : (assignEach es X.env).findIdx? (·.1) = none) : PG X (.Tuple es k pos) (gU X.K n t) :=
  ⟨fun pins s σ H v u Q I r q => q.elim ((pg_tup hc h hn hst).run pins s σ H v u Q I r) ((pg_lst hc h hn hst).run pins s σ H v u Q I r)⟩
/-- a target takes a frozen thing -/
theorem tg_ok {M H : Hp} {tg : List Nat} {tu : Bool} {d : PyData} {v : V} {S S' : Sto} {σ : L2.St} {L : List Addr} (h : SR K M H S σ L) (m : Same M H) (hd : Dp K M v d) (o : okD d = true) (e : bindTg S tg tu d = some S') :
    ∃ σ' L', SR K M H S' σ' L' ∧ L'.Sublist L ∧ (∀ i, i ∉ tg → σ'[i]? = σ[i]?) ∧ σ'.length = σ.length ∧ ∀ Q : L2.St → Hp → Prop, Q σ' H → gT K tg tu v σ H Q := by
  cases tu with
  | true =>
    simp only [bindTg, if_true, Option.bind_eq_some_iff] at e
    obtain ⟨ds, e1, e2⟩ := e
    have hn : tg.length = ds.length := by
      have : ∀ {tg : List Nat} {ts : List T} {S S' : Sto}, setAll S tg ts = some S' → tg.length = ts.length := by
        intro tg
        induction tg with
        | nil => intro ts S S' h; cases ts with
          | nil => rfl
          | cons a b => simp [setAll] at h
        | cons i is ih => intro ts S S' h; cases ts with
          | nil => simp [setAll] at h
          | cons a b => simp only [setAll] at h; simp [ih h]
      simpa using this e2
    cases hd with
    | lst h1 hs =>
      simp only [dseq, Option.some.injEq] at e1; subst e1
      obtain ⟨σ', L', a, b, c, d, q⟩ := h.setAllFz hs (okD_list.mp o).2 e2
      exact ⟨σ', L', a, b, c, d, fun Q z => .inr ⟨_, _, rfl, m.seq h1, by rw [DpAll.length hs, hn], q Q z⟩⟩
    | tup h1 hs =>
      simp only [dseq, Option.some.injEq] at e1; subst e1
      obtain ⟨σ', L', a, b, c, d, q⟩ := h.setAllFz hs (okD_tuple.mp o).2 e2
      exact ⟨σ', L', a, b, c, d, fun Q z => .inl ⟨_, _, rfl, SqT.mono m h1, by rw [DpAll.length hs, hn], q Q z⟩⟩
    | _ => simp [dseq] at e1
  | false =>
    simp only [bindTg, Bool.false_eq_true, if_false] at e
    match tg, e with
    | [i], e =>
      simp only [setAll, Option.some.injEq] at e; subst e
      obtain ⟨L', h1, s1⟩ := h.setFz' (i := i) hd o
      exact ⟨_, L', h1, s1, fun j hj => List.getElem?_set_ne (fun z => hj (by simp [z])), by simp, fun Q q => q⟩

/-! ### calls -/
def spF (K : Frag) (mg : Str → Option Value) (r : List T → Rs T) : Sp := fun vs H Q E => ∃ us A, AllLst H A ∧ RTs K (mask H A) H us vs [] ∧
  ((∃ t, r us = .ok t ∧ ∀ v H' as, Same H H' → as.Nodup → (∀ a ∈ as, H a = none) → RT K (mask H' fun b => A b ∨ b ∈ as) H' t v as → Q v H') ∨ ∃ c pl, r us = .ex c pl ∧ ∀ C H', mg c = some (.ref C) → Same H H' → E (.ref C) none H')
def OrcOk (P : Program) (w : World) (K : Frag) (mg : Str → Option Value) (base : Heap) (k : Nat) (D : List Str) (orc : Str → List T → Rs T) : Prop :=
  ∀ g ∈ D, ∃ f fd ps, mg g = some (.ref f) ∧ PySem.W.keepIn K (.ref f) = true ∧ Binds K fd ps [] ∧ FnOk P w K mg base (L2.CX P w) k f fd ps (spF K mg (orc g))
theorem frzL_all {M M' H H0 : Hp} {L : List Addr} : ∀ {ps : List Bool} {ts us : List T} {vs : List V} {bs : List Addr}, Args K M H L H0 ps ts vs bs → Same M M' → (∀ a ∈ bs, M' a = H a) → (∀ b ∈ ps.zip ts, b.1 = true → b.2.isFz = true ∨ ∀ a ∈ L, M' a = H a) → T.frzL ts = some us → RTs K M' H us vs []
  | _, _, _, _, _, .nil, m, e, z, q => by
    simp only [T.frzL, Option.some.injEq] at q; subst q; exact .nil
  | _, _, _, _, _, .view (t := t) (ts := ts) r n i h, m, e, z, q => by
    simp only [T.frzL] at q
    cases z1 : t.frz with
    | none => rw [z1] at q; simp at q
    | some x =>
      cases z2 : T.frzL ts with
      | none => rw [z1, z2] at q; simp at q
      | some xs =>
        rw [z1, z2] at q; simp only [Option.some.injEq] at q; subst q
        refine .cons (as := []) (bs := []) (r.frz m (fun a ha => ?_) z1) (frzL_all h m e (fun b hb => z b (by simp [hb])) z2)
        rcases z (true, t) (by simp) rfl with y | y
        · rw [r.isFz y] at ha; cases ha
        · exact y a (i a ha)
  | _, _, _, _, _, .temp (t := t) (ts := ts) r f h, m, e, z, q => by
    simp only [T.frzL] at q
    cases z1 : t.frz with
    | none => rw [z1] at q; simp at q
    | some x =>
      cases z2 : T.frzL ts with
      | none => rw [z1, z2] at q; simp at q
      | some xs =>
        rw [z1, z2] at q; simp only [Option.some.injEq] at q; subst q
        exact .cons (as := []) (bs := []) (r.frz m (fun a ha => e a (by simp [ha])) z1) (frzL_all h m (fun a ha => e a (by simp [ha])) (fun b hb => z b (by simp [hb])) z2)
theorem call_ok {es : List IE} {fl : Sto → Rs (List T)} {orc : List T → Rs T} {σ : L2.St} {H : Hp} {Q : VK}
    (h : tE K mg W false (fun S => do let ts ← fl S; match T.frzL ts with | some us => callT (orc us) ((es.zip ts).any fun p => isBor p.1 p.2) | none => Rs.st) σ H Q) :
    tA K mg W (es.map (·.isPath)) fl σ H fun vs H1 => spF K mg orc vs H1 Q (WE W σ) := by
  obtain ⟨S, L, Y, w, h⟩ := h
  refine ⟨S, L, Y, w, ?_⟩
  cases ef : fl S with
  | st => rcases h with ⟨t, e, _⟩ | ⟨c, pl, e, _⟩ <;> simp [ef] at e
  | ex c pl =>
    rcases h with ⟨t, e, _⟩ | ⟨c', pl', e, q⟩
    · simp [ef] at e
    · simp only [ef, Rs.bind_ex, Rs.ex.injEq] at e
      exact .inr ⟨c, pl, rfl, by rw [e.1]; exact q⟩
  | ok ts =>
    refine .inl ⟨ts, rfl, fun vs H1 bs si ar => ?_⟩
    simp only [ef, Rs.bind_ok] at h
    cases ez : T.frzL ts with
    | none => rw [ez] at h; rcases h with ⟨t, e, _⟩ | ⟨c, pl, e, _⟩ <;> cases e
    | some us =>
      rw [ez] at h
      simp only at h
      have hbs : ∀ a ∈ bs, msk H1 L Y [] a = H1 a := fun a ha => by
        obtain ⟨ws, e⟩ := ar.own a ha
        rw [e]
        refine mask_of e fun z => ?_
        rcases z with z | z
        · exact si.old a z (ar.fresh a ha)
        · cases z
      have full : RTs K (mask H1 fun _ => False) H1 us vs [] := by
        refine frzL_all ar (mask_mono (Same.refl _) fun _ _ z => z.elim) (fun a ha => ?_) (fun b hb _ => .inr fun a ha => ?_) ez
        · obtain ⟨ws, e⟩ := ar.own a ha; rw [e]; exact mask_of e fun z => z
        · obtain ⟨ws, e⟩ := si.lst a (.inl ha); rw [e]; exact mask_of e fun z => z
      cases bo : ((es.zip ts).any fun p => isBor p.1 p.2) with
      | false =>
        rw [bo] at h
        have hz : ∀ b ∈ (es.map (·.isPath)).zip ts, b.1 = true → b.2.isFz = true := by
          intro b hb hb1
          rw [List.any_eq_false] at bo
          obtain ⟨i, hi⟩ := List.getElem?_of_mem hb
          rw [List.getElem?_zip_eq_some, List.getElem?_map] at hi
          obtain ⟨h1, h2⟩ := hi
          simp only [Option.map_eq_some_iff] at h1
          obtain ⟨e0, he0, hp⟩ := h1
          have := bo (e0, b.2) (List.mem_of_getElem? ((List.getElem?_zip_eq_some (z := (e0, b.2))).mpr ⟨he0, h2⟩))
          have hp' : e0.isPath = true := hp.trans hb1
          simpa [isBor, hp'] using this
        refine ⟨us, fun b => b ∈ L ∨ Y b, si.lst, ?_, ?_⟩
        · have := frzL_all ar si.msk_none hbs (fun b hb hb1 => .inl (hz b hb hb1)) ez
          refine this.mono (mask_mono (Same.refl _) fun b _ z => .inl z) fun _ _ => rfl
        · rcases h with ⟨t, e, q⟩ | ⟨c, pl, e, q⟩
          · cases eo : orc us with
            | st => rw [eo] at e; cases e
            | ex c p => rw [eo] at e; cases e
            | ok t0 =>
              rw [eo] at e
              simp only [callT, Bool.false_and, Bool.false_eq_true, if_false, Rs.ok.injEq] at e; subst e
              exact .inl ⟨t0, rfl, fun v H' as s nd fr rt => q v H' as (si.same.trans s) nd (by simpa using fun a ha => Same.free si.same (fr a ha)) rt⟩
          · cases eo : orc us with
            | st => rw [eo] at e; cases e
            | ok t0 => rw [eo] at e; simp [callT] at e
            | ex c' p' =>
              rw [eo] at e
              simp only [callT, Rs.ex.injEq] at e
              exact .inr ⟨c', p', rfl, fun C H' m s => q C H' (by rw [← e.1]; exact m) (si.same.trans s)⟩
      | true =>
        rw [bo] at h
        refine ⟨us, fun _ => False, fun _ z => z.elim, full, ?_⟩
        rcases h with ⟨t, e, q⟩ | ⟨c, pl, e, q⟩
        · cases eo : orc us with
          | st => rw [eo] at e; cases e
          | ex c p => rw [eo] at e; cases e
          | ok t0 =>
            rw [eo] at e
            simp only [callT, Bool.true_and] at e
            split at e
            · cases e
            · rename_i hi
              simp only [Rs.ok.injEq] at e; subst e
              refine .inl ⟨t0, rfl, fun v H' as s nd fr rt => q v H' as (si.same.trans s) nd (by simpa using fun a ha => Same.free si.same (fr a ha)) ?_⟩
              refine rt.anyMask (fun a ha => ?_) (by simpa using hi)
              rcases ha with ha | ha
              · obtain ⟨ws, e⟩ := si.lst a ha; exact ⟨ws, s _ _ e⟩
              · exact rt.own a ha
        · cases eo : orc us with
          | st => rw [eo] at e; cases e
          | ok t0 =>
            rw [eo] at e
            simp only [callT] at e
            split at e <;> cases e
          | ex c' p' =>
            rw [eo] at e
            simp only [callT, Rs.ex.injEq] at e
            exact .inr ⟨c', p', rfl, fun C H' m s => q C H' (by rw [← e.1]; exact m) (si.same.trans s)⟩
end
end Dz
namespace Dz
open PySem PySem.Spec PyProof.Rows L2

abbrev W0 : WX := fun _ _ _ _ => False
section
variable {K : Frag} {mg : Str → Option Value} {W : WX}
theorem lcLoop_cons {bindF : PyData → Option Sto} {cond : Sto → Rs Bool} {elt : Sto → Rs T} {d : PyData} {ds : List PyData} {r : List T} (h : lcLoop bindF cond elt (d :: ds) = .ok r) :
    ∃ S1, bindF d = some S1 ∧ ((cond S1 = .ok true ∧ ∃ t r', elt S1 = .ok t ∧ lcLoop bindF cond elt ds = .ok r' ∧ r = t :: r') ∨ (cond S1 = .ok false ∧ lcLoop bindF cond elt ds = .ok r)) := by
  simp only [lcLoop] at h
  cases e : bindF d with
  | none => rw [e] at h; cases h
  | some S1 =>
    rw [e] at h
    refine ⟨S1, rfl, ?_⟩
    simp only at h
    obtain ⟨c, e1, h⟩ := Rs.bind_ok_iff h
    cases c with
    | true =>
      simp only [if_true] at h
      obtain ⟨t, e2, h⟩ := Rs.bind_ok_iff h
      obtain ⟨r', e3, h⟩ := Rs.bind_ok_iff h
      simp only [Rs.pure_eq, Rs.ok.injEq] at h
      exact .inl ⟨e1, t, r', e2, e3, h.symm⟩
    | false =>
      simp only [Bool.false_eq_true, if_false] at h
      exact .inr ⟨e1, h⟩
theorem lcLoop_len {bindF : PyData → Option Sto} {cond : Sto → Rs Bool} {elt : Sto → Rs T} : ∀ {ds : List PyData} {r : List T}, lcLoop bindF cond elt ds = .ok r → r.length ≤ ds.length
  | [], r, h => by cases h; exact Nat.le_refl 0
  | d :: ds, r, h => by
    obtain ⟨S1, _, (⟨_, t, r', _, e, rfl⟩ | ⟨_, e⟩)⟩ := lcLoop_cons h
    · have := lcLoop_len e; simp; omega
    · have := lcLoop_len e; simp; omega
/-- a comprehension -/
theorem lc_ok {k : ItK} {ps : List Bool} {fl : Sto → Rs (List T)} {tg : List Nat} {tu : Bool} {cond : Sto → Rs Bool} {elt : Sto → Rs T} {σ : L2.St} {H : Hp} {Q : VK}
    (h : tE K mg W false (fun S => do let ts ← fl S; let ds ← iterT k ps ts; let _ ← chk (k != .range || decide (ds.length ≤ 16777216)); let r ← lcLoop (fun d => bindTg (killS S tg) tg tu d) cond elt ds; return .ow r) σ H Q)
    (hx : ∀ S ds c pl, lcLoop (fun d => bindTg (killS S tg) tg tu d) cond elt ds ≠ .ex c pl) :
    tLc (tI K mg W k ps fl) (gT K tg tu) (tT K mg W0 cond) (tE K mg W0 false elt) tg σ H Q := by
  obtain ⟨S, L, Y, w, h⟩ := h
  refine ⟨S, L, Y, w, ?_⟩
  cases ef : fl S with
  | st => rcases h with ⟨t, e, _⟩ | ⟨c, pl, e, _⟩ <;> simp [ef] at e
  | ex c pl =>
    rcases h with ⟨t, e, _⟩ | ⟨c', pl', e, q⟩
    · simp [ef] at e
    · simp only [ef, Rs.bind_ex, Rs.ex.injEq] at e
      exact .inr ⟨c, pl, rfl, by rw [e.1]; exact q⟩
  | ok ts =>
    have main : ∃ ds r, iterT k ps ts = .ok ds ∧ (k ≠ .range ∨ ds.length ≤ 16777216) ∧ lcLoop (fun d => bindTg (killS S tg) tg tu d) cond elt ds = .ok r ∧
        ∀ v H' as, Same H H' → as.Nodup → (∀ a ∈ as, H a = none) → RT K (mask H' fun b => (b ∈ L ∨ Y b) ∨ b ∈ as) H' (.ow r) v as → Q v H' := by
      rcases h with ⟨t, e, q⟩ | ⟨c, pl, e, q⟩
      · simp only [ef, Rs.bind_ok] at e
        obtain ⟨ds, e1, e⟩ := Rs.bind_ok_iff e
        obtain ⟨_, e2, e⟩ := Rs.bind_ok_iff e
        obtain ⟨r, e3, e⟩ := Rs.bind_ok_iff e
        simp only [Rs.pure_eq, Rs.ok.injEq] at e; subst e
        refine ⟨ds, r, e1, ?_, e3, fun v H' as s nd fr rt => q v H' as s nd (by simpa using fr) rt⟩
        unfold chk at e2
        split at e2
        · rename_i hc
          simpa using hc
        · cases e2
      · exfalso
        simp only [ef, Rs.bind_ok] at e
        cases e1 : iterT k ps ts with
        | st => simp [e1] at e
        | ex c' p' =>
          unfold iterT at e1
          split at e1 <;> (try split at e1) <;> (try split at e1) <;> (try split at e1) <;> cases e1
        | ok ds =>
          simp only [e1, Rs.bind_ok] at e
          unfold chk at e
          split at e
          · simp only [Rs.bind_ok] at e
            cases e3 : lcLoop (fun d => bindTg (killS S tg) tg tu d) cond elt ds with
            | st => simp [e3] at e
            | ok r => simp [e3] at e
            | ex c' p' => exact hx S ds c' p' e3
          · simp at e
    obtain ⟨ds, r, e1, hlen0, e3, q⟩ := main
    refine .inl ⟨ts, ds, rfl, e1, fun J H1 bs si wk hlr D nD => ?_⟩
    have hlen : ds.length ≤ 16777216 := hlen0.elim hlr id
    have kp : KpOf H1 L ps (fun H' => Same H1 H') := fun H' s b o e => s _ _ (mask_some e).1
    have WK := wk _ kp
    have hD : ¬ (D ∈ L ∨ Y D) := si.notOld nD
    refine ⟨fun i m H2 => i ≤ ds.length ∧ m = ds.length - i ∧ Same H1 H2 ∧ ∃ acc accT as, H2 D = some (.lst acc) ∧ RTs K (mask H2 fun b => (b ∈ L ∨ Y b) ∨ b ∈ D :: as) H2 accT acc as ∧ as.Nodup ∧ D ∉ as ∧ (∀ a ∈ as, H1 a = none) ∧ acc.length ≤ i ∧
      ∃ r', lcLoop (fun d => bindTg (killS S tg) tg tu d) cond elt (ds.drop i) = .ok r' ∧ r = accT ++ r', ⟨ds.length, Nat.zero_le _, by simp, upd_ext nD, [], [], [], upd_same, .nil, List.nodup_nil, by simp, by simp, Nat.le_refl 0, r, by simpa using e3, rfl⟩, fun i m H2 hW => ?_⟩
    obtain ⟨hi, hm, sm, acc, accT, as, eD, ra, nd, nDa, fra, hal, r', el, er⟩ := hW
    by_cases hlt : i < ds.length
    · -- a turn
      refine .inr ⟨WK.go i H2 sm hlt, fun H' => i + 1 ≤ ds.length ∧ Same H1 H' ∧ ∃ acc accT as, H' D = some (.lst acc) ∧ RTs K (mask H' fun b => (b ∈ L ∨ Y b) ∨ b ∈ D :: as) H' accT acc as ∧ as.Nodup ∧ D ∉ as ∧ (∀ a ∈ as, H1 a = none) ∧ acc.length ≤ i + 1 ∧
        ∃ r', lcLoop (fun d => bindTg (killS S tg) tg tu d) cond elt (ds.drop (i + 1)) = .ok r' ∧ r = accT ++ r', fun H' hN => ?_, fun x H3 hy => ?_⟩
      · obtain ⟨a, b, c⟩ := hN
        exact ⟨m - 1, by omega, a, by omega, b, c⟩
      · obtain ⟨s3, d, hd, od, dp⟩ := WK.yld i H2 x H3 sm hlt hy
        have edr : ds.drop i = d :: ds.drop (i + 1) := by
          obtain ⟨h1, h2⟩ := List.getElem?_eq_some_iff.mp hd
          rw [← h2]; exact List.drop_eq_getElem_cons h1
        rw [edr] at el
        obtain ⟨S1, eb, el⟩ := lcLoop_cons el
        -- the block's store
        have s13 : Same H1 H3 := sm.trans s3
        have frA : ∀ a ∈ D :: as, H1 a = none := fun a ha => by
          rcases List.mem_cons.mp ha with rfl | ha
          · exact nD
          · exact fra a ha
        have own2 : ∀ a ∈ D :: as, ∃ vs, H2 a = some (.lst vs) := fun a ha => by
          rcases List.mem_cons.mp ha with rfl | ha
          · exact ⟨acc, eD⟩
          · exact ra.own a ha
        have w1 := w.mono si.same
        have k0 : SR K (mask H3 fun b => (b ∈ L ∨ Y b) ∨ b ∈ D :: as) H3 S σ L := SR.mono (mask_mono s13 fun b hb z => z.elim id fun z => absurd (frA b z) hb) (fun a ha => by obtain ⟨vs, e⟩ := w1.sr.own a ha; rw [e, s13 _ _ e]) w1.sr
        obtain ⟨L1, k1, ks⟩ := SR.killAll (tg := tg) k0
        -- the target takes the item; all else is kept aside
        have dp3 : Dp K (mask H3 fun b => (b ∈ L ∨ Y b) ∨ b ∈ D :: as) x d := by
          refine dp _ (mask_mono s13 fun b hb z => ?_) fun b hb => ?_
          · rcases z with z | z
            · exact .inl z
            · exact absurd (frA b z) hb
          · unfold mask
            rw [if_neg]
            intro z
            rcases z with z | z
            · obtain ⟨vs, e⟩ := si.lst b z
              rw [sm _ _ e] at hb; cases hb
            · obtain ⟨vs, e⟩ := own2 b z
              rw [e] at hb; cases hb
        obtain ⟨σ2, L2', k2, ks2, kσ, kl, kg⟩ := tg_ok k1 mask_same dp3 od eb
        refine kg _ ⟨?_, ?_⟩
        · refine wipe_of (fun j hj => ?_) (by rw [kl, wipe_length])
          rw [kσ j hj]
        have sub : L2'.Sublist L := ks2.trans ks
        have wY : Wf K S1 L2' (fun b => (Y b ∨ (b ∈ L ∧ b ∉ L2')) ∨ b ∈ D :: as) σ2 H3 := by
          refine ⟨SR.mono (mask_mono (Same.refl _) fun b _ z => ?_) (fun _ _ => rfl) k2, w.nd.sublist sub, fun a ha z => ?_, fun a ha => ?_⟩
          · rcases z with z | (z | z) | z
            · exact .inl (.inl (sub.subset z))
            · exact .inl (.inr z)
            · exact .inl (.inl z.1)
            · exact .inr z
          · rcases z with (z | z) | z
            · exact w.ap a (sub.subset ha) z
            · exact z.2 ha
            · exact si.notOld (frA a z) (.inl (sub.subset ha))
          · rcases ha with (ha | ha) | ha
            · obtain ⟨vs, e⟩ := si.lst a (.inr ha); exact ⟨vs, s13 _ _ e⟩
            · obtain ⟨vs, e⟩ := si.lst a (.inl ha.1); exact ⟨vs, s13 _ _ e⟩
            · obtain ⟨vs, e⟩ := own2 a ha; exact ⟨vs, s3 _ _ e⟩
        rcases el with ⟨ec, t, r'', et, el2, er2⟩ | ⟨ec, el2⟩
        · refine ⟨S1, L2', _, wY, .inl ⟨true, ec, fun H4 s4 => ?_⟩⟩
          refine L2.iteT ?_
          refine ⟨S1, L2', _, wY.mono s4, .inl ⟨t, et, fun y H5 as5 s5 nd5 fr5 rt5 => ?_⟩⟩
          simp only [Bool.false_eq_true, if_false] at fr5
          have s24 : Same H2 H4 := s3.trans s4
          have s25 : Same H2 H5 := s24.trans s5
          refine ⟨acc, s25 _ _ eD, by rw [sizeLine_eq]; omega, by omega, ?_, acc ++ [y], accT ++ [t], as ++ as5, upd_same, ?_, ?_, ?_, ?_, by simp; omega, r'', el2, by rw [er, er2]; simp⟩
          · intro b o e
            rw [upd_ne (fun z => by subst z; rw [nD] at e; cases e)]
            exact s25 _ _ (sm _ _ e)
          · have nfr : ∀ b, H2 b ≠ none → b ∉ as5 := fun b hb z => hb (Same.free s24 (fr5 b z))
            refine RTs.app (bs := as5) (ra.mono (fun b o e => ?_) fun a ha => ?_) ?_
            · obtain ⟨e1, n⟩ := mask_some e
              have hbD : b ≠ D := fun z => n (.inr (by simp [z]))
              refine mask_of (by rw [upd_ne hbD]; exact s25 _ _ e1) fun z => ?_
              rcases z with z | z
              · exact n (.inl z)
              · rcases List.mem_cons.mp z with z | z
                · exact hbD z
                · rcases List.mem_append.mp z with z | z
                  · exact n (.inr (by simp [z]))
                  · exact nfr b (by rw [e1]; simp) z
            · have : a ≠ D := fun z => nDa (z ▸ ha)
              obtain ⟨vs, e⟩ := ra.own a ha
              rw [upd_ne this, e, s25 _ _ e]
            · have : RT K (mask (upd H5 D (.lst (acc ++ [y]))) fun b => (b ∈ L ∨ Y b) ∨ b ∈ D :: (as ++ as5)) (upd H5 D (.lst (acc ++ [y]))) t y as5 := by
                refine rt5.mono (fun b o e => ?_) fun a ha => ?_
                · obtain ⟨e1, n⟩ := mask_some e
                  have hbD : b ≠ D := fun z => n (.inl (.inr (.inr (by simp [z]))))
                  refine mask_of (by rw [upd_ne hbD]; exact e1) fun z => ?_
                  rcases z with (z | z) | z
                  · by_cases hb2 : b ∈ L2'
                    · exact n (.inl (.inl hb2))
                    · exact n (.inl (.inr (.inl (.inr ⟨z, hb2⟩))))
                  · exact n (.inl (.inr (.inl (.inl z))))
                  · rcases List.mem_cons.mp z with z | z
                    · exact hbD z
                    · rcases List.mem_append.mp z with z | z
                      · exact n (.inl (.inr (.inr (by simp [z]))))
                      · exact n (.inr z)
                · have : a ≠ D := fun z => by
                    have := fr5 a ha
                    rw [z, s24 _ _ eD] at this; cases this
                  rw [upd_ne this]
              simpa using RTs.cons (bs := []) this .nil
          · refine List.nodup_append.mpr ⟨nd, nd5, fun a ha b hb z => ?_⟩
            subst z
            obtain ⟨vs, e⟩ := ra.own a ha
            have := fr5 a hb
            rw [s24 _ _ e] at this; cases this
          · intro z
            rcases List.mem_append.mp z with z | z
            · exact nDa z
            · have := fr5 D z
              rw [s24 _ _ eD] at this; cases this
          · intro a ha
            rcases List.mem_append.mp ha with ha | ha
            · exact fra a ha
            · exact Same.free sm (Same.free s24 (fr5 a ha))
        · refine ⟨S1, L2', _, wY, .inl ⟨false, ec, fun H4 s4 => ?_⟩⟩
          refine L2.iteF ?_
          have s24 : Same H2 H4 := s3.trans s4
          exact ⟨by omega, sm.trans s24, acc, accT, as, s24 _ _ eD, ra.mono (mask_mono s24 fun b _ z => z) (fun a ha => by obtain ⟨vs, e⟩ := ra.own a ha; rw [e, s24 _ _ e]), nd, nDa, fra, by omega, r', el2, er⟩
    · have hie : ds.length ≤ i := by omega
      have : ds.drop i = [] := List.drop_eq_nil_of_le hie
      rw [this] at el
      simp only [lcLoop, Rs.ok.injEq] at el
      subst el
      rw [List.append_nil] at er
      subst er
      refine .inl ⟨WK.stop i H2 sm hie, q (.ref D) H2 (D :: as) (si.same.trans sm) (List.nodup_cons.mpr ⟨nDa, nd⟩) (fun a ha => ?_) (.ow eD (by rw [← ra.length]; omega) ra)⟩
      rcases List.mem_cons.mp ha with rfl | ha
      · exact Same.free si.same nD
      · exact Same.free si.same (fra a ha)
end
end Dz
namespace Dz
open PySem PySem.Spec PyProof.Rows L2

def bltNames : List Str := ["len", "list", "tuple", "max", "min", "int", "range", "enumerate", "zip", "isinstance", "str", "bool"]
structure XOk (G : Str → Option PyData) (D N : List Str) (k : Nat) (orc : Str → List T → Rs T) (sc : Scope) (W : WX) (X : Cx) : Prop where
  hN : X.N = N
  hs : X.env.scope = sc
  kd : sc.kind = .function
  nd : N.Nodup
  calm : X.calm = true
  room : Room k X.A
  gl : ∀ x d, G x = some d → ∃ u v, X.mg x = some u ∧ RelV v u ∧ (∀ M, Dp X.K M v d) ∧ okD d = true
  blt : ∀ x ∈ bltNames, X.mg x = none
  orc : OrcOk X.prog X.w X.K X.mg X.base k D orc
  tk : Takes X W

section
variable {G : Str → Option PyData} {D N : List Str} {k : Nat} {orc : Str → List T → Rs T} {sc : Scope} {W : WX} {X : Cx}
theorem XOk.units (x : XOk G D N k orc sc W X) : X.A.units + 100 < cLine := by have := x.room.un; omega
theorem dbg_iff {x : Str} (h : dbg x = true) : (x == ("__debug__" : Str)) = false ∧ (x == ("__classdict__" : Str)) = false := by
  simp only [dbg, Bool.and_eq_true, Bool.not_eq_true'] at h
  exact h
theorem glB_iff {x : Str} (x0 : XOk G D N k orc sc W X) (h : glB sc x = true) : Gl X x ∧ (x == ("__debug__" : Str)) = false := by
  simp only [glB, Bool.and_eq_true, decide_eq_true_eq] at h
  exact ⟨by unfold Gl Env.kindOf; rw [x0.hs]; exact h.1, (dbg_iff h.2).1⟩
theorem visB_iff {x : Str} (h : visB sc x = true) : Vis sc x := by
  unfold visB at h
  unfold Vis
  split at h
  · rename_i e; exact .inl e
  · rename_i e; exact .inr (.inl e)
  · rename_i e; exact .inr (.inr e)
  · cases h
theorem locB_iff {x : Str} (h : locB sc x = true) : L2.Loc sc x := by
  unfold locB at h
  unfold L2.Loc
  split at h
  · rename_i e; exact .inl e
  · rename_i e; exact .inr e
  · cases h
theorem chk_star {n : Nat} {sc : Scope} {a : Expr} {p : Pos} {ie : IE} : chkE D N n sc (.Starred a p) ie = false := by
  cases n <;> cases ie <;> rfl
theorem star_of {n : Nat} {sc : Scope} {e : Expr} {ie : IE} (h : chkE D N n sc e ie = true) (es : List Expr) (env : Env) : starEach (e :: es) env = (false, eval e env) :: starEach es env := by
  cases e with
  | Starred a p => rw [chk_star] at h; cases h
  | _ => rfl
/-- a value is used: of a path, a frozen one -/
theorem tE_use {K : Frag} {mg : Str → Option Value} {f : Sto → Rs T} {e : IE} {σ : L2.St} {H : Hp} {Q : VK} (h : tE K mg W false (fun S => do let t ← f S; useT e t) σ H Q) : tE K mg W e.isPath f σ H Q := by
  obtain ⟨S, L, Y, w, h⟩ := h
  refine ⟨S, L, Y, w, ?_⟩
  cases ef : f S with
  | st => rcases h with ⟨t, e, _⟩ | ⟨c, pl, e, _⟩ <;> simp [ef] at e
  | ex c pl =>
    rcases h with ⟨t, e, _⟩ | ⟨c', pl', e, q⟩
    · simp [ef] at e
    · simp only [ef, Rs.bind_ex, Rs.ex.injEq] at e
      exact .inr ⟨c, pl, rfl, by rw [e.1]; exact q⟩
  | ok t =>
    simp only [ef, Rs.bind_ok, useT] at h
    refine .inl ⟨t, rfl, fun v H' as s nd fr rt => ?_⟩
    split at h
    · rcases h with ⟨t, e, _⟩ | ⟨c, pl, e, _⟩ <;> cases e
    · rename_i hc
      rcases h with ⟨t', e, q⟩ | ⟨c, pl, e, _⟩
      · cases e
        refine q v H' as s nd ?_ rt
        cases hp : e.isPath with
        | false => rw [hp] at fr; exact fr
        | true =>
          rw [hp] at hc
          simp only [Bool.true_and, Bool.not_eq_true', Bool.not_eq_false] at hc
          rw [rt.isFz hc]
          intro a ha; cases ha
      · cases e
theorem tE_ne {K : Frag} {mg : Str → Option Value} {p : Bool} {f : Sto → Rs T} {σ : L2.St} {H : Hp} {Q : VK} (h : tE K mg W p (fun S => (f S).ne) σ H Q) : tE K mg W p f σ H Q := by
  obtain ⟨S, L, Y, w, h⟩ := h
  refine ⟨S, L, Y, w, ?_⟩
  rcases h with ⟨t, e, q⟩ | ⟨c, pl, e, _⟩
  · exact .inl ⟨t, Rs.ne_ok_iff e, q⟩
  · cases ef : f S <;> simp only [ef, Rs.ne] at e <;> cases e
theorem tT_ne {K : Frag} {mg : Str → Option Value} {f : Sto → Rs Bool} {σ : L2.St} {H : Hp} {Q : Bool → Hp → Prop} (h : tT K mg W (fun S => (f S).ne) σ H Q) : tT K mg W f σ H Q := by
  obtain ⟨S, L, Y, w, h⟩ := h
  refine ⟨S, L, Y, w, ?_⟩
  rcases h with ⟨t, e, q⟩ | ⟨c, pl, e, _⟩
  · exact .inl ⟨t, Rs.ne_ok_iff e, q⟩
  · cases ef : f S <;> simp only [ef, Rs.ne] at e <;> cases e
theorem tE_cong {K : Frag} {mg : Str → Option Value} {p : Bool} {f g : Sto → Rs T} {σ : L2.St} {H : Hp} {Q : VK} (h : tE K mg W p f σ H Q) (e : ∀ S, f S = g S) : tE K mg W p g σ H Q := by
  rw [show g = f from funext fun S => (e S).symm]; exact h
theorem tE_st {K : Frag} {mg : Str → Option Value} {p : Bool} {σ : L2.St} {H : Hp} {Q : VK} (h : tE K mg W p (fun _ => Rs.st) σ H Q) : False := by
  obtain ⟨S, L, Y, w, h⟩ := h
  rcases h with ⟨t, e, _⟩ | ⟨c, pl, e, _⟩ <;> cases e
theorem PE.stuck {e : Expr} {K : Frag} {mg : Str → Option Value} {p : Bool} : PE X e (tE K mg W p fun _ => Rs.st) := ⟨fun _ _ _ _ _ _ h => (tE_st h).elim⟩
theorem PT.stuck {e : Expr} {K : Frag} {mg : Str → Option Value} : PT X e (tT K mg W fun _ => Rs.st) := ⟨fun _ _ σ H Q _ h => by
  obtain ⟨S, L, Y, w, h⟩ := h
  rcases h with ⟨t, e, _⟩ | ⟨c, pl, e, _⟩ <;> cases e⟩
/-- argument lists -/
theorem pa_all {m : Nat} {f : Expr → IE → Bool} (hf : ∀ e i, f e i = true → PE X e (tE X.K X.mg W i.isPath fun S => ev G orc m S i)) (hst : ∀ e i, f e i = true → ∀ es, starEach (e :: es) X.env = (false, eval e X.env) :: starEach es X.env) :
    ∀ {es : List Expr} {is : List IE}, allB f es is = true → PA X es (tA X.K X.mg W (is.map (·.isPath)) fun S => evL (fun e => ev G orc m S e) is)
  | [], [], _ => PA.weak pa_nil fun σ H Q h => tA_nil h
  | e :: es, i :: is, h => by
    simp only [allB, Bool.and_eq_true] at h
    exact PA.weak (pa_cons (hf e i h.1) (pa_all hf hst h.2) (hst e i h.1 es)) fun σ H Q q => tA_cons q
  | [], _ :: _, h => by simp [allB] at h
  | _ :: _, [], h => by simp [allB] at h
theorem pa_use {m : Nat} {f : Expr → IE → Bool} (hf : ∀ e i, f e i = true → PE X e (tE X.K X.mg W i.isPath fun S => ev G orc m S i)) (hst : ∀ e i, f e i = true → ∀ es, starEach (e :: es) X.env = (false, eval e X.env) :: starEach es X.env) :
    ∀ {es : List Expr} {is : List IE}, allB f es is = true → PA X es (tA X.K X.mg W (is.map fun _ => false) fun S => evL (fun e => do let t ← ev G orc m S e; useT e t) is)
  | [], [], _ => PA.weak pa_nil fun σ H Q h => tA_nil h
  | e :: es, i :: is, h => by
    simp only [allB, Bool.and_eq_true] at h
    exact PA.weak (pa_cons (PE.weak (hf e i h.1) fun σ H Q q => tE_use q) (pa_use hf hst h.2) (hst e i h.1 es)) fun σ H Q q => tA_cons q
  | [], _ :: _, h => by simp [allB] at h
  | _ :: _, [], h => by simp [allB] at h
theorem allB_length {α β : Type} {f : α → β → Bool} : ∀ {es : List α} {is : List β}, allB f es is = true → es.length = is.length
  | [], [], _ => rfl
  | _ :: _, _ :: _, h => by
    simp only [allB, Bool.and_eq_true] at h
    simp [allB_length h.2]
  | [], _ :: _, h => by simp [allB] at h
  | _ :: _, [], h => by simp [allB] at h
theorem evL_length {α β : Type} {f : α → Rs β} : ∀ {es : List α} {ts : List β}, evL f es = .ok ts → ts.length = es.length
  | [], ts, h => by simp only [evL, Rs.ok.injEq] at h; subst h; rfl
  | e :: es, ts, h => by
    simp only [evL] at h
    obtain ⟨t, _, h⟩ := Rs.bind_ok_iff h
    obtain ⟨r, h2, h⟩ := Rs.bind_ok_iff h
    simp only [Rs.pure_eq, Rs.ok.injEq] at h; subst h
    simp [evL_length h2]

/-! ### tests -/
theorem truV_ok {K : Frag} {M H : Hp} {t : T} {v : V} {as : List Addr} {b : Bool} (m : Same M H) (r : RT K M H t v as) (e : truT t = .ok b) : TruV K v H b := by
  cases r with
  | fz h o =>
    simp only [truT, Rs.ok.injEq] at e; subst e
    cases h with
    | non => rfl
    | bl b => rfl
    | int i => rfl
    | str x => exact ⟨okS_len (by simpa [okD] using o), rfl⟩
    | lst h hs => exact .inl ⟨_, m.seq h, by simp only [truD]; cases hs <;> rfl⟩
    | tup h hs => exact .inr (.inl ⟨_, SqT.mono m h, by simp only [truD]; cases hs <;> rfl⟩)
  | ow h _ hs =>
    simp only [truT, Rs.ok.injEq] at e; subst e
    exact .inl ⟨_, .of h, by cases hs <;> rfl⟩
  | tp h _ hs =>
    simp only [truT, Rs.ok.injEq] at e; subst e
    exact .inr (.inl ⟨_, SqT.mono m h, by cases hs <;> rfl⟩)
theorem truT_noex {t : T} : NoEx (truT t) := by
  intro c p h
  cases t <;> simp [truT] at h
/-- from a value's reading to its truth -/
theorem tT_tru {K : Frag} {mg : Str → Option Value} {p : Bool} {f : Sto → Rs T} {σ : L2.St} {H : Hp} {Q : Bool → Hp → Prop} (h : tT K mg W (fun S => do let t ← f S; truT t) σ H Q) :
    tE K mg W p f σ H fun x H' => ∃ k, TruV K x H' k ∧ Q k H' := by
  obtain ⟨S, L, Y, w, h⟩ := h
  refine ⟨S, L, Y, w, ?_⟩
  cases ef : f S with
  | st => rcases h with ⟨t, e, _⟩ | ⟨c, pl, e, _⟩ <;> simp [ef] at e
  | ex c pl =>
    rcases h with ⟨t, e, _⟩ | ⟨c', pl', e, q⟩
    · simp [ef] at e
    · simp only [ef, Rs.bind_ex, Rs.ex.injEq] at e
      exact .inr ⟨c, pl, rfl, by rw [e.1]; exact q⟩
  | ok t =>
    refine .inl ⟨t, rfl, fun v H' as s nd fr rt => ?_⟩
    simp only [ef, Rs.bind_ok] at h
    rcases h with ⟨b, e, q⟩ | ⟨c, pl, e, _⟩
    · exact ⟨b, truV_ok mask_same rt e, q H' s⟩
    · exact absurd e (truT_noex c pl)
/-- a test that gives True or False by a value that is one -/
theorem tT_bool {K : Frag} {mg : Str → Option Value} {f : Sto → Rs T} {σ : L2.St} {H : Hp} {Q : Bool → Hp → Prop} (hb : ∀ S t, f S = .ok t → ∃ b, t = .fz (.bool b)) (h : tT K mg W (fun S => do let t ← f S; truT t) σ H Q) :
    tE K mg W false f σ H fun x H' => ∃ k, x = .bl k ∧ Q k H' := by
  obtain ⟨S, L, Y, w, h⟩ := h
  refine ⟨S, L, Y, w, ?_⟩
  cases ef : f S with
  | st => rcases h with ⟨t, e, _⟩ | ⟨c, pl, e, _⟩ <;> simp [ef] at e
  | ex c pl =>
    rcases h with ⟨t, e, _⟩ | ⟨c', pl', e, q⟩
    · simp [ef] at e
    · simp only [ef, Rs.bind_ex, Rs.ex.injEq] at e
      exact .inr ⟨c, pl, rfl, by rw [e.1]; exact q⟩
  | ok t =>
    refine .inl ⟨t, rfl, fun v H' as s nd fr rt => ?_⟩
    obtain ⟨b, rfl⟩ := hb S t ef
    simp only [ef, Rs.bind_ok, truT, truD] at h
    rcases h with ⟨b', e, q⟩ | ⟨c, pl, e, _⟩
    · cases e
      exact ⟨b, rt.blV, q H' s⟩
    · cases e
/-- a test, then more -/
theorem tT_bind {K : Frag} {mg : Str → Option Value} {f : Sto → Rs Bool} {g' : Bool → Sto → Rs Bool} {σ : L2.St} {H : Hp} {Q : Bool → Hp → Prop} (h : tT K mg W (fun S => do let k ← f S; g' k S) σ H Q) :
    tT K mg W f σ H fun k H' => tT K mg W (g' k) σ H' Q := by
  obtain ⟨S, L, Y, w, h⟩ := h
  refine ⟨S, L, Y, w, ?_⟩
  cases ef : f S with
  | st => rcases h with ⟨t, e, _⟩ | ⟨c, pl, e, _⟩ <;> simp [ef] at e
  | ex c pl =>
    rcases h with ⟨t, e, _⟩ | ⟨c', pl', e, q⟩
    · simp [ef] at e
    · simp only [ef, Rs.bind_ex, Rs.ex.injEq] at e
      exact .inr ⟨c, pl, rfl, by rw [e.1]; exact q⟩
  | ok k =>
    refine .inl ⟨k, rfl, fun H' s => ⟨S, L, Y, w.mono s, ?_⟩⟩
    simp only [ef, Rs.bind_ok] at h
    rcases h with ⟨b, e, q⟩ | ⟨c, pl, e, q⟩
    · exact .inl ⟨b, e, fun H2 s2 => q H2 (s.trans s2)⟩
    · exact .inr ⟨c, pl, e, exP.mono s q⟩
theorem tT_end {K : Frag} {mg : Str → Option Value} {b : Bool} {σ : L2.St} {H : Hp} {Q : Bool → Hp → Prop} (h : tT K mg W (fun _ => Rs.ok b) σ H Q) : Q b H := by
  obtain ⟨S, L, Y, w, h⟩ := h
  rcases h with ⟨t, e, q⟩ | ⟨c, pl, e, _⟩
  · cases e; exact q H (Same.refl H)
  · cases e
end
end Dz
namespace Dz
open PySem PySem.Spec PyProof.Rows L2

section
variable {G : Str → Option PyData} {D N : List Str} {k : Nat} {orc : Str → List T → Rs T} {sc : Scope} {W : WX} {X : Cx}
variable {K : Frag} {mg : Str → Option Value}
def scV : PyData → Option V
  | .none => some .non
  | .bool b => some (.bl b)
  | .int i => some (.int i)
  | .str x => some (.str x)
  | _ => none
theorem scV_rt {M H : Hp} {d : PyData} {v sv : V} {as : List Addr} (r : RT K M H (.fz d) v as) (e : scV d = some sv) : v = sv := by
  cases r with
  | fz h o => cases h <;> simp [scV] at e <;> exact e
theorem tE_bind {p p' : Bool} {f : Sto → Rs T} {g : T → Sto → Rs T} {σ : L2.St} {H : Hp} {Q : VK} (h : tE K mg W p' (fun S => do let t ← f S; g t S) σ H Q) :
    tE K mg W p f σ H fun v H1 => ∃ t, (∀ d sv, t = .fz d → scV d = some sv → v = sv) ∧ tE K mg W p' (g t) σ H1 Q := by
  obtain ⟨S, L, Y, w, h⟩ := h
  refine ⟨S, L, Y, w, ?_⟩
  cases ef : f S with
  | st => rcases h with ⟨t, e, _⟩ | ⟨c, pl, e, _⟩ <;> simp [ef] at e
  | ex c pl =>
    rcases h with ⟨t, e, _⟩ | ⟨c', pl', e, q⟩
    · simp [ef] at e
    · simp only [ef, Rs.bind_ex, Rs.ex.injEq] at e
      exact .inr ⟨c, pl, rfl, by rw [e.1]; exact q⟩
  | ok t =>
    refine .inl ⟨t, rfl, fun v H' as s nd fr rt => ⟨t, fun d sv e e2 => by subst e; exact scV_rt rt e2, S, L, Y, w.mono s, ?_⟩⟩
    simp only [ef, Rs.bind_ok] at h
    rcases h with ⟨b, e, q⟩ | ⟨c, pl, e, q⟩
    · refine .inl ⟨b, e, fun v H2 as s2 nd fr rt => q v H2 as (s.trans s2) nd (fun a ha => ?_) rt⟩
      have := fr a ha
      split at this
      · rename_i hp; rw [if_pos hp]; exact this
      · rename_i hp; rw [if_neg hp]; exact Same.free s this
    · exact .inr ⟨c, pl, e, exP.mono s q⟩
theorem tE_bindT {p : Bool} {f : Sto → Rs Bool} {g : Bool → Sto → Rs T} {σ : L2.St} {H : Hp} {Q : VK} (h : tE K mg W p (fun S => do let t ← f S; g t S) σ H Q) :
    tT K mg W f σ H fun b H1 => tE K mg W p (g b) σ H1 Q := by
  obtain ⟨S, L, Y, w, h⟩ := h
  refine ⟨S, L, Y, w, ?_⟩
  cases ef : f S with
  | st => rcases h with ⟨t, e, _⟩ | ⟨c, pl, e, _⟩ <;> simp [ef] at e
  | ex c pl =>
    rcases h with ⟨t, e, _⟩ | ⟨c', pl', e, q⟩
    · simp [ef] at e
    · simp only [ef, Rs.bind_ex, Rs.ex.injEq] at e
      exact .inr ⟨c, pl, rfl, by rw [e.1]; exact q⟩
  | ok t =>
    refine .inl ⟨t, rfl, fun H' s => ⟨S, L, Y, w.mono s, ?_⟩⟩
    simp only [ef, Rs.bind_ok] at h
    rcases h with ⟨b, e, q⟩ | ⟨c, pl, e, q⟩
    · refine .inl ⟨b, e, fun v H2 as s2 nd fr rt => q v H2 as (s.trans s2) nd (fun a ha => ?_) rt⟩
      have := fr a ha
      split at this
      · rename_i hp; rw [if_pos hp]; exact this
      · rename_i hp; rw [if_neg hp]; exact Same.free s this
    · exact .inr ⟨c, pl, e, exP.mono s q⟩
/-- a scalar at the end -/
theorem tE_ret {p : Bool} {d : PyData} {sv : V} {σ : L2.St} {H : Hp} {Q : VK} (h : tE K mg W p (fun _ => Rs.ok (.fz d)) σ H Q) (hd : ∀ M, Dp K M sv d) (o : okD d = true) : Q sv H := by
  obtain ⟨S, L, Y, w, h⟩ := h
  rcases h with ⟨t, e, q⟩ | ⟨c, pl, e, _⟩
  · cases e
    exact q sv H [] (Same.refl H) List.nodup_nil (fun _ z => by cases z) (.fz (hd _) o)
  · cases e
theorem tE_flag {p p' : Bool} {d : PyData} {f : Sto → Rs T} {σ : L2.St} {H : Hp} {Q : VK} (hf : ∀ S t, f S = .ok t → t.isFz = true) (h : tE K mg W p f σ H Q) : tE K mg W p' f σ H Q := by
  obtain ⟨S, L, Y, w, h⟩ := h
  refine ⟨S, L, Y, w, ?_⟩
  rcases h with ⟨t, e, q⟩ | h
  · refine .inl ⟨t, e, fun v H' as s nd fr rt => q v H' as s nd (fun a ha => ?_) rt⟩
    rw [rt.isFz (hf S t e)] at ha; cases ha
  · exact .inr h

/-! ### one construct at a time -/
theorem e_dat {c : Const} {d : PyData} {j : Nat} {pos : Pos} (h : litB c d = true) : PE X (.Constant c j pos) (tE X.K X.mg W false fun _ => Rs.ok (.fz d)) := by
  unfold litB at h
  split at h
  · have := of_decide_eq_true h; subst this
    exact PE.weak pe_int fun σ H Q q => tE_ret q (fun _ => .int _) rfl
  · have := of_decide_eq_true h; subst this
    exact PE.weak pe_bl fun σ H Q q => tE_ret q (fun _ => .bl _) rfl
  · exact PE.weak pe_non fun σ H Q q => tE_ret q (fun _ => .non) rfl
  · rw [Bool.and_eq_true, decide_eq_true_eq] at h
    obtain ⟨rfl, h2⟩ := h
    exact PE.weak pe_str fun σ H Q q => tE_ret q (fun _ => .str _) (by simpa [okD] using h2)
  · cases h
theorem getS_ok {S : Sto} {i : Nat} {t : T} (e : getS S i = .ok t) : S[i]? = some (some t) := by
  unfold getS at e
  split at e
  · rename_i t' ht
    cases e; exact ht
  · cases e
theorem getS_noex {S : Sto} {i : Nat} : NoEx (getS S i) := by
  intro c p e
  unfold getS at e
  split at e <;> cases e
theorem e_var {x : Str} {i : Nat} {pos : Pos} (x0 : XOk G D N k orc sc W X) (h : nameB N sc x i = true) : PE X (.Name x pos) (tE X.K X.mg W true fun S => getS S i) := by
  simp only [nameB, Bool.and_eq_true, decide_eq_true_eq] at h
  have hd := dbg_iff h.2
  refine PE.weak (pe_var (i := i) (by rw [x0.hN]; exact h.1.1) (by rw [x0.hs]; exact visB_iff h.1.2) hd.1 hd.2) fun σ H Q q => ?_
  obtain ⟨S, L, Y, w, q⟩ := q
  rcases q with ⟨t, e, q⟩ | ⟨c, pl, e, _⟩
  · have ht := getS_ok e
    obtain ⟨v, as, h1, h2, h3⟩ := w.sr.get ht
    exact ⟨v, h1, q v H as (Same.refl H) (w.nd.sublist h3) (by simpa using fun a ha => h3.subset ha) (h2.mono (mask_mono (Same.refl H) fun b _ z => z.elim id fun z => .inl (h3.subset z)) fun _ _ => rfl)⟩
  · exact absurd e (getS_noex c pl)
theorem e_glb {x : Str} {pos : Pos} (x0 : XOk G D N k orc sc W X) (h : glB sc x = true) : PE X (.Name x pos) (tE X.K X.mg W false fun _ => match G x with | some d => Rs.ok (.fz d) | none => Rs.st) := by
  obtain ⟨hg, hd⟩ := glB_iff x0 h
  cases e : G x with
  | none => exact PE.stuck
  | some d =>
    obtain ⟨u, v, h1, h2, h3, h4⟩ := x0.gl x d e
    exact PE.weak (pe_glob hg h1 h2 hd) fun σ H Q q => tE_ret q h3 h4
theorem e_tup {es : List Expr} {is : List IE} {j : Nat} {pos : Pos} {fl : Sto → Rs (List T)} (ha : PA X es (tA X.K X.mg W (is.map fun _ => false) fl)) (hl : ∀ S ts, fl S = .ok ts → ts.length ≤ 1000) :
    PE X (.Tuple es j pos) (tE X.K X.mg W false fun S => do let ts ← fl S; return mkTup ts) :=
  PE.weak (pe_tup ha) fun σ H Q q => tE_args (fun S L Y H2 ts vs bs t w e1 e2 si ar pq => by
    simp only [Rs.pure_eq, Rs.ok.injEq] at e2; subst e2
    have hlen := ar.length
    have h1 := hl S ts e1
    have rs := ar.all (fun p hp => by obtain ⟨a, _, rfl⟩ := List.mem_map.mp hp; rfl)
    have h2 := rs.length
    exact ⟨by rw [sizeLine_eq]; omega, fun p n => pq.tup si ar.fresh rs (List.Sublist.refl _) n (by omega)⟩) (fun S ts c pl _ e => by cases e) q
theorem e_lst {es : List Expr} {is : List IE} {pos : Pos} {fl : Sto → Rs (List T)} (ha : PA X es (tA X.K X.mg W (is.map fun _ => false) fl)) (hl : ∀ S ts, fl S = .ok ts → ts.length ≤ 1000) :
    PE X (.List es pos) (tE X.K X.mg W false fun S => do let ts ← fl S; return .ow ts) :=
  PE.weak (pe_lst ha) fun σ H Q q => tE_args (fun S L Y H2 ts vs bs t w e1 e2 si ar pq => by
    simp only [Rs.pure_eq, Rs.ok.injEq] at e2; subst e2
    have h1 := hl S ts e1
    have rs := ar.all (fun p hp => by obtain ⟨a, _, rfl⟩ := List.mem_map.mp hp; rfl)
    have h2 := rs.length
    exact ⟨by rw [sizeLine_eq]; omega, fun p n => pq.lst si ar.fresh rs (List.Sublist.refl _) n (by omega)⟩) (fun S ts c pl _ e => by cases e) q
theorem e_bin {a b : Expr} {op : Operator} {pa pb : Bool} {fa fb : Sto → Rs T} {pos : Pos} (ha : PE X a (tE X.K X.mg W pa fa)) (hb : PE X b (tE X.K X.mg W pb fb)) :
    PE X (.BinOp a op b pos) (tE X.K X.mg W false fun S => do let x ← fa S; let y ← fb S; binT op pa pb x y) :=
  PE.weak (pe_op (op_bin op) ha hb) fun σ H Q q => tE_two (fun x y => bin_noex) (fun L Y H0 H2 x y vx vy bs t Q e si ar pq => bin_ok e si ar pq) q
theorem e_cmp {a b : Expr} {op : CmpOp} {pa pb : Bool} {fa fb : Sto → Rs T} {pos : Pos} (x0 : XOk G D N k orc sc W X) (ha : PE X a (tE X.K X.mg W pa fa)) (hb : PE X b (tE X.K X.mg W pb fb)) (hm : behindInMarks op b = false) :
    PE X (.Compare a [op] [b] pos) (tE X.K X.mg W false fun S => do let x ← fa S; let y ← fb S; let c ← cmpT op x y; return .fz (.bool c)) :=
  PE.weak (pe_cmpR (op_cmp op x0.units) ha hb hm) fun σ H Q q => tE_two (g := fun x y => do let c ← cmpT op x y; return .fz (.bool c)) (fun x y => cmp_noex) (fun L Y H0 H2 x y vx vy bs t Q e si ar pq => by
    obtain ⟨c, e1, e2⟩ := Rs.bind_ok_iff e
    simp only [Rs.pure_eq, Rs.ok.injEq] at e2; subst e2
    obtain ⟨as, as', r1, r2, _⟩ := ar.two
    exact ⟨c, cmp_ok si.msk_H r1 r2 e1, pq.bool⟩) q
theorem t_cmp {a b : Expr} {op : CmpOp} {pa pb : Bool} {fa fb : Sto → Rs T} {pos : Pos} (x0 : XOk G D N k orc sc W X) (ha : PE X a (tE X.K X.mg W pa fa)) (hb : PE X b (tE X.K X.mg W pb fb)) (hm : behindInMarks op b = false) :
    PT X (.Compare a [op] [b] pos) (tT X.K X.mg W fun S => do let t ← (do let x ← fa S; let y ← fb S; let c ← cmpT op x y; return .fz (.bool c) : Rs T); truT t) :=
  PT.weak (pt_cmpR (op_cmp op x0.units) ha hb hm) fun σ H Q q => by
    have q1 := tT_bool (fun S t e => by
      obtain ⟨x, _, e⟩ := Rs.bind_ok_iff e
      obtain ⟨y, _, e⟩ := Rs.bind_ok_iff e
      obtain ⟨c, _, e⟩ := Rs.bind_ok_iff e
      exact ⟨c, by simpa using e.symm⟩) q
    exact tE_two (g := fun x y => do let c ← cmpT op x y; return .fz (.bool c)) (fun x y => cmp_noex) (fun L Y H0 H2 x y vx vy bs t Q e si ar pq => by
      obtain ⟨c, e1, e2⟩ := Rs.bind_ok_iff e
      simp only [Rs.pure_eq, Rs.ok.injEq] at e2; subst e2
      obtain ⟨as, as', r1, r2, _⟩ := ar.two
      exact ⟨c, cmp_ok si.msk_H r1 r2 e1, pq.bool⟩) q1
theorem e_neg {a : Expr} {pa : Bool} {fa : Sto → Rs T} {pos : Pos} (ha : PE X a (tE X.K X.mg W pa fa)) :
    PE X (.UnaryOp .USub a pos) (tE X.K X.mg W false fun S => do let x ← fa S; match x with | .fz (.int i) => Rs.ok (.fz (.int (-i))) | _ => Rs.st) :=
  PE.weak (pe_un un_neg ha) fun σ H Q q => by
    have := tE_bind (p := pa) q
    refine (show ∀ R R' : VK, (∀ v H, R v H → R' v H) → tE X.K X.mg W pa fa σ H R → tE X.K X.mg W pa fa σ H R' from fun R R' i ⟨S, L, Y, w, h⟩ => ⟨S, L, Y, w, h.imp (fun ⟨t, e, z⟩ => ⟨t, e, fun v H' as a b c d => i _ _ (z v H' as a b c d)⟩) id⟩) _ _ (fun v H1 ⟨t, hv, z⟩ => ?_) this
    match t, z with
    | .fz (.int i), z => exact ⟨i, hv _ _ rfl rfl, tE_ret z (fun _ => .int _) rfl⟩
    | .fz .none, z => exact (tE_st z).elim
    | .fz (.bool _), z => exact (tE_st z).elim
    | .fz (.str _), z => exact (tE_st z).elim
    | .fz (.list _), z => exact (tE_st z).elim
    | .fz (.tuple _), z => exact (tE_st z).elim
    | .fz (.dict _), z => exact (tE_st z).elim
    | .ow _, z => exact (tE_st z).elim
    | .tp _, z => exact (tE_st z).elim
    | .od _ _, z => exact (tE_st z).elim
    | .fd _ _, z => exact (tE_st z).elim
    | .ex _ _, z => exact (tE_st z).elim
end
end Dz
namespace Dz
open PySem PySem.Spec PyProof.Rows L2

section
variable {G : Str → Option PyData} {D N : List Str} {k : Nat} {orc : Str → List T → Rs T} {sc : Scope} {W : WX} {X : Cx}
variable {K : Frag} {mg : Str → Option Value}
theorem tE_mono {p : Bool} {f : Sto → Rs T} {σ : L2.St} {H : Hp} {R R' : VK} (h : tE K mg W p f σ H R) (i : ∀ v H, R v H → R' v H) : tE K mg W p f σ H R' := by
  obtain ⟨S, L, Y, w, h⟩ := h
  exact ⟨S, L, Y, w, h.imp (fun ⟨t, e, z⟩ => ⟨t, e, fun v H' as a b c d => i _ _ (z v H' as a b c d)⟩) id⟩
theorem tT_mono {f : Sto → Rs Bool} {σ : L2.St} {H : Hp} {R R' : Bool → Hp → Prop} (h : tT K mg W f σ H R) (i : ∀ v H, R v H → R' v H) : tT K mg W f σ H R' := by
  obtain ⟨S, L, Y, w, h⟩ := h
  exact ⟨S, L, Y, w, h.imp (fun ⟨t, e, z⟩ => ⟨t, e, fun H' a => i _ _ (z H' a)⟩) id⟩
/-- only an int goes on -/
theorem tE_int {p : Bool} {t : T} {v : V} {g : Int → Sto → Rs T} {σ : L2.St} {H : Hp} {Q : VK} (h : tE K mg W p (fun S => match t with | .fz (.int i) => g i S | _ => Rs.st) σ H Q) (hv : ∀ d sv, t = .fz d → scV d = some sv → v = sv) : ∃ i, v = .int i ∧ tE K mg W p (g i) σ H Q := by
  match t, h, hv with
  | .fz (.int i), h, hv => exact ⟨i, hv _ _ rfl rfl, h⟩
  | .fz .none, z, _ => exact (tE_st z).elim
  | .fz (.bool _), z, _ => exact (tE_st z).elim
  | .fz (.str _), z, _ => exact (tE_st z).elim
  | .fz (.list _), z, _ => exact (tE_st z).elim
  | .fz (.tuple _), z, _ => exact (tE_st z).elim
  | .fz (.dict _), z, _ => exact (tE_st z).elim
  | .ow _, z, _ => exact (tE_st z).elim
  | .tp _, z, _ => exact (tE_st z).elim
  | .od _ _, z, _ => exact (tE_st z).elim
  | .fd _ _, z, _ => exact (tE_st z).elim
  | .ex _ _, z, _ => exact (tE_st z).elim
theorem tE_bool {p : Bool} {t : T} {v : V} {g : Bool → Sto → Rs T} {σ : L2.St} {H : Hp} {Q : VK} (h : tE K mg W p (fun S => match t with | .fz (.bool i) => g i S | _ => Rs.st) σ H Q) (hv : ∀ d sv, t = .fz d → scV d = some sv → v = sv) : ∃ i, v = .bl i ∧ tE K mg W p (g i) σ H Q := by
  match t, h, hv with
  | .fz (.bool i), h, hv => exact ⟨i, hv _ _ rfl rfl, h⟩
  | .fz .none, z, _ => exact (tE_st z).elim
  | .fz (.int _), z, _ => exact (tE_st z).elim
  | .fz (.str _), z, _ => exact (tE_st z).elim
  | .fz (.list _), z, _ => exact (tE_st z).elim
  | .fz (.tuple _), z, _ => exact (tE_st z).elim
  | .fz (.dict _), z, _ => exact (tE_st z).elim
  | .ow _, z, _ => exact (tE_st z).elim
  | .tp _, z, _ => exact (tE_st z).elim
  | .od _ _, z, _ => exact (tE_st z).elim
  | .fd _ _, z, _ => exact (tE_st z).elim
  | .ex _ _, z, _ => exact (tE_st z).elim
/-- the comparison of two ints -/
theorem tE_ord {p : Bool} {op : CmpOp} {i j : Int} {g : Bool → Sto → Rs T} {σ : L2.St} {H : Hp} {Q : VK} (h : tE K mg W p (fun S => do let c ← ordD op (.int i) (.int j); g c S) σ H Q) : ∃ b, CmpV K op (.int i) (.int j) H b ∧ tE K mg W p (g b) σ H Q := by
  cases op with
  | Lt => exact ⟨_, .inl ⟨i, j, rfl, rfl, rfl⟩, h⟩
  | LtE => exact ⟨_, ⟨i, j, rfl, rfl, rfl⟩, h⟩
  | Gt => exact ⟨_, .inl ⟨i, j, rfl, rfl, rfl⟩, h⟩
  | GtE => exact ⟨_, ⟨i, j, rfl, rfl, rfl⟩, h⟩
  | _ => exact (tE_st h).elim
def chnF (o1 o2 : CmpOp) (fa fb fc : Sto → Rs T) : Sto → Rs T := fun S => do
      let x ← fa S
      match x with
      | .fz (.int i) => do
        let y ← fb S
        match y with
        | .fz (.int j) => do
          let k ← ordD o1 (.int i) (.int j)
          if k then do
            let z ← fc S
            match z with
            | .fz (.int l) => do let k2 ← ordD o2 (.int j) (.int l); return .fz (.bool k2)
            | _ => .st
          else return .fz (.bool false)
        | _ => .st
      | _ => .st
theorem r_chn {o1 o2 : CmpOp} {pa pb pc : Bool} {fa fb fc : Sto → Rs T} {σ : L2.St} {H : Hp} {Q : VK} (q : tE K mg W false (chnF o1 o2 fa fb fc) σ H Q) :
    tChain (fun x y H Q => ∃ b, CmpV K o1 x y H b ∧ Q (.bl b) H) (fun x y H Q => ∃ b, CmpV K o2 x y H b ∧ Q (.bl b) H) (tE K mg W pa fa) (tE K mg W pb fb) (tE K mg W pc fc) σ H Q := by
    refine tE_mono (tE_bind (p := pa) q) fun v H1 ⟨t, hv, z⟩ => ?_
    obtain ⟨i, rfl, z⟩ := tE_int z hv
    refine tE_mono (tE_bind (p := pb) z) fun v H2 ⟨t, hv, z⟩ => ?_
    obtain ⟨j, rfl, z⟩ := tE_int z hv
    obtain ⟨b, hb, z⟩ := tE_ord z
    refine ⟨b, hb, b, rfl, ?_⟩
    cases b with
    | true =>
      rw [if_pos rfl]
      refine tE_mono (tE_bind (p := pc) z) fun v H3 ⟨t, hv, z⟩ => ?_
      obtain ⟨l, rfl, z⟩ := tE_int z hv
      obtain ⟨b, hb, z⟩ := tE_ord z
      exact ⟨b, hb, tE_ret z (fun _ => .bl _) rfl⟩
    | false =>
      rw [if_neg (by simp)]
      exact tE_ret z (fun _ => .bl _) rfl
theorem e_chn {a b c : Expr} {o1 o2 : CmpOp} {pa pb pc : Bool} {fa fb fc : Sto → Rs T} {pos : Pos} (x0 : XOk G D N k orc sc W X) (ha : PE X a (tE X.K X.mg W pa fa)) (hb : PE X b (tE X.K X.mg W pb fb)) (hc : PE X c (tE X.K X.mg W pc fc)) (hm : behindInMarks o2 c = false) :
    PE X (.Compare a [o1, o2] [b, c] pos) (tE X.K X.mg W false (chnF o1 o2 fa fb fc)) :=
  PE.weak (pe_chain (op_cmp o1 x0.units) (op_cmp o2 x0.units) ha hb hc (by show behindInMarks o2 c = false; exact hm)) fun σ H Q q => r_chn q
theorem chnF_bool {o1 o2 : CmpOp} {fa fb fc : Sto → Rs T} {S : Sto} {t : T} (h : chnF o1 o2 fa fb fc S = .ok t) : ∃ b, t = .fz (.bool b) := by
  unfold chnF at h
  obtain ⟨x, _, h⟩ := Rs.bind_ok_iff h
  split at h
  · obtain ⟨y, _, h⟩ := Rs.bind_ok_iff h
    split at h
    · obtain ⟨b, _, h⟩ := Rs.bind_ok_iff h
      split at h
      · obtain ⟨z, _, h⟩ := Rs.bind_ok_iff h
        split at h
        · obtain ⟨b, _, h⟩ := Rs.bind_ok_iff h
          exact ⟨b, by simpa using h.symm⟩
        · cases h
      · exact ⟨false, by simpa using h.symm⟩
    · cases h
  · cases h
theorem t_chn {a b c : Expr} {o1 o2 : CmpOp} {pa pb pc : Bool} {fa fb fc : Sto → Rs T} {pos : Pos} (x0 : XOk G D N k orc sc W X) (ha : PE X a (tE X.K X.mg W pa fa)) (hb : PE X b (tE X.K X.mg W pb fb)) (hc : PE X c (tE X.K X.mg W pc fc)) (hm : behindInMarks o2 c = false) :
    PT X (.Compare a [o1, o2] [b, c] pos) (tT X.K X.mg W fun S => do let t ← chnF o1 o2 fa fb fc S; truT t) :=
  PT.weak (pt_chain (op_cmp o1 x0.units) (op_cmp o2 x0.units) ha hb hc (by show behindInMarks o2 c = false; exact hm)) fun σ H Q q => r_chn (tT_bool (fun S t => chnF_bool) q)
theorem e_and {a b : Expr} {r : List Expr} {pa : Bool} {fa fb : Sto → Rs T} {pos : Pos} (ha : PE X a (tE X.K X.mg W pa fa)) (hb : PE X (.BoolOp .And (b :: r) pos) (tE X.K X.mg W false fb)) :
    PE X (.BoolOp .And (a :: b :: r) pos) (tE X.K X.mg W false fun S => do let x ← fa S; match x with | .fz (.bool k) => (if k then fb S else Rs.ok (.fz (.bool false))) | _ => Rs.st) :=
  PE.weak (pe_and ha hb) fun σ H Q q => tE_mono (tE_bind (p := pa) q) fun v H1 ⟨t, hv, z⟩ => by
    obtain ⟨i, rfl, z⟩ := tE_bool (g := fun k S => if k = true then fb S else Rs.ok (.fz (.bool false))) z hv
    refine ⟨i, rfl, ?_⟩
    cases i with
    | true => exact z
    | false => exact tE_ret z (fun _ => .bl _) rfl
theorem e_or {a b : Expr} {r : List Expr} {pa : Bool} {fa fb : Sto → Rs T} {pos : Pos} (ha : PE X a (tE X.K X.mg W pa fa)) (hb : PE X (.BoolOp .Or (b :: r) pos) (tE X.K X.mg W false fb)) :
    PE X (.BoolOp .Or (a :: b :: r) pos) (tE X.K X.mg W false fun S => do let x ← fa S; match x with | .fz (.bool k) => (if k then Rs.ok (.fz (.bool true)) else fb S) | _ => Rs.st) :=
  PE.weak (pe_or ha hb) fun σ H Q q => tE_mono (tE_bind (p := pa) q) fun v H1 ⟨t, hv, z⟩ => by
    obtain ⟨i, rfl, z⟩ := tE_bool (g := fun k S => if k = true then Rs.ok (.fz (.bool true)) else fb S) z hv
    refine ⟨i, rfl, ?_⟩
    cases i with
    | true => exact tE_ret z (fun _ => .bl _) rfl
    | false => exact z
theorem e_no {a : Expr} {pa : Bool} {fa : Sto → Rs T} {pos : Pos} (ha : PE X a (tE X.K X.mg W pa fa)) :
    PE X (.UnaryOp .Not a pos) (tE X.K X.mg W false fun S => do let x ← fa S; match x with | .fz (.bool k) => Rs.ok (.fz (.bool (!k))) | _ => Rs.st) :=
  PE.weak (pe_not ha) fun σ H Q q => tE_mono (tE_bind (p := pa) q) fun v H1 ⟨t, hv, z⟩ => by
    obtain ⟨i, rfl, z⟩ := tE_bool (g := fun k S => Rs.ok (.fz (.bool (!k)))) z hv
    exact ⟨i, rfl, tE_ret z (fun _ => .bl _) rfl⟩
theorem e_ite {c a b : Expr} {fc : Sto → Rs Bool} {fa fb : Sto → Rs T} {pos : Pos} (hc : PT X c (tT X.K X.mg W fc)) (ha : PE X a (tE X.K X.mg W false fa)) (hb : PE X b (tE X.K X.mg W false fb)) :
    PE X (.IfExp c a b pos) (tE X.K X.mg W false fun S => do let k ← fc S; if k then fa S else fb S) :=
  PE.weak (pe_ifExp hc ha hb) fun σ H Q q => tT_mono (tE_bindT q) fun k H1 z => by
    cases k with
    | true => exact z
    | false => exact z
theorem e_ix {a b : Expr} {pa pb : Bool} {fa fb : Sto → Rs T} {pos : Pos} (ha : PE X a (tE X.K X.mg W pa fa)) (hb : PE X b (tE X.K X.mg W pb fb)) (hs : PlainIx b) :
    PE X (.Subscript a b pos) (tE X.K X.mg W pa fun S => do let x ← fa S; let y ← fb S; ixT x y) :=
  PE.weak (pe_ix ix_seq ha hb hs) fun σ H Q q => tE_twoP (fun x y => ixT_noex) (fun L Y H0 H2 x y vx vy bs t Q e si ar pq => ix_ok e si ar pq) q
/-- a missing part of a slice: evaluated without Python -/
theorem tA_skip {ps : List Bool} {g : Sto → Rs (List T)} {σ : L2.St} {H : Hp} {Q : List V → Hp → Prop} (h : tA K mg W (false :: ps) (fun S => do let t ← Rs.ok (T.fz .none); let ts ← g S; return t :: ts) σ H Q) :
    tA K mg W ps g σ H fun vs H' => Q (.non :: vs) H' := by
  obtain ⟨S, L, Y, w, h⟩ := h
  refine ⟨S, L, Y, w, ?_⟩
  cases eg : g S with
  | st => rcases h with ⟨t, e, _⟩ | ⟨c, pl, e, _⟩ <;> simp [eg] at e
  | ex c pl =>
    rcases h with ⟨t, e, _⟩ | ⟨c', pl', e, q⟩
    · simp [eg] at e
    · simp only [eg, Rs.bind_ok, Rs.bind_ex, Rs.ex.injEq] at e
      exact .inr ⟨c, pl, rfl, by rw [e.1]; exact q⟩
  | ok ts =>
    rcases h with ⟨t, e, q⟩ | ⟨c, pl, e, _⟩
    · simp only [eg, Rs.bind_ok, Rs.pure_eq, Rs.ok.injEq] at e
      refine .inl ⟨ts, rfl, fun vs H' bs si ar => q _ H' bs si ?_⟩
      rw [← e]
      exact Args.temp (as := []) (.fz .non rfl) (fun _ z => by cases z) ar
    · simp [eg] at e
def PrtV (lit : Bool) (v : V) (o : Option Int) : Prop := (lit = true ∧ o = none) ∨ (lit = false ∧ ∃ i, v = .int i ∧ o = some i)
theorem part_ok {M H : Hp} {t : T} {v : V} {as : List Addr} {lit : Bool} {o : Option Int} (r : RT K M H t v as) (e : partD lit t = .ok o) : PrtV lit v o := by
  unfold partD at e
  split at e
  · rename_i h; cases e; exact .inl ⟨h, rfl⟩
  · rename_i h
    split at e
    · cases e; exact .inr ⟨by simpa using h, _, r.intV, rfl⟩
    · cases e
theorem part_noex {lit : Bool} {t : T} : NoEx (partD lit t) := by
  intro c p e
  unfold partD at e
  split at e
  · cases e
  · split at e <;> cases e
def poV : V → Option Int
  | .int i => some i
  | _ => none
/-- a part of a slice -/
structure Prt (X : Cx) (W : WX) (o : Option Expr) (lit : Bool) (f : Sto → Rs T) : Prop where
  po : PO X o (fun σ H Q => tE X.K X.mg W false f σ H fun v H' => PrtV lit v (poV v) ∧ Q (poV v) H')
  st : ∀ S t, f S = .ok t → ∃ d sv, t = .fz d ∧ scV d = some sv ∧ PrtV lit sv (poV sv)
theorem strict_ok {lit : Bool} {t t' : T} (e : strict lit t = .ok t') : t' = t ∧ ((lit = true ∧ t = .fz .none) ∨ (lit = false ∧ ∃ i, t = .fz (.int i))) := by
  unfold strict at e
  split at e
  · rename_i h
    split at e
    · cases e; exact ⟨rfl, .inl ⟨h, rfl⟩⟩
    · cases e
  · rename_i h
    split at e
    · cases e; exact ⟨rfl, .inr ⟨by simpa using h, _, rfl⟩⟩
    · cases e
theorem strict_st {lit : Bool} {f : Sto → Rs T} : ∀ S t, (do let l ← f S; strict lit l) = .ok t → ∃ d sv, t = .fz d ∧ scV d = some sv ∧ PrtV lit sv (poV sv) := fun S t e => by
  obtain ⟨l, _, e⟩ := Rs.bind_ok_iff e
  obtain ⟨rfl, h⟩ := strict_ok e
  rcases h with ⟨rfl, rfl⟩ | ⟨rfl, i, rfl⟩
  · exact ⟨_, _, rfl, rfl, .inl ⟨rfl, rfl⟩⟩
  · exact ⟨_, _, rfl, rfl, .inr ⟨rfl, i, rfl, rfl⟩⟩
theorem strict_eq (t : T) : strict false t = match t with | .fz (.int i) => Rs.ok (.fz (.int i)) | _ => Rs.st := by
  unfold strict
  rw [if_neg (by simp)]
  split <;> first | rfl | simp_all
theorem Prt.none : Prt X W none true (fun _ => Rs.ok (.fz .none)) where
  po := ⟨fun pins s σ H Q I q => po_none.run pins s σ H Q I (tE_ret q (fun _ => .non) rfl).2⟩
  st := fun S t e => by cases e; exact ⟨_, _, rfl, rfl, .inl ⟨rfl, rfl⟩⟩
theorem Prt.no {f : Sto → Rs T} (hf : ∀ S, f S = Rs.ok (.fz .none) ∨ f S = .st) : Prt X W Option.none true (fun S => do let l ← f S; strict true l) where
  po := ⟨fun pins s σ H Q I q => po_none.run pins s σ H Q I (by
    obtain ⟨S, L, Y, w, q⟩ := q
    rcases hf S with e | e
    · simp only [e, Rs.bind_ok, strict, if_true] at q
      rcases q with ⟨t, e, q⟩ | ⟨c, pl, e, _⟩
      · cases e
        exact (q .non H [] (Same.refl H) List.nodup_nil (fun _ z => by cases z) (.fz .non rfl)).2
      · cases e
    · simp only [e, Rs.bind_st] at q
      rcases q with ⟨t, e, _⟩ | ⟨c, pl, e, _⟩ <;> cases e)⟩
  st := strict_st
theorem Prt.so {e : Expr} {p : Bool} {f : Sto → Rs T} (he : PE X e (tE X.K X.mg W p f)) : Prt X W (some e) false (fun S => do let l ← f S; strict false l) where
  po := ⟨fun pins s σ H Q I q => (po_some he).run pins s σ H Q I (tE_mono (tE_bind (p := p) q) fun v H1 ⟨t, hv, z⟩ => by
    obtain ⟨i, rfl, z⟩ := tE_int (g := fun i S => Rs.ok (.fz (.int i))) (tE_cong z fun _ => strict_eq t) hv
    exact ⟨i, rfl, (tE_ret z (fun _ => .int _) rfl).2⟩)⟩
  st := strict_st
/-- what is known of a scalar -/
theorem tE_know {p : Bool} {f : Sto → Rs T} {σ : L2.St} {H : Hp} {R : VK} {Pv : V → Prop} (h : tE K mg W p f σ H R) (hk : ∀ S t, f S = .ok t → ∃ d sv, t = .fz d ∧ scV d = some sv ∧ Pv sv) : tE K mg W p f σ H fun v H' => Pv v ∧ R v H' := by
  obtain ⟨S, L, Y, w, h⟩ := h
  refine ⟨S, L, Y, w, h.imp (fun ⟨t, e, z⟩ => ⟨t, e, fun v H' as a b c d => ⟨?_, z v H' as a b c d⟩⟩) id⟩
  obtain ⟨dd, sv, rfl, e2, e3⟩ := hk S t e
  rw [scV_rt d e2]; exact e3
theorem PrtV.uniq {lit : Bool} {v : V} {o o' : Option Int} (h : PrtV lit v o) (h' : PrtV lit v o') : o = o' := by
  rcases h with ⟨a, rfl⟩ | ⟨a, i, rfl, rfl⟩
  · rcases h' with ⟨_, rfl⟩ | ⟨b, _⟩
    · rfl
    · rw [a] at b; cases b
  · rcases h' with ⟨b, _⟩ | ⟨_, j, e, rfl⟩
    · rw [a] at b; cases b
    · cases e; rfl
theorem e_sl {a : Expr} {lo hi : Option Expr} {il ih pa : Bool} {fa fl fh : Sto → Rs T} {pos p2 : Pos} (ha : PE X a (tE X.K X.mg W pa fa)) (hl : Prt X W lo il fl) (hh : Prt X W hi ih fh) :
    PE X (.Subscript a (.Slice lo hi Option.none p2) pos) (tE X.K X.mg W false fun S => do let x ← fa S; let l ← fl S; let h ← fh S; let l' ← partD il l; let h' ← partD ih h; slT pa x l' h') := by
  -- the three in flight
  have core : ∀ σ H Q, tE X.K X.mg W false (fun S => do let x ← fa S; let l ← fl S; let h ← fh S; let l' ← partD il l; let h' ← partD ih h; slT pa x l' h') σ H Q →
      tA X.K X.mg W [pa, false, false] (fun S => do let x ← fa S; let ts ← (do let l ← fl S; let ts ← (do let h ← fh S; let ts ← (Rs.ok [] : Rs (List T)); return h :: ts); return l :: ts); return x :: ts) σ H
        (fun vs H3 => ∀ vx vl vh, vs = [vx, vl, vh] → ∃ l' h', PrtV il vl l' ∧ PrtV ih vh h' ∧ rSl X.K vx l' h' H3 Q) := by
    intro σ H Q q
    refine tE_args (Q := Q) (g := fun ts => match ts with | [x, l, h] => (do let l' ← partD il l; let h' ← partD ih h; slT pa x l' h') | _ => Rs.st) (fun S L Y H2 ts vs bs t w e1 e2 si ar pq vx vl vh ev => ?_) (fun S ts c pl' _ e _ => ?_) (tE_cong q fun S => ?_)
    · subst ev
      have hlen := ar.length
      obtain ⟨x, l, h, rfl⟩ : ∃ x l h, ts = [x, l, h] := by
        match ts, hlen with
        | [x, l, h], _ => exact ⟨x, l, h, rfl⟩
      simp only at e2
      obtain ⟨l', e3, e2⟩ := Rs.bind_ok_iff e2
      obtain ⟨h', e4, e2⟩ := Rs.bind_ok_iff e2
      have fr := ar.fresh
      obtain ⟨as, r1, _, _, _, hs⟩ := ar.first si.nd
      have h23 : ∃ as2 as3, RT X.K (msk H2 L Y bs) H2 l vl as2 ∧ RT X.K (msk H2 L Y bs) H2 h vh as3 := by
        cases ar with
        | view _ _ _ ar => obtain ⟨a2, a3, r2, r3, _⟩ := ar.two; exact ⟨a2, a3, r2, r3⟩
        | temp _ _ ar => obtain ⟨a2, a3, r2, r3, _⟩ := ar.two; exact ⟨a2, a3, r2, r3⟩
      obtain ⟨a2, a3, r2, r3⟩ := h23
      exact ⟨l', h', part_ok r2 e3, part_ok r3 e4, sl_ok e2 si fr r1 hs pq⟩
    · match ts, e with
      | [x, l, h], e =>
        simp only at e
        cases e3 : partD il l with
        | st => rw [e3] at e; cases e
        | ex c p => exact absurd e3 (part_noex _ _)
        | ok l' =>
          rw [e3] at e
          cases e4 : partD ih h with
          | st => rw [e4] at e; cases e
          | ex c p => exact absurd e4 (part_noex _ _)
          | ok h' => rw [e4] at e; exact absurd e (slT_noex _ _)
    · cases fa S with
      | st => rfl
      | ex c p => rfl
      | ok x => cases fl S with
        | st => rfl
        | ex c p => rfl
        | ok y => cases fh S with
          | st => rfl
          | ex c p => rfl
          | ok z => rfl
  refine PE.weak (pe_slice sl_any ha hl.po hh.po) fun σ H Q q => tE_mono (tA_cons (core σ H Q q)) fun x H1 z => tE_mono (tE_know (tA_cons z) hl.st) fun y H2 ⟨p1, z⟩ => ⟨p1, tE_mono (tE_know (tA_cons z) hh.st) fun u H3 ⟨p2, z⟩ => ⟨p2, ?_⟩⟩
  obtain ⟨l', h', q1, q2, r⟩ := tA_nil z x y u rfl
  rw [q1.uniq p1, q2.uniq p2] at r
  exact r
end
end Dz
namespace Dz
open PySem PySem.Spec PyProof.Rows L2

section
variable {G : Str → Option PyData} {D N : List Str} {k : Nat} {orc : Str → List T → Rs T} {sc : Scope} {W : WX} {X : Cx}
variable {K : Frag} {mg : Str → Option Value}
theorem tE_filter {p : Bool} {f : Sto → Rs T} {φ : T → Rs T} {σ : L2.St} {H : Hp} {Q : VK} (hφ : ∀ t t', φ t = .ok t' → t' = t ∧ t.isFz = true) (hx : ∀ t, NoEx (φ t)) (h : tE K mg W false (fun S => do let t ← f S; φ t) σ H Q) : tE K mg W p f σ H Q := by
  obtain ⟨S, L, Y, w, h⟩ := h
  refine ⟨S, L, Y, w, ?_⟩
  cases ef : f S with
  | st => rcases h with ⟨t, e, _⟩ | ⟨c, pl, e, _⟩ <;> simp [ef] at e
  | ex c pl =>
    rcases h with ⟨t, e, _⟩ | ⟨c', pl', e, q⟩
    · simp [ef] at e
    · simp only [ef, Rs.bind_ex, Rs.ex.injEq] at e
      exact .inr ⟨c, pl, rfl, by rw [e.1]; exact q⟩
  | ok t =>
    simp only [ef, Rs.bind_ok] at h
    rcases h with ⟨t', e, q⟩ | ⟨c, pl, e, _⟩
    · obtain ⟨rfl, hz⟩ := hφ t t' e
      refine .inl ⟨_, rfl, fun v H' as s nd fr rt => q v H' as s nd ?_ rt⟩
      rw [rt.isFz hz]
      intro a ha; cases ha
    · exact absurd e (hx t c pl)
theorem strS_ok {t t' : T} (e : strS t = .ok t') : t' = t ∧ t.isFz = true := by
  unfold strS at e
  split at e
  · cases e; exact ⟨rfl, rfl⟩
  · cases e
theorem strS_noex {t : T} : NoEx (strS t) := by
  intro c p e
  unfold strS at e
  split at e <;> cases e
theorem strS_str {f : Sto → Rs T} : ∀ S t, (do let x ← f S; strS x) = .ok t → ∃ d sv, t = .fz d ∧ scV d = some sv ∧ ∃ a, sv = .str a := fun S t e => by
  obtain ⟨l, _, e⟩ := Rs.bind_ok_iff e
  unfold strS at e
  split at e
  · cases e; exact ⟨_, _, rfl, rfl, _, rfl⟩
  · cases e
theorem noBack {f : Expr → IE → Bool} {env : Env} {pos : Pos} (hst : ∀ e i, f e i = true → ∀ es, starEach (e :: es) env = (false, eval e env) :: starEach es env) : ∀ {es : List Expr} {is : List IE}, allB f es is = true → (backTo pos (starEach es env)).any (·.1) = false
  | [], _, _ => rfl
  | e :: es, i :: is, h => by
    simp only [allB, Bool.and_eq_true] at h
    rw [hst e i h.1 es]
    have := noBack (pos := pos) hst h.2
    simpa [backTo] using this
  | _ :: _, [], h => by simp [allB] at h
theorem e_call {e : Expr} {es : List Expr} {is : List IE} {f : Str} {p pos : Pos} {fl : Sto → Rs (List T)} (x0 : XOk G D N k orc sc W X) (hD : f ∈ D) (hg : glB sc f = true) (ha : PA X (e :: es) (tA X.K X.mg W (is.map (·.isPath)) fl))
    (he : starEach (e :: es) X.env = (false, eval e X.env) :: starEach es X.env) (hb : (backTo pos (starEach es X.env)).any (·.1) = false) :
    PE X (.Call (.Name f p) (e :: es) [] pos) (tE X.K X.mg W false fun S => do let ts ← fl S; match T.frzL ts with | some us => callT (orc f us) ((is.zip ts).any fun p => isBor p.1 p.2) | none => Rs.st) := by
  obtain ⟨hgl, hd⟩ := glB_iff x0 hg
  obtain ⟨a, fd, ps, h1, h2, h3, h4⟩ := x0.orc f hD
  exact PE.weak (pe_callS h4 x0.room hgl h1 h2 h3 (fun σ => passAt x0.tk σ) ha hd he hb) fun σ H Q q => call_ok q
theorem gl_blt {x : Str} {u : Value} (x0 : XOk G D N k orc sc W X) (hg : glB sc x = true) (hx : x ∈ bltNames) : Gl X x ∧ X.mg x = none ∧ (x == ("__debug__" : Str)) = false ∧ x ≠ "__name__" := by
  obtain ⟨h1, h2⟩ := glB_iff x0 hg
  refine ⟨h1, x0.blt x hx, h2, ?_⟩
  intro e
  subst e
  exact absurd hx (by decide +kernel)
theorem bn_mem (b : Bn) : b.name ∈ bltNames := by cases b <;> decide +kernel
theorem e_blt {e : Expr} {es : List Expr} {ps : List Bool} {b : Bn} {p pos : Pos} {fl : Sto → Rs (List T)} (x0 : XOk G D N k orc sc W X) (hg : glB sc b.name = true) (ha : PA X (e :: es) (tA X.K X.mg W ps fl))
    (he : starEach (e :: es) X.env = (false, eval e X.env) :: starEach es X.env) (hb : (backTo pos (starEach es X.env)).any (·.1) = false) :
    PE X (.Call (.Name b.name p) (e :: es) [] pos) (tE X.K X.mg W false fun S => do let ts ← fl S; bltT b ps ts) := by
  obtain ⟨h1, h2, h3, h4⟩ := gl_blt (u := .none) x0 hg (bn_mem b)
  have base : PE X (.Call (.Name b.name p) (e :: es) [] pos) (tCB (rBlt X.K b) (tA X.K X.mg W ps fl)) := by
    have hc := blt_call x0.calm b
    have hv := blt_boot b
    cases b with
    | len => exact pe_callB hc h1 h2 hv ha h4 h3 he hb
    | list => exact pe_callTy hc h1 h2 hv ha h4 h3 he hb
    | tuple => exact pe_callTy hc h1 h2 hv ha h4 h3 he hb
    | max => exact pe_callB hc h1 h2 hv ha h4 h3 he hb
    | min => exact pe_callB hc h1 h2 hv ha h4 h3 he hb
    | int => exact pe_callTy hc h1 h2 hv ha h4 h3 he hb
  exact PE.weak base fun σ H Q q => tE_args (fun S L Y H2 ts vs bs t w e1 e2 si ar pq => blt_ok e2 si ar pq) (fun S ts c pl _ e _ => absurd e (blt_noex c pl)) q
theorem e_join {o e : Expr} {po pe : Bool} {fo fe : Sto → Rs T} {apos pos : Pos} (ho : PE X o (tE X.K X.mg W po fo)) (he : PE X e (tE X.K X.mg W pe fe)) (hs : starEach [e] X.env = [(false, eval e X.env)]) (hbase : attributeBase o "join" X.env (eval o X.env) = eval o X.env) (hline : apos.endLine = pos.line) :
    PE X (.Call (.Attribute o "join" apos) [e] [] pos) (tE X.K X.mg W false fun S => do let x ← (do let x ← fo S; strS x); let ts ← (do let t ← fe S; let ts ← (Rs.ok [] : Rs (List T)); return t :: ts); mthT .join x ts) := by
  have ho' : PE X o (tE X.K X.mg W false fun S => do let x ← fo S; strS x) := PE.weak ho fun σ H Q q => tE_filter (fun t t' e => strS_ok e) (fun t => strS_noex) q
  refine PE.weak (pe_join ho' he hs hbase (by simp [hline])) fun σ H Q q => ?_
  have q2 : tE X.K X.mg W false (fun S => do let x ← (do let x ← fo S; strS x); let y ← fe S; mthT .join x [y]) σ H Q := tE_cong q fun S => by
    cases (do let x ← fo S; strS x : Rs T) with
    | st => rfl
    | ex c p => rfl
    | ok x => cases fe S with
      | st => rfl
      | ex c p => rfl
      | ok y => rfl
  have q3 := tE_two (pa := false) (pb := pe) (r := fun x y H Q => (∃ a, x = .str a) ∧ rMth X.K .join x [y] H Q) (fun x y => mth_noex) (fun L Y H0 H2 x y vx vy bs t Q e si ar pq => join_ok e si ar pq) q2
  exact tE_mono (tE_know q3 strS_str) fun x H1 ⟨hx, z⟩ => ⟨hx, tE_mono z fun y H2 z => z.2⟩

/-! ### isinstance -/
theorem cl_mem (c : Cl) : c.name ∈ bltNames := by cases c <;> decide +kernel
theorem pe_cl {e : Expr} {c : Cl} (x0 : XOk G D N k orc sc W X) (h : clB sc e c = true) : PE X e (tC (.ty c.ty)) := by
  unfold clB at h
  split at h
  · simp only [Bool.and_eq_true, decide_eq_true_eq] at h
    obtain ⟨rfl, h⟩ := h
    obtain ⟨h1, h2, h3, h4⟩ := gl_blt (u := .none) x0 h (cl_mem c)
    exact pe_bltn h1 h2 (cl_boot c) rfl h4 h3
  · cases h
theorem isiT_noex {t : T} {cs : List Cl} : NoEx (do let k ← isiT t cs; return T.fz (.bool k) : Rs T) := by
  intro c p h
  unfold isiT at h
  split at h
  · cases h
  · split at h <;> cases h
theorem clB_star {e : Expr} {c : Cl} (h : clB sc e c = true) (es : List Expr) (env : Env) : starEach (e :: es) env = (false, eval e env) :: starEach es env := by
  unfold clB at h
  split at h
  · rfl
  · cases h
theorem e_isi1 {a c : Expr} {cl : Cl} {pa : Bool} {fa : Sto → Rs T} {p pos : Pos} (x0 : XOk G D N k orc sc W X) (hg : glB sc "isinstance" = true) (ha : PE X a (tE X.K X.mg W pa fa)) (hc : clB sc c cl = true) (hs : starEach [a, c] X.env = (false, eval a X.env) :: starEach [c] X.env) :
    PE X (.Call (.Name "isinstance" p) [a, c] [] pos) (tE X.K X.mg W false fun S => do let x ← fa S; let k ← isiT x [cl]; return .fz (.bool k)) := by
  obtain ⟨h1, h2, h3, h4⟩ := gl_blt (u := .none) x0 hg (by decide +kernel)
  have hsc : starEach [c] X.env = [(false, eval c X.env)] := clB_star hc [] X.env
  refine PE.weak (pe_callB call_isi h1 h2 (by decide +kernel) (pa_cons ha (pa_cons (pe_cl x0 hc) pa_nil hsc) hs) h4 h3 hs (by rw [hsc]; rfl)) fun σ H Q q => ?_
  refine tE_mono (tE_one (pa := pa) (r := fun vx H Q => rIsi X.K [vx, .ty cl.ty] H Q) (g := fun x => do let k ← isiT x [cl]; return .fz (.bool k)) (fun x => isiT_noex) (fun L Y H0 H2 x vx bs t Q e si ar pq => ?_) q) fun v H z => z
  obtain ⟨b, e1, e2⟩ := Rs.bind_ok_iff e
  simp only [Rs.pure_eq, Rs.ok.injEq] at e2; subst e2
  obtain ⟨as, r, _⟩ := ar.one
  obtain ⟨ty, t1, t2⟩ := isi_one si.msk_H r e1
  exact ⟨vx, .ty cl.ty, ty, _, b, rfl, .ty _, t1, t2, pq.bool⟩
theorem pa_cls (x0 : XOk G D N k orc sc W X) : ∀ {cs : List Expr} {cls : List Cl}, allB (clB sc) cs cls = true → PA X cs (fun σ H Q => Q (cls.map fun c => .ty c.ty) H)
  | [], [], _ => PA.weak pa_nil fun σ H Q q => q
  | c :: cs, cl :: cls, h => by
    simp only [allB, Bool.and_eq_true] at h
    exact PA.weak (pa_cons (pe_cl x0 h.1) (pa_cls x0 h.2) (clB_star h.1 cs X.env)) fun σ H Q q => q
  | [], _ :: _, h => by simp [allB] at h
  | _ :: _, [], h => by simp [allB] at h
theorem cls_paired : ∀ cls : List Cl, Paired ClsV (cls.map fun c => V.ty c.ty) (cls.map fun c => Value.type c.ty)
  | [] => .nil
  | c :: cs => .cons (.ty _) (cls_paired cs)
theorem e_isiT {a : Expr} {cs : List Expr} {cls : List Cl} {pa : Bool} {fa : Sto → Rs T} {p pos p2 : Pos} {j : Nat} (x0 : XOk G D N k orc sc W X) (hg : glB sc "isinstance" = true) (ha : PE X a (tE X.K X.mg W pa fa)) (hc : allB (clB sc) cs cls = true) (hl : cls.length ≤ 1000)
    (hs : starEach [a, .Tuple cs j p2] X.env = (false, eval a X.env) :: starEach [.Tuple cs j p2] X.env) :
    PE X (.Call (.Name "isinstance" p) [a, .Tuple cs j p2] [] pos) (tE X.K X.mg W false fun S => do let x ← fa S; let k ← isiT x cls; return .fz (.bool k)) := by
  obtain ⟨h1, h2, h3, h4⟩ := gl_blt (u := .none) x0 hg (by decide +kernel)
  refine PE.weak (pe_callB call_isiT h1 h2 (by decide +kernel) (pa_cons ha (pa_cons (pe_tup (pa_cls x0 hc)) pa_nil rfl) hs) h4 h3 hs rfl) fun σ H Q q => ?_
  refine tE_mono (tE_one (pa := pa) (r := fun vx H Q => (cls.map fun c => V.ty c.ty).length ≤ sizeLine ∧ ∀ p, H p = none → rIsiT X.K [vx, .ref p] (upd H p (.tup (cls.map fun (c : Cl) => V.ty c.ty))) Q) (g := fun x => do let k ← isiT x cls; return .fz (.bool k)) (fun x => isiT_noex) (fun L Y H0 H2 x vx bs t Q e si ar pq => ?_) q) fun v H z => z
  obtain ⟨b, e1, e2⟩ := Rs.bind_ok_iff e
  simp only [Rs.pure_eq, Rs.ok.injEq] at e2; subst e2
  obtain ⟨as, r, _⟩ := ar.one
  refine ⟨by rw [List.length_map, sizeLine_eq]; omega, fun p n => ?_⟩
  have r' : RT X.K (msk H2 L Y bs) (upd H2 p (.tup (cls.map fun c => .ty c.ty))) x vx as := r.mono (Same.refl _) fun a ha => by
    obtain ⟨ws, e⟩ := r.own a ha
    rw [upd_ne (ne_of_none e n)]
  obtain ⟨ty, t1, t2⟩ := isi_many (si.msk_H.trans (upd_ext n)) r' e1
  exact ⟨vx, p, _, ty, _, b, rfl, upd_same, cls_paired cls, t1, t2, pq (.bl b) _ [] (upd_ext n) List.nodup_nil (fun _ z => by cases z) (.fz (.bl b) rfl)⟩
end
end Dz
namespace Dz
open PySem PySem.Spec PyProof.Rows L2

section
variable {G : Str → Option PyData} {D N : List Str} {k : Nat} {orc : Str → List T → Rs T} {sc : Scope} {W : WX} {X : Cx} {tg : Expr}
variable {K : Frag} {mg : Str → Option Value}
/-! ### iterators -/
theorem tI_sub {κ : ItK} {ps : List Bool} {fl fl' : Sto → Rs (List T)} {σ : L2.St} {H : Hp} {R : It → Hp → Prop} (h : tI K mg W κ ps fl σ H R) (e : ∀ S, fl S = fl' S) : tI K mg W κ ps fl' σ H R := by
  rw [show fl' = fl from funext fun S => (e S).symm]; exact h
/-- the kind of the one source, seen ahead -/
inductive SrcK | li | tu | st
def srcK : T → SrcK
  | .fz (.str _) => .st
  | .fz (.tuple _) => .tu
  | .tp _ => .tu
  | _ => .li
theorem one_list (p : Bool) (f : Sto → Rs T) (S : Sto) {ts : List T} (e : (do let t ← f S; let ts ← (Rs.ok [] : Rs (List T)); return t :: ts) = .ok ts) : ∃ t, f S = .ok t ∧ ts = [t] := by
  obtain ⟨t, h1, e⟩ := Rs.bind_ok_iff e
  simp only [Rs.bind_ok, Rs.pure_eq, Rs.ok.injEq] at e
  exact ⟨t, h1, e.symm⟩
theorem seqD {o : Option PyData} {b : Bool} {ds : List PyData} (h : (match o with | some d => (match dseq d with | some ds => if b = true then Rs.ok ds else Rs.st | none => Rs.st) | none => Rs.st) = Rs.ok ds) : ∃ d, o = some d ∧ dseq d = some ds ∧ b = true := by
  cases o with
  | none => cases h
  | some d =>
    simp only at h
    cases e : dseq d with
    | none => rw [e] at h; cases h
    | some r =>
      rw [e] at h
      simp only at h
      split at h
      · rename_i hb; cases h; exact ⟨d, rfl, e, hb⟩
      · cases h
theorem itT_seq {t : T} {p : Bool} {ds : List PyData} (h : iterT .seq [p] [t] = .ok ds) : (∃ x, t = .fz (.str x) ∧ ds = x.cps.toList.map fun c => .str ⟨#[c]⟩) ∨ (∃ d, t.dat = some d ∧ dseq d = some ds ∧ itemsOk p t = true) := by
  cases t with
  | fz d => cases d with
    | str x => cases h; exact .inl ⟨x, rfl, rfl⟩
    | _ => exact .inr (seqD h)
  | _ => exact .inr (seqD h)
theorem itT_enum {t : T} {p : Bool} {ds : List PyData} (h : iterT .enum [p] [t] = .ok ds) : ∃ es, t.dat = some (.list es) ∧ itemsOk p t = true ∧ ds = es.zipIdx.map fun p => .tuple [.int (p.2 : Int), p.1] := by
  have h : (match t.dat with | some (.list es) => if itemsOk p t = true then Rs.ok (es.zipIdx.map fun p => PyData.tuple [.int (p.2 : Int), p.1]) else Rs.st | _ => Rs.st) = Rs.ok ds := h
  split at h
  · rename_i es e
    by_cases hb : itemsOk p t = true
    · rw [if_pos hb] at h; cases h; exact ⟨es, e, hb, rfl⟩
    · rw [if_neg hb] at h; cases h
  · cases h
theorem itT_range1 {t : T} {p : Bool} {ds : List PyData} (h : iterT .range [p] [t] = .ok ds) : ∃ j : Int, t = .fz (.int j) ∧ -(2 ^ 62) ≤ j ∧ j < 2 ^ 62 ∧ ds = (List.range j.toNat).map fun (i : Nat) => .int (0 + (i : Int)) := by
  unfold iterT at h
  split at h
  · rename_i h1 _; cases h1
  · rename_i h1 _; cases h1
  · rename_i j _ h2
    simp only [List.cons.injEq, and_true] at h2; subst h2
    split at h
    · rename_i hb; cases h; exact ⟨j, rfl, hb.1, hb.2, rfl⟩
    · cases h
  · rename_i h2; cases h2
  · rename_i h1 _; cases h1
  · rename_i h1 _; cases h1
  · cases h
theorem itT_range2 {t u : T} {p p' : Bool} {ds : List PyData} (h : iterT .range [p, p'] [t, u] = .ok ds) : ∃ i j : Int, t = .fz (.int i) ∧ u = .fz (.int j) ∧ (-(2 ^ 62) ≤ i ∧ i < 2 ^ 62 ∧ -(2 ^ 62) ≤ j ∧ j < 2 ^ 62) ∧ ds = (List.range (j - i).toNat).map fun (n : Nat) => .int (i + (n : Int)) := by
  unfold iterT at h
  split at h
  · rename_i h1 _; cases h1
  · rename_i h1 _; cases h1
  · rename_i h2; cases h2
  · rename_i i j _ h2
    simp only [List.cons.injEq, and_true] at h2
    obtain ⟨rfl, rfl⟩ := h2
    split at h
    · rename_i hb; cases h; exact ⟨i, j, rfl, rfl, hb, rfl⟩
    · cases h
  · rename_i h1 _; cases h1
  · rename_i h1 _; cases h1
  · cases h
theorem itT_zip {t u : T} {p p' : Bool} {ds : List PyData} (h : iterT .zip [p, p'] [t, u] = .ok ds) : ∃ xs ys, ((t.dat = some (.list xs) ∧ u.dat = some (.list ys)) ∨ (t.dat = some (.tuple xs) ∧ u.dat = some (.tuple ys))) ∧ itemsOk p t = true ∧ itemsOk p' u = true ∧ ds = (xs.zip ys).map fun p => .tuple [p.1, p.2] := by
  unfold iterT at h
  simp only [List.headD_cons, List.drop_succ_cons, List.drop_zero] at h
  split at h
  · rename_i xs ys h1 h2
    split at h
    · rename_i hb; cases h; exact ⟨xs, ys, .inl ⟨h1, h2⟩, hb.1, hb.2, rfl⟩
    · cases h
  · rename_i xs ys h1 h2
    split at h
    · rename_i hb; cases h; exact ⟨xs, ys, .inr ⟨h1, h2⟩, hb.1, hb.2, rfl⟩
    · cases h
  · cases h
abbrev fOne (f : Sto → Rs T) : Sto → Rs (List T) := fun S => do let t ← f S; let ts ← (Rs.ok [] : Rs (List T)); return t :: ts
abbrev fTwo (f g : Sto → Rs T) : Sto → Rs (List T) := fun S => do let t ← f S; let ts ← (do let u ← g S; let ts ← (Rs.ok [] : Rs (List T)); return u :: ts); return t :: ts
theorem i_seq {e : Expr} {p : Bool} {f : Sto → Rs T} (he : PE X e (tE X.K X.mg W p f)) : PI X tg e (tI X.K X.mg W .seq [p] (fOne f)) := by
  refine PI.weak (PI.or (pi_list he) (PI.or (pi_tup he) (pi_str he))) fun σ H R h => ?_
  obtain ⟨S, L, Y, w, h⟩ := id h
  -- what it is, is known ahead
  cases ef : f S with
  | st =>
    rcases h with ⟨ts, ds, e1, _⟩ | ⟨c, pl, e1, _⟩ <;> simp [fOne, ef] at e1
  | ex c pl =>
    rcases h with ⟨ts, ds, e1, _⟩ | ⟨c', pl', e1, q⟩
    · simp [fOne, ef] at e1
    · simp only [fOne, ef, Rs.bind_ex, Rs.ex.injEq] at e1
      exact .inl ⟨S, L, Y, w, .inr ⟨c, pl, ef, by rw [e1.1]; exact q⟩⟩
  | ok t =>
    rcases h with ⟨ts, ds, e1, e2, q⟩ | ⟨c, pl, e1, _⟩
    · simp only [fOne, ef, Rs.bind_ok, Rs.pure_eq, Rs.ok.injEq] at e1; subst e1
      rcases itT_seq e2 with ⟨x, rfl, rfl⟩ | ⟨d, e3, e4, e5⟩
      · refine .inr (.inr ⟨S, L, Y, w, .inl ⟨_, ef, fun v H' as s nd fr rt => ?_⟩⟩)
        obtain ⟨rfl, o⟩ := rt.strV
        exact ⟨x, rfl, q (Its x) H' as ⟨s, (w.mono s).lst, w.old, nd, w.nd⟩ (fun Kp _ => Wk.str o) (fun _ => by rw [List.length_map]; exact (okS_iff.mp o).2)⟩
      · have core : ∀ v H' as, Same H H' → as.Nodup → (∀ a ∈ as, if p = true then a ∈ L else H a = none) → RT X.K (mask H' fun b => (b ∈ L ∨ Y b) ∨ b ∈ as) H' t v as →
            ∃ a vs, v = .ref a ∧ ((d = .list ds ∧ SqL X.K H' a vs ∧ R (Itl X.K a) H') ∨ (d = .tuple ds ∧ SqT X.K H' a vs ∧ R (Itt X.K a) H')) := by
          intro v H' as s nd fr rt
          have si : Sit X.K L Y H H' as := ⟨s, (w.mono s).lst, w.old, nd, w.nd⟩
          obtain ⟨a, vs, rfl, hs, hd, o, hl⟩ := src_items si rt (fun hp a ha => by have := fr a ha; rw [hp] at this; simpa using this) e3 e4 e5
          rcases hs with ⟨e6, hs⟩ | ⟨e6, hs⟩
          · exact ⟨a, vs, rfl, .inl ⟨e6, mask_same.seq hs, q _ H' as si (fun Kp kp => Wk.list (fun H2 k2 => (KpOf.one kp H2 k2).seq hs) hd o) (fun _ => hl)⟩⟩
          · exact ⟨a, vs, rfl, .inr ⟨e6, SqT.mono mask_same hs, q _ H' as si (fun Kp kp => Wk.tuple (fun H2 k2 => SqT.mono (KpOf.one kp H2 k2) hs) hd o) (fun _ => hl)⟩⟩
        cases d with
        | list xs =>
          refine .inl ⟨S, L, Y, w, .inl ⟨t, ef, fun v H' as s nd fr rt => ?_⟩⟩
          obtain ⟨a, vs, rfl, (⟨_, h1, h2⟩ | ⟨h1, _⟩)⟩ := core v H' as s nd fr rt
          · exact ⟨a, rfl, ⟨vs, h1⟩, h2⟩
          · cases h1
        | tuple xs =>
          refine .inr (.inl ⟨S, L, Y, w, .inl ⟨t, ef, fun v H' as s nd fr rt => ?_⟩⟩)
          obtain ⟨a, vs, rfl, (⟨h1, _⟩ | ⟨_, h1, h2⟩)⟩ := core v H' as s nd fr rt
          · cases h1
          · exact ⟨a, rfl, ⟨vs, h1⟩, h2⟩
        | _ => simp [dseq] at e4
    · simp [fOne, ef] at e1
theorem i_range1 {a : Expr} {p : Bool} {f : Sto → Rs T} {fp pos : Pos} (x0 : XOk G D N k orc sc W X) (hg : glB sc "range" = true) (ha : PE X a (tE X.K X.mg W p f)) (hs : starEach [a] X.env = [(false, eval a X.env)]) :
    PI X tg (.Call (.Name "range" fp) [a] [] pos) (tI X.K X.mg W .range [p] (fOne f)) := by
  obtain ⟨h1, h2, h3, h4⟩ := gl_blt (u := .none) x0 hg (by decide +kernel)
  refine PI.weak (pi_range1 h1 h2 (pa_cons ha pa_nil hs) hs) fun σ H R h => ?_
  refine tE_mono (tA_cons (tI_args (R' := fun vs H1 => ∃ j : Int, vs = [.int j] ∧ -(2 ^ 62) ≤ j ∧ j < 2 ^ 62 ∧ R (Itr 0 j.toNat) H1) h fun L Y H2 ts ds vs bs e si ar q => ?_)) fun v H1 z => tA_nil z
  obtain ⟨p', v, e1, rfl⟩ : ∃ p' v, [p] = [p'] ∧ vs = [v] := by
    have := ar.length
    match vs, this with
    | [v], _ => exact ⟨p, v, rfl, rfl⟩
  obtain ⟨t, rfl⟩ : ∃ t, ts = [t] := by
    have := ar.length
    match ts, this with
    | [t], _ => exact ⟨t, rfl⟩
  obtain ⟨j, rfl, h1, h2, rfl⟩ := itT_range1 e
  obtain ⟨as, r, _⟩ := ar.one
  exact ⟨j, by rw [r.intV], h1, h2, q (Itr 0 j.toNat) (fun Kp _ => Wk.range) (fun z => absurd rfl z)⟩
theorem i_range2 {a b : Expr} {p p' : Bool} {f g : Sto → Rs T} {fp pos : Pos} (x0 : XOk G D N k orc sc W X) (hg : glB sc "range" = true) (ha : PE X a (tE X.K X.mg W p f)) (hb : PE X b (tE X.K X.mg W p' g))
    (hs : starEach [a, b] X.env = (false, eval a X.env) :: starEach [b] X.env) (hs2 : starEach [b] X.env = [(false, eval b X.env)]) :
    PI X tg (.Call (.Name "range" fp) [a, b] [] pos) (tI X.K X.mg W .range [p, p'] (fTwo f g)) := by
  obtain ⟨h1, h2, h3, h4⟩ := gl_blt (u := .none) x0 hg (by decide +kernel)
  refine PI.weak (pi_range2 h1 h2 (pa_cons ha (pa_cons hb pa_nil hs2) hs) (by rw [hs, hs2]) hs2) fun σ H R h => ?_
  refine tE_mono (tA_cons (tI_args (R' := fun vs H1 => ∃ i j : Int, vs = [.int i, .int j] ∧ (-(2 ^ 62) ≤ i ∧ i < 2 ^ 62 ∧ -(2 ^ 62) ≤ j ∧ j < 2 ^ 62) ∧ R (Itr i (j - i).toNat) H1) h fun L Y H2 ts ds vs bs e si ar q => ?_)) fun v H1 z => tE_mono (tA_cons z) fun v H1 z => tA_nil z
  obtain ⟨v, v', rfl⟩ : ∃ v v', vs = [v, v'] := by
    have := ar.length
    match vs, this with
    | [v, v'], _ => exact ⟨v, v', rfl⟩
  obtain ⟨t, t', rfl⟩ : ∃ t t', ts = [t, t'] := by
    have := ar.length
    match ts, this with
    | [t, t'], _ => exact ⟨t, t', rfl⟩
  obtain ⟨i, j, rfl, rfl, hb, rfl⟩ := itT_range2 e
  obtain ⟨as, as', r1, r2, _⟩ := ar.two
  exact ⟨i, j, by rw [r1.intV, r2.intV], hb, q (Itr i (j - i).toNat) (fun Kp _ => Wk.range) (fun z => absurd rfl z)⟩
theorem i_enum {a : Expr} {p : Bool} {f : Sto → Rs T} {fp pos tpos : Pos} {elts : List Expr} {kk : Nat} (x0 : XOk G D N k orc sc W X) (hg : glB sc "enumerate" = true) (ha : PE X a (tE X.K X.mg W p f)) (hs : starEach [a] X.env = [(false, eval a X.env)]) :
    PI X (.Tuple elts kk tpos) (.Call (.Name "enumerate" fp) [a] [] pos) (tI X.K X.mg W .enum [p] (fOne f)) := by
  obtain ⟨h1, h2, h3, h4⟩ := gl_blt (u := .none) x0 hg (by decide +kernel)
  refine PI.weak (pi_enum h1 h2 (pa_cons ha pa_nil hs) hs) fun σ H R h => ?_
  refine tE_mono (tA_cons (tI_args (R' := fun vs H1 => ∃ a xs, vs = [.ref a] ∧ SqL X.K H1 a xs ∧ R (Ite X.K a) H1) h fun L Y H2 ts ds vs bs e si ar q => ?_)) fun v H1 z => tA_nil z
  obtain ⟨v, rfl⟩ : ∃ v, vs = [v] := by
    have := ar.length
    match vs, this with
    | [v], _ => exact ⟨v, rfl⟩
  obtain ⟨t, rfl⟩ : ∃ t, ts = [t] := by
    have := ar.length
    match ts, this with
    | [t], _ => exact ⟨t, rfl⟩
  obtain ⟨es, e1, i1, rfl⟩ := itT_enum e
  obtain ⟨as, r, f1⟩ := ar.fr1
  obtain ⟨a, ws, rfl, hs, hd, o, hl⟩ := src_items si r f1 e1 rfl i1
  rcases hs with ⟨_, hs⟩ | ⟨z, _⟩
  · exact ⟨a, ws, rfl, mask_same.seq hs, q _ (fun Kp kp => Wk.enum (fun H3 k3 => (KpOf.one kp H3 k3).seq hs) hd o) (fun _ => by simpa using hl)⟩
  · cases z
theorem i_zip {a b : Expr} {p p' : Bool} {f g : Sto → Rs T} {fp pos tpos : Pos} {elts : List Expr} {kk : Nat} (x0 : XOk G D N k orc sc W X) (hg : glB sc "zip" = true) (ha : PE X a (tE X.K X.mg W p f)) (hb : PE X b (tE X.K X.mg W p' g))
    (hs : starEach [a, b] X.env = (false, eval a X.env) :: starEach [b] X.env) (hs2 : starEach [b] X.env = [(false, eval b X.env)]) :
    PI X (.Tuple elts kk tpos) (.Call (.Name "zip" fp) [a, b] [] pos) (tI X.K X.mg W .zip [p, p'] (fTwo f g)) := by
  obtain ⟨h1, h2, h3, h4⟩ := gl_blt (u := .none) x0 hg (by decide +kernel)
  refine PI.weak (RZ.pi_zipA h1 h2 (pa_cons ha (pa_cons hb pa_nil hs2) hs) hs (by rw [hs2]; rfl)) fun σ H R h => ?_
  refine tE_mono (tA_cons (tI_args (R' := fun vs H1 => ∃ a b xs ys, vs = [.ref a, .ref b] ∧ ((SqL X.K H1 a xs ∧ SqL X.K H1 b ys ∧ R (Itz X.K a b) H1) ∨ (SqT X.K H1 a xs ∧ SqT X.K H1 b ys ∧ R (RZ.ItzT X.K a b) H1))) h fun L Y H2 ts ds vs bs e si ar q => ?_)) fun v H1 z => tE_mono (tA_cons z) fun v H1 z => tA_nil z
  obtain ⟨v, v', rfl⟩ : ∃ v v', vs = [v, v'] := by
    have := ar.length
    match vs, this with
    | [v, v'], _ => exact ⟨v, v', rfl⟩
  obtain ⟨t, t', rfl⟩ : ∃ t t', ts = [t, t'] := by
    have := ar.length
    match ts, this with
    | [t, t'], _ => exact ⟨t, t', rfl⟩
  obtain ⟨xs, ys, he, i1, i2, rfl⟩ := itT_zip e
  obtain ⟨as, as', r1, r2, f1, f2⟩ := ar.fr2
  have len : ∀ {xs ys : List PyData}, xs.length ≤ 16777216 → ((xs.zip ys).map fun p => PyData.tuple [p.1, p.2]).length ≤ 16777216 := fun h => by
    rw [List.length_map, List.length_zip]; omega
  rcases he with ⟨e1, e2⟩ | ⟨e1, e2⟩
  · obtain ⟨a, ws, rfl, hs, hd, o, hl⟩ := src_items si r1 f1 e1 rfl i1
    obtain ⟨a', ws', rfl, hs', hd', o', hl'⟩ := src_items si r2 f2 e2 rfl i2
    rcases hs with ⟨_, hs⟩ | ⟨z, _⟩
    · rcases hs' with ⟨_, hs'⟩ | ⟨z, _⟩
      · exact ⟨a, a', ws, ws', rfl, .inl ⟨mask_same.seq hs, mask_same.seq hs', q _ (fun Kp kp => Wk.zipL (fun H3 k3 => ⟨((KpOf.two kp H3 k3).1).seq hs, ((KpOf.two kp H3 k3).2).seq hs'⟩) hd hd' o o') (fun _ => len hl)⟩⟩
      · cases z
    · cases z
  · obtain ⟨a, ws, rfl, hs, hd, o, hl⟩ := src_items si r1 f1 e1 rfl i1
    obtain ⟨a', ws', rfl, hs', hd', o', hl'⟩ := src_items si r2 f2 e2 rfl i2
    rcases hs with ⟨z, _⟩ | ⟨_, hs⟩
    · cases z
    · rcases hs' with ⟨z, _⟩ | ⟨_, hs'⟩
      · cases z
      · exact ⟨a, a', ws, ws', rfl, .inr ⟨SqT.mono mask_same hs, SqT.mono mask_same hs', q _ (fun Kp kp => Wk.zipT (fun H3 k3 => ⟨SqT.mono ((KpOf.two kp H3 k3).1) hs, SqT.mono ((KpOf.two kp H3 k3).2) hs'⟩) hd hd' o o') (fun _ => len hl)⟩⟩
end
end Dz
namespace Dz
open PySem PySem.Spec PyProof.Rows L2

section
variable {G : Str → Option PyData} {D N : List Str} {k : Nat} {orc : Str → List T → Rs T}
theorem chk_set {n : Nat} {sc : Scope} {a : List Expr} {j : Nat} {p : Pos} {ie : IE} : chkE D N n sc (.Set a j p) ie = false := by
  cases n <;> cases ie <;> rfl
theorem chk_slice {n : Nat} {sc : Scope} {a b c : Option Expr} {p : Pos} {ie : IE} : chkE D N n sc (.Slice a b c p) ie = false := by
  cases n <;> cases ie <;> rfl
theorem chk_call0 {n : Nat} {sc : Scope} {f : Expr} {kw : List Keyword} {p : Pos} {ie : IE} : chkE D N n sc (.Call f [] kw p) ie = false := by
  cases n with
  | zero => rfl
  | succ n => cases ie <;> cases f <;> rfl
theorem mark_of {n : Nat} {sc : Scope} {e : Expr} {ie : IE} (h : chkE D N n sc e ie = true) (op : CmpOp) : behindInMarks op e = false := by
  cases e with
  | Set a j p => rw [chk_set] at h; cases h
  | _ => rfl
theorem plain_of {n : Nat} {sc : Scope} {e : Expr} {ie : IE} (h : chkE D N n sc e ie = true) : PlainIx e := by
  cases e with
  | Slice a b c p => rw [chk_slice] at h; cases h
  | _ => exact fun _ _ => rfl
theorem base_of {n : Nat} {sc : Scope} {e : Expr} {ie : IE} (h : chkE D N n sc e ie = true) (nm : Str) (env : Env) (w : Sem Value) : attributeBase e nm env w = w := by
  cases e with
  | Call f args kw p =>
    cases args with
    | nil => rw [chk_call0] at h; cases h
    | cons a as => cases f <;> rfl
  | _ => rfl
theorem fold_of {n : Nat} {sc : Scope} {e : Expr} {ie : IE} (h : chkE D N n sc e ie = true) (env : Env) (x : Value) : foldedSetIterable e env x = pure x := by
  cases e with
  | Set a j p => rw [chk_set] at h; cases h
  | _ => rfl
/-- what is shown of each expression at a depth of the checker -/
def SE (G : Str → Option PyData) (D N : List Str) (k : Nat) (orc : Str → List T → Rs T) (n : Nat) : Prop :=
  ∀ (m : Nat) (sc : Scope) (W : WX) (X : Cx) (e : Expr) (ie : IE), chkE D N n sc e ie = true → XOk G D N k orc sc W X →
    PE X e (tE X.K X.mg W ie.isPath fun S => ev G orc m S ie) ∧ PT X e (tT X.K X.mg W fun S => evT G orc m S ie) ∧ ∀ op vals pos, e = .BoolOp op vals pos → PW X e (tT X.K X.mg W fun S => evT G orc m S ie)
variable {sc : Scope} {W : WX} {X : Cx}
theorem PW.stuck {e : Expr} {K : Frag} {mg : Str → Option Value} : PW X e (tT K mg W fun _ => Rs.st) := ⟨fun _ _ _ σ H Q _ h => by
  obtain ⟨S, L, Y, w, h⟩ := h
  rcases h with ⟨t, e, _⟩ | ⟨c, pl, e, _⟩ <;> cases e⟩
theorem evL_len {m : Nat} {is : List IE} {S : Sto} {ts : List T} (h : evL (fun e => do let t ← ev G orc m S e; useT e t) is = .ok ts) : ts.length = is.length := evL_length h
/-- as a value, used -/
theorem SE.use {n m : Nat} (ih : SE G D N k orc n) {e : Expr} {ie : IE} (h : chkE D N n sc e ie = true) (x0 : XOk G D N k orc sc W X) : PE X e (tE X.K X.mg W false fun S => do let t ← ev G orc m S ie; useT ie t) :=
  PE.weak (ih m sc W X e ie h x0).1 fun σ H Q q => tE_use q
theorem soundE {n m : Nat} (ih : SE G D N k orc n) {e : Expr} {ie : IE} (h : chkE D N (n + 1) sc e ie = true) (x0 : XOk G D N k orc sc W X)
    (hlc : ∀ {elt tg iter : Expr} {ifs : List Expr} {scope : Scope} {pos : Pos} {is : List Nat} {tu : Bool} {x : IE} {κ : ItK} {src cond : List IE} {m : Nat}, chkE D N (n + 1) sc (.ListComp elt [⟨tg, iter, ifs, 0⟩] scope pos) (.lc is tu x κ src cond) = true →
      PE X (.ListComp elt [⟨tg, iter, ifs, 0⟩] scope pos) (tE X.K X.mg W false fun S => ev G orc (m + 1) S (.lc is tu x κ src cond))) :
    PE X e (tE X.K X.mg W ie.isPath fun S => ev G orc m S ie) := by
  cases m with
  | zero => exact PE.stuck
  | succ m =>
  have hpe : ∀ e i, chkE D N n sc e i = true → PE X e (tE X.K X.mg W i.isPath fun S => ev G orc m S i) := fun e i h => (ih m sc W X e i h x0).1
  have hst : ∀ e i, chkE D N n sc e i = true → ∀ es, starEach (e :: es) X.env = (false, eval e X.env) :: starEach es X.env := fun e i h es => star_of h es X.env
  have h0 := h
  unfold chkE at h
  split at h
  · exact e_dat h
  · exact e_var x0 h
  · simp only [Bool.and_eq_true, decide_eq_true_eq] at h
    obtain ⟨rfl, h⟩ := h
    exact e_glb x0 h
  · rename_i es _ _ is
    simp only [Bool.and_eq_true, decide_eq_true_eq] at h
    exact e_tup (is := is) (pa_use hpe hst h.2) (fun S ts e => by rw [evL_len e, ← allB_length h.2]; exact h.1)
  · rename_i es _ is
    simp only [Bool.and_eq_true, decide_eq_true_eq] at h
    exact e_lst (is := is) (pa_use hpe hst h.2) (fun S ts e => by rw [evL_len e, ← allB_length h.2]; exact h.1)
  · simp only [Bool.and_eq_true, decide_eq_true_eq] at h
    obtain ⟨⟨rfl, ha⟩, hb⟩ := h
    exact e_bin (hpe _ _ ha) (hpe _ _ hb)
  · exact e_neg (hpe _ _ h)
  · exact e_no (hpe _ _ h)
  · simp only [Bool.and_eq_true, decide_eq_true_eq] at h
    obtain ⟨⟨rfl, ha⟩, hb⟩ := h
    exact e_cmp x0 (hpe _ _ ha) (hpe _ _ hb) (mark_of hb _)
  · simp only [Bool.and_eq_true, decide_eq_true_eq] at h
    obtain ⟨⟨⟨⟨rfl, rfl⟩, ha⟩, hb⟩, hc⟩ := h
    exact e_chn x0 (hpe _ _ ha) (hpe _ _ hb) (hpe _ _ hc) (mark_of hc _)
  · rename_i op a b _ op' x y
    simp only [Bool.and_eq_true, decide_eq_true_eq] at h
    obtain ⟨⟨rfl, ha⟩, hb⟩ := h
    cases op with
    | And => exact e_and (r := []) (hpe _ _ ha) (pe_one (ih.use (m := m) hb x0))
    | Or => exact e_or (r := []) (hpe _ _ ha) (pe_one (ih.use (m := m) hb x0))
  · rename_i op a b c r pos op' x y
    simp only [Bool.and_eq_true, decide_eq_true_eq] at h
    obtain ⟨⟨rfl, ha⟩, hb⟩ := h
    cases op with
    | And => exact e_and (hpe _ _ ha) (ih.use (m := m) hb x0)
    | Or => exact e_or (hpe _ _ ha) (ih.use (m := m) hb x0)
  · simp only [Bool.and_eq_true] at h
    exact e_ite (ih m sc W X _ _ h.1.1 x0).2.1 (ih.use (m := m) h.1.2 x0) (ih.use (m := m) h.2 x0)
  · rename_i a lo hi _ _ x l hh
    simp only [Bool.and_eq_true] at h
    obtain ⟨⟨ha, hl⟩, hh'⟩ := h
    have prt : ∀ (o : Option Expr) (i : IE), (match o with | none => i.isNon | some e => !i.isNon && chkE D N n sc e i) = true → Prt X W o i.isNon (fun S => do let l ← ev G orc m S i; strict i.isNon l) := by
      intro o i hi
      cases o with
      | none =>
        have hi : i.isNon = true := hi
        rw [hi]
        refine Prt.no fun S => ?_
        have : i = .dat .none := by
          unfold IE.isNon at hi
          split at hi
          · rfl
          · cases hi
        subst this
        cases m with
        | zero => exact .inr rfl
        | succ m => exact .inl rfl
      | some e =>
        simp only [Bool.and_eq_true, Bool.not_eq_true'] at hi
        rw [hi.1]
        exact Prt.so (hpe e i hi.2)
    exact e_sl (hpe _ _ ha) (prt lo l hl) (prt hi hh hh')
  · rename_i a b _ x y _
    simp only [Bool.and_eq_true] at h
    exact e_ix (hpe _ _ h.1) (hpe _ _ h.2) (plain_of h.2)
  · rename_i f _ e es _ g is
    simp only [Bool.and_eq_true, decide_eq_true_eq] at h
    obtain ⟨⟨⟨rfl, hg⟩, hD⟩, ha⟩ := h
    have ha0 := ha
    cases is with
    | nil => simp [allB] at ha
    | cons i is =>
      simp only [allB, Bool.and_eq_true] at ha
      exact e_call x0 hD hg (pa_all hpe hst ha0) (hst _ _ ha.1 es) (noBack hst ha.2)
  · rename_i f _ e es _ b is
    simp only [Bool.and_eq_true, decide_eq_true_eq] at h
    obtain ⟨⟨rfl, hg⟩, ha⟩ := h
    have ha0 := ha
    cases is with
    | nil => simp [allB] at ha
    | cons i is =>
      simp only [allB, Bool.and_eq_true] at ha
      exact e_blt x0 hg (pa_all hpe hst ha0) (hst _ _ ha.1 es) (noBack hst ha.2)
  · simp only [Bool.and_eq_true, decide_eq_true_eq] at h
    obtain ⟨⟨⟨rfl, hg⟩, ha⟩, hc⟩ := h
    exact e_isiT x0 hg (hpe _ _ ha) hc.2 hc.1 (hst _ _ ha _)
  · simp only [Bool.and_eq_true, decide_eq_true_eq] at h
    obtain ⟨⟨⟨rfl, hg⟩, ha⟩, hc⟩ := h
    exact e_isi1 x0 hg (hpe _ _ ha) hc (hst _ _ ha _)
  · rename_i o m' apos e es pos mm x is
    simp only [Bool.and_eq_true, decide_eq_true_eq] at h
    obtain ⟨⟨⟨⟨⟨rfl, h1⟩, rfl⟩, hl⟩, ho⟩, ha⟩ := h
    match is, h1 with
    | [i], _ =>
      cases es with
      | nil =>
        simp only [allB, Bool.and_true] at ha
        exact e_join (hpe _ _ ho) (hpe _ _ ha) (hst _ _ ha []) (base_of ho _ _ _) hl
      | cons a b => simp [allB] at ha
  · exact hlc h0
  · cases h
end
end Dz
namespace Dz
open PySem PySem.Spec PyProof.Rows L2

section
variable {G : Str → Option PyData} {D N : List Str} {k : Nat} {orc : Str → List T → Rs T} {sc : Scope} {W : WX} {X : Cx}
/-! ### targets of names -/
theorem pgs_names {X : Cx} {sc0 : Scope} (nd : X.N.Nodup) (hN : X.N = N) (hloc : ∀ x, locB sc0 x = true → L2.Loc X.env.scope x ∧ (X.fn x = true ∨ X.env.scope.names.lookup x = some .local)) :
    ∀ {es : List Expr} {is : List Nat}, allB (fun e i => match e with | .Name x _ => decide (N[i]? = some x) && locB sc0 x | _ => false) es is = true →
      PGs X es ((is.map gName).foldr gCons gNil) ∧ (assignEach es X.env).length = is.length ∧ (assignEach es X.env).findIdx? (·.1) = none
  | [], [], _ => ⟨pgs_nil, rfl, rfl⟩
  | e :: es, i :: is, h => by
    simp only [allB, Bool.and_eq_true] at h
    obtain ⟨h1, h2⟩ := h
    obtain ⟨a, b, c⟩ := pgs_names nd hN hloc h2
    split at h1
    · rename_i x p
      simp only [Bool.and_eq_true, decide_eq_true_eq] at h1
      obtain ⟨l1, l2⟩ := hloc x h1.2
      refine ⟨pgs_cons (pg_name nd (by rw [hN]; exact h1.1) l1 l2) a, ?_, ?_⟩
      · show (assignEach es X.env).length + 1 = _
        rw [b]; rfl
      · have e : assignEach (.Name x p :: es) X.env = (false, assign (.Name x p) X.env) :: assignEach es X.env := rfl
        rw [e, List.findIdx?_cons, c]; rfl
    · cases h1
  | [], _ :: _, h => by simp [allB] at h
  | _ :: _, [], h => by simp [allB] at h
theorem pg_tg {X : Cx} {sc0 : Scope} (hc : X.calm = true) (nd : X.N.Nodup) (hN : X.N = N) (hloc : ∀ x, locB sc0 x = true → L2.Loc X.env.scope x ∧ (X.fn x = true ∨ X.env.scope.names.lookup x = some .local)) {e : Expr} {is : List Nat} {tu : Bool} (h : tgB N sc0 e is tu = true) :
    PG X e (gT X.K is tu) := by
  unfold tgB at h
  split at h
  · simp only [Bool.and_eq_true, decide_eq_true_eq] at h
    obtain ⟨l1, l2⟩ := hloc _ h.2
    exact pg_name nd (by rw [hN]; exact h.1) l1 l2
  · obtain ⟨a, b, c⟩ := pgs_names nd hN hloc h
    exact pg_u hc a b c
  · cases h
/-- the block of a comprehension -/
theorem XOk.blk {scope : Scope} {own : List (Str × Nat)} (x0 : XOk G D N k orc sc W X) (hb : blkC N sc scope own = true) (s : Shared) (H : Hp) (C : Addr) (cl : List (Str × Addr)) (fp : List Addr) :
    XOk G D N k orc (relS scope sc) W0 (X.blk s H scope (compEnvC scope cl C X.env) fp) := by
  obtain ⟨hN, hs, kd, nd, calm, room, gl, blt, orc', tk⟩ := x0
  subst hs
  exact ⟨hN, rfl, (blkOk_by hb).kind, nd, calm, room, gl, blt, orc', takes0⟩
theorem blk_loc {scope : Scope} {s : Shared} {H : Hp} {C : Addr} {cl : List (Str × Addr)} {fp : List Addr} (x : Str) (h : locB scope x = true) :
    L2.Loc (X.blk s H scope (compEnvC scope cl C X.env) fp).env.scope x ∧ ((X.blk s H scope (compEnvC scope cl C X.env) fp).fn x = true ∨ (X.blk s H scope (compEnvC scope cl C X.env) fp).env.scope.names.lookup x = some .local) := by
  have hl := locB_iff h
  rcases hl with e | e
  · have := lookup_relS_keep (sc := X.env.scope) (by decide) e
    exact ⟨.inl this, .inr this⟩
  · have := lookup_relS_keep (sc := X.env.scope) (by decide) e
    exact ⟨.inr this, .inl (by show (scope.names.lookup x == some NameKind.cell) = true; rw [e]; rfl)⟩
theorem PTs.weak {es : List Expr} {t t' : TT} (h : PTs X es t) (w : ∀ σ H Q, t' σ H Q → t σ H Q) : PTs X es t' := ⟨fun pins s σ H Q I q => h.run pins s σ H Q I (w σ H Q q)⟩
theorem lcLoop_noex {bindF : PyData → Option Sto} {cond : Sto → Rs Bool} {elt : Sto → Rs T} (hc : ∀ S, NoEx (cond S)) (he : ∀ S, NoEx (elt S)) : ∀ ds, NoEx (lcLoop bindF cond elt ds)
  | [], _, _, h => by cases h
  | d :: ds, c, p, h => by
    simp only [lcLoop] at h
    cases e : bindF d with
    | none => rw [e] at h; cases h
    | some S =>
      rw [e] at h
      simp only at h
      cases ec : cond S with
      | st => rw [ec] at h; cases h
      | ex a b => exact hc S a b ec
      | ok b =>
        rw [ec] at h
        cases b with
        | true =>
          simp only [Rs.bind_ok, if_true] at h
          cases ee : elt S with
          | st => rw [ee] at h; cases h
          | ex a b => exact he S a b ee
          | ok t =>
            rw [ee] at h
            simp only [Rs.bind_ok] at h
            cases er : lcLoop bindF cond elt ds with
            | st => rw [er] at h; cases h
            | ok r => rw [er] at h; cases h
            | ex a b => exact lcLoop_noex hc he ds a b er
        | false =>
          simp only [Rs.bind_ok, Bool.false_eq_true, if_false] at h
          exact lcLoop_noex hc he ds c p h
theorem ne_noex {α : Type} {r : Rs α} : NoEx r.ne := by
  intro c p h
  cases r <;> cases h
theorem tg_tuple {sc0 : Scope} {e : Expr} {is : List Nat} {tu : Bool} (h : tgB N sc0 e is tu = true) (ht : tu = true) : ∃ es j p, e = .Tuple es j p := by
  subst ht
  unfold tgB at h
  split at h
  · rename_i h'; cases h'
  · exact ⟨_, _, _, rfl⟩
  · cases h
theorem it_okG {n : Nat} (x0 : XOk G D N k orc sc W X) {κ : ItK} {iter tg : Expr} {src : List IE} {tu : Bool} {is : List Nat} {sc0 : Scope} {F : IE → Sto → Rs T} {pp : IE → Bool} (hpe : ∀ e i, chkE D N n sc e i = true → PE X e (tE X.K X.mg W (pp i) (F i))) (h : itB (chkE D N n sc) (glB sc) κ iter src tu = true) (ht : tgB N sc0 tg is tu = true) :
    PI X tg iter (tI X.K X.mg W κ (src.map pp) fun S => evL (fun e => F e S) src) ∧ ∀ x, foldedSetIterable iter X.env x = pure x := by
  have hst : ∀ e i, chkE D N n sc e i = true → ∀ es, starEach (e :: es) X.env = (false, eval e X.env) :: starEach es X.env := fun e i h es => star_of h es X.env
  unfold itB at h
  split at h
  · exact ⟨i_seq (hpe _ _ h), fun x => fold_of h _ _⟩
  · simp only [Bool.and_eq_true, decide_eq_true_eq] at h
    obtain ⟨⟨rfl, hg⟩, ha⟩ := h
    exact ⟨i_range1 x0 hg (hpe _ _ ha) (hst _ _ ha []), fun _ => rfl⟩
  · simp only [Bool.and_eq_true, decide_eq_true_eq] at h
    obtain ⟨⟨⟨rfl, hg⟩, ha⟩, hb⟩ := h
    exact ⟨i_range2 x0 hg (hpe _ _ ha) (hpe _ _ hb) (hst _ _ ha _) (hst _ _ hb []), fun _ => rfl⟩
  · simp only [Bool.and_eq_true, decide_eq_true_eq] at h
    obtain ⟨⟨⟨rfl, hg⟩, ha⟩, htu⟩ := h
    obtain ⟨es, j, p, rfl⟩ := tg_tuple ht htu
    exact ⟨i_enum x0 hg (hpe _ _ ha) (hst _ _ ha []), fun _ => rfl⟩
  · simp only [Bool.and_eq_true, decide_eq_true_eq] at h
    obtain ⟨⟨⟨⟨rfl, hg⟩, ha⟩, hb⟩, htu⟩ := h
    obtain ⟨es, j, p, rfl⟩ := tg_tuple ht htu
    exact ⟨i_zip x0 hg (hpe _ _ ha) (hpe _ _ hb) (hst _ _ ha _) (hst _ _ hb []), fun _ => rfl⟩
  · cases h
theorem it_ok {n m : Nat} (ih : SE G D N k orc n) (x0 : XOk G D N k orc sc W X) {κ : ItK} {iter tg : Expr} {src : List IE} {tu : Bool} {is : List Nat} {sc0 : Scope} (h : itB (chkE D N n sc) (glB sc) κ iter src tu = true) (ht : tgB N sc0 tg is tu = true) :
    PI X tg iter (tI X.K X.mg W κ (src.map (·.isPath)) fun S => evL (fun e => ev G orc m S e) src) ∧ ∀ x, foldedSetIterable iter X.env x = pure x :=
  it_okG x0 (F := fun e S => ev G orc m S e) (fun e i h => (ih m sc W X e i h x0).1) h ht
theorem PS.setLc : True := trivial
/-- a comprehension, as a value; and what ps_setLc asks -/
structure LcOk (G : Str → Option PyData) (D N : List Str) (n : Nat) (sc : Scope) (elt tg iter : Expr) (ifs : List Expr) (scope : Scope) (is : List Nat) (tu : Bool) (x : IE) (κ : ItK) (src cond : List IE) : Prop where
  b : blkC N sc scope (tgNames tg is) = true
  t : tgB N scope tg is tu = true
  o : (tgNames tg is).map (·.2) = is
  i : itB (chkE D N n sc) (glB sc) κ iter src tu = true
  c : allB (chkE D N n (relS scope sc)) ifs cond = true
  l : ifs.length ≤ 1
  e : chkE D N n (relS scope sc) elt x = true
theorem lc_inv {n : Nat} {elt tg iter : Expr} {ifs : List Expr} {scope : Scope} {pos : Pos} {is : List Nat} {tu : Bool} {x : IE} {κ : ItK} {src cond : List IE} (h : chkE D N (n + 1) sc (.ListComp elt [⟨tg, iter, ifs, 0⟩] scope pos) (.lc is tu x κ src cond) = true) :
    LcOk G D N n sc elt tg iter ifs scope is tu x κ src cond := by
  have h' : (blkC N sc scope (tgNames tg is) && tgB N scope tg is tu && decide ((tgNames tg is).map (·.2) = is) && itB (chkE D N n sc) (glB sc) κ iter src tu && allB (chkE D N n (relS scope sc)) ifs cond && decide (ifs.length ≤ 1) && chkE D N n (relS scope sc) elt x) = true := h
  simp only [Bool.and_eq_true, decide_eq_true_eq] at h'
  obtain ⟨⟨⟨⟨⟨⟨a, b⟩, c⟩, d⟩, e⟩, f⟩, g⟩ := h'
  exact ⟨a, b, c, d, e, f, g⟩
theorem lc_parts {n m : Nat} (ih : SE G D N k orc n) (x0 : XOk G D N k orc sc W X) {elt tg iter : Expr} {ifs : List Expr} {scope : Scope} {is : List Nat} {tu : Bool} {x : IE} {κ : ItK} {src cond : List IE} (h : LcOk G D N n sc elt tg iter ifs scope is tu x κ src cond) :
    (∀ (s : Shared) (H : Hp) (C : Addr) (cl : List (Str × Addr)) (fp : List Addr), PG (X.blk s H scope (compEnvC scope cl C X.env) fp) tg (gT X.K is tu)) ∧
    (∀ (s : Shared) (H : Hp) (C : Addr) (cl : List (Str × Addr)) (fp : List Addr), PTs (X.blk s H scope (compEnvC scope cl C X.env) fp) ifs (tT X.K X.mg W0 (condF (evT G orc m) cond))) ∧
    (∀ (s : Shared) (H : Hp) (C : Addr) (cl : List (Str × Addr)) (fp : List Addr), PE (X.blk s H scope (compEnvC scope cl C X.env) fp) elt (tE X.K X.mg W0 false fun S1 => ((do let t ← ev G orc m S1 x; useT x t) : Rs T).ne)) := by
  refine ⟨fun s H C cl fp => ?_, fun s H C cl fp => ?_, fun s H C cl fp => ?_⟩
  · exact pg_tg (X := X.blk s H scope (compEnvC scope cl C X.env) fp) x0.calm (by show X.N.Nodup; rw [x0.hN]; exact x0.nd) x0.hN (fun y hy => blk_loc (X := X) (s := s) (H := H) (C := C) (cl := cl) (fp := fp) y hy) h.t
  · have hc := h.c
    have hl := h.l
    match ifs, cond, hc, hl with
    | [], [], _, _ => exact PTs.weak pts_nil fun σ H Q q => tT_end q
    | [e], [i], hc, _ =>
      simp only [allB, Bool.and_true] at hc
      exact pts_one (PT.weak (ih m _ W0 _ e i hc (x0.blk h.b s H C cl fp)).2.1 fun σ H Q q => tT_ne q)
    | [], _ :: _, hc, _ => simp [allB] at hc
    | _ :: _, [], hc, _ => simp [allB] at hc
    | [_], _ :: _ :: _, hc, _ => simp [allB] at hc
    | _ :: _ :: _, _, _, hl => simp at hl
  · exact PE.weak (ih.use (m := m) h.e (x0.blk h.b s H C cl fp)) fun σ H Q q => tE_ne q
theorem blk_ok (x0 : XOk G D N k orc sc W X) {scope : Scope} {own : List (Str × Nat)} (h : blkC N sc scope own = true) : BlkOk X.N X.env.scope scope own := by
  rw [x0.hN, x0.hs]; exact blkOk_by h
theorem lc_read {m : Nat} {K : Frag} {mg : Str → Option Value} {is : List Nat} {tu : Bool} {x : IE} {κ : ItK} {src cond : List IE} {σ : L2.St} {H : Hp} {Q : VK} {vs : List Nat} (hv : vs = is)
    (q : tE K mg W false (fun S => ev G orc (m + 1) S (.lc is tu x κ src cond)) σ H Q) :
    tLc (tI K mg W κ (src.map (·.isPath)) fun S => evL (fun e => ev G orc m S e) src) (gT K is tu) (tT K mg W0 (condF (evT G orc m) cond)) (tE K mg W0 false fun S1 => ((do let t ← ev G orc m S1 x; useT x t) : Rs T).ne) vs σ H Q := by
  subst hv
  refine lc_ok (cond := condF (evT G orc m) cond) (tE_cong q fun S => by simp only [ev]) fun S ds => lcLoop_noex (fun S => ?_) (fun S => ne_noex) ds
  match cond with
  | [] => intro c p h; cases h
  | [c] => exact ne_noex
  | _ :: _ :: _ => intro c p h; cases h
theorem sound_lc {n : Nat} (ih : SE G D N k orc n) (x0 : XOk G D N k orc sc W X) {elt tg iter : Expr} {ifs : List Expr} {scope : Scope} {pos : Pos} {is : List Nat} {tu : Bool} {x : IE} {κ : ItK} {src cond : List IE} {m : Nat} (h : chkE D N (n + 1) sc (.ListComp elt [⟨tg, iter, ifs, 0⟩] scope pos) (.lc is tu x κ src cond) = true) :
    PE X (.ListComp elt [⟨tg, iter, ifs, 0⟩] scope pos) (tE X.K X.mg W false fun S => ev G orc (m + 1) S (.lc is tu x κ src cond)) := by
  have L := lc_inv (G := G) h
  obtain ⟨h1, h2, h3⟩ := lc_parts (m := m) ih x0 L
  obtain ⟨hi, hf⟩ := it_ok (m := m) ih x0 L.i L.t
  exact PE.weak (pe_lc x0.calm (by rw [x0.hN]; exact x0.nd) hi (blk_ok x0 L.b) h1 h2 h3 hf) fun σ H Q q => lc_read L.o q
end
end Dz
namespace Dz
open PySem PySem.Spec PyProof.Rows L2

section
variable {G : Str → Option PyData} {D N : List Str} {k : Nat} {orc : Str → List T → Rs T} {sc : Scope} {W : WX} {X : Cx}
def TruEq (X : Cx) (e : Expr) : Prop := ∀ whole, isTrue e X.env whole = (do let v ← whole; standAt e.pos; holding [v] (truthy v))
theorem t_def {e : Expr} {p : Bool} {f : Sto → Rs T} (h : PE X e (tE X.K X.mg W p f)) (he : TruEq X e) : PT X e (tT X.K X.mg W fun S => do let t ← f S; truT t) :=
  PT.weak (pt_truth h he) fun σ H Q q => tT_tru q
theorem r_and {K : Frag} {mg : Str → Option Value} {f g : Sto → Rs Bool} {σ : L2.St} {H : Hp} {Q : Bool → Hp → Prop} (q : tT K mg W (fun S => do let k ← f S; if k then g S else return false) σ H Q) : tAnd (tT K mg W f) (tT K mg W g) σ H Q :=
  tT_mono (tT_bind (g' := fun k S => if k then g S else return false) q) fun c H1 z => by
    cases c with
    | true => rw [if_pos rfl]; exact z
    | false => rw [if_neg (by simp)]; exact tT_end z
theorem r_or {K : Frag} {mg : Str → Option Value} {f g : Sto → Rs Bool} {σ : L2.St} {H : Hp} {Q : Bool → Hp → Prop} (q : tT K mg W (fun S => do let k ← f S; if k then return true else g S) σ H Q) : tOr (tT K mg W f) (tT K mg W g) σ H Q :=
  tT_mono (tT_bind (g' := fun k S => if k then return true else g S) q) fun c H1 z => by
    cases c with
    | true => rw [if_pos rfl]; exact tT_end z
    | false => rw [if_neg (by simp)]; exact z
theorem soundT {n m : Nat} (ih : SE G D N k orc n) {e : Expr} {ie : IE} (h : chkE D N (n + 1) sc e ie = true) (x0 : XOk G D N k orc sc W X)
    (he : ∀ m, PE X e (tE X.K X.mg W ie.isPath fun S => ev G orc m S ie)) :
    PT X e (tT X.K X.mg W fun S => evT G orc m S ie) ∧ ∀ op vals pos, e = .BoolOp op vals pos → PW X e (tT X.K X.mg W fun S => evT G orc m S ie) := by
  cases m with
  | zero => exact ⟨PT.stuck, fun _ _ _ _ => PW.stuck⟩
  | succ m =>
  have hpe : ∀ e i, chkE D N n sc e i = true → PE X e (tE X.K X.mg W i.isPath fun S => ev G orc m S i) := fun e i h => (ih m sc W X e i h x0).1
  have hpt : ∀ e i, chkE D N n sc e i = true → PT X e (tT X.K X.mg W fun S => evT G orc m S i) := fun e i h => (ih m sc W X e i h x0).2.1
  have he' := he m
  unfold chkE at h
  split at h
  · exact ⟨t_def he' (fun _ => rfl), fun _ _ _ q => by cases q⟩
  · exact ⟨t_def he' (fun _ => rfl), fun _ _ _ q => by cases q⟩
  · exact ⟨t_def he' (fun _ => rfl), fun _ _ _ q => by cases q⟩
  · exact ⟨t_def he' (fun _ => rfl), fun _ _ _ q => by cases q⟩
  · exact ⟨t_def he' (fun _ => rfl), fun _ _ _ q => by cases q⟩
  · exact ⟨t_def he' (fun _ => rfl), fun _ _ _ q => by cases q⟩
  · exact ⟨t_def he' (fun _ => rfl), fun _ _ _ q => by cases q⟩
  · refine ⟨PT.weak (pt_not (hpt _ _ h)) fun σ H Q q => tT_mono (tT_bind q) fun c H1 z => tT_end z, fun _ _ _ q => by cases q⟩
  · simp only [Bool.and_eq_true, decide_eq_true_eq] at h
    obtain ⟨⟨rfl, ha⟩, hb⟩ := h
    cases m with
    | zero => exact ⟨PT.stuck, fun _ _ _ q => by cases q⟩
    | succ m => exact ⟨t_cmp x0 (ih m sc W X _ _ ha x0).1 (ih m sc W X _ _ hb x0).1 (mark_of hb _), fun _ _ _ q => by cases q⟩
  · simp only [Bool.and_eq_true, decide_eq_true_eq] at h
    obtain ⟨⟨⟨⟨rfl, rfl⟩, ha⟩, hb⟩, hc⟩ := h
    cases m with
    | zero => exact ⟨PT.stuck, fun _ _ _ q => by cases q⟩
    | succ m => exact ⟨t_chn x0 (ih m sc W X _ _ ha x0).1 (ih m sc W X _ _ hb x0).1 (ih m sc W X _ _ hc x0).1 (mark_of hc _), fun _ _ _ q => by cases q⟩
  · rename_i op a b pos op' x y
    simp only [Bool.and_eq_true, decide_eq_true_eq] at h
    obtain ⟨⟨rfl, ha⟩, hb⟩ := h
    have pw : PW X (.BoolOp op [a, b] pos) (tT X.K X.mg W fun S => evT G orc (m + 1) S (.bo op x y)) := by
      cases op with
      | And => exact PW.weak (pw_and (hpt _ _ ha) (pw_and1 (hpt _ _ hb))) fun σ H Q q => r_and q
      | Or => exact PW.weak (pw_or (hpt _ _ ha) (pw_or1 (hpt _ _ hb))) fun σ H Q q => r_or q
    exact ⟨pw.pt, fun _ _ _ q => by cases q; exact pw⟩
  · rename_i op a b c r pos op' x y
    simp only [Bool.and_eq_true, decide_eq_true_eq] at h
    obtain ⟨⟨rfl, ha⟩, hb⟩ := h
    have pw : PW X (.BoolOp op (a :: b :: c :: r) pos) (tT X.K X.mg W fun S => evT G orc (m + 1) S (.bo op x y)) := by
      have p2 := (ih m sc W X _ _ hb x0).2.2 _ _ _ rfl
      cases op with
      | And => exact PW.weak (pw_and (hpt _ _ ha) p2) fun σ H Q q => r_and q
      | Or => exact PW.weak (pw_or (hpt _ _ ha) p2) fun σ H Q q => r_or q
    exact ⟨pw.pt, fun _ _ _ q => by cases q; exact pw⟩
  · exact ⟨PT.stuck, fun _ _ _ q => by cases q⟩
  · exact ⟨t_def he' (fun _ => rfl), fun _ _ _ q => by cases q⟩
  · exact ⟨t_def he' (fun _ => rfl), fun _ _ _ q => by cases q⟩
  · exact ⟨t_def he' (fun _ => rfl), fun _ _ _ q => by cases q⟩
  · exact ⟨t_def he' (fun _ => rfl), fun _ _ _ q => by cases q⟩
  · exact ⟨t_def he' (fun _ => rfl), fun _ _ _ q => by cases q⟩
  · exact ⟨t_def he' (fun _ => rfl), fun _ _ _ q => by cases q⟩
  · exact ⟨t_def he' (fun _ => rfl), fun _ _ _ q => by cases q⟩
  · exact ⟨t_def he' (fun _ => rfl), fun _ _ _ q => by cases q⟩
  · cases h
/-- every expression that the checker lets pass is told by the evaluator -/
theorem soundSE : ∀ n, SE G D N k orc n
  | 0, m, sc, W, X, e, ie, h, x0 => by cases h
  | n + 1, m, sc, W, X, e, ie, h, x0 => by
    have ih : SE G D N k orc n := soundSE n
    have h1 : ∀ m, PE X e (tE X.K X.mg W ie.isPath fun S => ev G orc m S ie) := fun m => soundE ih h x0 fun h => sound_lc ih x0 h
    exact ⟨h1 m, soundT ih h x0 h1⟩
end
end Dz
namespace Dz
open PySem PySem.Spec PyProof.Rows L2

/-! ### statements: what is wanted of an outcome -/
structure Inn (H0 : Hp) (A0 : AS) (L : List Addr) (Y : AS) (H : Hp) : Prop where
  same : Same H0 H
  fr : ∀ a ∈ L, H0 a = none
  sub : ∀ b, A0 b → Y b
  yb : ∀ b, Y b → A0 b ∨ H0 b = none
def wants (K : Frag) (mg : Str → Option Value) (W : WX) (H0 : Hp) (A0 : AS) (D : Ends) : Out → Prop
  | .st => False
  | .nx S => ∀ σ L Y H, Wf K S L Y σ H → Inn H0 A0 L Y H → D.nx σ H
  | .bk S => ∀ σ L Y H, Wf K S L Y σ H → Inn H0 A0 L Y H → D.bk σ H
  | .ct S => ∀ σ L Y H, Wf K S L Y σ H → Inn H0 A0 L Y H → D.ct σ H
  | .rt t => ∀ v H as, Same H0 H → as.Nodup → (∀ a ∈ as, H0 a = none) → RT K (mask H fun b => A0 b ∨ b ∈ as) H t v as → D.rt v H
  | .ex c _ S => ∀ C σ L Y H, mg c = some (.ref C) → Wf K S L Y σ H → Inn H0 A0 L Y H → W (.ref C) none σ H
def tS (K : Frag) (mg : Str → Option Value) (W : WX) (f : Sto → Out) : TS := fun D σ H => ∃ S L Y H0 A0, Wf K S L Y σ H ∧ Inn H0 A0 L Y H ∧ wants K mg W H0 A0 D (f S)

section
variable {K : Frag} {mg : Str → Option Value} {W : WX} {H0 H1 : Hp} {A0 A1 : AS} {D D' : Ends} {L : List Addr} {Y : AS} {H : Hp}
theorem Inn.mono (s : Same H0 H1) (a : ∀ b, A0 b → A1 b) (y : ∀ b, A1 b → A0 b ∨ H0 b = none) (i : Inn H1 A1 L Y H) : Inn H0 A0 L Y H where
  same := s.trans i.same
  fr := fun b hb => Same.free s (i.fr b hb)
  sub := fun b hb => i.sub b (a b hb)
  yb := fun b hb => by
    rcases i.yb b hb with z | z
    · exact y b z
    · exact .inr (Same.free s z)
theorem wants.mono (s : Same H0 H1) (a : ∀ b, A0 b → A1 b) (y : ∀ b, A1 b → A0 b ∨ H0 b = none) : ∀ {o : Out}, wants K mg W H0 A0 D o → wants K mg W H1 A1 D o
  | .st, h => h.elim
  | .nx S, h => fun σ L Y H w i => h σ L Y H w (i.mono s a y)
  | .bk S, h => fun σ L Y H w i => h σ L Y H w (i.mono s a y)
  | .ct S, h => fun σ L Y H w i => h σ L Y H w (i.mono s a y)
  | .rt t, h => fun v H as s1 nd fr rt => h v H as (s.trans s1) nd (fun b hb => Same.free s (fr b hb)) (rt.mono (mask_mono (Same.refl H) fun b _ z => z.imp (a b) id) fun _ _ => rfl)
  | .ex c pl S, h => fun C σ L Y H m w i => h C σ L Y H m w (i.mono s a y)
/-- other ends -/
theorem wants.ends (hn : ∀ σ H, D.nx σ H → D'.nx σ H) (hb : ∀ σ H, D.bk σ H → D'.bk σ H) (hc : ∀ σ H, D.ct σ H → D'.ct σ H) (hr : ∀ v H, D.rt v H → D'.rt v H) : ∀ {o : Out}, wants K mg W H0 A0 D o → wants K mg W H0 A0 D' o
  | .st, h => h.elim
  | .nx S, h => fun σ L Y H w i => hn _ _ (h σ L Y H w i)
  | .bk S, h => fun σ L Y H w i => hb _ _ (h σ L Y H w i)
  | .ct S, h => fun σ L Y H w i => hc _ _ (h σ L Y H w i)
  | .rt t, h => fun v H as s1 nd fr rt => hr _ _ (h v H as s1 nd fr rt)
  | .ex c pl S, h => fun C σ L Y H m w i => h C σ L Y H m w i
theorem Inn.up {H' : Hp} (i : Inn H0 A0 L Y H) (s : Same H H') : Inn H0 A0 L Y H' := ⟨i.same.trans s, i.fr, i.sub, i.yb⟩
/-- some of the owned is let go -/
theorem Inn.less {L' : List Addr} (i : Inn H0 A0 L Y H) (s : ∀ a ∈ L', a ∈ L) : Inn H0 A0 L' (fun b => Y b ∨ (b ∈ L ∧ b ∉ L')) H where
  same := i.same
  fr := fun a ha => i.fr a (s a ha)
  sub := fun b hb => .inl (i.sub b hb)
  yb := fun b hb => by
    rcases hb with hb | hb
    · exact i.yb b hb
    · exact .inr (i.fr b hb.1)
/-- an exception that an expression lets out -/
theorem wants.exP {c : Str} {pl : Option (Str × PyData)} {S : Sto} {σ : L2.St} (w : Wf K S L Y σ H) (i : Inn H0 A0 L Y H) (h : wants K mg W H0 A0 D (.ex c pl S)) : exP mg W σ H c :=
  fun C H' m s => h C σ L Y H' m (w.mono s) (i.up s)
/-- an expression, then on -/
theorem tS_expr {p : Bool} {f : Sto → Rs T} {g : Sto → T → Out} {σ : L2.St} {Q : VK} (h : tS K mg W (fun S => (f S).out S (g S)) D σ H)
    (hq : ∀ S L Y H0 A0 t, Wf K S L Y σ H → Inn H0 A0 L Y H → f S = .ok t → wants K mg W H0 A0 D (g S t) → ∀ v H' as, Same H H' → as.Nodup → (∀ a ∈ as, if p = true then a ∈ L else H a = none) → RT K (mask H' fun b => (b ∈ L ∨ Y b) ∨ b ∈ as) H' t v as → Q v H') :
    tE K mg W p f σ H Q := by
  obtain ⟨S, L, Y, H0, A0, w, i, h⟩ := h
  refine ⟨S, L, Y, w, ?_⟩
  cases e : f S with
  | st => simp only [e, Rs.out_st] at h; exact h.elim
  | ex c pl => simp only [e, Rs.out_ex] at h; exact .inr ⟨c, pl, rfl, wants.exP w i h⟩
  | ok t => simp only [e, Rs.out_ok] at h; exact .inl ⟨t, rfl, hq S L Y H0 A0 t w i e h⟩
/-- what is stored: a fresh tree in a slot -/
theorem Wf.put {S : Sto} {σ : L2.St} {H' : Hp} {i : Nat} {t : T} {v : V} {as : List Addr} (w : Wf K S L Y σ H) (n : Inn H0 A0 L Y H) (s : Same H H') (nd : as.Nodup) (fr : ∀ a ∈ as, H a = none) (rt : RT K (mask H' fun b => (b ∈ L ∨ Y b) ∨ b ∈ as) H' t v as) (hi : i < S.length) :
    ∃ L' Y', Wf K (S.set i (some t)) L' Y' (σ.set i (some v)) H' ∧ Inn H0 A0 L' Y' H' := by
  have w' := w.mono s
  have nas : ∀ a ∈ as, ¬ (a ∈ L ∨ Y a) := fun a ha z => w.old a z (fr a ha)
  have k : SR K (mask H' fun b => (b ∈ L ∨ Y b) ∨ b ∈ as) H' S σ L := SR.mono (mask_mono s fun b hb z => by
    rcases z with z | z
    · exact z
    · exact absurd (fr b z) hb) (fun a ha => by obtain ⟨vs, e⟩ := w.sr.own a ha; rw [e, s _ _ e]) w.sr
  obtain ⟨L1, L2, h1, h2⟩ := k.set hi rt
  have ndL := w.nd.sublist h2
  have sub : ∀ a, a ∈ L1 ++ L2 → a ∈ L := fun a ha => h2.subset ha
  have mem : ∀ a, a ∈ L1 ++ as ++ L2 → a ∈ L1 ++ L2 ∨ a ∈ as := fun a ha => by
    simp only [List.mem_append] at ha ⊢
    rcases ha with (ha | ha) | ha
    · exact .inl (.inl ha)
    · exact .inr ha
    · exact .inl (.inr ha)
  refine ⟨L1 ++ as ++ L2, fun b => Y b ∨ (b ∈ L ∧ b ∉ L1 ++ L2), ⟨SR.mono (mask_mono (Same.refl _) fun b _ z => ?_) (fun _ _ => rfl) h1, ?_, fun a ha z => ?_, fun a ha => ?_⟩, ⟨n.same.trans s, fun a ha => ?_, fun b hb => .inl (n.sub b hb), fun b hb => ?_⟩⟩
  · rcases z with z | z | z
    · rcases mem b z with z | z
      · exact .inl (.inl (sub b z))
      · exact .inr z
    · exact .inl (.inr z)
    · exact .inl (.inl z.1)
  · rw [List.append_assoc]
    have hp : (L1 ++ (as ++ L2)).Perm (as ++ (L1 ++ L2)) := by
      rw [← List.append_assoc, ← List.append_assoc]
      exact List.Perm.append_right L2 List.perm_append_comm
    rw [hp.nodup_iff]
    refine List.nodup_append.mpr ⟨nd, ndL, fun a ha b hb z => ?_⟩
    subst z
    exact nas a ha (.inl (sub a hb))
  · rcases mem a ha with ha | ha
    · rcases z with z | z
      · exact w.ap a (sub a ha) z
      · exact z.2 ha
    · rcases z with z | z
      · exact nas a ha (.inr z)
      · exact nas a ha (.inl z.1)
  · rcases ha with ha | ha
    · exact w'.xl a ha
    · exact w'.sr.own a ha.1
  · rcases mem a ha with ha | ha
    · exact n.fr a (sub a ha)
    · exact Same.free n.same (fr a ha)
  · rcases hb with hb | hb
    · exact n.yb b hb
    · exact .inr (n.fr b hb.1)
end
/-! ### the rules of the small statements -/
section
variable {G : Str → Option PyData} {D N : List Str} {k : Nat} {orc : Str → List T → Rs T} {sc : Scope} {W : WX} {X : Cx}
theorem s_next {f : Sto → Out} {st : Stmt} (h : PS X st tNext) (e : ∀ S, f S = .nx S) : PS X st (tS X.K X.mg W f) :=
  PS.weak h fun D σ H ⟨S, L, Y, H0, A0, w, i, z⟩ => by rw [e S] at z; exact z σ L Y H w i
theorem s_brk {pos : Pos} {f : Sto → Out} (e : ∀ S, f S = .bk S) : PS X (.Break pos) (tS X.K X.mg W f) :=
  PS.weak ps_break fun D σ H ⟨S, L, Y, H0, A0, w, i, z⟩ => by rw [e S] at z; exact z σ L Y H w i
theorem s_cnt {pos : Pos} {f : Sto → Out} (e : ∀ S, f S = .ct S) : PS X (.Continue pos) (tS X.K X.mg W f) :=
  PS.weak ps_continue fun D σ H ⟨S, L, Y, H0, A0, w, i, z⟩ => by rw [e S] at z; exact z σ L Y H w i
theorem s_nev {st : Stmt} {f : Sto → Out} (e : ∀ S, f S = .st) : PS X st (tS X.K X.mg W f) :=
  PS.weak ps_never fun D σ H ⟨S, L, Y, H0, A0, w, i, z⟩ => by rw [e S] at z; exact z.elim
/-- a slot takes an expression's value -/
theorem t_asg {f : Sto → Rs T} {i : Nat} {D : Ends} {σ : L2.St} {H : Hp} (h : tS X.K X.mg W (fun S => (f S).out S fun t => if i < S.length then .nx (S.set i (some t)) else .st) D σ H) : tAsg (tE X.K X.mg W false f) (gName i) D σ H :=
  tS_expr h fun S L Y H0 A0 t w n e z v H' as s nd fr rt => by
    split at z
    · rename_i hi
      obtain ⟨L', Y', w', n'⟩ := w.put n s nd (by simpa using fr) rt hi
      exact z _ _ _ _ w' n'
    · exact z.elim
theorem s_asg {x : Str} {p pos : Pos} {e : Expr} {f : Sto → Rs T} {i : Nat} (x0 : XOk G D N k orc sc W X) (hi : N[i]? = some x) (hl : L2.Loc X.env.scope x) (hf : X.fn x = true ∨ X.env.scope.names.lookup x = some .local) (he : PE X e (tE X.K X.mg W false f)) (hs : swapsWith e (some (.Name x p)) pos.line X.env = pure false) :
    PS X (.Assign [.Name x p] e pos) (tS X.K X.mg W fun S => (f S).out S fun t => if i < S.length then .nx (S.set i (some t)) else .st) :=
  PS.weak (ps_set (by rw [x0.hN]; exact x0.nd) (by rw [x0.hN]; exact hi) hl he hs hf) fun D σ H q => t_asg q
theorem s_ret {pos : Pos} {e : Expr} {p : Bool} {f : Sto → Rs T} (he : PE X e (tE X.K X.mg W p f)) : PS X (.Return (some e) pos) (tS X.K X.mg W fun S => (f S).out S .rt) :=
  PS.weak (ps_ret he) fun D σ H q => tS_expr q fun S L Y H0 A0 t w n e z v H' as s nd fr rt => by
    refine z v H' as (n.same.trans s) nd (fun a ha => ?_) (rt.mono (mask_mono (Same.refl _) fun b _ q => ?_) fun _ _ => rfl)
    · have := fr a ha
      split at this
      · exact n.fr a this
      · exact Same.free n.same this
    · rcases q with q | q
      · exact .inl (.inr (n.sub b q))
      · exact .inr q
theorem s_retN {pos : Pos} {f : Sto → Out} (e : ∀ S, f S = .rt (.fz .none)) : PS X (.Return none pos) (tS X.K X.mg W f) :=
  PS.weak ps_retN fun D σ H ⟨S, L, Y, H0, A0, w, n, z⟩ => by
    rw [e S] at z
    exact z .non H [] n.same List.nodup_nil (fun a ha => by cases ha) (.fz .non rfl)
theorem s_exp {pos : Pos} {e : Expr} {p : Bool} {f : Sto → Rs T} (he : PE X e (tE X.K X.mg W p f)) (hs : swapsWith e none pos.line X.env = pure false) : PS X (.Expr e pos) (tS X.K X.mg W fun S => (f S).out S fun _ => .nx S) :=
  PS.weak (ps_expr he hs) fun D σ H q => tS_expr q fun S L Y H0 A0 t w n e z v H' as s nd fr rt => z _ _ _ _ (w.mono s) (n.up s)
/-- a test, then on -/
theorem tS_test {f : Sto → Rs Bool} {g : Bool → Sto → Out} {D : Ends} {σ : L2.St} {H : Hp} (h : tS X.K X.mg W (fun S => (f S).out S fun b => g b S) D σ H) :
    tT X.K X.mg W f σ H fun b H1 => tS X.K X.mg W (g b) D σ H1 := by
  obtain ⟨S, L, Y, H0, A0, w, i, h⟩ := h
  refine ⟨S, L, Y, w, ?_⟩
  cases e : f S with
  | st => simp only [e, Rs.out_st] at h; exact h.elim
  | ex c pl => simp only [e, Rs.out_ex] at h; exact .inr ⟨c, pl, rfl, wants.exP w i h⟩
  | ok t => simp only [e, Rs.out_ok] at h; exact .inl ⟨t, rfl, fun H' s => ⟨S, L, Y, H0, A0, w.mono s, i.up s, h⟩⟩
theorem s_if {c : Expr} {a b : List Stmt} {pos : Pos} {f : Sto → Rs Bool} {g h : Sto → Out} (hc : PT X c (tT X.K X.mg W f)) (ha : PSs X a (tS X.K X.mg W g)) (hb : PSs X b (tS X.K X.mg W h)) :
    PS X (.If c a b pos) (tS X.K X.mg W fun S => (f S).out S fun k => if k then g S else h S) :=
  PS.weak (ps_if hc ha hb) fun D σ H q => tT_mono (tS_test (g := fun k S => if k then g S else h S) q) fun b H1 z => by
    cases b with
    | true => exact L2.iteT z
    | false => exact L2.iteF z
/-- blocks -/
theorem ss_nil {f : Sto → Out} (e : ∀ S, f S = .nx S) : PSs X [] (tS X.K X.mg W f) :=
  PSs.weak pss_nil fun D σ H ⟨S, L, Y, H0, A0, w, i, z⟩ => by rw [e S] at z; exact z σ L Y H w i
theorem tS_seq {f g : Sto → Out} {D : Ends} {σ : L2.St} {H : Hp} (h : tS X.K X.mg W (fun S => (f S).seq g) D σ H) : tS X.K X.mg W f { D with nx := tS X.K X.mg W g D } σ H := by
  obtain ⟨S, L, Y, H0, A0, w, i, h⟩ := h
  refine ⟨S, L, Y, H0, A0, w, i, ?_⟩
  cases e : f S with
  | st => simp only [e, Out.seq_st] at h; exact h.elim
  | nx S1 => simp only [e, Out.seq_nx] at h; exact fun σ1 L1 Y1 H1 w1 i1 => ⟨S1, L1, Y1, H0, A0, w1, i1, h⟩
  | rt t => simp only [e, Out.seq_rt] at h; exact h
  | bk S1 => simp only [e, Out.seq_bk] at h; exact h
  | ct S1 => simp only [e, Out.seq_ct] at h; exact h
  | ex c p S1 => simp only [e, Out.seq_ex] at h; exact h
theorem ss_cons {st : Stmt} {r : List Stmt} {f g : Sto → Out} (h : PS X st (tS X.K X.mg W f)) (h' : PSs X r (tS X.K X.mg W g)) : PSs X (st :: r) (tS X.K X.mg W fun S => (f S).seq g) :=
  PSs.weak (pss_cons h h') fun D σ H q => tS_seq q
theorem ss_never {sts : List Stmt} {f : Sto → Out} (e : ∀ S, f S = .st) : PSs X sts (tS X.K X.mg W f) :=
  PSs.weak pss_never fun D σ H ⟨S, L, Y, H0, A0, w, i, z⟩ => by rw [e S] at z; exact z.elim
end
end Dz
namespace Dz
open PySem PySem.Spec PyProof.Rows L2

section
variable {K : Frag} {mg : Str → Option Value} {W : WX} {H0 H1 : Hp} {A0 A1 : AS} {L : List Addr} {Y : AS} {H : Hp}
/-! ### ghost steps -/
theorem g_kil {f : Sto → Out} {is : List Nat} {D : Ends} {σ : L2.St} (h : tS K mg W (fun S => f (killS S is)) D σ H) : tS K mg W f D σ H := by
  obtain ⟨S, L, Y, H0, A0, w, n, h⟩ := h
  obtain ⟨L', h1, s1⟩ := SR.killAll' (tg := is) w.sr
  exact ⟨_, L', _, H0, A0, w.less h1 s1, n.less fun a ha => s1.subset ha, h⟩
theorem Wf.frz1 {S : Sto} {σ : L2.St} {i : Nat} {t t' : T} (w : Wf K S L Y σ H) (n : Inn H0 A0 L Y H) (e : S[i]? = some (some t)) (ef : t.frz = some t') : ∃ L' Y', Wf K (S.set i (some t')) L' Y' σ H ∧ Inn H0 A0 L' Y' H := by
  obtain ⟨v, as, L1, L2, e1, rt, eL, h1⟩ := w.sr.split e
  have hi : i < S.length := (List.getElem?_eq_some_iff.mp e).1
  have sub : ∀ a, a ∈ L1 ++ L2 → a ∈ L := fun a ha => by
    rw [eL]; simp only [List.mem_append] at ha ⊢
    rcases ha with ha | ha
    · exact .inl (.inl ha)
    · exact .inr ha
  have nd := w.nd
  rw [eL] at nd
  have sl : (L1 ++ L2).Sublist (L1 ++ as ++ L2) := List.Sublist.append (List.sublist_append_left _ _) (List.Sublist.refl _)
  have nas : ∀ a ∈ as, a ∉ L1 ++ L2 := fun a ha hb => by
    rw [List.append_assoc, List.nodup_append] at nd
    obtain ⟨n1, n2, n3⟩ := nd
    rw [List.nodup_append] at n2
    rcases List.mem_append.mp hb with hb | hb
    · exact n3 a hb a (by simp [ha]) rfl
    · exact n2.2.2 a ha a hb rfl
  have inL : ∀ a ∈ as, a ∈ L := fun a ha => by rw [eL]; simp [ha]
  have mm : Same (mask H fun b => b ∈ L ∨ Y b) (mask H fun b => b ∈ L1 ++ L2 ∨ Y b) := mask_mono (Same.refl _) fun b _ z => z.imp (sub b) id
  have w1 : Wf K (S.set i none) (L1 ++ L2) Y σ H := ⟨SR.mono mm (fun _ _ => rfl) h1, nd.sublist sl, fun a ha => w.ap a (sub a ha), w.xl⟩
  have n1 : Inn H0 A0 (L1 ++ L2) Y H := ⟨n.same, fun a ha => n.fr a (sub a ha), n.sub, n.yb⟩
  have r1 := rt.frz mm (fun a ha => by
    obtain ⟨vs, e⟩ := rt.own a ha
    rw [e]
    exact mask_of e fun z => z.elim (nas a ha) (w.ap a (inL a ha))) ef
  obtain ⟨L1', L2', h2, s2⟩ := w1.sr.set (i := i) (by simpa using hi) r1
  have hσ : σ.set i (some v) = σ := by
    obtain ⟨hl, e2⟩ := List.getElem?_eq_some_iff.mp e1
    apply List.ext_getElem?
    intro j
    by_cases hj : i = j
    · subst hj; rw [List.getElem?_set_self hl, e1]
    · rw [List.getElem?_set_ne hj]
  rw [List.set_set, hσ] at h2
  simp only [List.append_nil] at h2
  exact ⟨_, _, w1.less h2 s2, n1.less fun a ha => s2.subset ha⟩
theorem Wf.frzAll {σ : L2.St} : ∀ {is : List Nat} {S S' : Sto} {L : List Addr} {Y : AS}, Wf K S L Y σ H → Inn H0 A0 L Y H → frzS S is = some S' → ∃ L' Y', Wf K S' L' Y' σ H ∧ Inn H0 A0 L' Y' H
  | [], S, S', L, Y, w, n, e => by cases e; exact ⟨L, Y, w, n⟩
  | i :: is, S, S', L, Y, w, n, e => by
    simp only [frzS] at e
    split at e
    · rename_i t et
      split at e
      · rename_i t' ef
        obtain ⟨L1, Y1, w1, n1⟩ := w.frz1 n et ef
        exact Wf.frzAll w1 n1 e
      · cases e
    · exact Wf.frzAll w n e
theorem g_frz {f : Sto → Out} {is : List Nat} {D : Ends} {σ : L2.St} (h : tS K mg W (fun S => match frzS S is with | some S' => f S' | none => .st) D σ H) : tS K mg W f D σ H := by
  obtain ⟨S, L, Y, H0, A0, w, n, h⟩ := h
  cases e : frzS S is with
  | none => simp only [e] at h; exact h.elim
  | some S' =>
    simp only [e] at h
    obtain ⟨L', Y', w', n'⟩ := w.frzAll n e
    exact ⟨S', L', Y', H0, A0, w', n', h⟩
/-! ### for -/
theorem iterT_noex {k : ItK} {ps : List Bool} {ts : List T} : NoEx (iterT k ps ts) := by
  intro c' p' e1
  unfold iterT at e1
  split at e1 <;> (try split at e1) <;> (try split at e1) <;> (try split at e1) <;> cases e1
theorem t_for {κ : ItK} {ps : List Bool} {is : List Nat} {tu : Bool} {fl : Sto → Rs (List T)} {body : Sto → Out} {D : Ends} {σ : L2.St} (hps : ∀ p ∈ ps, p = false)
    (h : tS K mg W (fun S => (do let ts ← fl S; iterT κ ps ts : Rs (List PyData)).out S fun ds => forLoop (fun S d => bindTg S is tu d) body ds S) D σ H) :
    tFor (tI K mg W κ ps fl) (gT K is tu) (tS K mg W body) D σ H := by
  obtain ⟨S, L, Y, H0, A0, w, n, h⟩ := h
  refine ⟨S, L, Y, w, ?_⟩
  cases ef : fl S with
  | st => simp only [ef, Rs.bind_st, Rs.out_st] at h; exact h.elim
  | ex c pl => simp only [ef, Rs.bind_ex, Rs.out_ex] at h; exact .inr ⟨c, pl, rfl, wants.exP w n h⟩
  | ok ts =>
    cases ei : iterT κ ps ts with
    | st => simp only [ef, ei, Rs.bind_ok, Rs.out_st] at h; exact h.elim
    | ex c pl => exact absurd ei (iterT_noex c pl)
    | ok ds =>
      simp only [ef, ei, Rs.bind_ok, Rs.out_ok] at h
      refine .inl ⟨ts, ds, rfl, ei, fun J H1 bs si wk _ => ?_⟩
      have w1 := w.mono si.same
      have n1 := n.up si.same
      -- from here on all that is not owned by the store stays
      have kp : KpOf H1 L ps (fun H' => Same (mask H1 fun b => b ∈ L) H') := fun H' z b o e => z b o (by
        obtain ⟨e1, n2⟩ := mask_some e
        exact mask_of e1 fun z => n2 ⟨z, hps⟩)
      have WK := wk _ kp
      have s01 : Same H0 (mask H1 fun b => b ∈ L) := fun b o e => mask_of (n1.same b o e) fun z => by have := n1.fr b z; rw [e] at this; cases this
      have h' : wants K mg W (mask H1 fun b => b ∈ L) Y D (forLoop (fun S d => bindTg S is tu d) body ds S) := h.mono s01 n.sub n.yb
      refine ⟨fun i m σ' H' => i ≤ ds.length ∧ m = ds.length - i ∧ ∃ S' L' Y', Wf K S' L' Y' σ' H' ∧ Inn (mask H1 fun b => b ∈ L) Y L' Y' H' ∧ wants K mg W (mask H1 fun b => b ∈ L) Y D (forLoop (fun S d => bindTg S is tu d) body (ds.drop i) S'),
        ⟨ds.length, Nat.zero_le _, by simp, S, L, Y, w1, ⟨mask_same, fun a ha => ?_, fun _ z => z, fun _ z => .inl z⟩, by simpa using h'⟩, fun i m σ' H2 hW => ?_⟩
      · unfold mask; rw [if_pos ha]
      · obtain ⟨hi, hm, S', L', Y', w2, n2, h2⟩ := hW
        by_cases hlt : i < ds.length
        · refine .inr ⟨WK.go i H2 n2.same hlt, fun σ' H' => i + 1 ≤ ds.length ∧ ∃ S' L' Y', Wf K S' L' Y' σ' H' ∧ Inn (mask H1 fun b => b ∈ L) Y L' Y' H' ∧ wants K mg W (mask H1 fun b => b ∈ L) Y D (forLoop (fun S d => bindTg S is tu d) body (ds.drop (i + 1)) S'),
            fun σ3 H3 hN => ⟨m - 1, by omega, hN.1, by omega, hN.2⟩, fun x H3 hy => ?_⟩
          obtain ⟨s3, d, hd, od, dp⟩ := WK.yld i H2 x H3 n2.same hlt hy
          have edr : ds.drop i = d :: ds.drop (i + 1) := by
            obtain ⟨h1, h2⟩ := List.getElem?_eq_some_iff.mp hd
            rw [← h2]; exact List.drop_eq_getElem_cons h1
          rw [edr] at h2
          simp only [forLoop] at h2
          cases eb : bindTg S' is tu d with
          | none => simp only [eb] at h2; exact h2.elim
          | some S1 =>
            simp only [eb] at h2
            have w3 := w2.mono s3
            have n3 := n2.up s3
            have dp3 : Dp K (mask H3 fun b => b ∈ L' ∨ Y' b) x d := by
              refine dp _ (fun b o e => ?_) fun b hb => ?_
              · obtain ⟨e1, q⟩ := mask_some e
                have e2 : mask H1 (fun b => b ∈ L) b = some o := mask_of e1 fun z => q (.inl (.inl z))
                refine mask_of (s3 b o (n2.same b o e2)) fun z => ?_
                rcases z with z | z
                · have := n2.fr b z; rw [e2] at this; cases this
                · rcases n2.yb b z with y | y
                  · exact q (.inl (.inr y))
                  · rw [e2] at y; cases y
              · unfold mask
                rw [if_neg]
                intro z
                exact w2.old b z hb
            obtain ⟨σ4, L4, k4, sub4, _, _, kg⟩ := tg_ok w3.sr mask_same dp3 od eb
            refine kg _ ⟨S1, L4, _, _, _, w3.less k4 sub4, n3.less fun a ha => sub4.subset ha, ?_⟩
            cases eo : body S1 with
            | st => simp only [eo] at h2; exact h2.elim
            | nx S2 => simp only [eo] at h2; exact fun σ5 L5 Y5 H5 w5 n5 => ⟨by omega, S2, L5, Y5, w5, n5, h2⟩
            | ct S2 => simp only [eo] at h2; exact fun σ5 L5 Y5 H5 w5 n5 => ⟨by omega, S2, L5, Y5, w5, n5, h2⟩
            | bk S2 => simp only [eo] at h2; exact h2
            | rt t => simp only [eo] at h2; exact h2
            | ex c pl S2 => simp only [eo] at h2; exact h2
        · have hie : ds.length ≤ i := by omega
          rw [List.drop_eq_nil_of_le hie] at h2
          exact .inl ⟨WK.stop i H2 n2.same hie, h2 σ' L' Y' H2 w2 n2⟩
/-! ### while -/
theorem t_while {f : Sto → Rs Bool} {body : Sto → Out} {m : Nat} {D : Ends} {σ : L2.St} (h : tS K mg W (whLoop f body m) D σ H) : tWhile (tT K mg W f) (tS K mg W body) D σ H := by
  obtain ⟨S, L, Y, H0, A0, w, n, h⟩ := h
  refine ⟨fun m σ H => ∃ S L Y, Wf K S L Y σ H ∧ Inn H0 A0 L Y H ∧ wants K mg W H0 A0 D (whLoop f body m S), ⟨m, S, L, Y, w, n, h⟩, fun m σ H hW => ?_⟩
  obtain ⟨S, L, Y, w, n, h⟩ := hW
  cases m with
  | zero => exact h.elim
  | succ m =>
    simp only [whLoop] at h
    refine ⟨S, L, Y, w, ?_⟩
    cases e : f S with
    | st => simp only [e, Rs.out_st] at h; exact h.elim
    | ex c pl => simp only [e, Rs.out_ex] at h; exact .inr ⟨c, pl, rfl, wants.exP w n h⟩
    | ok b =>
      simp only [e, Rs.out_ok] at h
      refine .inl ⟨b, rfl, fun H1 s1 => ?_⟩
      have w1 := w.mono s1
      have n1 := n.up s1
      cases b with
      | false => exact L2.iteF (h σ L Y H1 w1 n1)
      | true =>
        refine L2.iteT ⟨fun σ H => ∃ S L Y, Wf K S L Y σ H ∧ Inn H0 A0 L Y H ∧ wants K mg W H0 A0 D (whLoop f body m S), fun σ' H' hN => ⟨m, Nat.lt_succ_self m, hN⟩, S, L, Y, H0, A0, w1, n1, ?_⟩
        simp only [if_true] at h
        cases eo : body S with
        | st => simp only [eo] at h; exact h.elim
        | nx S2 => simp only [eo] at h; exact fun σ5 L5 Y5 H5 w5 n5 => ⟨S2, L5, Y5, w5, n5, h⟩
        | ct S2 => simp only [eo] at h; exact fun σ5 L5 Y5 H5 w5 n5 => ⟨S2, L5, Y5, w5, n5, h⟩
        | bk S2 => simp only [eo] at h; exact h
        | rt t => simp only [eo] at h; exact h
        | ex c pl S2 => simp only [eo] at h; exact h
/-! ### a, b = .. -/
theorem setAll_len : ∀ {tg : List Nat} {ts : List T} {S S' : Sto}, setAll S tg ts = some S' → tg.length = ts.length
  | [], [], _, _, _ => rfl
  | _ :: _, _ :: _, _, _, h => by simp only [setAll] at h; simp [setAll_len h]
  | [], _ :: _, _, _, h => by simp [setAll] at h
  | _ :: _, [], _, _, h => by simp [setAll] at h
end
end Dz
namespace Dz
open PySem PySem.Spec PyProof.Rows L2

section
variable {K : Frag} {mg : Str → Option Value} {W : WX} {H0 H1 : Hp} {A0 A1 : AS} {L : List Addr} {Y : AS} {H : Hp}
theorem sr_set_any {M : Hp} {S : Sto} {σ : L2.St} {i : Nat} {t : T} {v : V} {as : List Addr} (h : SR K M H S σ L) (r : RT K M H t v as) :
    ∃ L1 L2 xs, SR K M H (S.set i (some t)) (σ.set i (some v)) (L1 ++ xs ++ L2) ∧ (L1 ++ L2).Sublist L ∧ xs.Sublist as := by
  by_cases hi : i < S.length
  · obtain ⟨L1, L2, a, b⟩ := h.set hi r
    exact ⟨L1, L2, as, a, b, List.Sublist.refl _⟩
  · rw [set_big hi, set_big (by rw [h.length]; exact hi)]
    exact ⟨L, [], [], by simpa using h, by simp, List.nil_sublist _⟩
/-- a tree in flight (its own addresses kept aside) goes into a slot -/
theorem Wf.take {S : Sto} {σ : L2.St} {i : Nat} {t : T} {v : V} {as : List Addr} (w : Wf K S L Y σ H) (nd : as.Nodup) (ay : ∀ a ∈ as, Y a) (rt : RT K (mask H fun b => b ∈ L ∨ Y b) H t v as) :
    ∃ L', Wf K (S.set i (some t)) L' (fun b => (b ∈ L ∨ Y b) ∧ b ∉ L') (σ.set i (some v)) H ∧ ∀ a ∈ L', a ∈ L ∨ a ∈ as := by
  obtain ⟨L1, L2, xs, h1, h2, h3⟩ := sr_set_any (i := i) w.sr rt
  have sub : ∀ a, a ∈ L1 ++ L2 → a ∈ L := fun a ha => h2.subset ha
  have mem : ∀ a, a ∈ L1 ++ xs ++ L2 → a ∈ L ∨ a ∈ as := fun a ha => by
    simp only [List.mem_append] at ha
    rcases ha with (ha | ha) | ha
    · exact .inl (sub a (by simp [ha]))
    · exact .inr (h3.subset ha)
    · exact .inl (sub a (by simp [ha]))
  refine ⟨L1 ++ xs ++ L2, ⟨SR.mono (mask_mono (Same.refl _) fun b _ z => ?_) (fun _ _ => rfl) h1, ?_, fun a ha z => z.2 ha, fun a ha => w.lst a ha.1⟩, mem⟩
  · rcases z with z | z
    · rcases mem b z with z | z
      · exact .inl z
      · exact .inr (ay b z)
    · exact z.1
  · rw [List.append_assoc]
    have hp : (L1 ++ (xs ++ L2)).Perm (xs ++ (L1 ++ L2)) := by
      rw [← List.append_assoc, ← List.append_assoc]
      exact List.Perm.append_right L2 List.perm_append_comm
    rw [hp.nodup_iff]
    refine List.nodup_append.mpr ⟨nd.sublist h3, w.nd.sublist h2, fun a ha b hb z => ?_⟩
    subst z
    exact w.ap a (sub a hb) (ay a (h3.subset ha))
theorem Inn.take {L' as : List Addr} (n : Inn H0 A0 L Y H) (fr : ∀ a ∈ as, H0 a = none) (na : ∀ a ∈ as, ¬ A0 a) (hL : ∀ b ∈ L, ¬ A0 b) (mem : ∀ a ∈ L', a ∈ L ∨ a ∈ as) : Inn H0 A0 L' (fun b => (b ∈ L ∨ Y b) ∧ b ∉ L') H where
  same := n.same
  fr := fun a ha => (mem a ha).elim (n.fr a) (fr a)
  sub := fun b hb => ⟨.inr (n.sub b hb), fun z => (mem b z).elim (fun q => hL b q hb) (fun q => na b q hb)⟩
  yb := fun b hb => by
    rcases hb.1 with z | z
    · exact .inr (n.fr b z)
    · exact n.yb b z
theorem Wf.noA {S : Sto} {σ : L2.St} (w : Wf K S L Y σ H) (n : Inn H0 A0 L Y H) : ∀ b ∈ L, ¬ A0 b := fun b hb z => w.ap b hb (n.sub b z)
theorem Wf.takeAll : ∀ {is : List Nat} {ts : List T} {vs : List V} {bs L : List Addr} {Y : AS} {S S' : Sto} {σ : L2.St}, Wf K S L Y σ H → Inn H0 A0 L Y H → RTs K (mask H fun b => b ∈ L ∨ Y b) H ts vs bs → bs.Nodup → (∀ a ∈ bs, Y a) → (∀ a ∈ bs, H0 a = none ∧ ¬ A0 a) → setAll S is ts = some S' →
    ∃ σ' L' Y', Wf K S' L' Y' σ' H ∧ Inn H0 A0 L' Y' H ∧ ∀ Q : L2.St → Hp → Prop, Q σ' H → (is.map gName).foldr gCons gNil vs σ H Q
  | [], [], _, _, L, Y, S, S', σ, w, n, .nil, _, _, _, e => by
    cases e
    exact ⟨σ, L, Y, w, n, fun Q q => ⟨rfl, q⟩⟩
  | i :: is, t :: ts, _, _, L, Y, S, S', σ, w, n, .cons (as := as) (bs := bs) h hs, nd, by', fr, e => by
    simp only [setAll] at e
    rw [List.nodup_append] at nd
    obtain ⟨L1, w1, m1⟩ := w.take (i := i) nd.1 (fun a ha => by' a (by simp [ha])) h
    have n1 := n.take (L' := L1) (as := as) (fun a ha => (fr a (by simp [ha])).1) (fun a ha => (fr a (by simp [ha])).2) (w.noA n) m1
    have hm : Same (mask H fun b => b ∈ L ∨ Y b) (mask H fun b => b ∈ L1 ∨ (b ∈ L ∨ Y b) ∧ b ∉ L1) := mask_mono (Same.refl _) fun b _ z => by
      rcases z with z | z
      · exact (m1 b z).imp id fun z => by' b (by simp [z])
      · exact z.1
    have hn : ∀ a ∈ bs, (a ∈ L ∨ Y a) ∧ a ∉ L1 := fun a ha => ⟨.inr (by' a (by simp [ha])), fun z => by
      rcases m1 a z with z | z
      · exact w.ap a z (by' a (by simp [ha]))
      · exact nd.2.2 a z a ha rfl⟩
    obtain ⟨σ', L', Y', w', n', q'⟩ := Wf.takeAll w1 n1 (hs.mono hm fun _ _ => rfl) nd.2.1 hn (fun a ha => fr a (by simp [ha])) e
    exact ⟨σ', L', Y', w', n', fun Q q => ⟨_, _, rfl, q' Q q⟩⟩
  | [], _ :: _, _, _, _, _, _, _, _, _, _, _, _, _, _, e => by simp [setAll] at e
  | _ :: _, [], _, _, _, _, _, _, _, _, _, _, _, _, _, e => by simp [setAll] at e
/-- what is in flight, kept aside -/
theorem Wf.aside {S : Sto} {σ : L2.St} {H' : Hp} {as : List Addr} (w : Wf K S L Y σ H) (s : Same H H') (fr : ∀ a ∈ as, H a = none) (own : ∀ a ∈ as, ∃ vs, H' a = some (.lst vs)) : Wf K S L (fun b => Y b ∨ b ∈ as) σ H' where
  sr := SR.mono (mask_mono s fun b hb z => by
    rcases z with z | z | z
    · exact .inl z
    · exact .inr z
    · exact absurd (fr b z) hb) (fun a ha => by obtain ⟨vs, e⟩ := w.sr.own a ha; rw [e, s _ _ e]) w.sr
  nd := w.nd
  ap := fun a ha z => by
    rcases z with z | z
    · exact w.ap a ha z
    · exact w.old a (.inl ha) (fr a z)
  xl := fun a ha => by
    rcases ha with ha | ha
    · exact (w.mono s).xl a ha
    · exact own a ha
theorem Inn.aside {H' : Hp} {as : List Addr} (n : Inn H0 A0 L Y H) (s : Same H H') (fr : ∀ a ∈ as, H a = none) : Inn H0 A0 L (fun b => Y b ∨ b ∈ as) H' where
  same := n.same.trans s
  fr := n.fr
  sub := fun b hb => .inl (n.sub b hb)
  yb := fun b hb => by
    rcases hb with hb | hb
    · exact n.yb b hb
    · exact .inr (Same.free n.same (fr b hb))
/-! ### a list of the store is rewritten -/
theorem perm_mid {α : Type} (a b c : List α) : (a ++ b ++ c).Perm (b ++ (a ++ c)) := by
  rw [← List.append_assoc]
  exact List.Perm.append_right c List.perm_append_comm
theorem Wf.mut {S : Sto} {σ : L2.St} {j : Nat} {ts : List T} (w : Wf K S L Y σ H) (n : Inn H0 A0 L Y H) (e : S[j]? = some (some (.ow ts))) :
    ∃ a vs bs, σ[j]? = some (some (V.ref a)) ∧ a ∈ L ∧ H a = some (.lst vs) ∧ RTs K (mask H fun b => b ∈ L ∨ Y b) H ts vs bs ∧ (a :: bs).Nodup ∧ (∀ b ∈ bs, b ∈ L) ∧
      ∀ (H' : Hp) (cs : List Addr) (ts' : List T) (vs' : List V) (ds : List Addr), Same H H' → (∀ c ∈ cs, H c = none) → (∀ c ∈ cs, ∃ vs, H' c = some (.lst vs)) → ds.Nodup → (∀ d ∈ ds, (d ∈ bs ∨ d ∈ cs) ∨ (Y d ∧ ¬ A0 d ∧ H0 d = none)) → RTs K (mask H' fun b => (b ∈ L ∨ Y b) ∨ b ∈ cs) H' ts' vs' ds → ts'.length ≤ 16777216 →
        ∃ L' Y', Wf K (S.set j (some (.ow ts'))) L' Y' σ (upd H' a (.lst vs')) ∧ Inn H0 A0 L' Y' (upd H' a (.lst vs')) ∧ (∀ d, d ∈ bs ∨ d ∈ cs → d ∉ ds → Y' d) ∧ Same (mask H' fun b => (b ∈ L ∨ Y b) ∨ b ∈ cs) (mask (upd H' a (.lst vs')) fun b => b ∈ L' ∨ Y' b) := by
  obtain ⟨v, as, L1, L2, e1, rt, eL, h1⟩ := w.sr.split e
  have hj : j < S.length := (List.getElem?_eq_some_iff.mp e).1
  cases rt with
  | ow ha hz hs =>
    rename_i a vs bs
    have nd := w.nd
    rw [eL] at nd
    have inL : ∀ b, b ∈ a :: bs → b ∈ L := fun b hb => by rw [eL]; simp only [List.mem_append]; exact .inl (.inr hb)
    have hp := perm_mid L1 (a :: bs) L2
    have nd2 := hp.nodup_iff.mp nd
    rw [List.nodup_append] at nd2
    obtain ⟨nA, nB, nC⟩ := nd2
    have sub : ∀ b, b ∈ L1 ++ L2 → b ∈ L := fun b hb => by rw [eL]; exact hp.mem_iff.mpr (List.mem_append.mpr (.inr hb))
    have hσ : σ.set j (some (V.ref a)) = σ := by
      obtain ⟨hl, e2⟩ := List.getElem?_eq_some_iff.mp e1
      apply List.ext_getElem?
      intro i
      by_cases hi : j = i
      · subst hi; rw [List.getElem?_set_self hl, e1]
      · rw [List.getElem?_set_ne hi]
    refine ⟨a, vs, bs, e1, inL a (by simp), ha, hs, nA, fun b hb => inL b (by simp [hb]), fun H' cs ts' vs' ds s fc oc ndd hd hr hl => ?_⟩
    have hne : ∀ b, b ∈ cs → b ≠ a := fun b hb z => by
      subst z
      have := fc b hb
      rw [ha] at this; cases this
    have dsne : ∀ d ∈ ds, d ≠ a := fun d hd' z => by
      subst z
      rcases hd d hd' with (q | q) | q
      · exact (List.nodup_cons.mp nA).1 q
      · exact hne d q rfl
      · exact w.ap d (inL d (by simp)) q.1
    have dsL : ∀ d ∈ ds, (d ∈ L ∨ d ∈ cs) ∨ (Y d ∧ ¬ A0 d ∧ H0 d = none) := fun d hd' => (hd d hd').imp (fun q => q.imp (fun q => inL d (by simp [q])) id) id
    have up : ∀ b, b ≠ a → upd H' a (.lst vs') b = H' b := fun b hb => upd_ne hb
    have k1 : SR K (mask (upd H' a (.lst vs')) fun b => (b ∈ L ∨ Y b) ∨ b ∈ cs) (upd H' a (.lst vs')) (S.set j none) σ (L1 ++ L2) := by
      refine SR.mono (fun b o e => ?_) (fun b hb => ?_) h1
      · obtain ⟨e2, q⟩ := mask_some e
        have : b ≠ a := fun z => q (.inl (inL b (by simp [z])))
        refine mask_of (by rw [up b this]; exact s _ _ e2) fun z => ?_
        rcases z with z | z
        · exact q z
        · have := fc b z; rw [e2] at this; cases this
      · have : b ≠ a := fun z => nC a (by simp) b hb z.symm
        rw [up b this]
        obtain ⟨ws, e2⟩ := h1.own b hb
        rw [e2, s _ _ e2]
    have r1 : RT K (mask (upd H' a (.lst vs')) fun b => (b ∈ L ∨ Y b) ∨ b ∈ cs) (upd H' a (.lst vs')) (.ow ts') (.ref a) (a :: ds) := by
      refine .ow upd_same hl (hr.mono (fun b o e => ?_) fun d hd' => up d (dsne d hd'))
      obtain ⟨e2, q⟩ := mask_some e
      have : b ≠ a := fun z => q (.inl (.inl (inL b (by simp [z]))))
      exact mask_of (by rw [up b this]; exact e2) q
    obtain ⟨L3, L4, k2, s2⟩ := k1.set (i := j) (by simpa using hj) r1
    rw [List.set_set, hσ] at k2
    have sub2 : ∀ b, b ∈ L3 ++ L4 → b ∈ L1 ++ L2 := fun b hb => s2.subset hb
    have mem : ∀ b, b ∈ L3 ++ (a :: ds) ++ L4 → (b ∈ L ∨ b ∈ cs) ∨ (Y b ∧ ¬ A0 b ∧ H0 b = none) := fun b hb => by
      rcases List.mem_append.mp ((perm_mid L3 (a :: ds) L4).mem_iff.mp hb) with z | z
      · rcases List.mem_cons.mp z with z | z
        · exact .inl (.inl (inL b (by simp [z])))
        · exact dsL b z
      · exact .inl (.inl (sub b (sub2 b z)))
    have same1 : Same H0 (upd H' a (.lst vs')) := fun b o e => by
      have : b ≠ a := fun z => by
        have := n.fr a (inL a (by simp)); rw [← z, e] at this; cases this
      rw [up b this]; exact s _ _ (n.same _ _ e)
    have own : ∀ b, (b ∈ L ∨ Y b) ∨ b ∈ cs → ∃ ws, upd H' a (.lst vs') b = some (.lst ws) := fun b hb => by
      by_cases z : b = a
      · subst z; exact ⟨vs', upd_same⟩
      · rw [up b z]
        rcases hb with hb | hb
        · obtain ⟨ws, e⟩ := w.lst b hb; exact ⟨ws, s _ _ e⟩
        · exact oc b hb
    refine ⟨L3 ++ (a :: ds) ++ L4, fun b => ((b ∈ L ∨ Y b) ∨ b ∈ cs) ∧ b ∉ L3 ++ (a :: ds) ++ L4, ⟨SR.mono (mask_mono (Same.refl _) fun b _ z => ?_) (fun _ _ => rfl) k2, ?_, fun b hb z => z.2 hb, fun b hb => own b hb.1⟩, ⟨same1, fun b hb => ?_, fun b hb => ⟨.inl (.inr (n.sub b hb)), fun z => ?_⟩, fun b hb => ?_⟩, fun d hd1 hd2 => ⟨?_, fun z => ?_⟩, fun b o e => ?_⟩
    · rcases z with z | z
      · rcases mem b z with (z | z) | z
        · exact .inl (.inl z)
        · exact .inr z
        · exact .inl (.inr z.1)
      · exact z.1
    · rw [(perm_mid L3 (a :: ds) L4).nodup_iff]
      refine List.nodup_append.mpr ⟨List.nodup_cons.mpr ⟨fun z => dsne a z rfl, ndd⟩, nB.sublist s2, fun b hb c hc z => ?_⟩
      subst z
      have hc' := sub2 b hc
      rcases List.mem_cons.mp hb with z | z
      · exact nC b (by simp [z]) b hc' rfl
      · rcases hd b z with (q | q) | q
        · exact nC b (by simp [q]) b hc' rfl
        · exact w.old b (.inl (sub b hc')) (fc b q)
        · exact w.ap b (sub b hc') q.1
    · rcases mem b hb with (z | z) | z
      · exact n.fr b z
      · exact Same.free n.same (fc b z)
      · exact z.2.2
    · rcases mem b z with (z | z) | z
      · exact w.ap b z (n.sub b hb)
      · exact w.old b (.inr (n.sub b hb)) (fc b z)
      · exact z.2.1 hb
    · rcases hb.1 with (z | z) | z
      · exact .inr (n.fr b z)
      · exact n.yb b z
      · exact .inr (Same.free n.same (fc b z))
    · rcases hd1 with z | z
      · exact .inl (.inl (inL d (by simp [z])))
      · exact .inr z
    · rcases List.mem_append.mp ((perm_mid L3 (a :: ds) L4).mem_iff.mp z) with z | z
      · rcases List.mem_cons.mp z with z | z
        · subst z
          rcases hd1 with q | q
          · exact (List.nodup_cons.mp nA).1 q
          · exact hne d q rfl
        · exact hd2 z
      · rcases hd1 with q | q
        · exact nC d (by simp [q]) d (sub2 d z) rfl
        · exact w.old d (.inl (sub d (sub2 d z))) (fc d q)
    · obtain ⟨e2, q⟩ := mask_some e
      have : b ≠ a := fun z => q (.inl (.inl (inL b (by simp [z]))))
      refine mask_of (by rw [up b this]; exact e2) fun z => ?_
      rcases z with z | z
      · rcases mem b z with (z | z) | z
        · exact q (.inl (.inl z))
        · exact q (.inr z)
        · exact q (.inl (.inr z.1))
      · exact q z.1
theorem Wf.lift {S : Sto} {σ : L2.St} {H' : Hp} {cs bs : List Addr} {ts : List T} {vs : List V} (w : Wf K S L Y σ H) (s : Same H H') (fc : ∀ c ∈ cs, H c = none) (h : RTs K (mask H fun b => b ∈ L ∨ Y b) H ts vs bs) : RTs K (mask H' fun b => (b ∈ L ∨ Y b) ∨ b ∈ cs) H' ts vs bs :=
  h.mono (mask_mono s fun b hb z => z.elim id fun z => absurd (fc b z) hb) fun a ha => by obtain ⟨ws, e⟩ := h.own a ha; rw [e, s _ _ e]
theorem RTs.set {M : Hp} : ∀ {ts : List T} {vs : List V} {bs : List Addr} {m : Nat} {t : T} {v : V} {as : List Addr}, RTs K M H ts vs bs → m < ts.length → RT K M H t v as → ∃ B1 B2, RTs K M H (ts.set m t) (vs.set m v) (B1 ++ as ++ B2) ∧ (B1 ++ B2).Sublist bs
  | _, _, _, _, _, _, _, .nil, h, _ => by simp at h
  | _, _, _, 0, _, _, as, .cons (bs := bs) _ hs, _, r => ⟨[], bs, by simpa using RTs.cons r hs, by simpa using List.sublist_append_right _ _⟩
  | _, _, _, m + 1, _, _, _, .cons (as := cs) h hs, hl, r => by
    obtain ⟨B1, B2, h1, h2⟩ := RTs.set (m := m) hs (by simpa using hl) r
    refine ⟨cs ++ B1, B2, by simpa [List.append_assoc] using RTs.cons h h1, ?_⟩
    rw [List.append_assoc]
    exact List.Sublist.append (List.Sublist.refl _) h2
theorem RTs.erase {M : Hp} : ∀ {ts : List T} {vs : List V} {bs : List Addr} {m : Nat} {t : T}, RTs K M H ts vs bs → ts[m]? = some t → ∃ v B1 ps B2, vs[m]? = some v ∧ bs = B1 ++ ps ++ B2 ∧ RT K M H t v ps ∧ RTs K M H (ts.eraseIdx m) (vs.eraseIdx m) (B1 ++ B2)
  | _, _, _, _, _, .nil, h => by simp at h
  | _, _, _, 0, _, .cons (as := ps) (bs := bs) h hs, e => by
    simp at e; subst e
    exact ⟨_, [], ps, bs, rfl, by simp, h, by simpa using hs⟩
  | _, _, _, m + 1, _, .cons (as := cs) h hs, e => by
    obtain ⟨v, B1, ps, B2, a, b, c, d⟩ := RTs.erase (m := m) hs (by simpa using e)
    exact ⟨v, cs ++ B1, ps, B2, by simpa using a, by rw [b]; simp [List.append_assoc], c, by simpa [List.append_assoc] using RTs.cons h d⟩
theorem RTs.rev {M : Hp} : ∀ {ts : List T} {vs : List V} {bs : List Addr}, RTs K M H ts vs bs → ∃ ds, RTs K M H ts.reverse vs.reverse ds ∧ ds.Perm bs
  | _, _, _, .nil => ⟨[], .nil, List.Perm.refl _⟩
  | _, _, _, .cons (as := as) h hs => by
    obtain ⟨ds, a, b⟩ := RTs.rev hs
    refine ⟨ds ++ (as ++ []), ?_, ?_⟩
    · rw [List.reverse_cons, List.reverse_cons]
      exact RTs.app a (RTs.cons h .nil)
    · rw [List.append_nil]
      exact (List.Perm.append_right as b).trans List.perm_append_comm
end
end Dz
namespace Dz
open PySem PySem.Spec PyProof.Rows L2

theorem dropLast_erase {α : Type} : ∀ l : List α, l.eraseIdx (l.length - 1) = l.dropLast
  | [] => rfl
  | [_] => rfl
  | a :: b :: l => by
    have := dropLast_erase (b :: l)
    simp only [List.length_cons, Nat.add_sub_cancel] at this ⊢
    rw [List.eraseIdx_cons_succ, this]; rfl
section
variable {K : Frag} {mg : Str → Option Value} {W : WX} {L : List Addr} {Y : AS} {H : Hp}
/-! ### a, b = .. -/
theorem t_unp {f : Sto → Rs T} {is : List Nat} {D : Ends} {σ : L2.St} (h : tS K mg W (fun S => (f S).out S fun t => match sqT t with
        | some ts => (match setAll S is ts with
          | some S' => .nx S'
          | none => .st)
        | none => .st) D σ H) : tAsg (tE K mg W false f) (gT K is true) D σ H :=
  tS_expr h fun S L Y H0 A0 t w n e z v H' as s nd fr rt => by
    cases e1 : sqT t with
    | none => simp only [e1] at z; exact z.elim
    | some ts =>
      cases e2 : setAll S is ts with
      | none => simp only [e1, e2] at z; exact z.elim
      | some S' =>
        simp only [e1, e2] at z
        simp only [Bool.false_eq_true, if_false] at fr
        obtain ⟨a, vs, bs, rfl, hseq, hts, hsub, _, hlen⟩ := rt.sqV mask_same e1
        have frb : ∀ c ∈ bs, H c = none := fun c hc => fr c (hsub.subset hc)
        have w1 := w.aside (as := bs) s frb hts.own
        have n1 := n.aside (as := bs) s frb
        obtain ⟨σ', L', Y', w', n', q'⟩ := Wf.takeAll w1 n1 (hts.mono (mask_mono (Same.refl _) fun b _ z => by
          rcases z with z | z | z
          · exact .inl (.inl z)
          · exact .inl (.inr z)
          · exact .inr (hsub.subset z)) fun _ _ => rfl) (nd.sublist hsub) (fun a ha => .inr ha) (fun a ha => ⟨Same.free n.same (frb a ha), fun q => w.old a (.inr (n.sub a q)) (frb a ha)⟩) e2
        have hl : vs.length = is.length := by rw [hts.length, setAll_len e2]
        show gU K is.length _ _ _ _ _
        rcases hseq with h | h
        · exact .inr ⟨a, vs, rfl, h, hl, q' _ (z σ' L' Y' H' w' n')⟩
        · exact .inl ⟨a, vs, rfl, h, hl, q' _ (z σ' L' Y' H' w' n')⟩
/-! ### i += e -/
def augF (op : Operator) (a b : Int) : Int := match op with | .Add => a + b | _ => a - b
theorem t_aug {f : Sto → Rs T} {i : Nat} {op : Operator} {D : Ends} {σ : L2.St} {p : Bool} (ho : augB op = true) (h : tS K mg W (fun S => ((do
        let x ← getS S i
        let t ← f S
        match x, t with
        | .fz (.int a), .fz (.int b) => do let k ← intOp op a b; return S.set i (some (.fz (.int k)))
        | _, _ => .st) : Rs Sto).out S .nx) D σ H) : tAug i (tE K mg W p f) (ipI (augF op)) D σ H := by
  obtain ⟨S, L, Y, H0, A0, w, n, h⟩ := h
  cases e : S[i]? with
  | none => simp only [getS, e, Rs.bind_st, Rs.out_st] at h; exact h.elim
  | some o =>
    cases o with
    | none => simp only [getS, e, Rs.bind_st, Rs.out_st] at h; exact h.elim
    | some x =>
      simp only [getS, e, Rs.bind_ok] at h
      obtain ⟨v, as, e1, rt, _⟩ := w.sr.get e
      refine ⟨v, e1, S, L, Y, w, ?_⟩
      cases ef : f S with
      | st => simp only [ef, Rs.bind_st, Rs.out_st] at h; exact h.elim
      | ex c pl => simp only [ef, Rs.bind_ex, Rs.out_ex] at h; exact .inr ⟨c, pl, rfl, wants.exP w n h⟩
      | ok t =>
        refine .inl ⟨t, rfl, fun y H' bs s nd fr ry => ?_⟩
        simp only [ef, Rs.bind_ok] at h
        split at h
        · rename_i a b
          have hv := rt.intV
          have hy := ry.intV
          have hi : i < S.length := (List.getElem?_eq_some_iff.mp e).1
          have key : ∀ k, wants K mg W H0 A0 D (.nx (S.set i (some (.fz (.int k))))) → D.nx (σ.set i (some (.int k))) H' := fun k z => by
            obtain ⟨L', Y', w', n'⟩ := w.put (t := .fz (.int k)) (v := .int k) (as := []) n s List.nodup_nil (fun a ha => by cases ha) (.fz (.int k) rfl) hi
            exact z _ _ _ _ w' n'
          cases op with
          | Add =>
            simp only [intOp, Rs.bind_ok, Rs.pure_eq, Rs.out_ok] at h
            exact ⟨a, b, hv, hy, key _ h⟩
          | Sub =>
            simp only [intOp, Rs.bind_ok, Rs.pure_eq, Rs.out_ok] at h
            exact ⟨a, b, hv, hy, key _ h⟩
          | _ => simp [augB] at ho
        · simp only [Rs.out_st] at h; exact h.elim
/-! ### x[i] = e -/
theorem owS_ok {S : Sto} {j : Nat} {g : List T → Rs Sto} {H0 : Hp} {A0 : AS} {D : Ends} (h : wants K mg W H0 A0 D ((do let ts ← owS S j; g ts : Rs Sto).out S .nx)) : ∃ ts, S[j]? = some (some (.ow ts)) ∧ wants K mg W H0 A0 D ((g ts).out S .nx) := by
  unfold owS at h
  split at h
  · rename_i ts e; exact ⟨ts, e, h⟩
  · exact h.elim
theorem t_sub {f g : Sto → Rs T} {j : Nat} {D : Ends} {σ : L2.St} {p : Bool} (h : tS K mg W (fun S => ((do
        let ts ← owS S j
        let t ← f S
        let i ← g S
        match i with
        | .fz (.int k) => match L2.ixN ts.length k with
          | some m => .ok (S.set j (some (.ow (ts.set m t))))
          | none => .st
        | _ => .st) : Rs Sto).out S .nx) D σ H) : tAsg (tE K mg W false f) (gSub (tVar j) (tE K mg W p g) rSetL) D σ H := by
  obtain ⟨S, L, Y, H0, A0, w, n, h⟩ := h
  obtain ⟨ts, e, h⟩ := owS_ok (g := fun ts => (do
        let t ← f S
        let i ← g S
        match i with
        | .fz (.int k) => match L2.ixN ts.length k with
          | some m => .ok (S.set j (some (.ow (ts.set m t))))
          | none => .st
        | _ => .st : Rs Sto)) h
  obtain ⟨a, vs, bs, e1, aL, ha, hts, hnd, hbL, key⟩ := w.mut n e
  have hA : tA K mg W [false, p] (fun S => do let t ← f S; let ts ← (do let i ← g S; let ts ← (Rs.ok [] : Rs (List T)); return i :: ts); return t :: ts) σ H (fun xs H3 => ∀ x i, xs = [x, i] → rSetL (.ref a) i x H3 fun H4 => D.nx σ H4) := by
    refine ⟨S, L, Y, w, ?_⟩
    cases ef : f S with
    | st => simp only [ef, Rs.bind_st, Rs.out_st] at h; exact h.elim
    | ex c pl => simp only [ef, Rs.bind_ex, Rs.out_ex] at h; exact .inr ⟨c, pl, by simp only [ef]; rfl, wants.exP w n h⟩
    | ok t =>
      cases eg : g S with
      | st => simp only [ef, eg, Rs.bind_ok, Rs.bind_st, Rs.out_st] at h; exact h.elim
      | ex c pl => simp only [ef, eg, Rs.bind_ok, Rs.bind_ex, Rs.out_ex] at h; exact .inr ⟨c, pl, by simp only [ef, eg]; rfl, wants.exP w n h⟩
      | ok u =>
        simp only [ef, eg, Rs.bind_ok] at h
        refine .inl ⟨[t, u], by simp only [ef, eg]; rfl, fun xs H' cs si ar x i hx => ?_⟩
        subst hx
        split at h
        · rename_i kk
          split at h
          · rename_i m em
            simp only [Rs.out_ok] at h
            have fc : ∀ c ∈ cs, H c = none := fun c hc => ar.fresh c hc
            have oc := ar.own
            have hlift := w.lift si.same fc hts
            obtain ⟨as, as', r1, r2, sub⟩ : ∃ as as', RT K (msk H' L Y cs) H' t x as ∧ RT K (msk H' L Y cs) H' (.fz (.int kk)) i as' ∧ as.Sublist cs := by
              cases ar with
              | temp r fr ar =>
                cases ar with
                | view r2 n2 i2 ar => exact ⟨_, _, r, r2, List.sublist_append_left _ _⟩
                | temp r2 f2 ar => exact ⟨_, _, r, r2, List.sublist_append_left _ _⟩
            have hi := r2.intV
            subst hi
            have hv := hts.length
            have hm : m < ts.length := (L2.ixN_seq em).2.1
            obtain ⟨B1, B2, h3, h4⟩ := RTs.set (m := m) hlift hm r1
            have ndB : (bs).Nodup := (List.nodup_cons.mp hnd).2
            have nd' : (B1 ++ as ++ B2).Nodup := by
              rw [(perm_mid B1 as B2).nodup_iff]
              refine List.nodup_append.mpr ⟨si.nd.sublist sub, ndB.sublist h4, fun b hb c hc z => ?_⟩
              subst z
              exact si.old b (.inl (hbL b (h4.subset hc))) (fc b (sub.subset hb))
            obtain ⟨L', Y', w', n', _, _⟩ := key H' cs _ _ _ si.same fc oc nd' (fun d hd => .inl (by
              rcases List.mem_append.mp ((perm_mid B1 as B2).mem_iff.mp hd) with z | z
              · exact .inr (sub.subset z)
              · exact .inl (h4.subset z))) h3 (by
                rw [List.length_set]
                obtain ⟨_, _, _, rt, _⟩ := w.sr.get e
                cases rt with
                | ow _ hz _ => exact hz)
            exact ⟨a, vs, kk, m, rfl, rfl, si.same _ _ ha, by rw [hv]; exact em, h _ _ _ _ w' n'⟩
          · exact h.elim
        · exact h.elim
  have h2 := tA_cons hA
  exact tE_mono h2 fun x H1 z => ⟨V.ref a, e1, tE_mono (tA_cons z) fun i H2 z => tA_nil z x i rfl⟩
end
end Dz
namespace Dz
open PySem PySem.Spec PyProof.Rows L2

section
variable {K : Frag} {mg : Str → Option Value} {W : WX} {L : List Addr} {Y : AS} {H : Hp}
theorem Wf.len {S : Sto} {σ : L2.St} {j : Nat} {ts : List T} (w : Wf K S L Y σ H) (e : S[j]? = some (some (.ow ts))) : ts.length ≤ 16777216 := by
  obtain ⟨_, _, _, rt, _⟩ := w.sr.get e
  cases rt with
  | ow _ hz _ => exact hz
theorem tyV_lst {a : Addr} {vs : List V} (h : H a = some (.lst vs)) : tyV K "list" (.ref a) H := .inl ⟨rfl, vs, .of h⟩
def rMu : Mu → V → List V → Hp → VK → Prop
  | .append => rAppend
  | .extend => rExtend
  | .clear => rClear
  | .reverse => rReverse
  | .insert => fun _ _ _ _ => False
theorem RTs.nilV {M : Hp} {vs : List V} {bs : List Addr} (h : RTs K M H [] vs bs) : vs = [] ∧ bs = [] := by cases h; exact ⟨rfl, rfl⟩
theorem Args.oneF {M : Hp} {H0 : Hp} {ps : List Bool} {t : T} {vs : List V} {bs : List Addr} (h : Args K M H L H0 (false :: ps) [t] vs bs) : ∃ v, vs = [v] ∧ RT K M H t v bs := by
  cases h with
  | temp r f h =>
    cases h
    exact ⟨_, rfl, by simpa using r⟩
theorem mut_end {S : Sto} {H0 : Hp} {A0 : AS} {D : Ends} {m : Mu} {ts us : List T} {j : Nat} (h : wants K mg W H0 A0 D ((do let r ← mutL m ts us; return S.set j (some (.ow r)) : Rs Sto).out S .nx)) : ∃ r, mutL m ts us = .ok r ∧ wants K mg W H0 A0 D (.nx (S.set j (some (.ow r)))) := by
  cases e : mutL m ts us with
  | st => rw [e] at h; exact h.elim
  | ok r => rw [e] at h; exact ⟨r, rfl, h⟩
  | ex c p =>
    exfalso
    unfold mutL at e
    split at e <;> (try split at e) <;> cases e
theorem t_mut0 {m : Mu} {j : Nat} {D : Ends} {σ : L2.St} (hm : m.many = 0) (h : tS K mg W (fun S => ((do
        let ts ← owS S j
        let us ← (Rs.ok [] : Rs (List T))
        let r ← mutL m ts us
        return S.set j (some (.ow r))) : Rs Sto).out S .nx) D σ H) : tDrop (tBM0 K "list" (rMu m) (tVar j)) D σ H := by
  obtain ⟨S, L, Y, H0, A0, w, n, h⟩ := h
  obtain ⟨ts, e, h⟩ := owS_ok (g := fun ts => (do let us ← (Rs.ok [] : Rs (List T)); let r ← mutL m ts us; return S.set j (some (.ow r)) : Rs Sto)) h
  obtain ⟨a, vs, bs, e1, aL, ha, hts, hnd, hbL, key⟩ := w.mut n e
  simp only [Rs.bind_ok] at h
  obtain ⟨r, er, h⟩ := mut_end h
  have hl := w.len e
  refine ⟨_, e1, tyV_lst ha, ?_⟩
  have lf := w.lift (Same.refl H) (cs := []) (fun c hc => by cases hc) hts
  cases m with
  | clear =>
    simp only [mutL, Rs.ok.injEq] at er; subst er
    obtain ⟨L', Y', w', n', _⟩ := key H [] [] [] [] (Same.refl H) (fun c hc => by cases hc) (fun c hc => by cases hc) List.nodup_nil (fun d hd => by cases hd) .nil (by simp)
    exact ⟨a, vs, rfl, rfl, ha, h _ _ _ _ w' n'⟩
  | reverse =>
    simp only [mutL, Rs.ok.injEq] at er; subst er
    obtain ⟨ds, h1, h2⟩ := lf.rev
    obtain ⟨L', Y', w', n', _⟩ := key H [] _ _ ds (Same.refl H) (fun c hc => by cases hc) (fun c hc => by cases hc) (h2.nodup_iff.mpr (List.nodup_cons.mp hnd).2) (fun d hd => .inl (.inl (h2.mem_iff.mp hd))) h1 (by simpa using hl)
    exact ⟨a, vs, rfl, rfl, ha, h _ _ _ _ w' n'⟩
  | _ => simp [Mu.many] at hm
theorem t_mut1 {m : Mu} {j : Nat} {D : Ends} {σ : L2.St} {f : Sto → Rs (List T)} {ps : List Bool} (hm : m.many = 1) (h : tS K mg W (fun S => ((do
        let ts ← owS S j
        let us ← f S
        let r ← mutL m ts us
        return S.set j (some (.ow r))) : Rs Sto).out S .nx) D σ H) (hps : ps = [false]) : tDrop (tBM K "list" (rMu m) (tVar j) (tA K mg W ps f)) D σ H := by
  subst hps
  obtain ⟨S, L, Y, H0, A0, w, n, h⟩ := h
  obtain ⟨ts, e, h⟩ := owS_ok (g := fun ts => (do let us ← f S; let r ← mutL m ts us; return S.set j (some (.ow r)) : Rs Sto)) h
  obtain ⟨a, vs, bs, e1, aL, ha, hts, hnd, hbL, key⟩ := w.mut n e
  have hl := w.len e
  refine ⟨_, e1, tyV_lst ha, S, L, Y, w, ?_⟩
  cases ef : f S with
  | st => simp only [ef, Rs.bind_st, Rs.out_st] at h; exact h.elim
  | ex c pl => simp only [ef, Rs.bind_ex, Rs.out_ex] at h; exact .inr ⟨c, pl, rfl, wants.exP w n h⟩
  | ok us =>
    refine .inl ⟨us, rfl, fun xs H' cs si ar => ?_⟩
    simp only [ef, Rs.bind_ok] at h
    obtain ⟨r, er, h⟩ := mut_end h
    have fc : ∀ c ∈ cs, H c = none := fun c hc => ar.fresh c hc
    have oc := ar.own
    have lf := w.lift si.same fc hts
    have ndB : bs.Nodup := (List.nodup_cons.mp hnd).2
    have hlen := ar.length
    have dj : ∀ b ∈ bs, ∀ c ∈ cs, b ≠ c := fun b hb c hc z => by subst z; exact si.old b (.inl (hbL b hb)) (fc b hc)
    cases m with
    | append =>
      match us, hlen, er, ar with
      | [u], _, er, ar =>
        obtain ⟨x, rfl, rx⟩ := Args.oneF ar
        simp only [mutL] at er
        split at er
        · rename_i hlt
          cases er
          have rr : RTs K (msk H' L Y cs) H' [u] [x] (cs ++ []) := .cons rx .nil
          rw [List.append_nil] at rr
          obtain ⟨L', Y', w', n', _⟩ := key H' cs _ _ (bs ++ cs) si.same fc oc (List.nodup_append.mpr ⟨ndB, si.nd, dj⟩) (fun d hd => .inl (List.mem_append.mp hd)) (RTs.app lf rr) (by simp; omega)
          exact ⟨a, vs, x, rfl, rfl, si.same _ _ ha, by rw [sizeLine_eq, hts.length]; omega, h _ _ _ _ w' n'⟩
        · cases er
    | extend =>
      match us, hlen, er, ar with
      | [u], _, er, ar =>
        obtain ⟨x, rfl, rx⟩ := Args.oneF ar
        cases u with
        | ow ws =>
          simp only [mutL] at er
          split at er
          · rename_i hlt
            cases er
            cases rx with
            | @ow _ b zs ds hb hz hs =>
              have ndc := si.nd
              obtain ⟨L', Y', w', n', _⟩ := key H' (b :: ds) _ _ (bs ++ ds) si.same fc oc (List.nodup_append.mpr ⟨ndB, (List.nodup_cons.mp ndc).2, fun p hp q hq => dj p hp q (by simp [hq])⟩) (fun d hd => .inl ((List.mem_append.mp hd).imp id fun z => by simp [z])) (RTs.app lf hs) (by simpa using hlt)
              exact ⟨a, b, vs, zs, rfl, rfl, si.same _ _ ha, hb, by rw [sizeLine_eq, hts.length, hs.length]; omega, h _ _ _ _ w' n'⟩
          · cases er
        | _ => simp [mutL] at er
    | _ => simp [Mu.many] at hm
/-! ### x = y.pop(..) -/
def rPo (n : Nat) : V → List V → Hp → VK → Prop := if n = 0 then rPop else rPopAt
/-- what pop takes out -/
theorem popL_ok {ts us : List T} {r : T × List T} (h : popL ts us = .ok r) : ∃ k, ts[k]? = some r.1 ∧ r.2 = ts.eraseIdx k ∧ ((us = [] ∧ k = ts.length - 1) ∨ ∃ i : Int, us = [.fz (.int i)] ∧ -(2 ^ 63) ≤ i ∧ i < 2 ^ 63 ∧ seqIndex? i ts.length = some k) := by
  unfold popL at h
  split at h
  · split at h
    · rename_i u e
      cases h
      exact ⟨_, e, (dropLast_erase ts).symm, .inl ⟨rfl, rfl⟩⟩
    · cases h
  · split at h
    · rename_i hi
      split at h
      · rename_i k ek
        split at h
        · rename_i u e
          cases h
          exact ⟨k, e, rfl, .inr ⟨_, rfl, hi.1, hi.2, ek⟩⟩
        · cases h
      · cases h
    · cases h
  · cases h
theorem popL_noex {ts us : List T} : NoEx (popL ts us) := by
  intro c p h
  unfold popL at h
  split at h <;> (try split at h) <;> (try split at h) <;> (try split at h) <;> cases h
/-- the list at j loses an item: the item is in flight behind -/
theorem pop_step {S : Sto} {σ : L2.St} {H0 : Hp} {A0 : AS} {j kk : Nat} {ts : List T} {u : T} {a : Addr} {vs : List V} {bs : List Addr} {H' : Hp} (w : Wf K S L Y σ H) (n : Inn H0 A0 L Y H) (e : S[j]? = some (some (.ow ts))) (s : Same H H') (ek : ts[kk]? = some u) :
    ∃ a vs y, σ[j]? = some (some (V.ref a)) ∧ H a = some (.lst vs) ∧ vs.length = ts.length ∧ vs[kk]? = some y ∧ ∃ L' Y' ps, Wf K (S.set j (some (.ow (ts.eraseIdx kk)))) L' Y' σ (upd H' a (.lst (vs.eraseIdx kk))) ∧ Inn H0 A0 L' Y' (upd H' a (.lst (vs.eraseIdx kk))) ∧
      RT K (mask (upd H' a (.lst (vs.eraseIdx kk))) fun b => b ∈ L' ∨ Y' b) (upd H' a (.lst (vs.eraseIdx kk))) u y ps ∧ ps.Nodup ∧ (∀ p ∈ ps, Y' p ∧ ¬ A0 p ∧ H0 p = none) := by
  obtain ⟨a, vs, bs, e1, aL, ha, hts, hnd, hbL, key⟩ := w.mut n e
  have lf := w.lift s (cs := []) (fun c hc => by cases hc) hts
  obtain ⟨y, B1, ps, B2, ey, eb, ru, rr⟩ := lf.erase ek
  have ndB : bs.Nodup := (List.nodup_cons.mp hnd).2
  rw [eb] at ndB
  have nd2 := (perm_mid B1 ps B2).nodup_iff.mp ndB
  rw [List.nodup_append] at nd2
  have inb : ∀ d, d ∈ B1 ++ B2 → d ∈ bs := fun d hd => by rw [eb]; exact (perm_mid B1 ps B2).mem_iff.mpr (List.mem_append.mpr (.inr hd))
  have inp : ∀ d, d ∈ ps → d ∈ bs := fun d hd => by rw [eb]; exact (perm_mid B1 ps B2).mem_iff.mpr (List.mem_append.mpr (.inl hd))
  obtain ⟨L', Y', w', n', hy, hm⟩ := key H' [] _ _ (B1 ++ B2) s (fun c hc => by cases hc) (fun c hc => by cases hc) nd2.2.1 (fun d hd => .inl (.inl (inb d hd))) rr (Nat.le_trans (L2.len_erase _ _) (w.len e))
  refine ⟨a, vs, y, e1, ha, hts.length, ey, L', Y', ps, w', n', ru.mono hm fun d hd => upd_ne fun z => ?_, nd2.1, fun p hp => ⟨hy p (.inl (inp p hp)) fun z => nd2.2.2 p hp p z rfl, w.noA n p (hbL p (inp p hp)), n.fr p (hbL p (inp p hp))⟩⟩
  subst z
  exact (List.nodup_cons.mp hnd).1 (inp d hd)
theorem pop_args {us : List T} {ps : List Bool} {M H' H0 : Hp} {xs : List V} {cs : List Addr} {ts : List T} {r : T × List T} {vs : List V} {y : V} {a : Addr} {Q : VK} {kk : Nat} (ar : Args K M H' L H0 ps us xs cs) (ek : ts[kk]? = some r.1)
    (hd : (us = [] ∧ kk = ts.length - 1) ∨ ∃ i : Int, us = [.fz (.int i)] ∧ -(2 ^ 63) ≤ i ∧ i < 2 ^ 63 ∧ seqIndex? i ts.length = some kk) (ha : H' a = some (.lst vs)) (hl : vs.length = ts.length) (ey : vs[kk]? = some y) (q : Q y (upd H' a (.lst (vs.eraseIdx kk)))) :
    rPo us.length (.ref a) xs H' Q := by
  rcases hd with ⟨rfl, rfl⟩ | ⟨i, rfl, h1, h2, h3⟩
  · have : xs = [] := by
      have := ar.length
      have h0 : ps.length = 0 := by simpa using this.1.symm
      exact List.length_eq_zero_iff.mp (this.2.trans h0)
    subst this
    rw [← hl, dropLast_erase] at q
    rw [← hl] at ey
    exact ⟨a, vs, y, rfl, rfl, ha, ey, q⟩
  · have : ∃ x as, xs = [x] ∧ RT K M H' (.fz (.int i)) x as := by
      cases ar with
      | view r _ _ ar => cases ar; exact ⟨_, _, rfl, r⟩
      | temp r _ ar => cases ar; exact ⟨_, _, rfl, r⟩
    obtain ⟨x, as, rfl, rx⟩ := this
    have := rx.intV
    subst this
    exact ⟨a, vs, i, kk, y, rfl, rfl, ha, h1, h2, by rw [hl]; exact h3, ey, q⟩
theorem t_pop {i j nn : Nat} {D : Ends} {σ : L2.St} {f : Sto → Rs (List T)} {ps : List Bool} (hf : ∀ S us, f S = .ok us → us.length = nn) (h : tS K mg W (fun S => if i = j then .st else ((do
        let ts ← owS S j
        let us ← f S
        let r ← popL ts us
        return (S.set j (some (.ow r.2))).set i (some r.1)) : Rs Sto).out S .nx) D σ H) : tAsg (tBM K "list" (rPo nn) (tVar j) (tA K mg W ps f)) (gName i) D σ H := by
  obtain ⟨S, L, Y, H0, A0, w, n, h⟩ := h
  by_cases hij : i = j
  · simp only [hij, if_true] at h; exact h.elim
  simp only [hij, if_false] at h
  obtain ⟨ts, e, h⟩ := owS_ok (g := fun ts => (do let us ← f S; let r ← popL ts us; return (S.set j (some (.ow r.2))).set i (some r.1) : Rs Sto)) h
  obtain ⟨a, vs, bs, e1, aL, ha, hts, hnd, hbL, key⟩ := w.mut n e
  refine ⟨_, e1, tyV_lst ha, S, L, Y, w, ?_⟩
  cases ef : f S with
  | st => simp only [ef, Rs.bind_st, Rs.out_st] at h; exact h.elim
  | ex c pl => simp only [ef, Rs.bind_ex, Rs.out_ex] at h; exact .inr ⟨c, pl, rfl, wants.exP w n h⟩
  | ok us =>
    refine .inl ⟨us, rfl, fun xs H' cs si ar => ?_⟩
    simp only [ef, Rs.bind_ok] at h
    cases ep : popL ts us with
    | st => rw [ep] at h; exact h.elim
    | ex c p => exact absurd ep (popL_noex c p)
    | ok r =>
      rw [ep] at h
      simp only [Rs.bind_ok, Rs.pure_eq, Rs.out_ok] at h
      obtain ⟨kk, ek, er, hd⟩ := popL_ok ep
      obtain ⟨a2, vs2, y, e2, ha2, hl, ey, L', Y', pp, w', n', ru, ndp, hy⟩ := pop_step (a := a) (vs := vs) (bs := bs) w n e si.same ek
      have : a2 = a := by rw [e1] at e2; simpa using e2.symm
      subst this
      rw [ha] at ha2
      have : vs2 = vs := by simpa using ha2.symm
      subst this
      rw [← hf S us ef]
      obtain ⟨L2, w2, m2⟩ := w'.take (i := i) ndp (fun p hp => (hy p hp).1) ru
      have n2 := n'.take (L' := L2) (as := pp) (fun p hp => (hy p hp).2.2) (fun p hp => (hy p hp).2.1) (w'.noA n') m2
      exact pop_args ar ek hd (si.same _ _ ha) hl ey (h _ _ _ _ (by rw [er]; exact w2) n2)
/-! ### x.append(y.pop(..)) -/
theorem t_apop {i j nn : Nat} {D : Ends} {σ : L2.St} {f : Sto → Rs (List T)} {ps : List Bool} (hf : ∀ S us, f S = .ok us → us.length = nn) (h : tS K mg W (fun S => if i = j then .st else ((do
        let ls ← owS S i
        let ts ← owS S j
        let us ← f S
        let r ← popL ts us
        let l ← mutL .append ls [r.1]
        return (S.set j (some (.ow r.2))).set i (some (.ow l))) : Rs Sto).out S .nx) D σ H) : tDrop (tBM K "list" rAppend (tVar i) (tCons (tBM K "list" (rPo nn) (tVar j) (tA K mg W ps f)) tNil)) D σ H := by
  obtain ⟨S, L, Y, H0, A0, w, n, h⟩ := h
  by_cases hij : i = j
  · simp only [hij, if_true] at h; exact h.elim
  simp only [hij, if_false] at h
  obtain ⟨ls, el, h⟩ := owS_ok (g := fun ls => (do let ts ← owS S j; let us ← f S; let r ← popL ts us; let l ← mutL .append ls [r.1]; return (S.set j (some (.ow r.2))).set i (some (.ow l)) : Rs Sto)) h
  obtain ⟨ts, e, h⟩ := owS_ok (g := fun ts => (do let us ← f S; let r ← popL ts us; let l ← mutL .append ls [r.1]; return (S.set j (some (.ow r.2))).set i (some (.ow l)) : Rs Sto)) h
  obtain ⟨a, vs, bs, e1, aL, ha, hts, hnd, hbL, key⟩ := w.mut n e
  obtain ⟨ax, vx, bx, ex, axL, hax, _, _, _, _⟩ := w.mut n el
  refine ⟨_, ex, tyV_lst hax, _, e1, tyV_lst ha, S, L, Y, w, ?_⟩
  cases ef : f S with
  | st => simp only [ef, Rs.bind_st, Rs.out_st] at h; exact h.elim
  | ex c pl => simp only [ef, Rs.bind_ex, Rs.out_ex] at h; exact .inr ⟨c, pl, rfl, wants.exP w n h⟩
  | ok us =>
    refine .inl ⟨us, rfl, fun xs H' cs si ar => ?_⟩
    simp only [ef, Rs.bind_ok] at h
    cases ep : popL ts us with
    | st => rw [ep] at h; exact h.elim
    | ex c p => exact absurd ep (popL_noex c p)
    | ok r =>
      rw [ep] at h
      simp only [Rs.bind_ok, mutL] at h
      split at h
      · rename_i hlt
        simp only [Rs.bind_ok, Rs.pure_eq, Rs.out_ok] at h
        obtain ⟨kk, ek, er, hd⟩ := popL_ok ep
        obtain ⟨a2, vs2, y, e2, ha2, hl, ey, L', Y', pp, w', n', ru, ndp, hy⟩ := pop_step (a := a) (vs := vs) (bs := bs) w n e si.same ek
        have : a2 = a := by rw [e1] at e2; simpa using e2.symm
        subst this
        rw [ha] at ha2
        have : vs2 = vs := by simpa using ha2.symm
        subst this
        rw [← hf S us ef]
        refine pop_args ar ek hd (si.same _ _ ha) hl ey ?_
        have el' : (S.set j (some (.ow (ts.eraseIdx kk))))[i]? = some (some (.ow ls)) := by rw [List.getElem?_set_ne (fun z => hij z.symm)]; exact el
        obtain ⟨a3, v3, b3, e3, _, h3, hts3, hnd3, hbL3, key3⟩ := w'.mut n' el'
        have : a3 = ax := by rw [ex] at e3; simpa using e3.symm
        subst this
        have rr : RTs K (mask (upd H' a2 (.lst (vs2.eraseIdx kk))) fun b => b ∈ L' ∨ Y' b) (upd H' a2 (.lst (vs2.eraseIdx kk))) [r.1] [y] (pp ++ []) := .cons ru .nil
        rw [List.append_nil] at rr
        have lf := w'.lift (Same.refl _) (cs := []) (fun c hc => by cases hc) (RTs.app hts3 rr)
        obtain ⟨L4, Y4, w4, n4, _⟩ := key3 _ [] _ _ (b3 ++ pp) (Same.refl _) (fun c hc => by cases hc) (fun c hc => by cases hc) (List.nodup_append.mpr ⟨(List.nodup_cons.mp hnd3).2, ndp, fun b hb c hc z => by
          subst z; exact w'.ap b (hbL3 b hb) (hy b hc).1⟩) (fun d hd => (List.mem_append.mp hd).imp (fun z => .inl z) fun z => hy d z) lf (by simp; omega)
        exact ⟨a3, v3, y, rfl, rfl, h3, by rw [sizeLine_eq, hts3.length]; omega, h _ _ _ _ (by rw [er]; exact w4) n4⟩
      · exact h.elim
end
end Dz
namespace Dz
open PySem PySem.Spec PyProof.Rows L2

section
variable {G : Str → Option PyData} {D N : List Str} {k : Nat} {orc : Str → List T → Rs T} {sc : Scope} {W : WX} {X : Cx}
theorem name_pe (x0 : XOk G D N k orc sc W X) {x : Str} {p : Pos} {j : Nat} (h : nameB N sc x j = true) : PE X (.Name x p) (tVar j) := by
  simp only [nameB, Bool.and_eq_true, decide_eq_true_eq] at h
  exact pe_var (by rw [x0.hN]; exact h.1.1) (by rw [x0.hs]; exact visB_iff h.1.2) (dbg_iff h.2).1 (dbg_iff h.2).2
theorem bm1 {o e : Expr} {to : TE} {t : TA} {name : Str} {apos cpos : Pos} {T id : String} {r : V → List V → Hp → VK → Prop} (pa : PlainAttrs T) (slot : Slot T name id) (hty : typeOf (.builtin id) = pure (.type "method_descriptor")) (hm : MtR X id r) (ho : PE X o to) (ha : PA X [e] t)
    (hbase : attributeBase o name X.env (eval o X.env) = eval o X.env) (hline : apos.endLine = cpos.line) (hs : starEach [e] X.env = [(false, eval e X.env)]) : PE X (.Call (.Attribute o name apos) [e] [] cpos) (tBM X.K T r to t) :=
  pe_bm pa slot hty hm ho ha hbase (by rw [hs]; rfl) (by simp [hline]) hs (by rfl)
theorem bm0 {o : Expr} {to : TE} {name : Str} {apos cpos : Pos} {T id : String} {r : V → List V → Hp → VK → Prop} (pa : PlainAttrs T) (slot : Slot T name id) (hty : typeOf (.builtin id) = pure (.type "method_descriptor")) (hm : MtR X id r) (ho : PE X o to)
    (hbase : attributeBase o name X.env (eval o X.env) = eval o X.env) (hline : apos.endLine = cpos.line) : PE X (.Call (.Attribute o name apos) [] [] cpos) (tBM0 X.K T r to) :=
  pe_bm0 pa slot hty hm ho hbase (by simp [hline])
/-- y.pop(..) -/
theorem pop_pe {n m : Nat} (x0 : XOk G D N k orc sc W X) {y : Str} {q apos pos : Pos} {j : Nat} {args : List Expr} {is : List IE} (hy : nameB N sc y j = true) (hline : apos.endLine = pos.line) (ha : allB (chkE D N n sc) args is = true) (hl : is.length ≤ 1) :
    PE X (.Call (.Attribute (.Name y q) "pop" apos) args [] pos) (tBM X.K "list" (rPo is.length) (tVar j) (tA X.K X.mg W (is.map fun _ => false) fun S => evL (fun e => do let t ← ev G orc m S e; useT e t) is)) := by
  have hpe : ∀ e i, chkE D N n sc e i = true → PE X e (tE X.K X.mg W i.isPath fun S => ev G orc m S i) := fun e i h => (soundSE n m sc W X e i h x0).1
  have hst : ∀ e i, chkE D N n sc e i = true → ∀ es, starEach (e :: es) X.env = (false, eval e X.env) :: starEach es X.env := fun e i h es => star_of h es X.env
  match args, is, ha, hl with
  | [], [], _, _ =>
    refine PE.weak (bm0 PySem.F.plainAttrs_list PySem.F.slot_list_pop PySem.F.type_list_pop mt_pop (name_pe x0 hy) rfl hline) fun σ H Q z => ?_
    obtain ⟨v, e, ty, z⟩ := z
    exact ⟨v, e, ty, tA_nil z⟩
  | [e], [i], ha, _ =>
    exact bm1 PySem.F.plainAttrs_list PySem.F.slot_list_pop PySem.F.type_list_pop mt_popAt (name_pe x0 hy) (pa_use hpe hst ha) rfl hline (by
      simp only [allB, Bool.and_true] at ha
      exact hst e i ha [])
  | [], _ :: _, ha, _ => simp [allB] at ha
  | _ :: _, [], ha, _ => simp [allB] at ha
  | _ :: _ :: _, [_], ha, _ => simp [allB] at ha
  | _, _ :: _ :: _, _, hl => simp at hl
theorem evL_use_len {m : Nat} {is : List IE} {S : Sto} {ts : List T} (h : evL (fun e => do let t ← ev G orc m S e; useT e t) is = .ok ts) : ts.length = is.length := evL_length h
end
end Dz
namespace Dz
open PySem PySem.Spec PyProof.Rows L2

section
variable {G : Str → Option PyData} {D N : List Str} {k : Nat} {orc : Str → List T → Rs T} {sc : Scope} {W : WX} {X : Cx}
theorem mu_pe1 {x : Str} {p apos pos : Pos} {j : Nat} {mu : Mu} {e : Expr} {t : TA} (x0 : XOk G D N k orc sc W X) (hx : nameB N sc x j = true) (hm : mu.many = 1) (hline : apos.endLine = pos.line) (ha : PA X [e] t) (hs : starEach [e] X.env = [(false, eval e X.env)]) :
    PE X (.Call (.Attribute (.Name x p) mu.name apos) [e] [] pos) (tBM X.K "list" (rMu mu) (tVar j) t) := by
  cases mu with
  | append => exact bm1 PySem.F.plainAttrs_list PySem.F.slot_list_append PySem.F.type_list_append mt_append (name_pe x0 hx) ha rfl hline hs
  | extend => exact bm1 PySem.F.plainAttrs_list PySem.F.slot_list_extend PySem.F.type_list_extend mt_extend (name_pe x0 hx) ha rfl hline hs
  | _ => simp [Mu.many] at hm
theorem mu_pe0 {x : Str} {p apos pos : Pos} {j : Nat} {mu : Mu} (x0 : XOk G D N k orc sc W X) (hx : nameB N sc x j = true) (hm : mu.many = 0) (hline : apos.endLine = pos.line) :
    PE X (.Call (.Attribute (.Name x p) mu.name apos) [] [] pos) (tBM0 X.K "list" (rMu mu) (tVar j)) := by
  cases mu with
  | clear => exact bm0 PySem.F.plainAttrs_list PySem.F.slot_list_clear PySem.F.type_list_clear mt_clear (name_pe x0 hx) rfl hline
  | reverse => exact bm0 PySem.F.plainAttrs_list PySem.F.slot_list_reverse PySem.F.type_list_reverse mt_reverse (name_pe x0 hx) rfl hline
  | _ => simp [Mu.many] at hm
theorem sw_no {e : Expr} (h : isComp e = false) (tg : Option Expr) (l : Nat) (env : Env) : swapsWith e tg l env = pure false := by
  cases e with
  | ListComp => simp [isComp] at h
  | SetComp => simp [isComp] at h
  | DictComp => simp [isComp] at h
  | _ => rfl
theorem swt_no {e : Expr} (h : isTup e = false) (ts : List Expr) (env : Env) (j : Nat) (p : Pos) : swappedStores [.Tuple ts j p] e env = pure none := by
  cases e with
  | Tuple => simp [isTup] at h
  | _ => rfl
structure SS (G : Str → Option PyData) (D N : List Str) (k : Nat) (orc : Str → List T → Rs T) (sc : Scope) (W : WX) (X : Cx) (n : Nat) : Prop where
  s : ∀ m st i, chkS D N n sc st i = true → PS X st (tS X.K X.mg W (exS G orc m i))
  b : ∀ m sts is, chkB D N n sc sts is = true → PSs X sts (tS X.K X.mg W (exB G orc m is))
theorem PS.stuck {st : Stmt} {K : Frag} {mg : Str → Option Value} : PS X st (tS K mg W fun _ => .st) := PS.weak ps_never fun D σ H ⟨S, L, Y, H0, A0, w, n, h⟩ => h.elim
theorem PSs.stuck {st : List Stmt} {K : Frag} {mg : Str → Option Value} : PSs X st (tS K mg W fun _ => .st) := PSs.weak pss_never fun D σ H ⟨S, L, Y, H0, A0, w, n, h⟩ => h.elim
theorem soundB {n : Nat} (ih : SS G D N k orc sc W X n) {m : Nat} {sts : List Stmt} {is : List IS} (h : chkB D N (n + 1) sc sts is = true) : PSs X sts (tS X.K X.mg W (exB G orc m is)) := by
  cases m with
  | zero => exact PSs.stuck
  | succ m =>
  unfold chkB at h
  split at h
  · cases sts with
    | nil => exact ss_nil fun _ => rfl
    | cons a b => simp at h
  · rename_i js r
    refine PSs.weak (ih.b m _ _ h) fun D σ H q => g_frz (is := js) ?_
    cases m with
    | zero =>
      obtain ⟨S, L, Y, H0, A0, w, n, z⟩ := q
      exact z.elim
    | succ m =>
      obtain ⟨S, L, Y, H0, A0, w, n, z⟩ := q
      refine ⟨S, L, Y, H0, A0, w, n, ?_⟩
      simp only [exB, exS] at z ⊢
      cases e : frzS S js with
      | none => rw [e] at z; exact z
      | some S' => rw [e] at z; exact z
  · rename_i js r
    refine PSs.weak (ih.b m _ _ h) fun D σ H q => g_kil (is := js) ?_
    cases m with
    | zero =>
      obtain ⟨S, L, Y, H0, A0, w, n, z⟩ := q
      exact z.elim
    | succ m => exact q
  · refine PSs.weak pss_never fun D σ H q => ?_
    obtain ⟨S, L, Y, H0, A0, w, n, z⟩ := q
    cases m with
    | zero => exact z.elim
    | succ m => exact z.elim
  · cases sts with
    | nil => cases h
    | cons s ss =>
      simp only [Bool.and_eq_true] at h
      exact ss_cons (ih.s m _ _ h.1) (ih.b m _ _ h.2)
end
end Dz
namespace Dz
open PySem PySem.Spec PyProof.Rows L2

section
variable {G : Str → Option PyData} {D N : List Str} {k : Nat} {orc : Str → List T → Rs T} {sc : Scope} {W : WX} {X : Cx}
theorem s_while {f : Sto → Rs Bool} {body : Sto → Out} {c : Expr} {b : List Stmt} {p : Pos} {mm : Nat} (po : PassesOwn (model X.prog X.w) X.A X.env X.xe) (h1 : PT X c (tT X.K X.mg W f)) (h2 : PSs X b (tS X.K X.mg W body)) :
   PS X (.While c b [] p) (tS X.K X.mg W (whLoop f body mm)) :=
  PS.weak (ps_while po h1 h2) fun D' σ H q => t_while q
/-- name = [.. for ..] -/
theorem s_asgLc {n m : Nat} (x0 : XOk G D N k orc sc W X) {x : Str} {p pos lpos : Pos} {elt tg iter : Expr} {ifs : List Expr} {scope : Scope} {i : Nat} {is : List Nat} {tu : Bool} {y : IE} {κ : ItK} {src cond : List IE}
    (hi : N[i]? = some x) (h : chkE D N (n + 1) sc (.ListComp elt [⟨tg, iter, ifs, 0⟩] scope lpos) (.lc is tu y κ src cond) = true) (hs : swB sc (.ListComp elt [⟨tg, iter, ifs, 0⟩] scope lpos) (.Name x p) = true) :
    PS X (.Assign [.Name x p] (.ListComp elt [⟨tg, iter, ifs, 0⟩] scope lpos) pos) (tS X.K X.mg W fun S => ((do let t ← ev G orc (m + 1) S (.lc is tu y κ src cond); useT (.lc is tu y κ src cond) t) : Rs T).out S fun t => if i < S.length then .nx (S.set i (some t)) else .st) := by
  have L := lc_inv (G := G) h
  obtain ⟨h1, h2, h3⟩ := lc_parts (m := m) (soundSE n) x0 L
  obtain ⟨hit, hf⟩ := it_ok (m := m) (soundSE n) x0 L.i L.t
  simp only [swB, Bool.and_eq_true, decide_eq_true_eq, Bool.not_eq_true'] at hs
  obtain ⟨⟨sy, sl⟩, sn⟩ := hs
  have hy : X.env.scope.names.lookup x = some .local := by rw [x0.hs]; exact sy
  refine PS.weak (ps_setLc x0.calm (by rw [x0.hN]; exact x0.nd) (by rw [x0.hN]; exact hi) hy (sw_true (by rw [x0.hs]; exact x0.kd) hy sl sn) hit (blk_ok x0 L.b) h1 h2 h3 hf) fun D' σ H q => ?_
  have q2 := t_asg q
  exact lc_read (is := is) (tu := tu) (x := y) (κ := κ) (src := src) (cond := cond) L.o (tE_use q2)
theorem chkE_fuel {n : Nat} {e : Expr} {ie : IE} (h : chkE D N n sc e ie = true) : ∃ n', n = n' + 1 := by
  cases n with
  | zero => cases h
  | succ n => exact ⟨n, rfl⟩
theorem chk_lc {n : Nat} {elt : Expr} {gs : List Comprehension} {scope : Scope} {p : Pos} {ie : IE} (h : chkE D N n sc (.ListComp elt gs scope p) ie = true) : ∃ n' tg iter ifs is tu x κ src cond, n = n' + 1 ∧ gs = [⟨tg, iter, ifs, 0⟩] ∧ ie = .lc is tu x κ src cond := by
  cases n with
  | zero => cases h
  | succ n =>
    unfold chkE at h
    split at h
    all_goals first
      | (cases h; done)
      | (rename_i heq; cases heq; done)
      | (rename_i heq; cases heq; exact ⟨n, _, _, _, _, _, _, _, _, _, rfl, rfl, rfl⟩)
theorem s_whl {n m : Nat} (x0 : XOk G D N k orc sc W X) (po : PassesOwn (model X.prog X.w) X.A X.env X.xe) (ih : SS G D N k orc sc W X n) {c : Expr} {b : List Stmt} {p : Pos} {ic : IE} {ib : List IS} (h : (chkE D N n sc c ic && chkB D N n sc b ib) = true) :
   PS X (.While c b [] p) (tS X.K X.mg W (fun S => exS G orc (m + 1) (.whl ic ib) S)) := by
  have e : (fun S => exS G orc (m + 1) (.whl ic ib) S) = whLoop (fun S => evT G orc m S ic) (fun S => exB G orc m ib S) wlim := by funext S; simp only [exS]
  rw [e]
  simp only [Bool.and_eq_true] at h
  exact s_while po (soundSE n m sc W X _ _ h.1 x0).2.1 (ih.b m _ _ h.2)
/-- every statement that the checker lets pass is told by the evaluator -/
theorem soundS {n : Nat} (x0 : XOk G D N k orc sc W X) (fn : ∀ x, X.fn x = true) (po : PassesOwn (model X.prog X.w) X.A X.env X.xe) (ih : SS G D N k orc sc W X n) {m : Nat} {st : Stmt} {i : IS} (h : chkS D N (n + 1) sc st i = true) : PS X st (tS X.K X.mg W (exS G orc m i)) := by
  cases m with
  | zero => exact PS.stuck
  | succ m =>
  have hpe : ∀ e i, chkE D N n sc e i = true → PE X e (tE X.K X.mg W i.isPath fun S => ev G orc m S i) := fun e i h => (soundSE n m sc W X e i h x0).1
  have hus : ∀ e i, chkE D N n sc e i = true → PE X e (tE X.K X.mg W false fun S => do let t ← ev G orc m S i; useT i t) := fun e i h => (soundSE n).use h x0
  have hst : ∀ e i, chkE D N n sc e i = true → ∀ es, starEach (e :: es) X.env = (false, eval e X.env) :: starEach es X.env := fun e i h es => star_of h es X.env
  have hloc : ∀ x, locB sc x = true → L2.Loc X.env.scope x ∧ (X.fn x = true ∨ X.env.scope.names.lookup x = some .local) := fun x h => ⟨by rw [x0.hs]; exact locB_iff h, .inl (fn x)⟩
  show PS X st (tS X.K X.mg W fun S => exS G orc (m + 1) i S)
  unfold chkS at h
  split at h <;> first | exact s_whl x0 po ih h | simp only [exS]
  · exact PS.stuck
  · exact s_next ps_pass fun _ => rfl
  · exact s_brk fun _ => rfl
  · exact s_cnt fun _ => rfl
  · exact s_next ps_doc fun _ => rfl
  · rename_i x p e _ i ie
    simp only [Bool.and_eq_true, decide_eq_true_eq] at h
    obtain ⟨⟨⟨hi, hl⟩, he⟩, hs⟩ := h
    obtain ⟨l1, l2⟩ := hloc x hl
    cases hc : isComp e with
    | false => exact s_asg x0 hi l1 l2 (hus _ _ he) (sw_no hc _ _ _)
    | true =>
      cases e with
      | ListComp elt gs scope lpos =>
        obtain ⟨n', tg, iter, ifs, is, tu, y, κ, src, cond, rfl, rfl, rfl⟩ := chk_lc he
        cases m with
        | zero => exact PS.weak ps_never fun D σ H ⟨S, L, Y, H0, A0, w, n, z⟩ => z.elim
        | succ m => exact s_asgLc x0 hi he hs
      | SetComp => exfalso; cases n <;> cases ie <;> cases he
      | DictComp => exfalso; cases n <;> cases ie <;> cases he
      | _ => simp [isComp] at hc
  · rename_i es j p e _ is ie
    simp only [Bool.and_eq_true, Bool.not_eq_true'] at h
    obtain ⟨⟨⟨ht, he⟩, h1⟩, h2⟩ := h
    exact PS.weak (ps_asg (hus _ _ he) (pg_tg (N := N) (sc0 := sc) x0.calm (by rw [x0.hN]; exact x0.nd) x0.hN hloc ht) (by unfold swapsWithSole; exact sw_no h2 _ _ _) (swt_no h1 _ _ _ _)) fun D' σ H q => t_unp q
  · rename_i x p b _ e _ j ib ie
    simp only [Bool.and_eq_true, Bool.not_eq_true'] at h
    obtain ⟨⟨⟨hx, hb⟩, he⟩, h2⟩ := h
    exact PS.weak (ps_asg (hus _ _ he) (pg_sub (name_pe x0 hx) (hpe _ _ hb) set_list (by
      intro v
      cases b with
      | Slice => rw [chk_slice] at hb; cases hb
      | _ => rfl)) (by unfold swapsWithSole; exact sw_no h2 _ _ _) (by rfl)) fun D' σ H q => t_sub q
  · rename_i x _ op e _ i op' ie
    simp only [Bool.and_eq_true, decide_eq_true_eq] at h
    obtain ⟨⟨⟨⟨rfl, ho⟩, hi⟩, hl⟩, he⟩ := h
    obtain ⟨l1, l2⟩ := hloc x hl
    have pip : PIp X op (ipI (augF op)) := by
      cases op with
      | Add => exact ip_add
      | Sub => exact ip_sub
      | _ => simp [augB] at ho
    exact PS.weak (ps_aug (by rw [x0.hN]; exact x0.nd) (by rw [x0.hN]; exact hi) l1 (hpe _ _ he) pip l2) fun D' σ H q => t_aug ho q
  · rename_i x p y q m' apos args pos _ i j is
    simp only [Bool.and_eq_true, decide_eq_true_eq] at h
    obtain ⟨⟨⟨⟨⟨⟨hi, hl⟩, rfl⟩, hy⟩, hline⟩, ha⟩, hle⟩ := h
    obtain ⟨l1, l2⟩ := hloc x hl
    exact PS.weak (ps_set (by rw [x0.hN]; exact x0.nd) (by rw [x0.hN]; exact hi) l1 (pop_pe (m := m) x0 hy hline ha hle) (by rfl) l2) fun D' σ H q => t_pop (fun S us => evL_use_len) q
  · rename_i x p m' apos y q m2 apos2 args pos2 pos _ i j is
    simp only [Bool.and_eq_true, decide_eq_true_eq] at h
    obtain ⟨⟨⟨⟨⟨⟨⟨rfl, hx⟩, hline⟩, rfl⟩, hy⟩, hline2⟩, ha⟩, hle⟩ := h
    exact PS.weak (ps_expr (bm1 PySem.F.plainAttrs_list PySem.F.slot_list_append PySem.F.type_list_append mt_append (name_pe x0 hx) (pa_cons (pop_pe (m := m) x0 hy hline2 ha hle) pa_nil (by rfl)) rfl hline (by rfl)) (by rfl)) fun D' σ H q => t_apop (fun S us => evL_use_len) q
  · rename_i x p m' apos e es pos _ mu j is
    simp only [Bool.and_eq_true, decide_eq_true_eq] at h
    obtain ⟨⟨⟨⟨⟨rfl, hx⟩, hline⟩, ha⟩, hl1⟩, hm⟩ := h
    match is, es, ha, hl1 with
    | [i], [], ha, _ =>
      have ha' := ha
      simp only [allB, Bool.and_true] at ha'
      exact PS.weak (ps_expr (mu_pe1 x0 hx hm hline (pa_use hpe hst ha) (hst _ _ ha' [])) (by rfl)) fun D' σ H q => t_mut1 hm q rfl
    | [i], _ :: _, ha, _ => simp [allB] at ha
    | [], _, _, hl1 => simp at hl1
    | _ :: _ :: _, _, _, hl1 => simp at hl1
  · rename_i x p m' apos pos _ mu j
    simp only [Bool.and_eq_true, decide_eq_true_eq] at h
    obtain ⟨⟨⟨rfl, hx⟩, hline⟩, hm⟩ := h
    exact PS.weak (ps_expr (mu_pe0 x0 hx hm hline) (by rfl)) fun D' σ H q => t_mut0 hm q
  · rename_i e _ ie
    simp only [Bool.and_eq_true, Bool.not_eq_true'] at h
    exact s_exp (hpe _ _ h.1) (sw_no h.2 _ _ _)
  · exact s_ret (hpe _ _ h)
  · cases m with
    | zero => exact PS.stuck
    | succ m => exact s_retN fun S => rfl
  · simp only [Bool.and_eq_true] at h
    exact s_if (soundSE n m sc W X _ _ h.1.1 x0).2.1 (ih.b m _ _ h.1.2) (ih.b m _ _ h.2)
  · rename_i tg iter b _ is tu κ src ib
    simp only [Bool.and_eq_true] at h
    obtain ⟨⟨hi, ht⟩, hb⟩ := h
    obtain ⟨h1, h2⟩ := it_okG (F := fun i S => do let t ← ev G orc m S i; useT i t) (pp := fun _ => false) x0 hus hi ht
    exact PS.weak (ps_for po x0.calm h1 (pg_tg (N := N) (sc0 := sc) x0.calm (by rw [x0.hN]; exact x0.nd) x0.hN hloc ht) (ih.b m _ _ hb) h2) fun D' σ H q => t_for (fun p hp => by simp at hp; exact hp.2) q
  · cases h
theorem soundSS (x0 : XOk G D N k orc sc W X) (fn : ∀ x, X.fn x = true) (po : PassesOwn (model X.prog X.w) X.A X.env X.xe) : ∀ n, SS G D N k orc sc W X n
  | 0 => ⟨fun m st i h => (by cases h), fun m sts is h => (by cases h)⟩
  | n + 1 => ⟨fun m st i h => soundS x0 fn po (soundSS x0 fn po n) h, fun m sts is h => soundB (soundSS x0 fn po n) h⟩
end
end Dz
namespace Dz
open PySem PySem.Spec PyProof.Rows L2

/-! ### a text's defs -/
structure Ent where
  name : Str
  st : Stmt
  N : List Str
  ps : List Str
  fn : FnD
def okScope (N P : List Str) (sc : Scope) : Bool :=
  decide (sc.kind = .function) && !sc.isCoroutine && !sc.isGenerator && decide N.Nodup && decide (N.take P.length = P) &&
    P.all (fun x => decide (sc.names.lookup x = some .local) || decide (sc.names.lookup x = some .cell)) && sc.names.all fun y => decide (y.2 ≠ .free)
def Ent.ok (D : List Str) (e : Ent) : Bool :=
  okScope e.N e.ps (defScope e.st) && chkB D e.N 400 (defScope e.st) (defBody e.st) e.fn.body && decide (e.fn.np = e.ps.length) && decide (e.fn.nn = e.N.length)
def tblOf (es : List Ent) (f : Str) : Option FnD := (es.find? fun e => e.name == f).map (·.fn)

theorem okScope_iff {N P : List Str} {sc : Scope} (h : okScope N P sc = true) : FnScope N P sc := by
  simp only [okScope, Bool.and_eq_true, decide_eq_true_eq, Bool.not_eq_true', List.all_eq_true, Bool.or_eq_true] at h
  obtain ⟨⟨⟨⟨⟨⟨a, b⟩, c⟩, d⟩, e⟩, f⟩, g⟩ := h
  exact ⟨a, b, c, d, e, f, g⟩
section
variable {K : Frag} {M H : Hp}
theorem start_SR : ∀ {us : List T} {vs : List V} {as : List Addr}, RTs K M H us vs as → ∀ n : Nat, SR K M H (us.map some ++ List.replicate n none) (vs.map some ++ List.replicate n none) as
  | _, _, _, .nil, 0 => .nil
  | _, _, _, .nil, n + 1 => by
    simp only [List.map_nil, List.nil_append, List.replicate_succ]
    have := start_SR (.nil : RTs K M H [] [] []) n
    simp only [List.map_nil, List.nil_append] at this
    exact .no this
  | _, _, _, .cons h hs, n => .so h (start_SR hs n)
end
section
variable {P : Program} {w : World} {K : Frag} {mg : Str → Option Value} {base : Heap}
theorem spF_len {r : List T → Rs T} {n : Nat} (hr : ∀ us t, r us = .ok t → us.length = n) (hx : ∀ us c pl, r us = .ex c pl → us.length = n) (vs : List V) (H : Hp) (Q : VK) (E : XK) (h : spF K mg r vs H Q E) : vs.length = n := by
  obtain ⟨us, A, _, h1, h2⟩ := h
  rw [h1.length]
  rcases h2 with ⟨t, e, _⟩ | ⟨c, pl, e, _⟩
  · exact hr us t e
  · exact hx us c pl e
theorem runFn_len {G : Str → Option PyData} {orc : Str → List T → Rs T} {fd : FnD} {us : List T} (h : runFn G orc fd us ≠ .st) : us.length = fd.np := by
  unfold runFn at h
  split at h
  · assumption
  · exact absurd rfl h
theorem spF_st (vs : List V) (H : Hp) (Q : VK) (E : XK) (h : spF K mg (fun _ => Rs.st) vs H Q E) : False := by
  obtain ⟨us, A, _, h1, (⟨t, e, _⟩ | ⟨c, pl, e, _⟩)⟩ := h <;> cases e
/-- one def, by its check -/
theorem fn_one {G : Str → Option PyData} {D : List Str} {k : Nat} {orc : Str → List T → Rs T} {e : Ent} {f : Addr} {fd : FuncData} (ok : e.ok D = true) (F : Fun K e.name e.name e.st f fd)
    (gl : ∀ x d, G x = some d → ∃ u v, mg x = some u ∧ RelV v u ∧ (∀ M, Dp K M v d) ∧ okD d = true) (blt : ∀ x ∈ bltNames, mg x = none) (ho : OrcOk P w K mg base k D orc) : FnOk P w K mg base (L2.CX P w) (k + 1) f fd e.ps (spF K mg (runFn G orc e.fn)) := by
  simp only [Ent.ok, Bool.and_eq_true, decide_eq_true_eq] at ok
  obtain ⟨⟨⟨o1, o2⟩, o3⟩, o4⟩ := ok
  have S := okScope_iff o1
  refine F.okX S (spF_len (fun us t e => ?_) (fun us c pl e => ?_)) (fun cdv A outer s H vs Q E hr h => ?_)
  · rw [← o3]; exact runFn_len (by rw [e]; simp)
  · rw [← o3]; exact runFn_len (by rw [e]; simp)
  · obtain ⟨us, B, hB, h1, h2⟩ := h
    have x0 : XOk G D e.N k orc (defScope e.st) (fun cls d _ H => E cls d H) (cxOf (L2.CX P w) P w K mg base e.N e.name (defScope e.st) f cdv A outer s H E) :=
      ⟨rfl, rfl, S.kind, S.nd, rfl, hr, gl, blt, ho, takes_of rfl rfl rfl rfl⟩
    have SSx := soundSS x0 (fun _ => rfl) (passes_of rfl) 400
    refine ⟨_, SSx.b fuel _ _ o2, startS e.fn us, [], B, H, B, ⟨?_, List.nodup_nil, fun a ha => (by cases ha), hB⟩, ⟨Same.refl H, fun a ha => (by cases ha), fun _ z => z, fun _ z => .inl z⟩, ?_⟩
    · have := start_SR h1 (e.fn.nn - us.length)
      have hv := h1.length
      refine SR.mono (mask_mono (Same.refl H) fun b _ z => z.elim (fun q => by cases q) id) (fun _ _ => rfl) ?_
      unfold startS L2.start
      rw [hv, ← o4]
      exact this
    · unfold runFn at h2
      split at h2
      · cases eo : exB G orc fuel e.fn.body (startS e.fn us) with
        | st => rw [eo] at h2; rcases h2 with ⟨t, z, _⟩ | ⟨c, pl, z, _⟩ <;> cases z
        | bk S => rw [eo] at h2; rcases h2 with ⟨t, z, _⟩ | ⟨c, pl, z, _⟩ <;> cases z
        | ct S => rw [eo] at h2; rcases h2 with ⟨t, z, _⟩ | ⟨c, pl, z, _⟩ <;> cases z
        | nx S =>
          rw [eo] at h2
          rcases h2 with ⟨t, z, q⟩ | ⟨c, pl, z, _⟩
          · cases z
            exact fun σ L Y H' w n => q .non H' [] n.same List.nodup_nil (fun a ha => by cases ha) (.fz .non rfl)
          · cases z
        | rt t =>
          rw [eo] at h2
          rcases h2 with ⟨t', z, q⟩ | ⟨c, pl, z, _⟩
          · cases z
            exact fun v H' as s nd fr rt => q v H' as s nd fr rt
          · cases z
        | ex c p S =>
          rw [eo] at h2
          rcases h2 with ⟨t', z, q⟩ | ⟨c', pl, z, q⟩
          · cases z
          · cases z
            exact fun C σ L Y H' m w n => q C H' m n.same
      · rcases h2 with ⟨t, z, _⟩ | ⟨c, pl, z, _⟩ <;> cases z
theorem find_ent {e : Ent} : ∀ {es : List Ent}, (es.map (·.name)).Nodup → e ∈ es → es.find? (fun e' => e'.name == e.name) = some e
  | a :: as, nd, he => by
    simp only [List.map_cons, List.nodup_cons] at nd
    rcases List.mem_cons.mp he with rfl | hm
    · simp
    · have hne : (a.name == e.name) = false := by
        rw [beq_eq_false_iff_ne]
        intro z
        exact nd.1 (z ▸ List.mem_map_of_mem hm)
      rw [List.find?_cons, hne]
      exact find_ent nd.2 hm
/-- all defs of a table, k deep -/
theorem fns_ok {G : Str → Option PyData} {es : List Ent} (ok : ∀ e ∈ es, e.ok (es.map (·.name)) = true) (hF : ∀ e ∈ es, ∃ f fd, mg e.name = some (.ref f) ∧ Fun K e.name e.name e.st f fd ∧ Binds K fd e.ps [])
    (gl : ∀ x d, G x = some d → ∃ u v, mg x = some u ∧ RelV v u ∧ (∀ M, Dp K M v d) ∧ okD d = true) (blt : ∀ x ∈ bltNames, mg x = none) (nd : (es.map (·.name)).Nodup) : ∀ k, OrcOk P w K mg base k (es.map (·.name)) (callF G (tblOf es) k)
  | 0 => fun g hg => by
    obtain ⟨e, he, rfl⟩ := List.mem_map.mp hg
    obtain ⟨f, fd, h1, F, b⟩ := hF e he
    exact ⟨f, fd, e.ps, h1, F.kp, b, ⟨fun vs H Q E h => (spF_st vs H Q E h).elim, fun A outer s H args us vs Q E _ _ _ _ h => (spF_st vs H Q E h).elim⟩⟩
  | k + 1 => fun g hg => by
    obtain ⟨e, he, rfl⟩ := List.mem_map.mp hg
    obtain ⟨f, fd, h1, F, b⟩ := hF e he
    refine ⟨f, fd, e.ps, h1, F.kp, b, ?_⟩
    have hfind := find_ent nd he
    have : callF G (tblOf es) (k + 1) e.name = runFn G (callF G (tblOf es) k) e.fn := by
      funext us
      simp only [callF, tblOf, hfind, Option.map_some]
    rw [this]
    exact fn_one (ok e he) F gl blt (fns_ok ok hF gl blt nd k)
end
end Dz
namespace Dz
open PySem PySem.Spec PyProof.Rows L2

theorem noCX {P : Program} {w : World} {H : Hp} {s : Shared} {e : Value} {s' : Shared} (x : L2.CX P w [] H s (fun _ _ _ => False) e s') : False := by
  obtain ⟨_, _, _, _, _, _, _, _, _, _, _, _, z⟩ := x
  exact z.elim
/-- the def e stands in the module as its text says -/
def HasFn (K : Frag) (e : Ent) : Prop := ∃ (f : Addr) (oc : Value) (od an : Option Addr) (osl : Array (Option Value)) (kV doc pm cdv ct : Value),
  PySem.W.nsIn K mainGlobals e.name = some (some (.ref f)) ∧ K.lookup f = some ⟨oc, od, .func (PySem.W.fnOf e.name e.name (defArgs e.st) (defBody e.st) (defScope e.st) .none kV doc pm an cdv ct), osl⟩ ∧
  PySem.W.codeIn K cdv e.name = true ∧ PySem.W.keepIn K (.ref f) = true
theorem HasFn.mk {K : Frag} {e : Ent} {f : Addr} {oc : Value} {od an : Option Addr} {osl : Array (Option Value)} {kV doc pm cdv ct : Value} (a : PySem.W.nsIn K mainGlobals e.name = some (some (.ref f))) (l : K.lookup f = some ⟨oc, od, .func (PySem.W.fnOf e.name e.name (defArgs e.st) (defBody e.st) (defScope e.st) .none kV doc pm an cdv ct), osl⟩)
    (c : PySem.W.codeIn K cdv e.name = true) (k : PySem.W.keepIn K (.ref f) = true) : HasFn K e := ⟨f, oc, od, an, osl, kV, doc, pm, cdv, ct, a, l, c, k⟩
/-- its arguments bind -/
def BindsE (e : Ent) : Prop := ∀ (kV doc pm : Value) (an : Option Addr) (cdv ct : Value) (us : List Value), us.length = e.ps.length → bindArgs (PySem.W.fnOf e.name e.name (defArgs e.st) (defBody e.st) (defScope e.st) .none kV doc pm an cdv ct) ⟨us, []⟩ = pure (e.ps.zip us)
section
variable {K : Frag} {mg : Str → Option Value} {h : Heap}
theorem HasFn.get {e : Ent} (X : K.In h) (N : h.Ns mainGlobals mg) (H : HasFn K e) (b : BindsE e) : ∃ f fd, mg e.name = some (.ref f) ∧ Fun K e.name e.name e.st f fd ∧ Binds K fd e.ps [] := by
  obtain ⟨f, oc, od, an, osl, kV, doc, pm, cdv, ct, h1, h2, h3, h4⟩ := H
  have F := fun_mk (st := e.st) h2 h3 h4
  exact ⟨f, _, PySem.W.mg_of X N h1, F, F.binds b⟩
theorem glob_str {x : Str} {z : Str} {t : Tok} (X : K.In h) (N : h.Ns mainGlobals mg) (o : okS z = true) (H : PySem.W.nsIn K mainGlobals x = some (some (.str z t))) : ∃ u v, mg x = some u ∧ RelV v u ∧ (∀ M, Dp K M v (.str z)) ∧ okD (.str z) = true :=
  ⟨_, .str z, PySem.W.mg_of X N H, ⟨t, rfl⟩, fun M => .str z, o⟩
theorem glob_int {x : Str} {z : Int} {t : Tok} (X : K.In h) (N : h.Ns mainGlobals mg) (H : PySem.W.nsIn K mainGlobals x = some (some (.int z t))) : ∃ u v, mg x = some u ∧ RelV v u ∧ (∀ M, Dp K M v (.int z)) ∧ okD (.int z) = true :=
  ⟨_, .int z, PySem.W.mg_of X N H, ⟨t, rfl⟩, fun M => .int z, rfl⟩
/-- a law's promise -/
def spLaw (n : Nat) (K : Frag) : Sp := fun vs H Q _ => ∃ (a : Addr) (ns : List Int), vs = [.ref a] ∧ SqL K H a (ns.map V.int) ∧ ns.length ≤ n ∧ ∀ H', Q (.bl true) H'
theorem ints_dp {M : Hp} : ∀ ns : List Int, DpAll K M (ns.map V.int) (ns.map PyData.int)
  | [] => .nil
  | n :: ns => .cons (.int n) (ints_dp ns)
theorem ints_ok : ∀ ns : List Int, okDL (ns.map PyData.int) = true
  | [] => rfl
  | n :: ns => by simp [okDL, okD, ints_ok ns]
theorem spLaw_F {n : Nat} {r : List T → Rs T} (hn : n ≤ 16777216) (goal : ∀ ns : List Int, ns.length ≤ n → r [.fz (.list (ns.map .int))] = .ok (.fz (.bool true))) (vs : List V) (H : Hp) (Q : VK) (E : XK) (z : spLaw n K vs H Q E) : spF K mg r vs H Q E := by
  obtain ⟨a, ns, rfl, hS, hl, q⟩ := z
  refine ⟨[.fz (.list (ns.map .int))], fun _ => False, fun _ z => z.elim, ?_, .inl ⟨_, goal ns hl, fun v H' as s nd fr rt => ?_⟩⟩
  · have sm : Same H (mask H fun _ => False) := fun b o e => mask_of e id
    refine RTs.cons (as := []) (bs := []) (.fz (.lst (sm.seq hS) (ints_dp ns)) ?_) .nil
    exact okD_list.mpr ⟨by rw [List.length_map]; omega, ints_ok ns⟩
  · rw [rt.blV]; exact q H'
theorem law_at {P : Program} {w : World} {G : Str → Option PyData} {es : List Ent} {base : Heap} {k n : Nat} {el : Ent} (X : K.In h) (N : h.Ns mainGlobals mg) (hl : el ∈ es) (hn : el.name = "law") (nn : n ≤ 16777216)
    (ok : ∀ e ∈ es, e.ok (es.map (·.name)) = true) (nd : (es.map (·.name)).Nodup) (has : ∀ e ∈ es, HasFn K e) (bs : ∀ e ∈ es, BindsE e)
    (gl : ∀ x d, G x = some d → ∃ u v, mg x = some u ∧ RelV v u ∧ (∀ M, Dp K M v d) ∧ okD d = true) (blt : ∀ x ∈ bltNames, PySem.W.nsIn K mainGlobals x = some none)
    (goal : ∀ ns : List Int, ns.length ≤ n → callF G (tblOf es) (k + 1) "law" [.fz (.list (ns.map .int))] = .ok (.fz (.bool true))) {f : Addr} {fd : FuncData} (hf : mg "law" = some (.ref f)) (F : Fun K el.name el.name el.st f fd) :
    FnOk P w K mg base (L2.CX P w) (k + 1) f fd el.ps (spLaw n K) := by
  have hF : ∀ e ∈ es, ∃ f fd, mg e.name = some (.ref f) ∧ Fun K e.name e.name e.st f fd ∧ Binds K fd e.ps [] := fun e he => (has e he).get X N (bs e he)
  have bl : ∀ x ∈ bltNames, mg x = none := fun x hx => PySem.W.mg_none_of X N (blt x hx)
  have O := fns_ok (P := P) (w := w) (base := base) ok hF gl bl nd k
  have hfind : es.find? (fun e' => e'.name == el.name) = some el := find_ent nd hl
  have e1 : callF G (tblOf es) (k + 1) "law" = runFn G (callF G (tblOf es) k) el.fn := by
    funext us
    rw [← hn]
    simp only [callF, tblOf, hfind, Option.map_some]
  have := fn_one (P := P) (w := w) (base := base) (f := f) (fd := fd) (ok el hl) F gl bl O
  rw [← e1] at this
  exact this.imp fun vs H Q E z => spLaw_F nn goal vs H Q E z
def HasAll (K : Frag) : List Ent → Prop
  | [] => True
  | e :: r => HasFn K e ∧ HasAll K r
theorem HasAll.mem : ∀ {es : List Ent}, HasAll K es → ∀ e ∈ es, HasFn K e
  | a :: r, h, e, he => by
    rcases List.mem_cons.mp he with rfl | hm
    · exact h.1
    · exact HasAll.mem h.2 e hm
def NoneAll (K : Frag) : List Str → Prop
  | [] => True
  | x :: r => PySem.W.nsIn K mainGlobals x = some none ∧ NoneAll K r
theorem NoneAll.mem : ∀ {xs : List Str}, NoneAll K xs → ∀ x ∈ xs, PySem.W.nsIn K mainGlobals x = some none
  | a :: r, h, e, he => by
    rcases List.mem_cons.mp he with rfl | hm
    · exact h.1
    · exact NoneAll.mem h.2 e hm
def BindAll : List Ent → Prop
  | [] => True
  | e :: r => BindsE e ∧ BindAll r
theorem BindAll.mem : ∀ {es : List Ent}, BindAll es → ∀ e ∈ es, BindsE e
  | a :: r, h, e, he => by
    rcases List.mem_cons.mp he with rfl | hm
    · exact h.1
    · exact BindAll.mem h.2 e hm
def OkAll (D : List Str) : List Ent → Prop
  | [] => True
  | e :: r => e.ok D = true ∧ OkAll D r
theorem OkAll.mem {D : List Str} : ∀ {es : List Ent}, OkAll D es → ∀ e ∈ es, e.ok D = true
  | a :: r, h, e, he => by
    rcases List.mem_cons.mp he with rfl | hm
    · exact h.1
    · exact OkAll.mem h.2 e hm
theorem law_head {P : Program} {w : World} {G : Str → Option PyData} {es : List Ent} {k n : Nat} {el : Ent} {x : Str} {fa : Addr} (X : K.In h) (N : h.Ns mainGlobals mg) (hfa : mg "law" = some (.ref fa)) (hl : el ∈ es) (hn : el.name = "law") (hp : el.ps = [x]) (nn : n ≤ 16777216)
    (ok : OkAll (es.map (·.name)) es) (nd : (es.map (·.name)).Nodup) (bs : BindAll es)
    (goal : ∀ ns : List Int, ns.length ≤ n → callF G (tblOf es) (k + 1) "law" [.fz (.list (ns.map .int))] = .ok (.fz (.bool true)))
    (has : HasAll K es) (blt : NoneAll K bltNames) (gl : ∀ x d, G x = some d → ∃ u v, mg x = some u ∧ RelV v u ∧ (∀ M, Dp K M v d) ∧ okD d = true) :
    ∃ fd : FuncData, (∀ (s : Shared) (v : Value), BindsTo s fd ⟨[v], []⟩ [(x, v)]) ∧ ∀ base : Heap, K.In base → base.Ns mainGlobals mg → FnOk P w K mg base (L2.CX P w) (k + 1) fa fd [x] (spLaw n K) := by
  obtain ⟨f, oc, od, an, osl, kV, doc, pm, cdv, ct, h1, h2, h3, h4⟩ := has.mem el hl
  have e := hfa.symm.trans ((congrArg mg hn.symm).trans (PySem.W.mg_of X N h1))
  cases e
  have F := fun_mk (st := el.st) h2 h3 h4
  refine ⟨PySem.W.fnOf el.name el.name (defArgs el.st) (defBody el.st) (defScope el.st) .none kV doc pm an cdv ct, fun s v => .of_eq ?_, fun base X2 N2 => ?_⟩
  · have := bs.mem el hl kV doc pm an cdv ct [v] (by rw [hp]; rfl)
    rw [hp] at this
    exact this
  · have := law_at (P := P) (w := w) (base := base) X N hl hn nn ok.mem nd has.mem bs.mem gl blt.mem goal hfa F
    rw [hp] at this
    exact this
end
end Dz
namespace Dz
open PySem
/-! ### one step each, for simp -/
def brO (k : Bool) (f g : Sto → Out) (S : Sto) : Out := match k with
  | true => f S
  | false => g S
@[simp] theorem brO_t (f g : Sto → Out) (S : Sto) : brO true f g S = f S := (rfl)
@[simp] theorem brO_f (f g : Sto → Out) (S : Sto) : brO false f g S = g S := (rfl)
@[simp] theorem ifR_or (p : Prop) [Decidable p] (b : Bool) : (if p then Rs.ok true else Rs.ok b) = Rs.ok (decide p || b) := by by_cases h : p <;> simp [h]
@[simp] theorem ifR_and (p : Prop) [Decidable p] (b : Bool) : (if p then Rs.ok b else Rs.ok false) = Rs.ok (decide p && b) := by by_cases h : p <;> simp [h]
section
variable {G : Str → Option PyData} {orc : Str → List T → Rs T} {n : Nat} {S : Sto}
@[simp] theorem ev_dat (d : PyData) : ev G orc (n + 1) S (.dat d) = .ok (.fz d) := by simp only [ev]
@[simp] theorem ev_var (i : Nat) : ev G orc (n + 1) S (.var i) = getS S i := by simp only [ev]
theorem ev_glb (x : Str) : ev G orc (n + 1) S (.glb x) = match G x with
      | some d => .ok (.fz d)
      | none => .st := by simp only [ev] <;> rfl
theorem ev_glbS {x : Str} {d : PyData} (h : G x = some d) : ev G orc (n + 1) S (.glb x) = .ok (.fz d) := by simp only [ev, h]
def evU (G : Str → Option PyData) (orc : Str → List T → Rs T) (n : Nat) (S : Sto) (e : IE) : Rs T := do let t ← ev G orc n S e; useT e t
@[simp] theorem ev_tup (es : List IE) : ev G orc (n + 1) S (.tup es) = (do let ts ← evL (evU G orc n S) es; return mkTup ts) := by simp only [ev] <;> rfl
@[simp] theorem ev_lst (es : List IE) : ev G orc (n + 1) S (.lst es) = (do let ts ← evL (evU G orc n S) es; return .ow ts) := by simp only [ev] <;> rfl
@[simp] theorem ev_bin (op : Operator) (a b : IE) : ev G orc (n + 1) S (.bin op a b) = (do let x ← ev G orc n S a; let y ← ev G orc n S b; binT op a.isPath b.isPath x y) := by simp only [ev]
def negT (t : T) : Rs T := match t with
  | .fz (.int i) => .ok (.fz (.int (-i)))
  | _ => .st
@[simp] theorem negT_int (i : Int) : negT (.fz (.int i)) = .ok (.fz (.int (-i))) := (rfl)
@[simp] theorem ev_neg (a : IE) : ev G orc (n + 1) S (.neg a) = (do let x ← ev G orc n S a; negT x) := by simp only [ev] <;> rfl
@[simp] theorem ev_cmp (op : CmpOp) (a b : IE) : ev G orc (n + 1) S (.cmp op a b) = (do let x ← ev G orc n S a; let y ← ev G orc n S b; let c ← cmpT op x y; return .fz (.bool c)) := by simp only [ev]
@[simp] theorem ev_ix (a b : IE) : ev G orc (n + 1) S (.ix a b) = (do let x ← ev G orc n S a; let i ← ev G orc n S b; ixT x i) := by simp only [ev]
@[simp] theorem ev_sl (a lo hi : IE) : ev G orc (n + 1) S (.sl a lo hi) = (do
      let x ← ev G orc n S a
      let l ← (do let l ← ev G orc n S lo; strict lo.isNon l)
      let h ← (do let h ← ev G orc n S hi; strict hi.isNon h)
      let l' ← partD lo.isNon l
      let h' ← partD hi.isNon h
      slT a.isPath x l' h') := by simp only [ev]
def andV (b : IE) (x : T) (y : Unit → Rs T) : Rs T := match x with
  | .fz (.bool k) => if k then (do let y ← y (); useT b y) else .ok (.fz (.bool false))
  | _ => .st
@[simp] theorem andV_t (b : IE) (y : Unit → Rs T) : andV b (.fz (.bool true)) y = (do let y ← y (); useT b y) := (rfl)
@[simp] theorem andV_f (b : IE) (y : Unit → Rs T) : andV b (.fz (.bool false)) y = .ok (.fz (.bool false)) := (rfl)
@[simp] theorem ev_and (a b : IE) : ev G orc (n + 1) S (.bo .And a b) = (do let x ← ev G orc n S a; andV b x fun _ => ev G orc n S b) := by simp only [ev] <;> rfl
def orV (b : IE) (x : T) (y : Unit → Rs T) : Rs T := match x with
  | .fz (.bool k) => if k then .ok (.fz (.bool true)) else (do let y ← y (); useT b y)
  | _ => .st
@[simp] theorem orV_t (b : IE) (y : Unit → Rs T) : orV b (.fz (.bool true)) y = .ok (.fz (.bool true)) := (rfl)
@[simp] theorem orV_f (b : IE) (y : Unit → Rs T) : orV b (.fz (.bool false)) y = (do let y ← y (); useT b y) := (rfl)
@[simp] theorem ev_or (a b : IE) : ev G orc (n + 1) S (.bo .Or a b) = (do let x ← ev G orc n S a; orV b x fun _ => ev G orc n S b) := by simp only [ev] <;> rfl
def notV (x : T) : Rs T := match x with
      | .fz (.bool k) => return .fz (.bool (!k))
      | _ => .st
@[simp] theorem notV_b (k : Bool) : notV (.fz (.bool k)) = .ok (.fz (.bool (!k))) := (rfl)
@[simp] theorem ev_no (a : IE) : ev G orc (n + 1) S (.no a) = (do let x ← ev G orc n S a; notV x) := by simp only [ev] <;> rfl
def calV (orc : Str → List T → Rs T) (f : Str) (es : List IE) (ts : List T) : Rs T := match T.frzL ts with
      | some us => callT (orc f us) ((es.zip ts).any fun p => isBor p.1 p.2)
      | none => .st
@[simp] theorem ev_call (f : Str) (es : List IE) : ev G orc (n + 1) S (.call f es) = (do
      let ts ← evL (ev G orc n S) es
      calV orc f es ts) := by simp only [ev] <;> rfl
@[simp] theorem ev_blt (b : Bn) (es : List IE) : ev G orc (n + 1) S (.blt b es) = (do let ts ← evL (ev G orc n S) es; bltT b (es.map (·.isPath)) ts) := by simp only [ev]
@[simp] theorem ev_mth (m : Mn) (o : IE) (es : List IE) : ev G orc (n + 1) S (.mth m o es) = (do
      let x ← (do let x ← ev G orc n S o; strS x)
      let ts ← evL (ev G orc n S) es
      mthT m x ts) := by simp only [ev]
@[simp] theorem ev_isi (a : IE) (b : Bool) (cs : List Cl) : ev G orc (n + 1) S (.isi a b cs) = (do let x ← ev G orc n S a; let k ← isiT x cs; return .fz (.bool k)) := by simp only [ev]
@[simp] theorem ev_ite (c a b : IE) : ev G orc (n + 1) S (.ite c a b) = (do
      let k ← evT G orc n S c
      if k then evU G orc n S a else evU G orc n S b) := by simp only [ev] <;> rfl
@[simp] theorem ev_lc (tg : List Nat) (tu : Bool) (elt : IE) (k : ItK) (src cond : List IE) : ev G orc (n + 1) S (.lc tg tu elt k src cond) = (do
      let ts ← evL (ev G orc n S) src
      let ds ← iterT k (src.map (·.isPath)) ts
      let _ ← chk (k != .range || decide (ds.length ≤ 16777216))
      let r ← lcLoop (bindTg (killS S tg) tg tu) (condF (evT G orc n) cond) (fun S1 => (evU G orc n S1 elt).ne) ds
      return .ow r) := by simp only [ev] <;> rfl
def chnV (o1 o2 : CmpOp) (x : T) (y z : Unit → Rs T) : Rs T := match x with
      | .fz (.int i) => do
        let y ← y ()
        match y with
        | .fz (.int j) => do
          let k ← ordD o1 (.int i) (.int j)
          if k then do
            let z ← z ()
            match z with
            | .fz (.int l) => do let k2 ← ordD o2 (.int j) (.int l); return .fz (.bool k2)
            | _ => .st
          else return .fz (.bool false)
        | _ => .st
      | _ => .st
@[simp] theorem ev_chn (o1 o2 : CmpOp) (a b c : IE) : ev G orc (n + 1) S (.chn o1 o2 a b c) = (do let x ← ev G orc n S a; chnV o1 o2 x (fun _ => ev G orc n S b) (fun _ => ev G orc n S c)) := by simp only [ev] <;> rfl
@[simp] theorem chnV_lt (i j l : Int) : chnV .Lt .Lt (.fz (.int i)) (fun _ => .ok (.fz (.int j))) (fun _ => .ok (.fz (.int l))) = .ok (.fz (.bool (decide (i < j) && decide (j < l)))) := by
  simp only [chnV, Rs.bind_ok, ordD]
  by_cases h : i < j <;> simp [h]
@[simp] theorem evU_eq (e : IE) : evU G orc n S e = (do let t ← ev G orc n S e; useT e t) := (rfl)
@[simp] theorem evT_no (a : IE) : evT G orc (n + 1) S (.no a) = (do let k ← evT G orc n S a; return !k) := by simp only [evT]
@[simp] theorem evT_and (a b : IE) : evT G orc (n + 1) S (.bo .And a b) = (do let k ← evT G orc n S a; if k then evT G orc n S b else return false) := by simp only [evT]
@[simp] theorem evT_or (a b : IE) : evT G orc (n + 1) S (.bo .Or a b) = (do let k ← evT G orc n S a; if k then return true else evT G orc n S b) := by simp only [evT]
@[simp] theorem evT_var (i : Nat) : evT G orc (n + 1) S (.var i) = (do let t ← ev G orc n S (.var i); truT t) := by simp only [evT]
@[simp] theorem evT_cmp (op : CmpOp) (a b : IE) : evT G orc (n + 1) S (.cmp op a b) = (do let t ← ev G orc n S (.cmp op a b); truT t) := by simp only [evT]
@[simp] theorem evT_chn (o1 o2 : CmpOp) (a b c : IE) : evT G orc (n + 1) S (.chn o1 o2 a b c) = (do let t ← ev G orc n S (.chn o1 o2 a b c); truT t) := by simp only [evT]
@[simp] theorem evT_isi (a : IE) (b : Bool) (cs : List Cl) : evT G orc (n + 1) S (.isi a b cs) = (do let t ← ev G orc n S (.isi a b cs); truT t) := by simp only [evT]
@[simp] theorem evT_call (f : Str) (es : List IE) : evT G orc (n + 1) S (.call f es) = (do let t ← ev G orc n S (.call f es); truT t) := by simp only [evT]
@[simp] theorem evT_ix (a b : IE) : evT G orc (n + 1) S (.ix a b) = (do let t ← ev G orc n S (.ix a b); truT t) := by simp only [evT]
@[simp] theorem evT_bin (op : Operator) (a b : IE) : evT G orc (n + 1) S (.bin op a b) = (do let t ← ev G orc n S (.bin op a b); truT t) := by simp only [evT]
@[simp] theorem exB_nil : exB G orc (n + 1) [] S = .nx S := by simp only [exB]
@[simp] theorem exB_cons (s : IS) (r : List IS) : exB G orc (n + 1) (s :: r) S = (exS G orc n s S).seq (exB G orc n r) := by simp only [exB]
@[simp] theorem exS_frz (is : List Nat) : exS G orc (n + 1) (.frz is) S = match frzS S is with
      | some S' => .nx S'
      | none => .st := by simp only [exS] <;> rfl
@[simp] theorem exS_kil (is : List Nat) : exS G orc (n + 1) (.kil is) S = .nx (killS S is) := by simp only [exS]
@[simp] theorem exS_asg (i : Nat) (e : IE) : exS G orc (n + 1) (.asg i e) S = (evU G orc n S e).out S fun t => if i < S.length then .nx (S.set i (some t)) else .st := by simp only [exS] <;> rfl
@[simp] theorem exS_unp (is : List Nat) (e : IE) : exS G orc (n + 1) (.unp is e) S = (evU G orc n S e).out S fun t => match sqT t with
        | some ts => (match setAll S is ts with
          | some S' => .nx S'
          | none => .st)
        | none => .st := by simp only [exS] <;> rfl
@[simp] theorem exS_sub (j : Nat) (b e : IE) : exS G orc (n + 1) (.sub (.var j) b e) S = ((do
        let ts ← owS S j
        let t ← evU G orc n S e
        let i ← ev G orc n S b
        match i with
        | .fz (.int k) => match L2.ixN ts.length k with
          | some m => .ok (S.set j (some (.ow (ts.set m t))))
          | none => .st
        | _ => .st) : Rs Sto).out S .nx := by simp only [exS] <;> rfl
@[simp] theorem exS_aug (i : Nat) (op : Operator) (e : IE) : exS G orc (n + 1) (.aug i op e) S = ((do
        let x ← getS S i
        let t ← ev G orc n S e
        match x, t with
        | .fz (.int a), .fz (.int b) => do let k ← intOp op a b; return S.set i (some (.fz (.int k)))
        | _, _ => .st) : Rs Sto).out S .nx := by simp only [exS] <;> rfl
@[simp] theorem exS_mut (m : Mu) (j : Nat) (es : List IE) : exS G orc (n + 1) (.mut m (.var j) es) S = ((do
        let ts ← owS S j
        let us ← evL (evU G orc n S) es
        let r ← mutL m ts us
        return S.set j (some (.ow r))) : Rs Sto).out S .nx := by simp only [exS] <;> rfl
@[simp] theorem exS_pop (i j : Nat) (es : List IE) : exS G orc (n + 1) (.pop i (.var j) es) S = if i = j then .st else ((do
        let ts ← owS S j
        let us ← evL (evU G orc n S) es
        let r ← popL ts us
        return (S.set j (some (.ow r.2))).set i (some r.1)) : Rs Sto).out S .nx := by simp only [exS] <;> rfl
@[simp] theorem exS_apop (i j : Nat) (es : List IE) : exS G orc (n + 1) (.apop (.var i) (.var j) es) S = if i = j then .st else ((do
        let ls ← owS S i
        let ts ← owS S j
        let us ← evL (evU G orc n S) es
        let r ← popL ts us
        let l ← mutL .append ls [r.1]
        return (S.set j (some (.ow r.2))).set i (some (.ow l))) : Rs Sto).out S .nx := by simp only [exS] <;> rfl
@[simp] theorem exS_ret (e : IE) : exS G orc (n + 1) (.ret e) S = (ev G orc n S e).out S .rt := by simp only [exS]
@[simp] theorem exS_ifs (c : IE) (a b : List IS) : exS G orc (n + 1) (.ifs c a b) S = (evT G orc n S c).out S fun k => brO k (exB G orc n a) (exB G orc n b) S := by
  simp only [exS]
  cases evT G orc n S c with
  | ok k => cases k <;> rfl
  | st => rfl
  | ex _ _ => rfl
theorem exS_whl (c : IE) (b : List IS) : exS G orc (n + 1) (.whl c b) S = whLoop (fun S => evT G orc n S c) (exB G orc n b) wlim S := by simp only [exS]
@[simp] theorem exS_fr (tg : List Nat) (tu : Bool) (k : ItK) (src : List IE) (b : List IS) : exS G orc (n + 1) (.fr tg tu k src b) S = ((do
        let ts ← evL (evU G orc n S) src
        iterT k (src.map fun _ => false) ts) : Rs (List PyData)).out S fun ds => forLoop (fun S d => bindTg S tg tu d) (exB G orc n b) ds S := by simp only [exS] <;> rfl
@[simp] theorem exS_brk : exS G orc (n + 1) .brk S = .bk S := by simp only [exS]
@[simp] theorem exS_cnt : exS G orc (n + 1) .cnt S = .ct S := by simp only [exS]
@[simp] theorem exS_pas : exS G orc (n + 1) .pas S = .nx S := by simp only [exS]
end
@[simp] theorem evL_nil {α β : Type} (f : α → Rs β) : evL f [] = .ok [] := (rfl)
@[simp] theorem evL_cons {α β : Type} (f : α → Rs β) (a : α) (l : List α) : evL f (a :: l) = (do let t ← f a; let ts ← evL f l; return t :: ts) := (rfl)
@[simp] theorem useT_dat (e : IE) (d : PyData) : useT e (.fz d) = .ok (.fz d) := by simp [useT, T.isFz]
@[simp] theorem truT_bool (b : Bool) : truT (.fz (.bool b)) = .ok b := (rfl)
@[simp] theorem bltT_lenS (ps : List Bool) (x : Str) : bltT .len ps [.fz (.str x)] = .ok (.fz (.int x.length)) := (rfl)
@[simp] theorem intOp_add (i j : Int) : intOp .Add i j = .ok (i + j) := (rfl)
@[simp] theorem intOp_sub (i j : Int) : intOp .Sub i j = .ok (i - j) := (rfl)
@[simp] theorem binT_int (op : Operator) (a b : Bool) (i j : Int) : binT op a b (.fz (.int i)) (.fz (.int j)) = (do let k ← intOp op i j; return .fz (.int k)) := (rfl)
@[simp] theorem cmpT_lt (a b : PyData) : cmpT .Lt (.fz a) (.fz b) = ordD .Lt a b := (rfl)
@[simp] theorem cmpT_le (a b : PyData) : cmpT .LtE (.fz a) (.fz b) = ordD .LtE a b := (rfl)
@[simp] theorem cmpT_gt (a b : PyData) : cmpT .Gt (.fz a) (.fz b) = ordD .Gt a b := (rfl)
@[simp] theorem cmpT_ge (a b : PyData) : cmpT .GtE (.fz a) (.fz b) = ordD .GtE a b := (rfl)
@[simp] theorem cmpT_eq (a b : T) : cmpT .Eq a b = eqT a b := (rfl)
@[simp] theorem cmpT_ne (a b : T) : cmpT .NotEq a b = (do let b ← eqT a b; return !b) := (rfl)
@[simp] theorem cmpT_in (a b : T) : cmpT .In a b = inT a b := (rfl)
@[simp] theorem cmpT_nin (a b : T) : cmpT .NotIn a b = (do let b ← inT a b; return !b) := (rfl)
@[simp] theorem ordD_lt (i j : Int) : ordD .Lt (.int i) (.int j) = .ok (decide (i < j)) := (rfl)
@[simp] theorem ordD_gt (i j : Int) : ordD .Gt (.int i) (.int j) = .ok (decide (j < i)) := (rfl)
@[simp] theorem ordD_le (i j : Int) : ordD .LtE (.int i) (.int j) = .ok (decide (i ≤ j)) := (rfl)
@[simp] theorem ordD_ge (i j : Int) : ordD .GtE (.int i) (.int j) = .ok (decide (j ≤ i)) := (rfl)
@[simp] theorem ordD_lts (a b : Str) : ordD .Lt (.str a) (.str b) = .ok (decide (a.cps.toList < b.cps.toList)) := (rfl)
@[simp] theorem ordD_gts (a b : Str) : ordD .Gt (.str a) (.str b) = .ok (decide (b.cps.toList < a.cps.toList)) := (rfl)
@[simp] theorem eqT_int (i j : Int) : eqT (.fz (.int i)) (.fz (.int j)) = .ok (decide (i = j)) := by
  simp [eqT, T.dat, PyData.depth, PyData.eqv]
  rfl
@[simp] theorem eqT_str (i j : Str) : eqT (.fz (.str i)) (.fz (.str j)) = .ok (decide (i = j)) := by
  simp [eqT, T.dat, PyData.depth, PyData.eqv]
  rfl
@[simp] theorem eqT_bool (i j : Bool) : eqT (.fz (.bool i)) (.fz (.bool j)) = .ok (decide (i = j)) := by
  simp [eqT, T.dat, PyData.depth, PyData.eqv]
  cases i <;> cases j <;> rfl
@[simp] theorem iterT_str (ps : List Bool) (x : Str) : iterT .seq ps [.fz (.str x)] = .ok (x.cps.toList.map fun c => .str ⟨#[c]⟩) := (rfl)
@[simp] theorem iterT_list (ps : List Bool) (ds : List PyData) : iterT .seq ps [.fz (.list ds)] = .ok ds := (rfl)
@[simp] theorem iterT_tuple (ps : List Bool) (ds : List PyData) : iterT .seq ps [.fz (.tuple ds)] = .ok ds := (rfl)
theorem iterT_range1 (ps : List Bool) (j : Int) (h : -(2 ^ 62) ≤ j ∧ j < 2 ^ 62) : iterT .range ps [.fz (.int j)] = .ok ((List.range j.toNat).map fun (i : Nat) => .int (0 + (i : Int))) := by simp only [iterT, if_pos h]
theorem inT_sign (c : Nat) (x : Str) : inT (.fz (.str ⟨#[c]⟩)) (.fz (.str x)) = .ok (decide (c ∈ x.cps.toList)) := rfl
@[simp] theorem killS_cons (S : Sto) (i : Nat) (is : List Nat) : killS S (i :: is) = (killS S is).set i none := (rfl)
@[simp] theorem killS_nil (S : Sto) : killS S [] = S := (rfl)
theorem bindTg_one (S : Sto) (i : Nat) (d : PyData) : bindTg S [i] false d = some (S.set i (some (.fz d))) := rfl
@[simp] theorem isiT_bool (b : Bool) (cs : List Cl) : isiT (.fz (.bool b)) cs = .ok (cs.any (clIs .bool)) := (rfl)
@[simp] theorem isiT_int (b : Int) (cs : List Cl) : isiT (.fz (.int b)) cs = .ok (cs.any (clIs .int)) := (rfl)
@[simp] theorem isiT_str (b : Str) (cs : List Cl) : isiT (.fz (.str b)) cs = .ok (cs.any (clIs .str)) := (rfl)
@[simp] theorem calV_ok (orc : Str → List T → Rs T) (f : Str) (es : List IE) (ts : List T) (us : List T) (d : PyData) (h : T.frzL ts = some us) (ho : orc f us = .ok (.fz d)) (hn : ((es.zip ts).any fun p => isBor p.1 p.2) = false ∨ noLst d = true) : calV orc f es ts = .ok (.fz d) := by
  unfold calV
  rw [h]
  simp only [ho, callT]
  rcases hn with h | h
  · simp [h]
  · simp [T.indep, h]
theorem lt_one (c d : Nat) : ([c] < [d]) ↔ c < d := by simp [List.cons_lt_cons_iff]
@[simp] theorem intOp_mod (i j : Int) (h : j ≠ 0) : intOp .Mod i j = .ok (i.fmod j) := by simp [intOp, h]
@[simp] theorem intOp_div (i j : Int) (h : j ≠ 0) (h2 : j.natAbs < 1073741824) : intOp .FloorDiv i j = .ok (i.fdiv j) := by simp only [intOp]; rw [if_pos ⟨h, h2⟩]
theorem ixT_str {z : Str} {k : Int} (h0 : 0 ≤ k) (h1 : k < z.length) : ∃ c, z.cps.toList[k.toNat]? = some c ∧ ixT (.fz (.str z)) (.fz (.int k)) = .ok (.fz (.str ⟨#[c]⟩)) := by
  have hl : k.toNat < z.cps.toList.length := by have : z.cps.toList.length = z.length := by simp [Str.length]
                                                omega
  refine ⟨z.cps.toList[k.toNat], List.getElem?_eq_getElem hl, ?_⟩
  have e : L2.atI z.cps.toList k = some z.cps.toList[k.toNat] := by
    have := L2.atI_nat (List.getElem?_eq_getElem hl)
    rwa [Int.toNat_of_nonneg h0] at this
  simp only [ixT, e]
@[simp] theorem iterT_ow (ps : List Bool) (ds : List PyData) : iterT .seq (false :: ps) [.ow (ds.map .fz)] = .ok ds := by simp [iterT, T.dat, dseq, itemsOk]
@[simp] theorem strict_t : strict true (.fz .none) = .ok (.fz .none) := (rfl)
@[simp] theorem strict_f (i : Int) : strict false (.fz (.int i)) = .ok (.fz (.int i)) := (rfl)
@[simp] theorem partD_t (t : T) : partD true t = .ok none := (rfl)
@[simp] theorem partD_f (i : Int) : partD false (.fz (.int i)) = .ok (some i) := (rfl)
@[simp] theorem slT_str (p : Bool) (z : Str) (lo hi : Option Int) : slT p (.fz (.str z)) lo hi = .ok (.fz (.str (L2.cutS z lo hi))) := (rfl)
@[simp] theorem slT_list (p : Bool) (ds : List PyData) (lo hi : Option Int) : slT p (.fz (.list ds)) lo hi = .ok (.ow ((cutL ds lo hi).map .fz)) := (rfl)
@[simp] theorem isNon_none : IE.isNon (.dat .none) = true := (rfl)
@[simp] theorem isNon_int (i : Int) : IE.isNon (.dat (.int i)) = false := (rfl)
@[simp] theorem isNon_var (i : Nat) : IE.isNon (.var i) = false := (rfl)
@[simp] theorem isPath_ix (a b : IE) : IE.isPath (.ix a b) = a.isPath := (rfl)
@[simp] theorem isPath_dat (d : PyData) : IE.isPath (.dat d) = false := (rfl)
@[simp] theorem isPath_glb (d : Str) : IE.isPath (.glb d) = false := (rfl)
@[simp] theorem isPath_sl (a b c : IE) : IE.isPath (.sl a b c) = false := (rfl)
@[simp] theorem isPath_tup (a : List IE) : IE.isPath (.tup a) = false := (rfl)
@[simp] theorem isPath_lst (a : List IE) : IE.isPath (.lst a) = false := (rfl)
@[simp] theorem isPath_bin (o : Operator) (a b : IE) : IE.isPath (.bin o a b) = false := (rfl)
@[simp] theorem isPath_call (o : Str) (a : List IE) : IE.isPath (.call o a) = false := (rfl)
@[simp] theorem isPath_blt (o : Bn) (a : List IE) : IE.isPath (.blt o a) = false := (rfl)
@[simp] theorem isPath_mth (o : Mn) (b : IE) (a : List IE) : IE.isPath (.mth o b a) = false := (rfl)
@[simp] theorem isPath_lc (a : List Nat) (b : Bool) (c : IE) (d : ItK) (e f : List IE) : IE.isPath (.lc a b c d e f) = false := (rfl)
@[simp] theorem isPath_bo (o : BoolOp) (a b : IE) : IE.isPath (.bo o a b) = false := (rfl)
@[simp] theorem isPath_cmp (o : CmpOp) (a b : IE) : IE.isPath (.cmp o a b) = false := (rfl)
@[simp] theorem isPath_no (a : IE) : IE.isPath (.no a) = false := (rfl)
@[simp] theorem isPath_ite (c a b : IE) : IE.isPath (.ite c a b) = false := (rfl)
theorem cutL_map {α β : Type} (f : α → β) (l : List α) (lo hi : Option Int) : cutL (l.map f) lo hi = (cutL l lo hi).map f := by simp [cutL, List.map_take, List.map_drop]
@[simp] theorem isPath_var (i : Nat) : IE.isPath (.var i) = true := (rfl)
@[simp] theorem useT_np (e : IE) (t : T) (h : e.isPath = false) : useT e t = .ok t := by simp [useT, h]
theorem binT_str (a b : Bool) (x y : Str) (h : x.length + y.length ≤ 16777216) : binT .Add a b (.fz (.str x)) (.fz (.str y)) = .ok (.fz (.str (x ++ y))) := by simp [binT, h]
theorem str_app_len (x y : Str) : (x ++ y).length = x.length + y.length := by
  show (x.cps ++ y.cps).size = _
  simp [Str.length]
@[simp] theorem frzL_one (d : PyData) : T.frzL [.fz d] = some [.fz d] := (rfl)
@[simp] theorem getS_0 (o : T) (l : Sto) : getS (some o :: l) 0 = .ok o := (rfl)
@[simp] theorem getS_s (o : Option T) (l : Sto) (i : Nat) : getS (o :: l) (i + 1) = getS l i := by simp [getS]
/-! ### reading runs -/
section
variable {G : Str → Option PyData} {orc : Str → List T → Rs T}
theorem tbl_of {es : List Ent} {e : Ent} (nd : (es.map (·.name)).Nodup) (he : e ∈ es) : tblOf es e.name = some e.fn := by
  unfold tblOf; rw [find_ent nd he]; rfl
theorem callF_eq {tbl : Str → Option FnD} {f : Str} {fd : FnD} {k : Nat} {ts : List T} (h : tbl f = some fd) : callF G tbl (k + 1) f ts = runFn G (callF G tbl k) fd ts := by
  simp only [callF, h]
theorem callF_fun {tbl : Str → Option FnD} {f : Str} {fd : FnD} {k : Nat} (h : tbl f = some fd) : callF G tbl (k + 1) f = runFn G (callF G tbl k) fd := funext fun _ => callF_eq h
/-- a loop whose body leaves the store as it is, or returns -/
theorem forLoop_all {bindF : Sto → PyData → Option Sto} {body : Sto → Out} {S : Sto} {t : T} (P : PyData → Bool) : ∀ {ds : List PyData}, (∀ d ∈ ds, ∃ S1, bindF S d = some S1 ∧ body S1 = if P d then .nx S else .rt t) → forLoop bindF body ds S = if ds.all P then .nx S else .rt t
  | [], _ => rfl
  | d :: ds, h => by
    obtain ⟨S1, e1, e2⟩ := h d (by simp)
    simp only [forLoop, e1, e2]
    cases hP : P d with
    | false => simp [hP]
    | true =>
      simp only [if_true]
      rw [forLoop_all P fun d hd => h d (by simp [hd])]
      simp [hP]
/-- a loop with a state of its own -/
theorem forLoop_fold {bindF : Sto → PyData → Option Sto} {body : Sto → Out} {α : Type} (st : α → Sto) (step : α → PyData → α) : ∀ {ds : List PyData} {a : α}, (∀ a, ∀ d ∈ ds, ∃ S1, bindF (st a) d = some S1 ∧ (body S1 = .nx (st (step a d)) ∨ body S1 = .ct (st (step a d)))) → forLoop bindF body ds (st a) = .nx (st (ds.foldl step a))
  | [], _, _ => rfl
  | d :: ds, a, h => by
    obtain ⟨S1, e1, e2⟩ := h a d (by simp)
    simp only [forLoop, e1]
    rcases e2 with e2 | e2 <;> simp only [e2] <;> exact forLoop_fold st step fun a d hd => h a d (by simp [hd])
/-- .. by an invariant on turns -/
theorem forLoop_inv {bindF : Sto → PyData → Option Sto} {body : Sto → Out} (I : Nat → Sto → Prop) {ds : List PyData} : ∀ {n i : Nat} {S : Sto}, i + n = ds.length → I i S → (∀ i S d, ds[i]? = some d → I i S → ∃ S1 S2, bindF S d = some S1 ∧ (body S1 = .nx S2 ∨ body S1 = .ct S2) ∧ I (i + 1) S2) → ∃ S', forLoop bindF body (ds.drop i) S = .nx S' ∧ I ds.length S'
  | 0, i, S, hn, hI, _ => by
    have hi : i = ds.length := by omega
    subst hi
    exact ⟨S, by rw [List.drop_eq_nil_of_le (Nat.le_refl _)]; rfl, hI⟩
  | n + 1, i, S, hn, hI, h => by
    have hi : i < ds.length := by omega
    obtain ⟨S1, S2, e1, e2, e3⟩ := h i S ds[i] (List.getElem?_eq_getElem hi) hI
    rw [List.drop_eq_getElem_cons hi]
    simp only [forLoop, e1]
    rcases e2 with e2 | e2 <;> simp only [e2] <;> exact forLoop_inv I (n := n) (i := i + 1) (by omega) e3 h
end
end Dz
namespace K01
open PySem Dz
def topS (i : Nat) : Stmt := PySem.Challenge.pw_arrowfind_k01_words.main.body.getD i (.Pass ⟨0, 0, 0, 0⟩)
abbrev s_is_word : Stmt := topS 2
def b_is_word : List IS :=
  [.ifs (.bo .Or (.cmp .Lt (.blt .len [(.var 0)]) (.dat (.int 1))) (.cmp .Gt (.blt .len [(.var 0)]) (.dat (.int 8)))) [.ret (.dat (.bool false))] [],
   .fr [1] false .seq [(.var 0)] [.ifs (.cmp .NotIn (.var 1) (.glb "LETTERS")) [.ret (.dat (.bool false))] [], .kil [1]],
   .ret (.dat (.bool true))]
def e_is_word : Ent := ⟨"is_word", s_is_word, ["text", "sign"], ["text"], ⟨1, 2, b_is_word⟩⟩
abbrev s__law_sign_by : Stmt := topS 4
def b__law_sign_by : List IS :=
  [.ifs (.cmp .NotEq (.bin .Mod (.var 0) (.dat (.int 9))) (.dat (.int 4))) [.ret (.ix (.dat (.str "abcdefghijklmnopqrstuvwxyz")) (.bin .Mod (.bin .FloorDiv (.var 0) (.dat (.int 9))) (.dat (.int 26))))] [],
   .asg 1 (.dat (.str " ABCDEFGHIJKLMNOPQRSTUVWXYZ0123456789_-.,;:|=>/+*!?\"'()[]{}<@#$&^~\\\n\t")),
   .ret (.ix (.var 1) (.bin .Mod (.bin .FloorDiv (.var 0) (.dat (.int 9))) (.blt .len [(.var 1)])))]
def e__law_sign_by : Ent := ⟨"_law_sign_by", s__law_sign_by, ["_law_cell", "_law_some"], ["_law_cell"], ⟨1, 2, b__law_sign_by⟩⟩
abbrev s__law_due : Stmt := topS 5
def b__law_due : List IS :=
  [.fr [1] false .seq [(.var 0)] [.ifs (.bo .Or (.cmp .Lt (.var 1) (.dat (.str "a"))) (.cmp .Gt (.var 1) (.dat (.str "z")))) [.ret (.dat (.bool false))] [], .kil [1]],
   .ret (.chn .Lt .Lt (.dat (.int 0)) (.blt .len [(.var 0)]) (.dat (.int 9)))]
def e__law_due : Ent := ⟨"_law_due", s__law_due, ["_law_text", "_law_sign"], ["_law_text"], ⟨1, 2, b__law_due⟩⟩
abbrev s_law : Stmt := topS 6
def b_law : List IS :=
  [.asg 1 (.dat (.str "")),
   .fr [2] false .seq [(.sl (.var 0) (.dat .none) (.dat (.int 11)))] [.asg 1 (.bin .Add (.var 1) (.call "_law_sign_by" [(.var 2)])), .kil [2]],
   .fr [3] false .range [(.bin .Add (.blt .len [(.var 1)]) (.dat (.int 1)))] [.asg 4 (.call "is_word" [(.sl (.var 1) (.dat .none) (.var 3))]), .ifs (.bo .Or (.no (.isi (.var 4) false [.bool])) (.cmp .NotEq (.var 4) (.call "_law_due" [(.sl (.var 1) (.dat .none) (.var 3))]))) [.ret (.dat (.bool false))] [], .kil [3]],
   .asg 4 (.call "is_word" [(.sl (.var 1) (.dat (.int 1)) (.dat .none))]),
   .ret (.bo .And (.isi (.var 4) false [.bool]) (.cmp .Eq (.var 4) (.call "_law_due" [(.sl (.var 1) (.dat (.int 1)) (.dat .none))])))]
def e_law : Ent := ⟨"law", s_law, ["_law_script", "_law_text", "_law_cell", "_law_k", "_law_found"], ["_law_script"], ⟨1, 5, b_law⟩⟩
def es : List Ent := [e_is_word, e__law_sign_by, e__law_due, e_law]
def G (x : Str) : Option PyData := if x = "LETTERS" then some (.str "abcdefghijklmnopqrstuvwxyz") else none
def D : List Str := ["is_word", "_law_sign_by", "_law_due", "law"]
theorem ok_is_word : e_is_word.ok D = true := by decide +kernel
theorem ok__law_sign_by : e__law_sign_by.ok D = true := by decide +kernel
theorem ok__law_due : e__law_due.ok D = true := by decide +kernel
theorem ok_law : e_law.ok D = true := by decide +kernel
end K01
namespace K01
open PySem Dz
theorem nd : (es.map (·.name)).Nodup := by decide +kernel
theorem t_is_word : tblOf es "is_word" = some e_is_word.fn := tbl_of nd (e := e_is_word) (by simp [es])
theorem t_sign : tblOf es "_law_sign_by" = some e__law_sign_by.fn := tbl_of nd (e := e__law_sign_by) (by simp [es])
theorem t_due : tblOf es "_law_due" = some e__law_due.fn := tbl_of nd (e := e__law_due) (by simp [es])
theorem t_law : tblOf es "law" = some e_law.fn := tbl_of nd (e := e_law) (by simp [es])
def letters : List Nat := (Str.ofString "abcdefghijklmnopqrstuvwxyz").cps.toList
theorem G_let : G "LETTERS" = some (.str "abcdefghijklmnopqrstuvwxyz") := if_pos rfl
def inAll (s : Str) : Bool := s.cps.toList.all fun c => decide (c ∈ letters)
def isWord (s : Str) : Bool := !(decide ((s.length : Int) < 1) || decide ((8 : Int) < s.length)) && inAll s
theorem mem_let (c : Nat) : (c ∈ (Str.ofString "abcdefghijklmnopqrstuvwxyz").cps) ↔ c ∈ letters := Array.mem_toList_iff.symm
theorem all_map (s : Str) (p : Nat → Bool) : ((s.cps.toList.map fun c => PyData.str ⟨#[c]⟩).all fun d => match d with | .str ⟨c⟩ => decide (c.toList.all fun c => p c) | _ => false) = s.cps.toList.all p := by
  rw [List.all_map]
  congr 1
  funext c
  simp
theorem is_word_ok (k : Nat) (s : Str) : callF G (tblOf es) (k + 1) "is_word" [.fz (.str s)] = .ok (.fz (.bool (isWord s))) := by
  rw [callF_eq t_is_word]
  unfold isWord
  simp only [runFn, e_is_word, b_is_word, startS, fuel, List.length_singleton, if_true, List.map_cons, List.map_nil]
  simp
  rw [← Bool.not_or]
  cases hc : (decide ((s.length : Int) < 1) || decide ((8 : Int) < s.length)) with
  | true => rfl
  | false =>
    simp only [brO_f, exB_nil, Out.seq_nx, exB_cons, exS_fr, evL_cons, evL_nil, evU_eq, ev_var, getS_0, Rs.bind_ok, Rs.pure_eq, useT_dat, iterT_str, Rs.out_ok, List.map_cons, List.map_nil]
    rw [forLoop_all (t := .fz (.bool false)) (fun d => match d with | .str ⟨c⟩ => decide (c.toList.all fun c => decide (c ∈ letters)) | _ => false)]
    · rw [all_map s fun c => decide (c ∈ letters)]
      show _ = Rs.ok (T.fz (PyData.bool (!false && s.cps.toList.all fun c => decide (c ∈ letters))))
      cases (s.cps.toList.all fun c => decide (c ∈ letters)) <;> simp
    · intro d hd
      obtain ⟨c, hc, rfl⟩ := List.mem_map.mp hd
      refine ⟨_, rfl, ?_⟩
      simp [ev_glbS G_let, inT_sign, mem_let]
      by_cases h : c ∈ letters <;> simp [h]
def due (s : Str) : Bool := (s.cps.toList.all fun c => !(decide (c < 97) || decide (122 < c))) && (decide ((0 : Int) < s.length) && decide ((s.length : Int) < 9))
theorem cps_a : (Str.ofString "a").cps.toList = [97] := by decide +kernel
theorem cps_z : (Str.ofString "z").cps.toList = [122] := by decide +kernel
def lowAll (s : Str) : Bool := s.cps.toList.all fun c => !(decide (c < 97) || decide (122 < c))
theorem due_ok (k : Nat) (s : Str) : callF G (tblOf es) (k + 1) "_law_due" [.fz (.str s)] = .ok (.fz (.bool (due s))) := by
  rw [callF_eq t_due]
  generalize hr : due s = r
  simp only [runFn, e__law_due, b__law_due, startS, fuel, List.length_singleton, if_true, List.map_cons, List.map_nil]
  simp
  rw [forLoop_all (t := .fz (.bool false)) (fun d => match d with | .str ⟨c⟩ => decide (c.toList.all fun c => !(decide (c < 97) || decide (122 < c))) | _ => false)]
  · rw [all_map s fun c => !(decide (c < 97) || decide (122 < c))]
    have e : due s = (lowAll s && (decide ((0 : Int) < s.length) && decide ((s.length : Int) < 9))) := rfl
    rw [← hr, e]
    show (match ((if lowAll s = true then _ else _ : Out).seq _) with | .rt t => _ | .nx _ => _ | .ex c p _ => _ | _ => _) = _
    generalize lowAll s = b
    cases b <;> simp
  · intro d hd
    obtain ⟨c, hc, rfl⟩ := List.mem_map.mp hd
    refine ⟨_, rfl, ?_⟩
    simp [cps_a, cps_z, lt_one]
    by_cases h : c < 97
    · simp [h, Nat.not_le.mpr h]
    · by_cases h2 : 122 < c
      · simp [h, h2]
      · simp [h, h2, Nat.not_lt.mp h]
theorem let_iff (c : Nat) : decide (c ∈ letters) = !(decide (c < 97) || decide (122 < c)) := by
  have e : letters = (List.range 26).map (97 + ·) := by decide +kernel
  rw [e, Bool.eq_iff_iff]
  simp only [decide_eq_true_eq, List.mem_map, List.mem_range, Bool.not_eq_true', Bool.or_eq_false_iff, decide_eq_false_iff_not]
  constructor
  · rintro ⟨a, h, rfl⟩; omega
  · intro h; exact ⟨c - 97, by omega, by omega⟩
theorem same (s : Str) : isWord s = due s := by
  unfold isWord due inAll
  rw [show (fun c => decide (c ∈ letters)) = fun c => !(decide (c < 97) || decide (122 < c)) from funext let_iff]
  generalize (s.cps.toList.all fun c => !(decide (c < 97) || decide (122 < c))) = b
  rw [Bool.and_comm]
  congr 1
  rw [Bool.eq_iff_iff]
  simp
  omega
def some' : Str := " ABCDEFGHIJKLMNOPQRSTUVWXYZ0123456789_-.,;:|=>/+*!?\"'()[]{}<@#$&^~\\\n\t"
theorem some_len : some'.length = 69 := by decide +kernel
theorem let_len : (Str.ofString "abcdefghijklmnopqrstuvwxyz").length = 26 := by decide +kernel
theorem fmod_lo (a b : Int) (h : 0 < b) : 0 ≤ a.fmod b := Int.fmod_nonneg_of_pos a h
theorem fmod_hi (a b : Int) (h : 0 < b) : a.fmod b < b := Int.fmod_lt_of_pos a h
theorem sign_ok (k : Nat) (i : Int) : ∃ c, callF G (tblOf es) (k + 1) "_law_sign_by" [.fz (.int i)] = .ok (.fz (.str ⟨#[c]⟩)) := by
  rw [callF_eq t_sign]
  simp only [runFn, e__law_sign_by, b__law_sign_by, startS, fuel, List.length_singleton, if_true, List.map_cons, List.map_nil]
  simp
  cases decide (i.fmod 9 = 4) with
  | true =>
    simp
    obtain ⟨c, _, e⟩ := ixT_str (z := some') (k := (i.fdiv 9).fmod 69) (fmod_lo _ _ (by decide)) (by rw [some_len]; exact fmod_hi _ _ (by decide))
    have e69 : (Str.ofString " ABCDEFGHIJKLMNOPQRSTUVWXYZ0123456789_-.,;:|=>/+*!?\"'()[]{}<@#$&^~\\\n\t").length = 69 := some_len
    simp [e69]
    exact ⟨c, by rw [show Str.ofString " ABCDEFGHIJKLMNOPQRSTUVWXYZ0123456789_-.,;:|=>/+*!?\"'()[]{}<@#$&^~\\\n\t" = some' from rfl, e]; rfl⟩
  | false =>
    simp
    obtain ⟨c, _, e⟩ := ixT_str (z := "abcdefghijklmnopqrstuvwxyz") (k := (i.fdiv 9).fmod 26) (fmod_lo _ _ (by decide)) (by rw [let_len]; exact fmod_hi _ _ (by decide))
    exact ⟨c, by rw [e]; rfl⟩
theorem text_loop (k : Nat) (t0 : T) : ∀ (ns : List Int) (x : Str), x.length + ns.length ≤ 1000 → ∃ y, y.length = x.length + ns.length ∧
    forLoop (fun S d => bindTg S [2] false d) (exB G (callF G (tblOf es) (k + 1)) 197 [.asg 1 (.bin .Add (.var 1) (.call "_law_sign_by" [(.var 2)])), .kil [2]]) (ns.map .int) [some t0, some (.fz (.str x)), none, none, none] = .nx [some t0, some (.fz (.str y)), none, none, none]
  | [], x, _ => ⟨x, by simp, rfl⟩
  | n :: ns, x, h => by
    obtain ⟨c, e⟩ := sign_ok k n
    have h1 : (x ++ (⟨#[c]⟩ : Str)).length = x.length + 1 := by rw [str_app_len]; rfl
    obtain ⟨y, e1, e2⟩ := text_loop k t0 ns (x ++ (⟨#[c]⟩ : Str)) (by rw [h1]; simp at h; omega)
    refine ⟨y, by rw [e1, h1]; simp; omega, ?_⟩
    rw [← e2]
    have e3 : binT .Add true false (.fz (.str x)) (.fz (.str ⟨#[c]⟩)) = .ok (.fz (.str (x ++ (⟨#[c]⟩ : Str)))) := binT_str _ _ _ _ (by show x.length + 1 ≤ _; simp at h; omega)
    have e4 : calV (callF G (tblOf es) (k + 1)) "_law_sign_by" [.var 2] [.fz (.int n)] = .ok (.fz (.str ⟨#[c]⟩)) := calV_ok _ _ _ _ [.fz (.int n)] _ rfl e (.inr rfl)
    simp only [List.map_cons, forLoop]
    simp [e4, e3, bindTg_one]
theorem cv_word (k : Nat) (e : IE) (z : Str) : calV (callF G (tblOf es) (k + 1)) "is_word" [e] [.fz (.str z)] = .ok (.fz (.bool (isWord z))) := calV_ok _ _ _ _ [.fz (.str z)] _ rfl (is_word_ok k z) (.inr rfl)
theorem cv_due (k : Nat) (e : IE) (z : Str) : calV (callF G (tblOf es) (k + 1)) "_law_due" [e] [.fz (.str z)] = .ok (.fz (.bool (due z))) := calV_ok _ _ _ _ [.fz (.str z)] _ rfl (due_ok k z) (.inr rfl)
theorem check_loop (k : Nat) (t0 : T) (y : Str) : ∀ (is : List Int) (o : Option T), ∃ o',
    forLoop (fun S d => bindTg S [3] false d) (exB G (callF G (tblOf es) (k + 1)) 196 [.asg 4 (.call "is_word" [(.sl (.var 1) (.dat .none) (.var 3))]), .ifs (.bo .Or (.no (.isi (.var 4) false [.bool])) (.cmp .NotEq (.var 4) (.call "_law_due" [(.sl (.var 1) (.dat .none) (.var 3))]))) [.ret (.dat (.bool false))] [], .kil [3]]) (is.map .int) [some t0, some (.fz (.str y)), none, none, o] = .nx [some t0, some (.fz (.str y)), none, none, o']
  | [], o => ⟨o, rfl⟩
  | i :: is, o => by
    obtain ⟨o', e⟩ := check_loop k t0 y is (some (.fz (.bool (isWord (L2.cutS y none (some i))))))
    refine ⟨o', ?_⟩
    rw [← e]
    simp only [List.map_cons, forLoop]
    simp [cv_word, cv_due, clIs, same, bindTg_one]
theorem range_ok {n : Nat} (h : n ≤ 1000) : -(2 ^ 62) ≤ ((n : Int) + 1) ∧ ((n : Int) + 1) < 2 ^ 62 := by
  have : (2 : Int) ^ 62 = 4611686018427387904 := by decide +kernel
  omega
theorem goal (ns : List Int) (h : ns.length ≤ 63) : callF G (tblOf es) 3 "law" [.fz (.list (ns.map .int))] = .ok (.fz (.bool true)) := by
  rw [callF_eq t_law]
  simp only [runFn, e_law, b_law, startS, fuel, List.length_singleton, if_true, List.map_cons, List.map_nil]
  have u1 : ∀ t, useT ((IE.var 0).sl (IE.dat PyData.none) (IE.dat (PyData.int 11))) t = .ok t := fun t => useT_np _ _ rfl
  have e0 : (Str.ofString "").length = 0 := rfl
  have hc := cutL_len ns none (some 11)
  obtain ⟨y, hy, e1⟩ := text_loop 1 (.fz (.list (ns.map .int))) (cutL ns none (some 11)) (Str.ofString "") (by rw [e0]; omega)
  simp [-List.map_map]
  simp only [u1, cutL_map, Rs.bind_ok, iterT_ow, Rs.out_ok]
  simp only [Nat.reduceAdd] at e1
  rw [e1]
  simp only [Out.seq_nx, exB_cons, exS_fr]
  obtain ⟨o', e2⟩ := check_loop 1 (.fz (.list (ns.map .int))) y ((List.range (y.length + 1)).map fun (i : Nat) => (i : Int)) none
  simp only [Nat.reduceAdd] at e2
  rw [List.map_map] at e2
  have hr : iterT .range [false] [.fz (.int ((y.length : Int) + 1))] = .ok ((List.range (y.length + 1)).map (PyData.int ∘ fun (i : Nat) => (i : Int))) := by
    rw [iterT_range1 [false] ((y.length : Int) + 1) (range_ok (by omega))]
    simp
  simp [hr, -List.map_map]
  rw [e2]
  simp [cv_word, cv_due, clIs, same]
end K01
namespace K01
open PySem PySem.Spec PyProof.Rows Dz
theorem okA : OkAll (es.map (·.name)) es := ⟨ok_is_word, ok__law_sign_by, ok__law_due, ok_law, trivial⟩
theorem bindA : BindAll es := ⟨fun _ _ _ _ _ _ us hl => match us, hl with | [_], _ => rfl, fun _ _ _ _ _ _ us hl => match us, hl with | [_], _ => rfl, fun _ _ _ _ _ _ us hl => match us, hl with | [_], _ => rfl, fun _ _ _ _ _ _ us hl => match us, hl with | [_], _ => rfl, trivial⟩
theorem glA {K : PySem.W.Frag} {h : Heap} {mg : Str → Option Value} {t0 : Tok} (X : K.In h) (N : h.Ns mainGlobals mg) (g0 : PySem.W.nsIn K mainGlobals "LETTERS" = some (some (.str "abcdefghijklmnopqrstuvwxyz" t0))) : ∀ x d, G x = some d → ∃ u v, mg x = some u ∧ L2.RelV v u ∧ (∀ M, L2.Dp K M v d) ∧ okD d = true := by
  intro x d e
  unfold G at e
  split at e
  · rename_i hx; cases e; subst hx; exact glob_str X N (by decide +kernel) g0
  · cases e
theorem all {l : PySem.W.OpenLaw} {w : World} {K : PySem.W.Frag} {h : Heap} {mg : Str → Option Value} {fa : Addr} {t0 : Tok} (X : K.In h) (N : h.Ns mainGlobals mg) (hfa : mg "law" = some (.ref fa)) (h0 : HasFn K e_is_word) (h1 : HasFn K e__law_sign_by) (h2 : HasFn K e__law_due) (h3 : HasFn K e_law)
    (z : NoneAll K bltNames) (g0 : PySem.W.nsIn K mainGlobals "LETTERS" = some (some (.str "abcdefghijklmnopqrstuvwxyz" t0))) :
    ∃ fd : FuncData, (∀ (s : Shared) (v : Value), BindsTo s fd ⟨[v], []⟩ [("_law_script", v)]) ∧ ∀ base : Heap, K.In base → base.Ns mainGlobals mg → L2.FnOk l.prog w K mg base (L2.CX l.prog w) 3 fa fd ["_law_script"] (spLaw 63 K) :=
  law_head (el := e_law) X N hfa (by simp [es]) rfl rfl (by decide) okA (by decide +kernel) bindA goal ⟨h0, h1, h2, h3, trivial⟩ z (glA X N g0)
end K01
open PySem PySem.W PyProof.Rows
set_option maxHeartbeats 0 in
theorem PySem.Challenge.cw_arrowfind_k01_words_holds : PySem.Challenge.rw_arrowfind_k01_words.Holds := by
  w_on; o_law; k_head; (case hw => w_witness2)
  k_fill
  refine L2.walk_of (l := PySem.Challenge.rw_arrowfind_k01_words) (n := 63) (k := 3) (x := "_law_script") (CX := fun w => L2.CX PySem.Challenge.rw_arrowfind_k01_words.prog w) (sp := fun w => Dz.spLaw 63 _) rfl (by decide) rfl ⟨rfl, by decide, by decide⟩ (fun w h Y => PySem.W.kIn_of Y) ?F (fun _ _ a ns hl _ hS => ⟨a, ns, rfl, hS, hl, fun _ => rfl⟩) (fun _ _ _ _ _ => Dz.noCX)
  case F =>
    intro w mg fa h KX G hmg
    refine' K01.all KX G hmg ?hh0 ?hh1 ?hh2 ?hh3 ?zz ?gg0
    (case hh0 => (refine' Dz.HasFn.mk ?fa0 ?fl0 ?fc0 ?fk0; (case fa0 => k_is); (case fl0 => k_is); (case fc0 => k_is); (case fk0 => k_is)))
    (case hh1 => (refine' Dz.HasFn.mk ?fa1 ?fl1 ?fc1 ?fk1; (case fa1 => k_is); (case fl1 => k_is); (case fc1 => k_is); (case fk1 => k_is)))
    (case hh2 => (refine' Dz.HasFn.mk ?fa2 ?fl2 ?fc2 ?fk2; (case fa2 => k_is); (case fl2 => k_is); (case fc2 => k_is); (case fk2 => k_is)))
    (case hh3 => (refine' Dz.HasFn.mk ?fa3 ?fl3 ?fc3 ?fk3; (case fa3 => k_is); (case fl3 => k_is); (case fc3 => k_is); (case fk3 => k_is)))
    (case zz => (refine ⟨?_, ?_, ?_, ?_, ?_, ?_, ?_, ?_, ?_, ?_, ?_, ?_, trivial⟩ <;> k_is))
    (case gg0 => k_is)
