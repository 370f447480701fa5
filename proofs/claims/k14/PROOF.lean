import PyProof.Rows.All
import HandS.ForMost
import HandS.ForExc
import HandS.Deep
import HandS.IsInst
import HandS.TupAny
import HandS.TupMul
import HandS.Style
import HandS.StrMore
import HandS.StrSplit
import HandS.TryMany
import HandS.Conv
import HandS.ExcIs
import HandS.NoneIn
import HandS.NamedTupSort
import HandS.SortRule
import HandS.SortInts
import HandS.Replace
import HandS.Text
import KE.LtSeq
import KE.KSortAsk
import HandS.DictComp
import HandS.Zip
import KE.GoesRaise
import HandS.WordsExc
import KE.GoesEnum
import HandS.SetFor
import HandS.Strs
import HandS.TupSets
import KE.GoesNew
import KE.GoesMore
import HandS.Rev
import KE.KDictZip
import PyProof.ListNew
import HandS.EndBits
import HandS.ReplaceList
import HandS.ReplaceLit
import PySem.Challenge.RW_fewopen_k14_hands_of_rules
set_option Elab.async false
set_option linter.all false
set_option maxRecDepth 100000
set_option maxHeartbeats 4000000
/-! Iv A: a small language over plain data, and what it computes. -/
namespace Iv
open PySem PySem.Spec PyProof.Rows

/-- immutable data -/
inductive I where
  | non | bl (b : Bool) | int (i : Int) | str (s : Str) | tup (xs : List I) | dic | exc (c : String) | dk (kvs : List (Int × Bool)) | dt (kvs : List (List Int × Bool))
/-- the program's own classes of errors; c is of the class t -/
def excAll : List String := ["OpenError", "NoNumber", "NoRule", "TooMany", "TooFew", "NoFit", "NoText", "NoRow"]
def excSub (c t : String) : Bool := c == t || t == "OpenError" || t == "ValueError"
/-- data: lists of immutable items, lists of others, tuples that hold lists, the script -/
inductive D where
  | imm (i : I) | lsi (xs : List I) | lsd (xs : List D) | tpd (xs : List D) | scr (ns : List Int)

def isScr : D → Bool
  | .scr _ => true
  | _ => false

inductive M (α : Type) where
  | ok (a : α) | exc (c : String) | bad
def M.bind {α β : Type} : M α → (α → M β) → M β
  | .ok a, f => f a
  | .exc c, _ => .exc c
  | .bad, _ => .bad
@[simp] theorem M.bind_ok {α β : Type} (a : α) (f : α → M β) : (M.ok a).bind f = f a := rfl
@[simp] theorem M.bind_exc {α β : Type} (c : String) (f : α → M β) : (M.exc c : M α).bind f = .exc c := rfl
@[simp] theorem M.bind_bad {α β : Type} (f : α → M β) : (M.bad : M α).bind f = .bad := rfl

/-- what is known of the lists in a value: fr: its root is new; lv: 0 all new in this reckoning, 1 new in this call, 2 any; bw: the owning slots whose lists it may hold (true: at any depth, false: as its root alone) -/
structure Tag where
  fr : Bool
  lv : Nat
  bw : List (Nat × Bool)
def T0 : Tag := ⟨true, 0, []⟩
def Tag.join (a b : Tag) : Tag := ⟨a.fr && b.fr, max a.lv b.lv, a.bw ++ b.bw⟩
def Tag.root (t : Tag) : Tag := ⟨true, t.lv, t.bw.map fun p => (p.1, true)⟩
def Tag.child (t : Tag) : Tag := ⟨t.lv == 0, t.lv, t.bw.filter (·.2)⟩
abbrev DT := D × Tag
def norm : D → Tag → DT
  | .imm i, _ => (.imm i, T0)
  | d, t => (d, t)
abbrev pim (i : I) : DT := (.imm i, T0)

def allImm : List D → Option (List I)
  | [] => some []
  | .imm i :: r => (allImm r).map (i :: ·)
  | _ :: _ => none
def mkLst (ds : List D) : D := match allImm ds with | some xs => .lsi xs | none => .lsd ds
def mkTup (ds : List D) : D := match allImm ds with | some xs => .imm (.tup xs) | none => .tpd ds
def joins : List DT → Tag
  | [] => T0
  | x :: r => x.2.join (joins r)
/-- the items of what may be walked -/
def items : D → Option (List D)
  | .imm (.tup xs) => some (xs.map .imm)
  | .imm (.str s) => some (s.cps.toList.map fun c => .imm (.str ⟨#[c]⟩))
  | .lsi xs => some (xs.map .imm)
  | .lsd ds => some ds
  | .tpd ds => some ds
  | .scr ns => some (ns.map fun n => .imm (.int n))
  | _ => none
def kids (t : Tag) (ds : List D) : List DT := ds.map fun d => norm d t.child

/-! ### operators -/
noncomputable instance (i j : Int) : Decidable (L2.CMul i j) := Classical.propDecidable _
noncomputable instance (i j : Int) : Decidable (L2.CPow i j) := Classical.propDecidable _
noncomputable instance (i j : Int) : Decidable (L2.CDiv i j) := Classical.propDecidable _

noncomputable def intOp : Operator → Int → Int → M I
  | .Add, i, j => .ok (.int (i + j))
  | .Sub, i, j => .ok (.int (i - j))
  | .Mult, i, j => if L2.CMul i j then .ok (.int (i * j)) else .bad
  | .FloorDiv, i, j => if L2.CDiv i j then .ok (.int (i / j)) else .bad
  | .Mod, i, j => if 0 < j then .ok (.int (i % j)) else .bad
  | .Pow, i, j => if L2.CPow i j then .ok (.int (i ^ j.toNat)) else .bad
  | .LShift, i, j => if L2.CPow i j then .ok (.int (i * 2 ^ j.toNat)) else .bad
  | .RShift, i, j => if 0 ≤ j then .ok (.int (i / 2 ^ j.toNat)) else .bad
  | .BitAnd, i, j => .ok (.int (Builtin.bitAnd i j))
  | .BitOr, i, j => .ok (.int (Builtin.bitOr i j))
  | .BitXor, i, j => .ok (.int (Builtin.bitXor i j))
  | _, _, _ => .bad
/-- lists: their items -/
def lstItems : D → Option (List D)
  | .lsi xs => some (xs.map .imm)
  | .lsd ds => some ds
  | _ => none
def cat : D → D → Option D
  | .lsi a, .lsi b => some (.lsi (a ++ b))
  | .lsi a, .lsd b => some (.lsd (a.map .imm ++ b))
  | .lsd a, .lsi b => some (.lsd (a ++ b.map .imm))
  | .lsd a, .lsd b => some (.lsd (a ++ b))
  | _, _ => none
def dlen : D → Nat
  | .lsi a => a.length
  | .lsd a => a.length
  | _ => 0
def rep (k : Nat) : D → Option D
  | .lsi a => some (.lsi (List.replicate k a).flatten)
  | _ => none
def isNil {α : Type} : List α → Bool
  | [] => true
  | _ => false
def catOp (op : Operator) (x y : DT) : M DT := match op with
  | .Add => match cat x.1 y.1 with
    | some d => if dlen x.1 + dlen y.1 ≤ sizeLine then .ok (d, (x.2.child.join y.2.child).root) else .bad
    | none => .bad
  | _ => .bad
def repOp (op : Operator) (a : List I) (k : Int) : M DT := match op with
  | .Mult => if k ≤ 1000000 ∧ -1000000 ≤ k ∧ a.length * k.toNat ≤ 1000000 then .ok (.lsi (List.replicate k.toNat a).flatten, T0) else .bad
  | _ => .bad
def strOp (op : Operator) (a b : Str) : M DT := match op with
  | .Add => if a.length + b.length ≤ sizeLine then .ok (pim (.str (a ++ b))) else .bad
  | _ => .bad
def tupOp (op : Operator) (a b : List I) : M DT := match op with
  | .Add => if a.length + b.length ≤ sizeLine then .ok (pim (.tup (a ++ b))) else .bad
  | _ => .bad
def tupRep (op : Operator) (a : List I) (k : Int) : M DT := match op with
  | .Mult => if isNil a = false ∧ -1000 ≤ k ∧ k ≤ 1000 ∧ a.length ≤ 1000 then .ok (pim (.tup (List.replicate k.toNat a).flatten)) else .bad
  | _ => .bad
def repS (a : Str) (k : Nat) : Str := ⟨(List.replicate k a.cps).foldl (· ++ ·) #[]⟩
def strRep (op : Operator) (a : Str) (k : Int) : M DT := match op with
  | .Mult => if 2 ≤ k ∧ k ≤ 1000 ∧ 1 ≤ a.length ∧ a.length ≤ 1000 then .ok (pim (.str (repS a k.toNat))) else .bad
  | _ => .bad
/-- a tuple of immutable things and one that holds lists -/
def tupC (op : Operator) (a : List I) (b : List D) (y : DT) : M DT := match op with
  | .Add => if isNil b = false ∧ a.length + b.length ≤ sizeLine then (if isNil a = true then .ok y else .ok (.tpd (a.map .imm ++ b), y.2.child.root)) else .bad
  | _ => .bad
def tupCr (op : Operator) (a : List D) (b : List I) (x : DT) : M DT := match op with
  | .Add => if isNil a = false ∧ a.length + b.length ≤ sizeLine then (if isNil b = true then .ok x else .ok (.tpd (a ++ b.map .imm), x.2.child.root)) else .bad
  | _ => .bad
noncomputable def binD (op : Operator) (x y : DT) : M DT :=
  match x.1, y.1 with
  | .imm (.int i), .imm (.int j) => (intOp op i j).bind fun r => .ok (pim r)
  | .imm (.str a), .imm (.str b) => strOp op a b
  | .imm (.tup a), .imm (.tup b) => tupOp op a b
  | .imm (.tup a), .imm (.int k) => tupRep op a k
  | .imm (.str a), .imm (.int k) => strRep op a k
  | .imm (.tup a), .tpd b => tupC op a b y
  | .tpd a, .imm (.tup b) => tupCr op a b x
  | .lsi a, .imm (.int k) => repOp op a k
  | _, _ => catOp op x y

mutual
def I.py : I → PyData
  | .non => .none | .bl b => .bool b | .int i => .int i | .str s => .str s | .tup xs => .tuple (I.pys xs) | .dic => .dict [] | .exc _ => .dict [] | .dk _ => .dict [] | .dt _ => .dict []
def I.pys : List I → List PyData
  | [] => []
  | x :: r => x.py :: I.pys r
end
mutual
def D.py : D → PyData
  | .imm i => i.py | .lsi xs => .list (I.pys xs) | .lsd ds => .list (D.pys ds) | .tpd ds => .tuple (D.pys ds) | .scr ns => .list (ns.map .int)
def D.pys : List D → List PyData
  | [] => []
  | x :: r => x.py :: D.pys r
end
def eqD (a b : D) : M Bool :=
  match a, b with
  | .imm (.int i), .imm (.int j) => .ok (decide (i = j))
  | .imm (.str i), .imm (.str j) => .ok (decide (i = j))
  | .imm (.bl i), .imm (.bl j) => .ok (decide (i = j))
  | .imm .dic, .imm (.tup _) => .ok false
  | .imm (.dk x), .imm (.dk y) => if x = y ∧ (x.map (·.1)).Nodup then .ok true else .bad
  | a, b => if SeqAt.shaped a.py = true ∧ SeqAt.shaped b.py = true then .ok (PyData.eqv a.py b.py) else .bad
def flatI : I → Bool
  | .tup _ => false
  | .dic => false
  | .exc _ => false
  | .dk _ => false
  | .dt _ => false
  | _ => true
def eqI : I → I → Bool
  | .non, .non => true
  | .bl a, .bl b => a == b
  | .bl a, .int b => (if a then 1 else 0) == b
  | .int a, .bl b => a == (if b then 1 else 0)
  | .int a, .int b => a == b
  | .str a, .str b => a == b
  | _, _ => false
/-- a thing of any depth in a list -/
def inAny (a : D) (ys : List PyData) : M Bool := if SeqAt.shaped a.py = true ∧ SeqAt.shaped (.list ys) = true then .ok (ys.any fun z => PyData.eqv z a.py) else .bad
/-- x in y -/
def inD (a b : D) : M Bool :=
  match a, b with
  | .imm (.str i), .imm (.str j) => .ok (!(Builtin.Str.occurrences j i 0 j.length 1).isEmpty)
  | .imm i, .lsi xs => if flatI i = true ∧ xs.all flatI = true then .ok (xs.any fun y => eqI y i) else inAny (.imm i) (I.pys xs)
  | .imm i, .imm (.tup xs) => if flatI i = true ∧ xs.all flatI = true then .ok (xs.any fun y => eqI y i) else .bad
  | a, .lsi xs => inAny a (I.pys xs)
  | a, .lsd xs => inAny a (D.pys xs)
  | _, _ => .bad
def asInts : List I → Option (List Int)
  | [] => some []
  | .int i :: r => (asInts r).map (i :: ·)
  | _ :: _ => none
def asBls : List I → Option (List Bool)
  | [] => some []
  | .bl i :: r => (asBls r).map (i :: ·)
  | _ :: _ => none
def asStrs : List I → Option (List Str)
  | [] => some []
  | .str i :: r => (asStrs r).map (i :: ·)
  | _ :: _ => none
def isNon : D → Bool
  | .imm .non => true
  | _ => false
def cmpD (op : CmpOp) (a b : D) : M Bool :=
  match op with
  | .Eq => eqD a b
  | .NotEq => (eqD a b).bind fun r => .ok (!r)
  | .In => inD a b
  | .NotIn => (inD a b).bind fun r => .ok (!r)
  | .Is => match a, b with
    | .imm (.bl x), .imm (.bl y) => .ok (decide (x = y))
    | a, .imm .non => .ok (isNon a)
    | _, _ => .bad
  | .IsNot => match a, b with
    | .imm (.bl x), .imm (.bl y) => .ok (!decide (x = y))
    | a, .imm .non => .ok (!isNon a)
    | _, _ => .bad
  | .Lt => match a, b with
    | .imm (.int i), .imm (.int j) => .ok (decide (i < j))
    | _, _ => .bad
  | .LtE => match a, b with
    | .imm (.int i), .imm (.int j) => .ok (decide (i ≤ j))
    | _, _ => .bad
  | .Gt => match a, b with
    | .imm (.int i), .imm (.int j) => .ok (decide (j < i))
    | _, _ => .bad
  | .GtE => match a, b with
    | .imm (.int i), .imm (.int j) => .ok (decide (j ≤ i))
    | _, _ => .bad
end Iv

/-! Iv B: the small language and its reckoning. -/
namespace Iv
open PySem PySem.Spec PyProof.Rows

inductive Blt where
  | len | tuple | list | sum | int | str | all | any | sorted | min2 | max2 | minl | maxl | isi (ts : List String) | lenset | sortedset | lrg | trg | ise (ts : List String) | lzip
inductive Mt where
  | join | split | splitn | sindex | lindex | rfind | find | find3 | rfind4
inductive Tg where
  | nm (i : Nat) | tp (ts : List Tg)
mutual
inductive E where
  | var (i : Nat) | lit (k : Const) | glob (x : String) (k : Const)
  | bin (op : Operator) (a b : E) | neg (a : E) | not (a : E) | and (a b : E) | or (a b : E)
  | cmp (op : CmpOp) (a b : E) | chain (op op' : CmpOp) (a b c : E) | ife (c a b : E)
  | call (f : String) (es : List E) | blt (b : Blt) (es : List E) | mth (m : Mt) (a : E) (es : List E)
  | idx (a i : E) | slc (a lo hi : E) | slcL (a lo : E) | slcH (a hi : E) | slcN (a : E) | rev (a : E)
  | lst (es : List E) | tup (es : List E) | dct | fcall (f : String) (a : E) | dgk (a i : E) | dgt (a i : E)
  | lc (elt : E) (tg : Tg) (src : Src) (cs : List E) (own : List Nat)
inductive Src where
  | ex (e : E) | r1 (a : E) | r2 (a b : E) | zip (a b : E) | zip3 (a b c : E) | enm (a : E) | rv (a : E)
end
inductive S where
  | asg (i : Nat) (e : E) | unp (tg : Tg) (e : E) | seti (i : Nat) (k v : E)
  | app (i : Nat) (e : E) | ext (i : Nat) (e : E) | clr (i : Nat) | exs (e : E)
  | ifs (c : E) (a b : List S) | for (tg : Tg) (src : Src) (body : List S) | whl (c : E) (body : List S)
  | ret (e : E) | retn | rse (c : String) | pas | brk | cnt
  | try (body : List S) (hs : List (List String × Nat × List S))
  | kapp (i : Nat) (j : E) (e : E) | kclr (i : Nat) (j : E)
  | kself (i : Nat) (e : E)
  | rel (i j : Nat)
  | kaps (i : Nat) (l : List (Int × Option E))
  | pops (t : Option Nat) (i v : Nat) (src : Src)
  | apx (e v : E)

abbrev Env := List (Option D)
inductive Cls where
  | old | nw | own (n : Bool) | ex | vw (i : Nat)
  deriving DecidableEq
structure Cf where
  F : String → List D → M (D × Bool)
  cls : List Cls
  fuel : Nat

def Cf.cl (cf : Cf) (i : Nat) : Cls := cf.cls.getD i .old
def rdTag (i : Nat) : Cls → Tag
  | .old => ⟨false, 2, []⟩
  | .nw => ⟨false, 1, []⟩
  | .own n => ⟨false, if n then 1 else 2, [(i, false)]⟩
  | .ex => ⟨false, 1, [(i, true)]⟩
  | .vw k => ⟨false, 2, [(k, true)]⟩
def isL : D → Bool
  | .lsi _ => true
  | .lsd _ => true
  | _ => false
def okSt : Cls → DT → Bool
  | _, (.imm _, _) => true
  | .ex, (d, t) => t.lv == 0 && t.bw.isEmpty && !isScr d
  | .vw k, (d, t) => (t.bw.all fun p => p.1 == k)
  | .old, (_, t) => t.bw.isEmpty
  | .nw, (_, t) => t.bw.isEmpty && decide (t.lv ≤ 1)
  | .own n, (d, t) => isL d && (t.fr || t.lv == 0) && t.bw.isEmpty && (!n || decide (t.lv ≤ 1))
def setSlot (cf : Cf) (i : Nat) (x : DT) (ρ : Env) : Option Env :=
  if okSt (cf.cl i) x = true ∧ i < ρ.length then some (ρ.set i (some x.1)) else none
def isVw : Cls → Bool
  | .vw _ => true
  | _ => false
def setFz (cf : Cf) (i : Nat) (x : DT) (ρ : Env) : Option Env :=
  if (cf.cl i = .old ∨ cf.cl i = .nw ∨ isVw (cf.cl i) = true) ∧ okSt (cf.cl i) x = true ∧ i < ρ.length then some (ρ.set i (some x.1)) else none
mutual
def asgTg (cf : Cf) : Tg → DT → Env → Option Env
  | .nm i, x, ρ => setFz cf i x ρ
  | .tp ts, (.imm (.tup xs), t), ρ => asgTgs cf ts (xs.map pim) ρ
  | .tp ts, (.tpd ds, t), ρ => asgTgs cf ts (kids t ds) ρ
  | .tp ts, (.lsi xs, t), ρ => asgTgs cf ts (xs.map pim) ρ
  | .tp ts, (.lsd ds, t), ρ => asgTgs cf ts (kids t ds) ρ
  | _, _, _ => none
def asgTgs (cf : Cf) : List Tg → List DT → Env → Option Env
  | [], [], ρ => some ρ
  | t :: ts, x :: xs, ρ => match asgTg cf t x ρ with
    | some ρ' => asgTgs cf ts xs ρ'
    | none => none
  | _, _, _ => none
end
def wipeE (ρ : Env) : List Nat → Env
  | [] => ρ
  | v :: vs => (wipeE ρ vs).set v none
/-- a list made of what was reckoned -/
def tagsOf : List DT → Tag
  | [] => T0
  | (.imm _, _) :: r => tagsOf r
  | (_, t) :: r => t.join (tagsOf r)
def mkL (xs : List DT) : M DT := match allImm (xs.map (·.1)) with
  | some is => .ok (.lsi is, T0)
  | none => if (xs.all fun x => !isScr x.1) = true then .ok (.lsd (xs.map (·.1)), (tagsOf xs).root) else .bad
def mkT (xs : List DT) : M DT := match allImm (xs.map (·.1)) with
  | some is => .ok (pim (.tup is))
  | none => if (xs.all fun x => !isScr x.1) = true then .ok (.tpd (xs.map (·.1)), (tagsOf xs).root) else .bad
/-- a pair that a walk hands out -/
def mkP (x y : DT) : DT := match x.1, y.1 with
  | .imm i, .imm j => pim (.tup [i, j])
  | a, b => (.tpd [a, b], (tagsOf [x, y]).root)
def mkP3 (x y z : DT) : DT := match x.1, y.1, z.1 with
  | .imm i, .imm j, .imm k => pim (.tup [i, j, k])
  | a, b, c => (.tpd [a, b, c], (tagsOf [x, y, z]).root)
def idxD (x : DT) (i : Int) : M DT :=
  match x.1 with
  | .imm (.tup xs) => match L2.atI xs i with | some y => .ok (pim y) | none => .bad
  | .imm (.str s) => if s.length ≤ sizeLine then match L2.atI s.cps.toList i with | some c => .ok (pim (.str ⟨#[c]⟩)) | none => .bad else .bad
  | .lsi xs => match L2.atI xs i with | some y => .ok (pim y) | none => .bad
  | .scr xs => match L2.atI xs i with | some y => .ok (pim (.int y)) | none => .bad
  | .lsd ds => match L2.atI ds i with | some y => .ok (norm y x.2.child) | none => .bad
  | .tpd ds => match L2.atI ds i with | some y => .ok (norm y x.2.child) | none => .bad
  | _ => .bad
def cut {α : Type} (xs : List α) (lo hi : Option Int) : List α := (xs.drop (HT.sIx xs.length 0 lo)).take (HT.sIx xs.length xs.length hi - HT.sIx xs.length 0 lo)
def slcD (x : DT) (lo hi : Option Int) : M DT :=
  match x.1 with
  | .imm (.tup xs) => .ok (pim (.tup (cut xs lo hi)))
  | .imm (.str s) => if s.length ≤ sizeLine then .ok (pim (.str (L2.cutS s lo hi))) else .bad
  | .lsi xs => .ok (.lsi (cut xs lo hi), T0)
  | .lsd ds => .ok (.lsd (cut ds lo hi), x.2.child.root)
  | .tpd ds => match allImm (cut ds lo hi) with
    | some is => .ok (pim (.tup is))
    | none => .ok (.tpd (cut ds lo hi), x.2.child.root)
  | _ => .bad
def revD (x : DT) : M DT :=
  match x.1 with
  | .lsi xs => .ok (.lsi xs.reverse, T0)
  | .lsd ds => .ok (.lsd ds.reverse, x.2.child.root)
  | _ => .bad
def lenD : D → M Int
  | .imm (.tup xs) => .ok xs.length
  | .imm (.str s) => if s.length ≤ sizeLine then .ok s.length else .bad
  | .lsi xs => .ok xs.length
  | .scr xs => .ok xs.length
  | .lsd xs => .ok xs.length
  | .tpd xs => .ok xs.length
  | _ => .bad
def tyD : D → String
  | .imm .non => "NoneType" | .imm (.bl _) => "bool" | .imm (.int _) => "int" | .imm (.str _) => "str" | .imm (.tup _) => "tuple" | .imm .dic => "dict" | .imm (.exc _) => "" | .imm (.dk _) => "dict" | .imm (.dt _) => "dict" | .tpd _ => "tuple"
  | .lsi _ => "list" | .lsd _ => "list" | .scr _ => "list"
def isExc : D → Bool
  | .imm (.exc _) => true
  | _ => false
def dgK (x y : D) : M DT :=
  match x, y with
  | .imm (.dk kvs), .imm (.int n) => match kvs.find? fun q => decide (q.1 = n) with | some q => .ok (pim (.bl q.2)) | none => .bad
  | _, _ => .bad
def dgT (x y : D) : M DT :=
  match x, y with
  | .imm (.dt kvs), .lsi xs => match asInts xs with
    | some ns => match kvs.find? fun q => decide (q.1 = ns) with | some q => .ok (pim (.bl q.2)) | none => .bad
    | none => .bad
  | _, _ => .bad
def isiB (t : String) (ts : List String) : Bool := ts.any fun u => u == t || (u == "int" && t == "bool")
def insI (x : Int) : List Int → List Int
  | [] => [x]
  | y :: r => if x ≤ y then x :: y :: r else y :: insI x r
def sortI : List Int → List Int
  | [] => []
  | x :: r => insI x (sortI r)
/-- lists of whole numbers, sorted as Python sorts them -/
def asLL : List D → Option (List (List Int))
  | [] => some []
  | .lsi xs :: r => match asInts xs, asLL r with
    | some ns, some ls => some (ns :: ls)
    | _, _ => none
  | _ :: _ => none
def insL (x : List Int) : List (List Int) → List (List Int)
  | [] => [x]
  | y :: r => if HT.lexLt y x = true then y :: insL x r else x :: y :: r
def sortL : List (List Int) → List (List Int)
  | [] => []
  | x :: r => insL x (sortL r)
def dedup : List Int → List Int
  | [] => []
  | x :: r => if x ∈ dedup r then dedup r else x :: dedup r
def minOf : List Int → Option Int
  | [] => none
  | x :: r => match minOf r with | none => some x | some m => some (if m < x then m else x)
def maxOf : List Int → Option Int
  | [] => none
  | x :: r => match maxOf r with | none => some x | some m => some (if x < m then m else x)
def int2 (f : Int → Int → Int) : D → D → M DT
  | .imm (.int i), .imm (.int j) => .ok (pim (.int (f i j)))
  | _, _ => .bad
def small62 (i : Int) : Prop := -(2 ^ 62) ≤ i ∧ i < 2 ^ 62
noncomputable instance (i : Int) : Decidable (small62 i) := Classical.propDecidable _
/-- a bool -/
def asB : DT → M Bool
  | (.imm (.bl b), _) => .ok b
  | _ => .bad
def asI : DT → M Int
  | (.imm (.int b), _) => .ok b
  | _ => .bad
def rngI (i j : Int) : List I := (List.range (j - i).toNat).map fun (k : Nat) => .int (i + k)
noncomputable def rngD (t : Bool) (i j : Int) : M DT := if small62 i ∧ small62 j ∧ (j - i).toNat ≤ sizeLine then .ok (if t = true then pim (.tup (rngI i j)) else (.lsi (rngI i j), T0)) else .bad
noncomputable def bltD (b : Blt) (xs : List DT) : M DT :=
  match b, xs with
  | .len, [x] => (lenD x.1).bind fun n => .ok (pim (.int n))
  | .tuple, [x] => match x.1 with
    | .imm (.tup xs) => .ok (pim (.tup xs))
    | .lsi xs => .ok (pim (.tup xs))
    | .lsd ds => .ok (.tpd ds, x.2.child.root)
    | .tpd ds => .ok (.tpd ds, x.2)
    | _ => .bad
  | .list, [x] => match x.1 with
    | .imm (.tup xs) => .ok (.lsi xs, T0)
    | .lsi xs => .ok (.lsi xs, T0)
    | .lsd ds => .ok (.lsd ds, x.2.child.root)
    | .tpd ds => .ok (.lsd ds, x.2.child.root)
    | .scr ns => .ok (.lsi (ns.map .int), T0)
    | .imm (.str s) => if s.length ≤ 1000000 then .ok (.lsi ((s.cps.toList.map fun c => (⟨#[c]⟩ : Str)).map .str), T0) else .bad
    | _ => .bad
  | .sum, [x] => match x.1 with
    | .lsi xs => match asInts xs with | some ns => .ok (pim (.int ns.sum)) | none => .bad
    | _ => .bad
  | .int, [x] => match x.1 with
    | .imm (.int i) => .ok (pim (.int i))
    | .imm (.bl k) => .ok (pim (.int (if k then 1 else 0)))
    | .imm (.str s) => match PySem.intText? s with | some n => if s.length ≤ 640 then .ok (pim (.int n)) else .bad | none => .bad
    | _ => .bad
  | .str, [x] => match x.1 with
    | .imm (.int i) => if i.natAbs.log2 < 1920 then .ok (pim (.str (toString i))) else .bad
    | .imm .non => .ok (pim (.str "None"))
    | _ => .bad
  | .all, [x] => match x.1 with
    | .lsi xs => match asBls xs with | some bs => .ok (pim (.bl (bs.all id))) | none => .bad
    | _ => .bad
  | .any, [x] => match x.1 with
    | .lsi xs => match asBls xs with | some bs => .ok (pim (.bl (bs.any id))) | none => .bad
    | _ => .bad
  | .sorted, [x] => match x.1 with
    | .lsi xs => match asInts xs with | some ns => .ok (.lsi ((sortI ns).map .int), T0) | none => .bad
    | .lsd ds => match asLL ds with | some ls => .ok (.lsd ((sortL ls).map fun l => .lsi (l.map .int)), x.2.child.root) | none => .bad
    | _ => .bad
  | .min2, [x, y] => int2 (fun i j => if j < i then j else i) x.1 y.1
  | .max2, [x, y] => int2 (fun i j => if j > i then j else i) x.1 y.1
  | .minl, [x] => match x.1 with
    | .lsi xs => match asInts xs with | some ns => (match minOf ns with | some m => .ok (pim (.int m)) | none => .bad) | none => .bad
    | _ => .bad
  | .maxl, [x] => match x.1 with
    | .lsi xs => match asInts xs with | some ns => (match maxOf ns with | some m => .ok (pim (.int m)) | none => .bad) | none => .bad
    | _ => .bad
  | .isi ts, [x] => if isExc x.1 = true then .bad else .ok (pim (.bl (isiB (tyD x.1) ts)))
  | .ise ts, [x] => match x.1 with
    | .imm (.exc c) => if excAll.contains c = true then .ok (pim (.bl (ts.any (excSub c)))) else .bad
    | _ => .bad
  | .sortedset, [x] => match x.1 with
    | .lsi xs => match asInts xs with | some ns => if ns.length < 64 then .ok (.lsi ((sortI (dedup ns)).map .int), T0) else .bad | none => .bad
    | _ => .bad
  | .lenset, [x] => match x.1 with
    | .lsi xs => match asInts xs with | some ns => if ns.length < 64 then .ok (pim (.int ((dedup ns).length : Nat))) else .bad | none => .bad
    | _ => .bad
  | .lzip, [x, y] => match x.1, y.1 with
    | .lsi xs, .lsi ys => if xs.length ≤ 1000 ∧ ys.length ≤ 1000 then .ok (.lsi ((xs.zip ys).map fun p => .tup [p.1, p.2]), T0) else .bad
    | _, _ => .bad
  | .lrg, [x] => (asI x).bind fun j => rngD false 0 j
  | .lrg, [x, y] => (asI x).bind fun i => (asI y).bind fun j => rngD false i j
  | .trg, [x] => (asI x).bind fun j => rngD true 0 j
  | .trg, [x, y] => (asI x).bind fun i => (asI y).bind fun j => rngD true i j
  | _, _ => .bad
/-- a method's own type, its name -/
def mtTy : Mt → String
  | .lindex => "list"
  | _ => "str"
def mtN : Mt → String
  | .join => "join" | .split => "split" | .splitn => "split" | .sindex => "index" | .lindex => "index" | .rfind => "rfind" | .find => "find" | .find3 => "find" | .rfind4 => "rfind"
def mtOk (m : Mt) : D → Bool
  | .imm (.str _) => mtTy m == "str"
  | .lsi _ => mtTy m == "list"
  | _ => false
def mthD (m : Mt) (x : DT) (xs : List DT) : M DT :=
  match m, x.1, xs with
  | .join, .imm (.str a), [y] => match y.1 with
    | .lsi is => match asStrs is with
      | some ys => if (ys.map (·.length)).sum + ys.length * a.length ≤ 1000000 then .ok (pim (.str (PySem.Txt.join a ys))) else .bad
      | none => .bad
    | _ => .bad
  | .split, .imm (.str a), [y] => match y.1 with
    | .imm (.str b) => if (b.length == 0) = false ∧ a.length + 2 ≤ sizeLine then .ok (.lsi ((PySem.Txt.split a b).map .str), T0) else .bad
    | _ => .bad
  | .splitn, .imm (.str a), [y, z] => match y.1, z.1 with
    | .imm (.str b), .imm (.int k) => if (b.length == 0) = false ∧ a.length + 2 ≤ sizeLine ∧ 0 ≤ k ∧ k ≤ 1000 then .ok (.lsi ((PySem.Txt.splitMax a b k).map .str), T0) else .bad
    | _, _ => .bad
  | .sindex, .imm (.str a), [y] => match y.1 with
    | .imm (.str b) => match PySem.Builtin.Str.occurrences a b 0 a.length 1 with
      | i :: _ => .ok (pim (.int (i : Nat)))
      | [] => .bad
    | _ => .bad
  | .rfind, .imm (.str a), [y] => match y.1 with
    | .imm (.str b) => .ok (pim (.int (PySem.Txt.rfind a b)))
    | _ => .bad
  | .find, .imm (.str a), [y] => match y.1 with
    | .imm (.str b) => .ok (pim (.int (PySem.Txt.find a b)))
    | _ => .bad
  | .find3, .imm (.str a), [y, z] => match y.1, z.1 with
    | .imm (.str b), .imm (.int k) => .ok (pim (.int (PySem.Txt.find3 a b k)))
    | _, _ => .bad
  | .rfind4, .imm (.str a), [y, z, z2] => match y.1, z.1, z2.1 with
    | .imm (.str b), .imm (.int k), .imm (.int j) => .ok (pim (.int (PySem.Txt.rfindIn a b k j)))
    | _, _, _ => .bad
  | .lindex, .lsi is, [y] => match asInts is, y.1 with
    | some ns, .imm (.int k) => match ns.findIdx? (fun z => z == k) with
      | some j => .ok (pim (.int (j : Nat)))
      | none => .bad
    | _, _ => .bad
  | _, _, _ => .bad

def ofConst : Const → Option I
  | .none => some .non
  | .bool b => some (.bl b)
  | .int i => some (.int i)
  | .str s => some (.str s)
  | _ => none
/-- no exception leaves a comprehension -/
def M.calm {α : Type} : M α → M α
  | .exc _ => .bad
  | m => m
/-- the turns of a comprehension -/
def lcGo (f : DT → M (Option DT)) : List DT → M (List DT)
  | [] => .ok []
  | x :: r => (f x).bind fun
    | none => lcGo f r
    | some y => (lcGo f r).bind fun ys => .ok (y :: ys)
def rangeL (i j : Int) : List DT := (List.range (j - i).toNat).map fun (k : Nat) => pim (.int (i + k))
def zipD : List DT → List DT → List DT
  | x :: xs, y :: ys => mkP x y :: zipD xs ys
  | _, _ => []
def zipD3 : List DT → List DT → List DT → List DT
  | x :: xs, y :: ys, z :: zs => mkP3 x y z :: zipD3 xs ys zs
  | _, _, _ => []
def enmD (k : Nat) : List DT → List DT
  | [] => []
  | x :: xs => mkP (pim (.int k)) x :: enmD (k + 1) xs
def bwOf (t : Tag) : List Nat := t.bw.map (·.1)
def bigS : D → Bool
  | .imm (.str s) => decide (sizeLine < s.length)
  | _ => false
def itemsT (x : DT) : M (List DT × List Nat) := if bigS x.1 = true then .bad else match items x.1 with
  | some ds => .ok (kids x.2 ds, match x.1 with | .imm _ => [] | _ => bwOf x.2)
  | none => .bad
def isT : D → Bool
  | .imm (.tup _) => true
  | .tpd _ => true
  | _ => false
def sameK (x y : D) : Bool := (isL x || isT x) && (isL y || isT y)

/-- a call's answer, where it holds no lists -/
def immM : M (D × Bool) → M DT
  | .ok (.imm i, _) => .ok (pim i)
  | _ => .bad
mutual
noncomputable def ev (cf : Cf) : E → Env → M DT
  | .var i, ρ => match ρ[i]? with
    | some (some d) => .ok (norm d (rdTag i (cf.cl i)))
    | _ => .bad
  | .lit k, _ => match ofConst k with | some c => .ok (pim c) | none => .bad
  | .glob _ k, _ => match ofConst k with | some c => .ok (pim c) | none => .bad
  | .bin op a b, ρ => (ev cf a ρ).bind fun x => (ev cf b ρ).bind fun y => binD op x y
  | .neg a, ρ => (ev cf a ρ).bind fun x => (asI x).bind fun i => .ok (pim (.int (-i)))
  | .not a, ρ => (ev cf a ρ).bind fun x => (asB x).bind fun b => .ok (pim (.bl (!b)))
  | .and a b, ρ => (ev cf a ρ).bind fun x => (asB x).bind fun c => if c = true then ev cf b ρ else .ok (pim (.bl false))
  | .or a b, ρ => (ev cf a ρ).bind fun x => (asB x).bind fun c => if c = true then .ok (pim (.bl true)) else ev cf b ρ
  | .cmp op a b, ρ => (ev cf a ρ).bind fun x => (ev cf b ρ).bind fun y => (cmpD op x.1 y.1).bind fun r => .ok (pim (.bl r))
  | .chain op op' a b c, ρ => (ev cf a ρ).bind fun x => (ev cf b ρ).bind fun y => (cmpD op x.1 y.1).bind fun r =>
      if r = true then (ev cf c ρ).bind fun z => (cmpD op' y.1 z.1).bind fun r' => .ok (pim (.bl r')) else .ok (pim (.bl false))
  | .ife c a b, ρ => (ev cf c ρ).bind fun x => (asB x).bind fun r => if r = true then ev cf a ρ else ev cf b ρ
  | .call f es, ρ => (evs cf es ρ).bind fun xs => (cf.F f (xs.map (·.1))).bind fun r => .ok (norm r.1 (if r.2 = true then T0 else ⟨false, (tagsOf xs).lv, (tagsOf xs).root.bw⟩))
  | .blt b es, ρ => (evs cf es ρ).bind fun xs => bltD b xs
  | .mth m a es, ρ => (ev cf a ρ).bind fun x => if mtOk m x.1 = true then (evs cf es ρ).bind fun xs => mthD m x xs else .bad
  | .idx a i, ρ => (ev cf a ρ).bind fun x => (ev cf i ρ).bind fun y => (asI y).bind fun k => idxD x k
  | .slc a lo hi, ρ => (ev cf a ρ).bind fun x => (ev cf lo ρ).bind fun y => (asI y).bind fun i => (ev cf hi ρ).bind fun z => (asI z).bind fun j => slcD x (some i) (some j)
  | .slcL a lo, ρ => (ev cf a ρ).bind fun x => (ev cf lo ρ).bind fun y => (asI y).bind fun i => slcD x (some i) none
  | .slcH a hi, ρ => (ev cf a ρ).bind fun x => (ev cf hi ρ).bind fun z => (asI z).bind fun j => slcD x none (some j)
  | .slcN a, ρ => (ev cf a ρ).bind fun x => slcD x none none
  | .rev a, ρ => (ev cf a ρ).bind fun x => revD x
  | .dct, _ => .ok (pim .dic)
  | .dgk a i, ρ => (ev cf a ρ).bind fun x => (ev cf i ρ).bind fun y => dgK x.1 y.1
  | .dgt a i, ρ => (ev cf a ρ).bind fun x => (ev cf i ρ).bind fun y => dgT x.1 y.1
  | .fcall f a, ρ => (ev cf a ρ).bind fun x => immM (cf.F f [x.1, .lsi [.int 0, .int 0], .imm (.int 0)])
  | .lst es, ρ => (evs cf es ρ).bind fun xs => if xs.length ≤ 1000 then mkL xs else .bad
  | .tup es, ρ => (evs cf es ρ).bind fun xs => if xs.length ≤ 1000 then mkT xs else .bad
  | .lc elt tg src cs own, ρ => (evSrc cf src ρ).bind fun its =>
      (lcGo (fun x => match asgTg cf tg x (wipeE ρ own) with
        | none => .bad
        | some ρ' => (evC cf cs ρ').calm.bind fun b => if b = true then (ev cf elt ρ').bind fun y => .ok (some y) else .ok none) its.1).bind fun ys => mkL ys
noncomputable def evs (cf : Cf) : List E → Env → M (List DT)
  | [], _ => .ok []
  | e :: es, ρ => (ev cf e ρ).bind fun x => (evs cf es ρ).bind fun xs => .ok (x :: xs)
/-- tests, all of them -/
noncomputable def evC (cf : Cf) : List E → Env → M Bool
  | [], _ => .ok true
  | e :: es, ρ => (ev cf e ρ).bind fun x => (asB x).bind fun b => if b = true then evC cf es ρ else .ok false
/-- what is walked, and the owning slots that it hangs on -/
noncomputable def evSrc (cf : Cf) : Src → Env → M (List DT × List Nat)
  | .ex e, ρ => (ev cf e ρ).bind fun x => itemsT x
  | .r1 a, ρ => (ev cf a ρ).bind fun x => (asI x).bind fun j => if small62 j ∧ j.toNat ≤ sizeLine then .ok (rangeL 0 j, []) else .bad
  | .r2 a b, ρ => (ev cf a ρ).bind fun x => (asI x).bind fun i => (ev cf b ρ).bind fun y => (asI y).bind fun j => if small62 i ∧ small62 j ∧ (j - i).toNat ≤ sizeLine then .ok (rangeL i j, []) else .bad
  | .zip a b, ρ => (ev cf a ρ).bind fun x => (ev cf b ρ).bind fun y => if sameK x.1 y.1 = true then (itemsT x).bind fun xs => (itemsT y).bind fun ys => .ok (zipD xs.1 ys.1, xs.2 ++ ys.2) else .bad
  | .zip3 a b c, ρ => (ev cf a ρ).bind fun x => (ev cf b ρ).bind fun y => (ev cf c ρ).bind fun z => if (sameK x.1 y.1 && sameK y.1 z.1) = true then (itemsT x).bind fun xs => (itemsT y).bind fun ys => (itemsT z).bind fun zs => .ok (zipD3 xs.1 ys.1 zs.1, xs.2 ++ (ys.2 ++ zs.2)) else .bad
  | .enm a, ρ => (ev cf a ρ).bind fun x => if (isL x.1 || isT x.1) = true then (itemsT x).bind fun xs => .ok (enmD 0 xs.1, xs.2) else .bad
  | .rv a, ρ => (ev cf a ρ).bind fun x => if (isL x.1 || isT x.1) = true then (itemsT x).bind fun xs => .ok (xs.1.reverse, xs.2) else .bad
end

/-! ### statements -/
inductive O where
  | next (ρ : Env) | ret (x : DT) | brk (ρ : Env) | cnt (ρ : Env) | exc (c : String) (ρ : Env) | bad
def M.st {α : Type} (ρ : Env) : M α → (α → O) → O
  | .ok a, f => f a
  | .exc c, _ => .exc c ρ
  | .bad, _ => .bad
@[simp] theorem M.st_ok {α : Type} (ρ : Env) (a : α) (f : α → O) : (M.ok a).st ρ f = f a := rfl
@[simp] theorem M.st_exc {α : Type} (ρ : Env) (c : String) (f : α → O) : (M.exc c : M α).st ρ f = .exc c ρ := rfl
@[simp] theorem M.st_bad {α : Type} (ρ : Env) (f : α → O) : (M.bad : M α).st ρ f = .bad := rfl
def O.seq : O → (Env → O) → O
  | .next ρ, f => f ρ
  | o, _ => o
def forGo (f : DT → Env → O) : List DT → Env → O
  | [], ρ => .next ρ
  | x :: r, ρ => match f x ρ with
    | .next ρ' => forGo f r ρ'
    | .cnt ρ' => forGo f r ρ'
    | .brk ρ' => .next ρ'
    | o => o
def whlGo (c : Env → M Bool) (f : Env → O) : Nat → Env → O
  | 0, _ => .bad
  | n + 1, ρ => (c ρ).st ρ fun b => if b = true then match f ρ with
      | .next ρ' => whlGo c f n ρ'
      | .cnt ρ' => whlGo c f n ρ'
      | .brk ρ' => .next ρ'
      | o => o
    else .next ρ
/-- [x.pop(v % len(x)) for v in ..]: what is taken, what is left -/
def popsGo : List Int → List Int → Option (List Int × List Int)
  | zs, [] => some ([], zs)
  | zs, n :: ns => if zs.length = 0 then none else match zs[(n % (zs.length : Int)).toNat]? with
    | some z => (popsGo (zs.eraseIdx (n % (zs.length : Int)).toNat) ns).map fun q => (z :: q.1, q.2)
    | none => none
def dInts : List DT → Option (List Int)
  | [] => some []
  | (.imm (.int n), _) :: r => (dInts r).map (n :: ·)
  | _ :: _ => none
def isOwn : Cls → Bool
  | .own _ => true
  | _ => false
def popsD (cf : Cf) (i v : Nat) (its : List DT × List Nat) (ρ : Env) : Option (List Int × List Int) :=
  match dInts its.1, ρ[i]? with
  | some ns, some (some (.lsi xs)) => match asInts xs with
    | some zs => if (!its.2.contains i && isOwn (cf.cl i) && decide (cf.cl v = .old ∧ v < ρ.length ∧ v ≠ i ∧ zs.length ≤ 1000)) = true then popsGo zs ns else none
    | none => none
  | _, _ => none
def popsO (cf : Cf) (t : Option Nat) (i : Nat) (ρ : Env) : Option (List Int × List Int) → O
  | some q => match t with
    | none => .ret (.lsi (q.1.map .int), T0)
    | some j => match setSlot cf j (.lsi (q.1.map .int), T0) (ρ.set i (some (.lsi (q.2.map .int)))) with
      | some ρ' => .next ρ'
      | none => .bad
  | none => .bad
mutual
/-- the slots whose lists are changed -/
def muts : S → List Nat
  | .seti i _ _ => [i]
  | .app i _ => [i]
  | .ext i _ => [i]
  | .clr i => [i]
  | .kapp i _ _ => [i]
  | .kclr i _ => [i]
  | .kself i _ => [i]
  | .rel _ j => [j]
  | .kaps i _ => [i]
  | .pops _ i _ _ => [i]
  | .ifs _ a b => mutss a ++ mutss b
  | .for _ _ b => mutss b
  | .whl _ b => mutss b
  | .try b hs => mutss b ++ mutsh hs
  | _ => []
def mutss : List S → List Nat
  | [] => []
  | s :: r => muts s ++ mutss r
def mutsh : List (List String × Nat × List S) → List Nat
  | [] => []
  | (_, _, s) :: r => mutss s ++ mutsh r
end
/-- a list changed: an item more, an item else -/
def appD (d : D) (x : DT) : Option D :=
  match d, x.1 with
  | .lsi xs, .imm i => some (.lsi (xs ++ [i]))
  | .lsi xs, y => some (.lsd (xs.map .imm ++ [y]))
  | .lsd xs, y => some (.lsd (xs ++ [y]))
  | _, _ => none
def setD (d : D) (k : Int) (x : DT) : Option D :=
  match d, x.1 with
  | .lsi xs, .imm i => (L2.ixN xs.length k).map fun j => .lsi (xs.set j i)
  | .lsi xs, y => (L2.ixN xs.length k).map fun j => .lsd ((xs.map .imm).set j y)
  | .lsd xs, y => (L2.ixN xs.length k).map fun j => .lsd (xs.set j y)
  | _, _ => none
/-- what may be put into an owning slot's list -/
def okIn : Cls → DT → Bool
  | .own _, (.imm _, _) => true
  | .own _, (.scr _, _) => false
  | .own n, (_, t) => t.bw.isEmpty && (!n || decide (t.lv ≤ 1))
  | _, _ => false
def onOwn (cf : Cf) (i : Nat) (x : DT) (ρ : Env) (f : D → Option D) : O :=
  if okIn (cf.cl i) x = true then match ρ[i]? with
    | some (some d) => match f d with
      | some d' => if dlen d' ≤ sizeLine then .next (ρ.set i (some d')) else .bad
      | none => .bad
    | _ => .bad
  else .bad
def hasL (ρ : Env) (i : Nat) : Bool := match ρ[i]? with
  | some (some d) => isL d
  | _ => false
def wipeV (cf : Cf) (i : Nat) (ρ : Env) : Env := ρ.mapIdx fun j d => if j = i ∨ cf.cl j = .vw i then none else d
/-- a clause's name (n - 1's slot), and its end -/
def putH (n : Nat) (c : String) (ρ : Env) : Env := match n with
  | 0 => ρ
  | i + 1 => ρ.set i (some (.imm (.exc c)))
def endH (n : Nat) (o : O) : O := match n, o with
  | _, .exc _ _ => .bad
  | 0, o => o
  | i + 1, .next ρ => .next (ρ.set i none)
  | i + 1, .brk ρ => .brk (ρ.set i none)
  | i + 1, .cnt ρ => .cnt (ρ.set i none)
  | _, o => o
/-- lists in slot i's tuple, to be changed one after another -/
def kapOk (ρ : Env) (i : Nat) (l : List (Int × Option E)) : Bool := match ρ[i]? with
  | some (some (.tpd ds)) => l.all fun q => match L2.atI ds q.1 with
    | some d => isL d && decide (dlen d + l.length < sizeLine)
    | none => false
  | _ => false
noncomputable def kapR (cf : Cf) (ρ : Env) : List (Int × Option E) → O
  | [] => .next ρ
  | (_, none) :: r => kapR cf ρ r
  | (_, some e) :: r => (ev cf e ρ).st ρ fun _ => kapR cf ρ r
mutual
noncomputable def run (cf : Cf) : S → Env → O
  | .asg i e, ρ => (ev cf e ρ).st ρ fun x => match setSlot cf i x ρ with | some ρ' => .next ρ' | none => .bad
  | .unp tg e, ρ => (ev cf e ρ).st ρ fun x => match asgTg cf tg x ρ with | some ρ' => .next ρ' | none => .bad
  | .seti i k v, ρ => if hasL ρ i = true then (ev cf v ρ).st ρ fun x => (ev cf k ρ).st ρ fun y => (asI y).st ρ fun j => onOwn cf i x ρ fun d => setD d j x else .bad
  | .app i e, ρ => if hasL ρ i = true then (ev cf e ρ).st ρ fun x => onOwn cf i x ρ fun d => appD d x else .bad
  | .ext i e, ρ => if hasL ρ i = true then (ev cf e ρ).st ρ fun x => onOwn cf i (x.1, x.2.child) ρ fun d => cat d x.1 else .bad
  | .clr i, ρ => if hasL ρ i = true then onOwn cf i (pim .non) ρ fun _ => some (.lsi []) else .bad
  | .exs e, ρ => (ev cf e ρ).st ρ fun _ => .next ρ
  | .apx e v, ρ => (ev cf e ρ).st ρ fun x => if isL x.1 = true ∧ x.2.fr = true ∧ dlen x.1 < sizeLine then (ev cf v ρ).st ρ fun _ => .next ρ else .bad
  | .ifs c a b, ρ => ((ev cf c ρ).bind asB).st ρ fun r => if r = true then runs cf a ρ else runs cf b ρ
  | .for tg src body, ρ => (evSrc cf src ρ).st ρ fun its =>
      if (its.2.all fun j => !(mutss body).contains j) = true then forGo (fun x ρ => match asgTg cf tg x ρ with | some ρ' => runs cf body ρ' | none => .bad) its.1 ρ else .bad
  | .whl c body, ρ => whlGo (fun ρ => (ev cf c ρ).bind asB) (fun ρ => runs cf body ρ) cf.fuel ρ
  | .ret e, ρ => (ev cf e ρ).st ρ fun x => .ret x
  | .retn, ρ => .ret (pim .non)
  | .rse c, ρ => .exc c ρ
  | .pas, ρ => .next ρ
  | .brk, ρ => .brk ρ
  | .cnt, ρ => .cnt ρ
  | .kapp i j e, ρ => if cf.cl i = .ex then (ev cf (.idx (.var i) j) ρ).st ρ fun y => if isL y.1 = true ∧ dlen y.1 < sizeLine then (ev cf e ρ).st ρ fun _ => .next (wipeV cf i ρ) else .bad else .bad
  | .kclr i j, ρ => if cf.cl i = .ex then (ev cf (.idx (.var i) j) ρ).st ρ fun y => if isL y.1 = true then .next (wipeV cf i ρ) else .bad else .bad
  | .kself i e, ρ => if cf.cl i = .ex then (ev cf (.var i) ρ).st ρ fun y => if isL y.1 = true ∧ dlen y.1 < sizeLine then (ev cf e ρ).st ρ fun _ => .next (wipeV cf i ρ) else .bad else .bad
  | .rel i j, ρ => if cf.cl i = .nw ∧ cf.cl j = .own true ∧ hasL ρ j = true ∧ i < ρ.length then match ρ[j]? with
    | some (some d) => .next ((ρ.set i (some d)).set j none)
    | _ => .bad
    else .bad
  | .pops t i v src, ρ => (evSrc cf src ρ).st ρ fun its => popsO cf t i ρ (popsD cf i v its ρ)
  | .kaps i l, ρ => if cf.cl i = .ex ∧ kapOk ρ i l = true then kapR cf (wipeV cf i ρ) l else .bad
  | .try b hs, ρ => match runs cf b ρ with
    | .exc c ρ' => if excAll.contains c = true then runh cf c hs ρ' else .bad
    | o => o
noncomputable def runs (cf : Cf) : List S → Env → O
  | [], ρ => .next ρ
  | s :: r, ρ => match run cf s ρ with
    | .next ρ' => runs cf r ρ'
    | o => o
/-- the clauses of a try -/
noncomputable def runh (cf : Cf) (c : String) : List (List String × Nat × List S) → Env → O
  | [], ρ => .exc c ρ
  | (ts, n, s) :: r, ρ => if ts.any (excSub c) = true then endH n (runs cf s (putH n c ρ)) else runh cf c r ρ
end
/-- a call of a def: its slots, its body -/
noncomputable def callD (cf : Cf) (n : Nat) (body : List S) (ds : List D) : M (D × Bool) :=
  match runs cf body (ds.map some ++ List.replicate (n - ds.length) none) with
  | .ret x => .ok (x.1, match x.1 with | .imm _ => true | _ => decide (x.2.lv ≤ 1))
  | .next _ => .ok (.imm .non, true)
  | .exc c _ => .exc c
  | _ => .bad
end Iv

/-! Iv C: how the small language's data lie in the heap. -/
namespace Iv
open PySem PySem.Spec PyProof.Rows L2

/-- a caught error of the class named c, at a -/
def ExO (K : PySem.W.Frag) (c : String) (a : Addr) : HO := .ext fun h => ∃ (C : Addr) (oe : Obj), PySem.W.nsIn K mainGlobals (c : Str) = some (some (.ref C)) ∧ h.get? a = some oe ∧ Zc (.ref C) none oe ∧ ∃ vs, oe.data = .fields vs
mutual
/-- an immutable thing: the value v is it -/
inductive RepI (K : PySem.W.Frag) (H : Hp) : I → V → Prop
  | non : RepI K H .non .non
  | bl (b : Bool) : RepI K H (.bl b) (.bl b)
  | int (i : Int) : RepI K H (.int i) (.int i)
  | str (s : Str) : RepI K H (.str s) (.str s)
  | tup {a : Addr} {vs : List V} {xs : List I} : SqT K H a vs → RepIs K H xs vs → RepI K H (.tup xs) (.ref a)
  | dic {a : Addr} : H a = some (.dK []) → RepI K H .dic (.ref a)
  | exc {a : Addr} {c : String} : H a = some (ExO K c a) → RepI K H (.exc c) (.ref a)
  | dk {a : Addr} {kvs : List (Int × Bool)} : H a = some (.dK (kvs.map fun q => (Sum.inl q.1, V.bl q.2))) → RepI K H (.dk kvs) (.ref a)
  | dt {a : Addr} {kvs : List (List Int × Bool)} : H a = some (.dT (kvs.map fun q => (q.1.map Sum.inl, V.bl q.2))) → RepI K H (.dt kvs) (.ref a)
inductive RepIs (K : PySem.W.Frag) (H : Hp) : List I → List V → Prop
  | nil : RepIs K H [] []
  | cons {x : I} {xs : List I} {v : V} {vs : List V} : RepI K H x v → RepIs K H xs vs → RepIs K H (x :: xs) (v :: vs)
end
abbrev AP' := Addr → Prop
mutual
/-- a thing: its lists' addresses are as told: p its root's, q those within -/
inductive Rep (K : PySem.W.Frag) (H : Hp) : AP' → AP' → D → V → Prop
  | imm {p q : AP'} {i : I} {v : V} : RepI K H i v → Rep K H p q (.imm i) v
  | lsi {p q : AP'} {a : Addr} {vs : List V} {xs : List I} : p a → H a = some (.lst vs) → RepIs K H xs vs → Rep K H p q (.lsi xs) (.ref a)
  | lsd {p q : AP'} {a : Addr} {vs : List V} {ds : List D} : p a → H a = some (.lst vs) → Reps K H (fun b => q b ∧ b ≠ a) ds vs → Rep K H p q (.lsd ds) (.ref a)
  | tpd {p q : AP'} {a : Addr} {vs : List V} {ds : List D} : SqT K H a vs → Reps K H q ds vs → Rep K H p q (.tpd ds) (.ref a)
  | scr {p q : AP'} {a : Addr} {ns : List Int} : p a → Rd H a (.lst (ns.map V.int)) → Rep K H p q (.scr ns) (.ref a)
  | scrK {p q : AP'} {a : Addr} {ns : List Int} : (∀ H', SqL K H' a (ns.map V.int)) → Rep K H p q (.scr ns) (.ref a)
inductive Reps (K : PySem.W.Frag) (H : Hp) : AP' → List D → List V → Prop
  | nil {q : AP'} : Reps K H q [] []
  | cons {q : AP'} {d : D} {ds : List D} {v : V} {vs : List V} : isScr d = false → Rep K H q q d v → Reps K H q ds vs → Reps K H q (d :: ds) (v :: vs)
end

/-- what is tracked stays -/
def Same (H H' : Hp) : Prop := ∀ a o, H a = some o → H' a = some o
theorem Same.refl {H : Hp} : Same H H := fun _ _ h => h
theorem Same.trans {H H1 H2 : Hp} (a : Same H H1) (b : Same H1 H2) : Same H H2 := fun x o h => b x o (a x o h)
theorem Same.new {H : Hp} {p : Addr} {o : HO} (h : H p = none) : Same H (upd H p o) := fun a u e => by rw [upd_ne (ne_of_none e h)]; exact e
theorem Same.none {H H' : Hp} (s : Same H H') {a : Addr} (h : H' a = none) : H a = none := by
  cases e : H a with
  | none => rfl
  | some o => rw [s a o e] at h; cases h
/-- tuples stay; the lists at ok stay -/
structure Keep (K : PySem.W.Frag) (ok : AP') (H H' : Hp) : Prop where
  t : ∀ a u, SqT K H a u → SqT K H' a u
  l : ∀ a vs, ok a → H a = some (.lst vs) → H' a = some (.lst vs)
  s : ∀ a vs, ok a → Rd H a (.lst vs) → Rd H' a (.lst vs)
  d : ∀ a kvs, H a = some (.dK kvs) → H' a = some (.dK kvs)
  e : ∀ a kvs, H a = some (.dT kvs) → H' a = some (.dT kvs)
  x : ∀ a c, H a = some (ExO K c a) → H' a = some (ExO K c a)
theorem Same.rd {H H' : Hp} (s : Same H H') {a : Addr} {u : HO} (h : Rd H a u) : Rd H' a u := by
  rcases h with h | ⟨o, h⟩
  · exact .inl (s _ _ h)
  · exact .inr ⟨o, s _ _ h⟩
theorem Same.sqT {K : PySem.W.Frag} {H H' : Hp} (s : Same H H') {a : Addr} {u : List V} (h : SqT K H a u) : SqT K H' a u := by
  rcases h with h | h
  · exact .inl (s.rd h)
  · exact .inr h
theorem Same.sqL {K : PySem.W.Frag} {H H' : Hp} (s : Same H H') {a : Addr} {u : List V} (h : SqL K H a u) : SqL K H' a u := by
  rcases h with h | h
  · exact .inl (s.rd h)
  · exact .inr h
theorem Same.keep {K : PySem.W.Frag} {ok : AP'} {H H' : Hp} (s : Same H H') : Keep K ok H H' := ⟨fun _ _ h => s.sqT h, fun _ _ _ h => s _ _ h, fun _ _ _ h => s.rd h, fun _ _ h => s _ _ h, fun _ _ h => s _ _ h, fun _ _ h => s _ _ h⟩
/-- a list is written at x, which isn't ok -/
theorem Keep.write {K : PySem.W.Frag} {ok : AP'} {H : Hp} {x : Addr} {vs ws : List V} (h : H x = some (.lst vs)) (hn : ∀ a, ok a → a ≠ x) : Keep K ok H (upd H x (.lst ws)) where
  t := fun a u q => by
    rcases q with (q | ⟨o, q⟩) | q
    · exact .inl (.inl (by rw [upd_ne (ne_of q h (fun z => nomatch z))]; exact q))
    · exact .inl (.inr ⟨o, by rw [upd_ne (ne_of q h (fun z => nomatch z))]; exact q⟩)
    · exact .inr q
  l := fun a us k q => by rw [upd_ne (hn a k)]; exact q
  s := fun a us k q => by
    rcases q with q | ⟨o, q⟩
    · exact .inl (by rw [upd_ne (hn a k)]; exact q)
    · exact .inr ⟨o, by rw [upd_ne (hn a k)]; exact q⟩
  d := fun a _ q => by rw [upd_ne (ne_of q h (fun z => nomatch z))]; exact q
  e := fun a _ q => by rw [upd_ne (ne_of q h (fun z => nomatch z))]; exact q
  x := fun a c q => by rw [upd_ne (ne_of q h (fun z => nomatch z))]; exact q
theorem Keep.weak {K : PySem.W.Frag} {ok ok' : AP'} {H H' : Hp} (k : Keep K ok H H') (h : ∀ a, ok' a → ok a) : Keep K ok' H H' := ⟨k.t, fun a vs o => k.l a vs (h a o), fun a vs o => k.s a vs (h a o), k.d, k.e, k.x⟩

mutual
theorem RepI.keep {K : PySem.W.Frag} {ok : AP'} {H H' : Hp} (k : Keep K ok H H') : ∀ {x : I} {v : V}, RepI K H x v → RepI K H' x v
  | _, _, .non => .non
  | _, _, .bl b => .bl b
  | _, _, .int i => .int i
  | _, _, .str s => .str s
  | _, _, .tup h r => .tup (k.t _ _ h) (RepIs.keep k r)
  | _, _, .dic h => .dic (k.d _ _ h)
  | _, _, .dk h => .dk (k.d _ _ h)
  | _, _, .dt h => .dt (k.e _ _ h)
  | _, _, .exc h => .exc (k.x _ _ h)
theorem RepIs.keep {K : PySem.W.Frag} {ok : AP'} {H H' : Hp} (k : Keep K ok H H') : ∀ {x : List I} {v : List V}, RepIs K H x v → RepIs K H' x v
  | _, _, .nil => .nil
  | _, _, .cons h r => .cons (RepI.keep k h) (RepIs.keep k r)
end
mutual
theorem Rep.keep {K : PySem.W.Frag} {ok p q p' q' : AP'} {H H' : Hp} (k : Keep K ok H H') (hp : ∀ a, p a → ok a ∧ p' a) (hq : ∀ a, q a → ok a ∧ q' a) : ∀ {x : D} {v : V}, Rep K H p q x v → Rep K H' p' q' x v
  | _, _, .imm r => .imm (r.keep k)
  | _, _, .lsi h e r => .lsi (hp _ h).2 (k.l _ _ (hp _ h).1 e) (r.keep k)
  | _, _, .lsd h e r => .lsd (hp _ h).2 (k.l _ _ (hp _ h).1 e) (Reps.keep k (fun a z => ⟨(hq a z.1).1, (hq a z.1).2, z.2⟩) r)
  | _, _, .tpd h r => .tpd (k.t _ _ h) (Reps.keep k hq r)
  | _, _, .scr h r => .scr (hp _ h).2 (k.s _ _ (hp _ h).1 r)
  | _, _, .scrK h => .scrK h
theorem Reps.keep {K : PySem.W.Frag} {ok q q' : AP'} {H H' : Hp} (k : Keep K ok H H') (hq : ∀ a, q a → ok a ∧ q' a) : ∀ {x : List D} {v : List V}, Reps K H q x v → Reps K H' q' x v
  | _, _, .nil => .nil
  | _, _, .cons z h r => .cons z (Rep.keep k hq hq h) (Reps.keep k hq r)
end
section
variable {K : PySem.W.Frag} {H H' : Hp} {p q p' q' : AP'}
theorem Rep.same (s : Same H H') {x : D} {v : V} (r : Rep K H p q x v) : Rep K H' p q x v := r.keep (ok := fun _ => True) s.keep (fun _ h => ⟨trivial, h⟩) fun _ h => ⟨trivial, h⟩
theorem Reps.same (s : Same H H') {x : List D} {v : List V} (r : Reps K H q x v) : Reps K H' q x v := r.keep (ok := fun _ => True) s.keep fun _ h => ⟨trivial, h⟩
theorem RepI.same (s : Same H H') {x : I} {v : V} (r : RepI K H x v) : RepI K H' x v := r.keep (ok := fun _ => True) s.keep
theorem RepIs.same (s : Same H H') {x : List I} {v : List V} (r : RepIs K H x v) : RepIs K H' x v := r.keep (ok := fun _ => True) s.keep
theorem Rep.weak (hp : ∀ a, p a → p' a) (hq : ∀ a, q a → q' a) {x : D} {v : V} (r : Rep K H p q x v) : Rep K H p' q' x v := r.keep (ok := fun _ => True) Same.refl.keep (fun _ h => ⟨trivial, hp _ h⟩) fun _ h => ⟨trivial, hq _ h⟩
theorem Reps.weak (hq : ∀ a, q a → q' a) {x : List D} {v : List V} (r : Reps K H q x v) : Reps K H q' x v := r.keep (ok := fun _ => True) Same.refl.keep fun _ h => ⟨trivial, hq _ h⟩
theorem RepIs.len : ∀ {xs : List I} {vs : List V}, RepIs K H xs vs → xs.length = vs.length
  | _, _, .nil => rfl
  | _, _, .cons _ r => congrArg (· + 1) (RepIs.len r)
theorem Reps.len : ∀ {xs : List D} {vs : List V}, Reps K H q xs vs → xs.length = vs.length
  | _, _, .nil => rfl
  | _, _, .cons _ _ r => congrArg (· + 1) (Reps.len r)
theorem Reps.imms : ∀ {xs : List I} {vs : List V}, RepIs K H xs vs → Reps K H q (xs.map .imm) vs
  | _, _, .nil => .nil
  | _, _, .cons h r => .cons rfl (.imm h) (Reps.imms r)
theorem Reps.ofImms : ∀ {xs : List I} {vs : List V}, Reps K H q (xs.map .imm) vs → RepIs K H xs vs
  | [], _, .nil => .nil
  | x :: xs, _, .cons _ (.imm h) r => .cons h (Reps.ofImms r)
theorem RepIs.get : ∀ {xs : List I} {vs : List V} {i : Nat} {x : I}, RepIs K H xs vs → xs[i]? = some x → ∃ v, vs[i]? = some v ∧ RepI K H x v
  | _, _, 0, _, .cons h _, e => by cases e; exact ⟨_, rfl, h⟩
  | _, _, i + 1, _, .cons _ r, e => RepIs.get (i := i) r e
theorem Reps.get : ∀ {xs : List D} {vs : List V} {i : Nat} {x : D}, Reps K H q xs vs → xs[i]? = some x → ∃ v, vs[i]? = some v ∧ isScr x = false ∧ Rep K H q q x v
  | _, _, 0, _, .cons z h _, e => by cases e; exact ⟨_, rfl, z, h⟩
  | _, _, i + 1, _, .cons _ _ r, e => Reps.get (i := i) r e
theorem RepIs.append : ∀ {xs ys : List I} {vs ws : List V}, RepIs K H xs vs → RepIs K H ys ws → RepIs K H (xs ++ ys) (vs ++ ws)
  | _, _, _, _, .nil, s => s
  | _, _, _, _, .cons h r, s => .cons h (RepIs.append r s)
theorem Reps.append : ∀ {xs ys : List D} {vs ws : List V}, Reps K H q xs vs → Reps K H q ys ws → Reps K H q (xs ++ ys) (vs ++ ws)
  | _, _, _, _, .nil, s => s
  | _, _, _, _, .cons z h r, s => .cons z h (Reps.append r s)
theorem RepIs.drop : ∀ {xs : List I} {vs : List V} (n : Nat), RepIs K H xs vs → RepIs K H (xs.drop n) (vs.drop n)
  | _, _, 0, r => r
  | _, _, _ + 1, .nil => .nil
  | _, _, n + 1, .cons _ r => RepIs.drop n r
theorem RepIs.take : ∀ {xs : List I} {vs : List V} (n : Nat), RepIs K H xs vs → RepIs K H (xs.take n) (vs.take n)
  | _, _, 0, _ => .nil
  | _, _, _ + 1, .nil => .nil
  | _, _, n + 1, .cons h r => .cons h (RepIs.take n r)
theorem Reps.drop : ∀ {xs : List D} {vs : List V} (n : Nat), Reps K H q xs vs → Reps K H q (xs.drop n) (vs.drop n)
  | _, _, 0, r => r
  | _, _, _ + 1, .nil => .nil
  | _, _, n + 1, .cons _ _ r => Reps.drop n r
theorem Reps.take : ∀ {xs : List D} {vs : List V} (n : Nat), Reps K H q xs vs → Reps K H q (xs.take n) (vs.take n)
  | _, _, 0, _ => .nil
  | _, _, _ + 1, .nil => .nil
  | _, _, n + 1, .cons z h r => .cons z h (Reps.take n r)
theorem RepIs.set : ∀ {xs : List I} {vs : List V} (n : Nat) {x : I} {v : V}, RepI K H x v → RepIs K H xs vs → RepIs K H (xs.set n x) (vs.set n v)
  | _, _, _, _, _, _, .nil => .nil
  | _, _, 0, _, _, h, .cons _ r => .cons h r
  | _, _, n + 1, _, _, h, .cons h' r => .cons h' (RepIs.set n h r)
theorem Reps.set : ∀ {xs : List D} {vs : List V} (n : Nat) {x : D} {v : V}, isScr x = false → Rep K H q q x v → Reps K H q xs vs → Reps K H q (xs.set n x) (vs.set n v)
  | _, _, _, _, _, _, _, .nil => .nil
  | _, _, 0, _, _, z, h, .cons _ _ r => .cons z h r
  | _, _, n + 1, _, _, z, h, .cons z' h' r => .cons z' h' (Reps.set n z h r)
theorem RepIs.rev : ∀ {xs : List I} {vs : List V}, RepIs K H xs vs → RepIs K H xs.reverse vs.reverse
  | _, _, .nil => .nil
  | _, _, .cons h r => by rw [List.reverse_cons, List.reverse_cons]; exact RepIs.append (RepIs.rev r) (.cons h .nil)
theorem Reps.rev : ∀ {xs : List D} {vs : List V}, Reps K H q xs vs → Reps K H q xs.reverse vs.reverse
  | _, _, .nil => .nil
  | _, _, .cons z h r => by rw [List.reverse_cons, List.reverse_cons]; exact Reps.append (Reps.rev r) (.cons z h .nil)
theorem RepIs.flat : ∀ {xs : List I} {vs : List V} (n : Nat), RepIs K H xs vs → RepIs K H (List.replicate n xs).flatten (List.replicate n vs).flatten
  | _, _, 0, _ => .nil
  | _, _, n + 1, r => by rw [List.replicate_succ, List.replicate_succ, List.flatten_cons, List.flatten_cons]; exact RepIs.append r (RepIs.flat n r)
end
/-! the scalars -/
theorem RepI.int_iff {K : PySem.W.Frag} {H : Hp} {i : Int} {v : V} : RepI K H (.int i) v ↔ v = .int i := ⟨fun h => by cases h; rfl, fun h => by subst h; exact .int i⟩
theorem RepIs.ints {K : PySem.W.Frag} {H : Hp} : ∀ {xs : List I} {ns : List Int} {vs : List V}, RepIs K H xs vs → asInts xs = some ns → vs = ns.map V.int
  | [], _, _, .nil, e => by cases e; rfl
  | x :: xs, ns, _, .cons h r, e => by
    cases h with
    | int i =>
      simp only [asInts, Option.map_eq_some_iff] at e
      obtain ⟨ms, e1, rfl⟩ := e
      rw [RepIs.ints r e1]; rfl
    | non => cases e
    | bl b => cases e
    | str s => cases e
    | tup a b => cases e
    | dic h => cases e
    | exc h => cases e
    | dk h => cases e
    | dt h => cases e
theorem RepIs.bls {K : PySem.W.Frag} {H : Hp} : ∀ {xs : List I} {ns : List Bool} {vs : List V}, RepIs K H xs vs → asBls xs = some ns → vs = ns.map V.bl
  | [], _, _, .nil, e => by cases e; rfl
  | x :: xs, ns, _, .cons h r, e => by
    cases h with
    | bl i =>
      simp only [asBls, Option.map_eq_some_iff] at e
      obtain ⟨ms, e1, rfl⟩ := e
      rw [RepIs.bls r e1]; rfl
    | non => cases e
    | int b => cases e
    | str s => cases e
    | tup a b => cases e
    | dic h => cases e
    | exc h => cases e
    | dk h => cases e
    | dt h => cases e
theorem RepIs.strs' {K : PySem.W.Frag} {H : Hp} : ∀ {xs : List I} {ns : List Str} {vs : List V}, RepIs K H xs vs → asStrs xs = some ns → vs = ns.map V.str
  | [], _, _, .nil, e => by cases e; rfl
  | x :: xs, ns, _, .cons h r, e => by
    cases h with
    | str i =>
      simp only [asStrs, Option.map_eq_some_iff] at e
      obtain ⟨ms, e1, rfl⟩ := e
      rw [RepIs.strs' r e1]; rfl
    | non => cases e
    | int b => cases e
    | bl s => cases e
    | tup a b => cases e
    | dic h => cases e
    | exc h => cases e
    | dk h => cases e
    | dt h => cases e
theorem RepIs.ofInts {K : PySem.W.Frag} {H : Hp} : ∀ (ns : List Int), RepIs K H (ns.map .int) (ns.map V.int)
  | [] => .nil
  | n :: r => .cons (.int n) (RepIs.ofInts r)
theorem RepIs.ofStrs {K : PySem.W.Frag} {H : Hp} : ∀ (ns : List Str), RepIs K H (ns.map .str) (ns.map V.str)
  | [] => .nil
  | n :: r => .cons (.str n) (RepIs.ofStrs r)
end Iv

/-! Iv D: values by tags; operators, built-ins. -/
namespace Iv
open PySem PySem.Spec PyProof.Rows L2

/-- the frame's own: the heap at its entry, the addresses of lists that were handed in, what each owning slot owns -/
structure Fm where
  H0 : Hp
  ok0 : AP'
  O : Nat → AP'
  ban : AP'
structure FmAt (fm : Fm) (Hs : Hp) : Prop where
  same : Same fm.H0 Hs
  disj : ∀ i j a, fm.O i a → fm.O j a → i = j
  fresh : ∀ i a, fm.O i a → fm.H0 a = none
  own : ∀ i a, fm.O i a → ∃ vs, Hs a = some (.lst vs)
  ob : ∀ i a, fm.O i a → ¬ fm.ban a
  bt : ∀ a, fm.ban a → Hs a ≠ none
theorem FmAt.trk {fm : Fm} {Hs : Hp} (f : FmAt fm Hs) (i : Nat) (a : Addr) (o : fm.O i a) : Hs a ≠ none := fun z => by obtain ⟨vs, e⟩ := f.own i a o; rw [e] at z; cases z
theorem FmAt.mono {fm : Fm} {Hs H : Hp} (f : FmAt fm Hs) (s : Same Hs H) : FmAt fm H := ⟨f.same.trans s, f.disj, f.fresh, fun i a o => let ⟨vs, e⟩ := f.own i a o; ⟨vs, s _ _ e⟩, f.ob, fun a b z => f.bt a b (s.none z)⟩
def NdI (fm : Fm) (t : Tag) (Hs : Hp) : AP' := fun a => (t.lv = 0 → Hs a = none) ∧ (t.lv ≤ 1 → fm.H0 a = none) ∧ (fm.ok0 a ∨ fm.H0 a = none) ∧ (∀ j, fm.O j a → (j, true) ∈ t.bw) ∧ ¬ fm.ban a
def NdR (fm : Fm) (t : Tag) (Hs : Hp) : AP' := fun a => (t.fr = true ∨ t.lv = 0 → Hs a = none) ∧ (t.lv ≤ 1 → fm.H0 a = none) ∧ (fm.ok0 a ∨ fm.H0 a = none) ∧ (∀ j, fm.O j a → ∃ b, (j, b) ∈ t.bw) ∧ ¬ fm.ban a
abbrev VR (K : PySem.W.Frag) (fm : Fm) (Hs H : Hp) (x : DT) (v : V) : Prop := Rep K H (NdR fm x.2 Hs) (NdI fm x.2 Hs) x.1 v
abbrev VRs (K : PySem.W.Frag) (fm : Fm) (Hs H : Hp) : List DT → List V → Prop := Paired (VR K fm Hs H)
def Tag.le (t s : Tag) : Prop := t.lv ≤ s.lv ∧ ∀ j, (j, true) ∈ t.bw → (j, true) ∈ s.bw
theorem NdI.le {fm : Fm} {t s : Tag} {Hs : Hp} (h : t.le s) {a : Addr} (n : NdI fm t Hs a) : NdI fm s Hs a :=
  ⟨fun e => n.1 (Nat.le_zero.mp (e ▸ h.1)), fun e => n.2.1 (Nat.le_trans h.1 e), n.2.2.1, fun j o => h.2 j (n.2.2.2.1 j o), n.2.2.2.2⟩
theorem NdI.back {fm : Fm} {t : Tag} {Hs Hs' : Hp} (s : Same Hs' Hs) {a : Addr} (n : NdI fm t Hs a) : NdI fm t Hs' a := ⟨fun e => s.none (n.1 e), n.2⟩
theorem NdR.back {fm : Fm} {t : Tag} {Hs Hs' : Hp} (s : Same Hs' Hs) {a : Addr} (n : NdR fm t Hs a) : NdR fm t Hs' a := ⟨fun e => s.none (n.1 e), n.2⟩
/-- a new address -/
theorem NdR.new {fm : Fm} {t : Tag} {Hs H : Hp} (f : FmAt fm Hs) (s : Same Hs H) {p : Addr} (h : H p = none) : NdR fm t Hs p :=
  ⟨fun _ => s.none h, fun _ => (f.same.trans s).none h, .inr ((f.same.trans s).none h), fun j o => absurd (s.none h) (f.trk j p o), fun b => f.bt p b (s.none h)⟩
theorem NdI.new {fm : Fm} {t : Tag} {Hs H : Hp} (f : FmAt fm Hs) (s : Same Hs H) {p : Addr} (h : H p = none) : NdI fm t Hs p :=
  ⟨fun _ => s.none h, fun _ => (f.same.trans s).none h, .inr ((f.same.trans s).none h), fun j o => absurd (s.none h) (f.trk j p o), fun b => f.bt p b (s.none h)⟩
theorem NdR.child {fm : Fm} {t : Tag} {Hs : Hp} {a : Addr} (n : NdI fm t Hs a) : NdR fm t.child Hs a := by
  refine ⟨fun e => n.1 ?_, n.2.1, n.2.2.1, fun j o => ⟨true, List.mem_filter.mpr ⟨n.2.2.2.1 j o, rfl⟩⟩, n.2.2.2.2⟩
  rcases e with e | e
  · exact eq_of_beq e
  · exact e
theorem NdI.child {fm : Fm} {t : Tag} {Hs : Hp} {a : Addr} (n : NdI fm t Hs a) : NdI fm t.child Hs a :=
  ⟨n.1, n.2.1, n.2.2.1, fun j o => List.mem_filter.mpr ⟨n.2.2.2.1 j o, rfl⟩, n.2.2.2.2⟩
/-- what was under a root as an inner one -/
theorem NdI.ofR {fm : Fm} {t : Tag} {Hs : Hp} {a : Addr} (n : NdR fm t Hs a) : NdI fm t.root Hs a :=
  ⟨fun e => n.1 (.inr e), n.2.1, n.2.2.1, fun j o => (by
    obtain ⟨b, h⟩ := n.2.2.2.1 j o
    exact List.mem_map.mpr ⟨_, h, rfl⟩), n.2.2.2.2⟩
theorem NdI.ofI {fm : Fm} {t : Tag} {Hs : Hp} {a : Addr} (n : NdI fm t Hs a) : NdI fm t.root Hs a :=
  ⟨n.1, n.2.1, n.2.2.1, fun j o => List.mem_map.mpr ⟨_, n.2.2.2.1 j o, rfl⟩, n.2.2.2.2⟩
theorem vr_norm {K : PySem.W.Frag} {fm : Fm} {Hs H : Hp} {d : D} {t : Tag} {v : V} (h : Rep K H (NdR fm t Hs) (NdI fm t Hs) d v) : VR K fm Hs H (norm d t) v := by
  cases d with
  | imm i => cases h with | imm r => exact .imm r
  | lsi xs => exact h
  | lsd xs => exact h
  | tpd xs => exact h
  | scr xs => exact h
theorem vr_kid {K : PySem.W.Frag} {fm : Fm} {Hs H : Hp} {d : D} {t : Tag} {v : V} {q : AP'} (hq : ∀ a, q a → NdI fm t Hs a) (h : Rep K H q q d v) : VR K fm Hs H (norm d t.child) v :=
  vr_norm (h.weak (fun a z => NdR.child (hq a z)) fun a z => NdI.child (hq a z))
theorem VR.imm {K : PySem.W.Frag} {fm : Fm} {Hs H : Hp} {i : I} {v : V} (h : RepI K H i v) : VR K fm Hs H (pim i) v := Rep.imm h
theorem VR.back {K : PySem.W.Frag} {fm : Fm} {Hs Hs' H : Hp} (s : Same Hs' Hs) {x : DT} {v : V} (h : VR K fm Hs H x v) : VR K fm Hs' H x v := Rep.weak (fun _ n => n.back s) (fun _ n => n.back s) h
theorem VR.same {K : PySem.W.Frag} {fm : Fm} {Hs H H' : Hp} (s : Same H H') {x : DT} {v : V} (h : VR K fm Hs H x v) : VR K fm Hs H' x v := Rep.same s h

/-- what is wanted of a reckoning -/
def Wq (K : PySem.W.Frag) (fm : Fm) (W : String → Hp → Prop) (Hs H : Hp) (r : M DT) (Q : VK) : Prop := match r with
  | .ok x => ∀ v H', Same H H' → VR K fm Hs H' x v → Q v H'
  | .exc c => ∀ H', Same H H' → W c H'
  | .bad => False
section
variable {X : Cx} {fm : Fm} {W : String → Hp → Prop} {Hs H : Hp} {Q : VK}
theorem Wq.imm {i : I} {v : V} (h : Wq X.K fm W Hs H (.ok (pim i)) Q) (r : RepI X.K H i v) : Q v H := h v H Same.refl (.imm r)
theorem Wq.newLsi {xs : List I} {t : Tag} {vs : List V} (h : Wq X.K fm W Hs H (.ok (.lsi xs, t)) Q) (f : FmAt fm Hs) (s : Same Hs H) (r : RepIs X.K H xs vs) : ∀ p, H p = none → Q (.ref p) (upd H p (.lst vs)) :=
  fun p hp => h _ _ (Same.new hp) (.lsi (NdR.new f s hp) upd_same (r.same (Same.new hp)))
theorem Wq.newTup {xs : List I} {vs : List V} (h : Wq X.K fm W Hs H (.ok (pim (.tup xs))) Q) (r : RepIs X.K H xs vs) : ∀ p, H p = none → Q (.ref p) (upd H p (.tup vs)) :=
  fun p hp => h _ _ (Same.new hp) (.imm (.tup (.inl (.inl upd_same)) (r.same (Same.new hp))))
theorem Wq.newLsd {xs : List D} {t : Tag} {vs : List V} {q : AP'} (h : Wq X.K fm W Hs H (.ok (.lsd xs, t)) Q) (f : FmAt fm Hs) (s : Same Hs H) (r : Reps X.K H q xs vs) (hq : ∀ a, q a → NdI fm t Hs a) (ht : ∀ a, q a → H a ≠ none) : ∀ p, H p = none → Q (.ref p) (upd H p (.lst vs)) :=
  fun p hp => h _ _ (Same.new hp) (.lsd (NdR.new f s hp) upd_same ((r.weak fun a z => ⟨hq a z, fun e => ht a z (e ▸ hp)⟩).same (Same.new hp)))
end
mutual
/-- every list's address is tracked -/
theorem Rep.trk {K : PySem.W.Frag} {H : Hp} : ∀ {x : D} {v : V} {p q : AP'}, Rep K H p q x v → Rep K H p (fun a => q a ∧ H a ≠ none) x v
  | _, _, _, _, .imm r => .imm r
  | _, _, _, _, .lsi h e r => .lsi h e r
  | _, _, _, _, .lsd h e r => .lsd h e ((Reps.trk r).weak fun a z => ⟨⟨z.1.1, z.2⟩, z.1.2⟩)
  | _, _, _, _, .tpd h r => .tpd h (Reps.trk r)
  | _, _, _, _, .scr h r => .scr h r
  | _, _, _, _, .scrK h => .scrK h
theorem Reps.trk {K : PySem.W.Frag} {H : Hp} : ∀ {x : List D} {v : List V} {q : AP'}, Reps K H q x v → Reps K H (fun a => q a ∧ H a ≠ none) x v
  | _, _, _, .nil => .nil
  | d :: ds, _, _, .cons z h r => .cons z (match d, z, h with
      | _, _, .imm r => .imm r
      | _, _, .lsi h e r => .lsi ⟨h, fun z => by rw [e] at z; cases z⟩ e r
      | _, _, .lsd h e r => .lsd ⟨h, fun z => by rw [e] at z; cases z⟩ e ((Reps.trk r).weak fun a z => ⟨⟨z.1.1, z.2⟩, z.1.2⟩)
      | _, _, .tpd h r => .tpd h (Reps.trk r)
      | .scr _, z, .scr _ _ => nomatch z
      | .scr _, z, .scrK _ => nomatch z) (Reps.trk r)
end
theorem Rep.trkR {K : PySem.W.Frag} {H : Hp} {x : D} {v : V} {p q : AP'} (h : Rep K H p q x v) : Rep K H (fun a => p a ∧ H a ≠ none) (fun a => q a ∧ H a ≠ none) x v := by
  cases h with
  | imm r => exact .imm r
  | lsi h e r => exact .lsi ⟨h, fun z => by rw [e] at z; cases z⟩ e r
  | lsd h e r => exact .lsd ⟨h, fun z => by rw [e] at z; cases z⟩ e ((Reps.trk r).weak fun a z => ⟨⟨z.1.1, z.2⟩, z.1.2⟩)
  | tpd h r => exact .tpd h (Reps.trk r)
  | scr h r => exact .scr ⟨h, fun z => by rcases r with r | ⟨o, r⟩ <;> (rw [r] at z; cases z)⟩ r
  | scrK h => exact .scrK h
end Iv

set_option maxHeartbeats 4000000
/-! Iv Da: a tuple times one, times nought. -/
namespace L2
open PySem PySem.Spec PyProof.Rows
theorem tuple_mulW1 (l : Addr) (items : Array Value) (n : Nat) (dd : Option Addr) (sl : Array (Option Value)) (u : Tok) (c1 : (items.isEmpty || (1 : Int) == 1) = true) :
    Meets (Builtin.«tuple.__mul__» ⟨[.ref l, .int 1 u], []⟩) (fun _ R s => s.heap.get? l = some { cls := .type "tuple", dict := dd, data := .seq items n, slots := sl } ∧
      R (.ok (.ret (Value.ref l))) s) :=
  .of_wp fun prog w A R s h => by
    obtain ⟨hp, g, d, tk, os⟩ := s
    obtain ⟨hl, h⟩ := h
    have f1 := AutoSeq1.idx_int
    wp_walk using wpAny_loadPart' hl
    repeat (first
      | (refine wpAny_ite_false (decide_eq_false (by decide)) ?_; wp_walk using wpAny_loadPart' hl)
      | (refine wpAny_ite_true (decide_eq_true (by rw [c1])) ?_; wp_walk using wpAny_loadPart' hl))
    exact ⟨_, rfl, h⟩
theorem tuple_mulW0 (l : Addr) (items : Array Value) (n : Nat) (dd : Option Addr) (sl : Array (Option Value)) (x : Int) (u : Tok) (c0 : (decide (x < -(2 ^ 63)) || decide (x ≥ 2 ^ 63)) = false) (c1 : (items.isEmpty || x == 1) = false) (c2 : (decide (x ≤ 0) || items.isEmpty) = true) :
    Meets (Builtin.«tuple.__mul__» ⟨[.ref l, .int x u], []⟩) (fun _ R s => s.heap.get? l = some { cls := .type "tuple", dict := dd, data := .seq items n, slots := sl } ∧
      R (.ok (.ret (Value.ref s.heap.objs.size))) { s with heap := s.heap.push { cls := Value.type "tuple", data := Data.seq #[] }, toks := s.toks }) :=
  .of_wp fun prog w A R s h => by
    obtain ⟨hp, g, d, tk, os⟩ := s
    obtain ⟨hl, h⟩ := h
    have f1 := AutoSeq1.idx_int
    wp_walk using wpAny_loadPart' hl
    repeat (first
      | (refine wpAny_ite_false (decide_eq_false (by rw [c0]; exact Bool.false_ne_true)) ?_; wp_walk using wpAny_loadPart' hl)
      | (refine wpAny_ite_false (decide_eq_false (by rw [c1]; exact Bool.false_ne_true)) ?_; wp_walk using wpAny_loadPart' hl)
      | (refine wpAny_ite_true (decide_eq_true (by rw [c2])) ?_; wp_walk using wpAny_loadPart' hl))
    exact ⟨_, rfl, h⟩
def rRepA (K : PySem.W.Frag) : R2 := fun x y H Q => ∃ l k xs, x = .ref l ∧ y = .int k ∧ SqT K H l xs ∧ xs ≠ [] ∧ -1000 ≤ k ∧ k ≤ 1000 ∧ xs.length ≤ 1000 ∧ (k = 1 → Q (.ref l) H) ∧ (k ≤ 0 → ∀ p, H p = none → Q (.ref p) (upd H p (.tup []))) ∧ (2 ≤ k → ∀ p, H p = none → Q (.ref p) (upd H p (.tup (List.replicate k.toNat xs).flatten)))
section
variable {X : Cx}
theorem op_repA : OpR X (binaryOp .Mult) (rRepA X.K) := by
  intro pins s σ H x y v u Q I rx ry h
  obtain ⟨l, k, xs, rfl, rfl, hT, hne, h1, h2, hz, q1, q0, q2⟩ := h
  by_cases hk : 2 ≤ k
  · exact op_repT pins s σ H _ _ v u Q I rx ry ⟨l, k, xs, rfl, rfl, hT, hne, hk, h2, hz, q2 hk⟩
  cases rx
  obtain ⟨t, rfl⟩ := ry
  obtain ⟨its, r, ⟨⟨cls, dd, data, sl⟩, ho, hc, n, hd⟩, hs⟩ := I.tuple hT
  simp only at hc hd
  subst hc hd
  have hle : its.length = xs.length := r.length.symm
  have hn : its ≠ [] := fun e => hne (by
    rw [e] at hle
    exact List.eq_nil_of_length_eq_zero hle.symm)
  have hi : its.toArray.isEmpty = false := by
    cases its with
    | nil => exact absurd rfl hn
    | cons a b => rfl
  by_cases hk1 : k = 1
  · subst hk1
    refine wpAny_binaryOp_repeat_ref (T := "tuple") (U := "int") (by decide) ⟨_, ho, rfl⟩ (fun s' => typeIs_int s' 1 t) noFill_tuple_mul F.fills_int_mul F.slot_int_rmul repeat_tuple F.slot_int_index.lookup
      (call_meets F.slot_int_rmul (typeIs_int s 1 t) F.entry_int_rmul (F.args_int_rmul_2 _ _) (int_rmul_tuple 1 t l its.toArray n dd sl)
        ⟨ho, rfl, ⟨_, ho, rfl⟩, call_meets F.slot_tuple_mul ⟨_, ho, rfl⟩ F.entry_tuple_mul (F.args_tuple_mul_2 _ _) (tuple_mulW1 l its.toArray n dd sl t (by rw [hi]; rfl)) ⟨ho, ?_⟩⟩)
    exact ⟨.ref l, H, I, rfl, q1 rfl⟩
  · have c0 : (decide (k < -(2 ^ 63)) || decide (k ≥ 2 ^ 63)) = false := by
      rw [decide_eq_false (by omega), decide_eq_false (by omega)] <;> rfl
    have c1 : (its.toArray.isEmpty || k == 1) = false := by
      rw [hi, Bool.false_or]
      exact beq_eq_false_iff_ne.mpr (by omega)
    have c2 : (decide (k ≤ 0) || its.toArray.isEmpty) = true := by
      rw [hi, Bool.or_false]
      exact decide_eq_true (by omega)
    refine wpAny_binaryOp_repeat_ref (T := "tuple") (U := "int") (by decide) ⟨_, ho, rfl⟩ (fun s' => typeIs_int s' k t) noFill_tuple_mul F.fills_int_mul F.slot_int_rmul repeat_tuple F.slot_int_index.lookup
      (call_meets F.slot_int_rmul (typeIs_int s k t) F.entry_int_rmul (F.args_int_rmul_2 _ _) (int_rmul_tuple k t l its.toArray n dd sl)
        ⟨ho, rfl, ⟨_, ho, rfl⟩, call_meets F.slot_tuple_mul ⟨_, ho, rfl⟩ F.entry_tuple_mul (F.args_tuple_mul_2 _ _) (tuple_mulW0 l its.toArray n dd sl k t c0 c1 c2) ⟨ho, ?_⟩⟩)
    refine ⟨.ref s.heap.objs.size, _, I.laid (t' := s.toks) (o := .tup []) (fun b ob q => Heap.get?_push_of_some _ q) (Nat.le_refl _) ?_, rfl, q0 (by omega) _ (I.hok.fresh (Nat.le_refl _))⟩
    exact ⟨Nat.zero_le _, _, .nil, IsTup.new _ _⟩
end
end L2

/-! Iv E: operators. -/
namespace Iv
open PySem PySem.Spec L2
open PyProof.Rows hiding St

/-- an operation on two values, by what it is on data -/
def rD2 (K : PySem.W.Frag) (g : DT → DT → M DT) : R2 := fun v u H Q => ∃ fm W Hs x y, FmAt fm Hs ∧ Same Hs H ∧ VR K fm Hs H x v ∧ VR K fm Hs H y u ∧ Wq K fm W Hs H (g x y) Q
theorem Wq.ite {K : PySem.W.Frag} {fm : Fm} {W : String → Hp → Prop} {Hs H : Hp} {Q : VK} {c : Prop} [Decidable c] {r : M DT} (h : Wq K fm W Hs H (if c then r else .bad) Q) : c ∧ Wq K fm W Hs H r Q := by
  by_cases hc : c
  · rw [if_pos hc] at h; exact ⟨hc, h⟩
  · rw [if_neg hc] at h; exact h.elim
theorem NdI.tagle {fm : Fm} {t s : Tag} {Hs : Hp} (h : t.le s) : ∀ a, NdI fm t Hs a → NdI fm s Hs a := fun _ n => n.le h
section
variable {X : Cx} {fm : Fm} {W : String → Hp → Prop} {Hs H : Hp} {Q : VK} {pins : List (Addr × Obj)} {σ : St} {s : Shared}
/-- the items of a list value -/
theorem lst_rd {x : D} {t : Tag} {v : V} {ds : List D} (h : VR X.K fm Hs H (x, t) v) (e : lstItems x = some ds) : ∃ a vs, v = .ref a ∧ H a = some (.lst vs) ∧ Reps X.K H (fun b => NdI fm t Hs b ∧ b ≠ a) ds vs := by
  cases h with
  | imm r => cases e
  | lsi h e' r => cases e; exact ⟨_, _, rfl, e', Reps.imms r⟩
  | lsd h e' r => cases e; exact ⟨_, _, rfl, e', r⟩
  | tpd h r => cases e
  | scr h r => cases e
  | scrK h => cases e
theorem cat_items {a b d : D} (h : cat a b = some d) : ∃ xs ys, lstItems a = some xs ∧ lstItems b = some ys ∧ lstItems d = some (xs ++ ys) ∧ xs.length + ys.length = dlen a + dlen b := by
  cases a <;> cases b <;> simp only [cat] at h <;> first | cases h | skip
  all_goals (refine ⟨_, _, rfl, rfl, ?_, ?_⟩ <;> simp [lstItems, dlen])
/-- a new list of such items -/
theorem Wq.newL {d : D} {ds : List D} {t : Tag} {vs : List V} {q : AP'} (h : Wq X.K fm W Hs H (.ok (d, t)) Q) (e : lstItems d = some ds) (f : FmAt fm Hs) (sm : Same Hs H) (r : Reps X.K H q ds vs) (hq : ∀ a, q a → NdI fm t Hs a) : ∀ p, H p = none → Q (.ref p) (upd H p (.lst vs)) := by
  cases d with
  | lsi xs => cases e; exact Wq.newLsi h f sm r.ofImms
  | lsd xs => cases e; exact Wq.newLsd h f sm (Reps.trk r) (fun a z => hq a z.1) fun a z => z.2
  | imm i => cases e
  | tpd i => cases e
  | scr i => cases e
end
theorem str_mul_eq (a : Str) (k : Nat) : True := trivial
section
variable {X : Cx}
theorem rep_imm {K : PySem.W.Frag} {H : Hp} {p q : AP'} {i : I} {v : V} (h : Rep K H p q (.imm i) v) : RepI K H i v := by cases h with | imm r => exact r
theorem repI_tup {K : PySem.W.Frag} {H : Hp} {xs : List I} {v : V} (h : RepI K H (.tup xs) v) : ∃ a vs, v = .ref a ∧ SqT K H a vs ∧ RepIs K H xs vs := by cases h with | tup a b => exact ⟨_, _, rfl, a, b⟩
theorem repI_int {K : PySem.W.Frag} {H : Hp} {i : Int} {v : V} (h : RepI K H (.int i) v) : v = .int i := by cases h; rfl
theorem repI_str {K : PySem.W.Frag} {H : Hp} {i : Str} {v : V} (h : RepI K H (.str i) v) : v = .str i := by cases h; rfl
theorem repI_bl {K : PySem.W.Frag} {H : Hp} {i : Bool} {v : V} (h : RepI K H (.bl i) v) : v = .bl i := by cases h; rfl
theorem repI_non {K : PySem.W.Frag} {H : Hp} {v : V} (h : RepI K H .non v) : v = .non := by cases h; rfl
theorem repIs_nil {K : PySem.W.Frag} {H : Hp} {xs : List I} (h : RepIs K H xs []) : xs = [] := by cases h; rfl
theorem repIs_nil' {K : PySem.W.Frag} {H : Hp} {vs : List V} (h : RepIs K H [] vs) : vs = [] := by cases h; rfl
theorem int_ok {fm : Fm} {W : String → Hp → Prop} {Hs H : Hp} {Q : VK} {pins : List (Addr × Obj)} {σ : St} {s : Shared} {i j : Int} {u1 u2 : Value} (op : Operator) (I1 : Inv X pins σ H s) (r1 : RelV (.int i) u1) (r2 : RelV (.int j) u2) (w : Wq X.K fm W Hs H ((intOp op i j).bind fun r => .ok (pim r)) Q) :
    wpAny (model X.prog X.w) X.A (binaryOp op u1 u2) (EP X pins σ Q) X.xe s := by
  cases op <;> simp only [intOp, M.bind] at w
  case Add => exact op_add pins s σ H _ _ u1 u2 Q I1 r1 r2 ⟨i, j, rfl, rfl, w.imm (.int _)⟩
  case Sub => exact op_sub pins s σ H _ _ u1 u2 Q I1 r1 r2 ⟨i, j, rfl, rfl, w.imm (.int _)⟩
  case Mult =>
    by_cases c : CMul i j
    · simp only [if_pos c, M.bind] at w; exact op_mul pins s σ H _ _ u1 u2 Q I1 r1 r2 ⟨i, j, rfl, rfl, c, w.imm (.int _)⟩
    · simp only [if_neg c, M.bind] at w; exact w.elim
  case FloorDiv =>
    by_cases c : CDiv i j
    · simp only [if_pos c, M.bind] at w; exact op_fdiv pins s σ H _ _ u1 u2 Q I1 r1 r2 ⟨i, j, rfl, rfl, c, w.imm (.int _)⟩
    · simp only [if_neg c, M.bind] at w; exact w.elim
  case Mod =>
    by_cases c : 0 < j
    · simp only [if_pos c, M.bind] at w; exact op_mod pins s σ H _ _ u1 u2 Q I1 r1 r2 ⟨i, j, rfl, rfl, c, w.imm (.int _)⟩
    · simp only [if_neg c, M.bind] at w; exact w.elim
  case Pow =>
    by_cases c : CPow i j
    · simp only [if_pos c, M.bind] at w; exact op_pow pins s σ H _ _ u1 u2 Q I1 r1 r2 ⟨i, j, rfl, rfl, c, w.imm (.int _)⟩
    · simp only [if_neg c, M.bind] at w; exact w.elim
  case LShift =>
    by_cases c : CPow i j
    · simp only [if_pos c, M.bind] at w; exact op_shl pins s σ H _ _ u1 u2 Q I1 r1 r2 ⟨i, j, rfl, rfl, c, w.imm (.int _)⟩
    · simp only [if_neg c, M.bind] at w; exact w.elim
  case RShift =>
    by_cases c : 0 ≤ j
    · simp only [if_pos c, M.bind] at w; exact op_shr pins s σ H _ _ u1 u2 Q I1 r1 r2 ⟨i, j, rfl, rfl, c, w.imm (.int _)⟩
    · simp only [if_neg c, M.bind] at w; exact w.elim
  case BitAnd => exact op_and pins s σ H _ _ u1 u2 Q I1 r1 r2 ⟨i, j, rfl, rfl, w.imm (.int _)⟩
  case BitOr => exact op_or pins s σ H _ _ u1 u2 Q I1 r1 r2 ⟨i, j, rfl, rfl, w.imm (.int _)⟩
  case BitXor => exact op_xor pins s σ H _ _ u1 u2 Q I1 r1 r2 ⟨i, j, rfl, rfl, w.imm (.int _)⟩
  all_goals exact w.elim
theorem kid_root0 {fm : Fm} {t : Tag} {Hs : Hp} {a : Addr} (n : NdI fm t Hs a) : NdI fm t.child.root Hs a := NdI.le (show t.le t.child.root from ⟨Nat.le_refl _, fun j hj => List.mem_map.mpr ⟨_, List.mem_filter.mpr ⟨hj, rfl⟩, rfl⟩⟩) n
theorem cat_ok {fm : Fm} {W : String → Hp → Prop} {Hs H : Hp} {Q : VK} {pins : List (Addr × Obj)} {σ : St} {s : Shared} {op : Operator} {x y : DT} {v1 v2 : V} {u1 u2 : Value} (I1 : Inv X pins σ H s) (r1 : RelV v1 u1) (r2 : RelV v2 u2) (f : FmAt fm Hs) (sm : Same Hs H) (h1 : VR X.K fm Hs H x v1) (h2 : VR X.K fm Hs H y v2)
    (w : Wq X.K fm W Hs H (catOp op x y) Q) : wpAny (model X.prog X.w) X.A (binaryOp op u1 u2) (EP X pins σ Q) X.xe s := by
  obtain ⟨x1, t1⟩ := x
  obtain ⟨y1, t2⟩ := y
  cases op <;> simp only [catOp] at w <;> try exact w.elim
  cases e : cat x1 y1 with
  | none => rw [e] at w; exact False.elim w
  | some d =>
    rw [e] at w
    obtain ⟨xs, ys, e1, e2, e3, el⟩ := cat_items e
    obtain ⟨hl, w⟩ := Wq.ite w
    obtain ⟨a, vs, rfl, ha, ra⟩ := lst_rd h1 e1
    obtain ⟨b, ws, rfl, hb, rb⟩ := lst_rd h2 e2
    refine op_cat pins s σ H _ _ u1 u2 Q I1 r1 r2 ⟨a, b, vs, ws, rfl, rfl, ha, hb, ?_, ?_⟩
    · rw [← Reps.len ra, ← Reps.len rb, el]; exact hl
    · refine Wq.newL w e3 f sm (q := fun c => NdI fm (t1.child.join t2.child).root Hs c) (Reps.append (ra.weak fun c z => ?_) (rb.weak fun c z => ?_)) fun c z => z
      · exact z.1.le ⟨Nat.le_max_left _ _, fun j hj => List.mem_map.mpr ⟨_, List.mem_append_left _ (List.mem_filter.mpr ⟨hj, rfl⟩), rfl⟩⟩
      · exact z.1.le ⟨Nat.le_max_right _ _, fun j hj => List.mem_map.mpr ⟨_, List.mem_append_right _ (List.mem_filter.mpr ⟨hj, rfl⟩), rfl⟩⟩
theorem op_strRep : OpR X (binaryOp .Mult) (fun x y H Q => ∃ a k, x = .str a ∧ y = .int k ∧ 2 ≤ k ∧ k ≤ 1000 ∧ 1 ≤ a.length ∧ a.length ≤ 1000 ∧ Q (.str (repS a k.toNat)) H) := by
  intro pins s σ H x y v u Q I rx ry h
  obtain ⟨a, k, rfl, rfl, k2, k3, a1, a2, q⟩ := h
  obtain ⟨t, rfl⟩ := rx
  obtain ⟨t', rfl⟩ := ry
  have hl : PySem.Builtin.Str.tooLong (a.length * k.toNat) = false := by
    have : a.length * k.toNat ≤ 1000 * 1000 := Nat.mul_le_mul a2 (by omega)
    unfold PySem.Builtin.Str.tooLong
    rw [sizeLine_eq]
    exact decide_eq_false (by omega)
  refine P.mul_str (by rw [decide_eq_false (by omega), decide_eq_false (by omega)]; rfl) (fun _ _ z => ?_) (fun _ _ => hl) ?_
  · have : (1000 : Int) ≤ (2 ^ 63 - 1) / k := (Int.le_ediv_iff_mul_le (by omega)).mpr (by omega)
    omega
  · rw [if_neg (by omega), if_neg (by simp; omega)]
    exact ⟨PySem.fits_reps hl, .str (repS a k.toNat), H, I.tok _, ⟨_, rfl⟩, q⟩
theorem bin_ok (op : Operator) : OpR X (binaryOp op) (rD2 X.K (binD op)) := by
  intro pins s σ H v1 v2 u1 u2 Q I1 r1 r2 h
  obtain ⟨fm, W, Hs, ⟨x, t1⟩, ⟨y, t2⟩, f, sm, h1, h2, w⟩ := h
  have gen : (∀ (w : Wq X.K fm W Hs H (catOp op (x, t1) (y, t2)) Q), wpAny (model X.prog X.w) X.A (binaryOp op u1 u2) (EP X pins σ Q) X.xe s) := fun w => cat_ok I1 r1 r2 f sm h1 h2 w
  cases x with
  | imm i =>
    have hi := rep_imm h1
    cases y with
    | imm j =>
      have hj := rep_imm h2
      cases i <;> cases j <;> try exact gen w
      case int.int i j =>
        cases repI_int hi; cases repI_int hj
        exact int_ok op I1 r1 r2 w
      case str.str a b =>
        cases repI_str hi; cases repI_str hj
        have w : Wq X.K fm W Hs H (strOp op a b) Q := w
        cases op <;> simp only [strOp] at w <;> try exact w.elim
        obtain ⟨c, w⟩ := w.ite
        exact op_add_str pins s σ H _ _ u1 u2 Q I1 r1 r2 ⟨a, b, rfl, rfl, c, w.imm (.str _)⟩
      case tup.tup a b =>
        obtain ⟨p, vs, rfl, hp, ra⟩ := repI_tup hi
        obtain ⟨q, ws, rfl, hq, rb⟩ := repI_tup hj
        have w : Wq X.K fm W Hs H (tupOp op a b) Q := w
        cases op <;> simp only [tupOp] at w <;> try exact w.elim
        obtain ⟨c, w⟩ := w.ite
        refine op_catA pins s σ H _ _ u1 u2 Q I1 r1 r2 ⟨p, q, vs, ws, rfl, rfl, hp, hq, by rw [← RepIs.len ra, ← RepIs.len rb]; exact c, fun e => ?_, fun _ e => ?_, fun _ _ => ?_⟩
        · subst e; cases repIs_nil ra; exact w.imm (.tup hq rb)
        · subst e; cases repIs_nil rb; rw [List.append_nil] at w; exact w.imm (.tup hp ra)
        · exact w.newTup (RepIs.append ra rb)
      case str.int a k =>
        cases repI_str hi
        cases repI_int hj
        have w : Wq X.K fm W Hs H (strRep op a k) Q := w
        cases op <;> simp only [strRep] at w <;> try exact w.elim
        obtain ⟨⟨c1, c2, c3, c4⟩, w⟩ := w.ite
        exact op_strRep pins s σ H _ _ u1 u2 Q I1 r1 r2 ⟨a, k, rfl, rfl, c1, c2, c3, c4, w.imm (.str _)⟩
      case tup.int a k =>
        obtain ⟨p, vs, rfl, hp, ra⟩ := repI_tup hi
        cases repI_int hj
        have w : Wq X.K fm W Hs H (tupRep op a k) Q := w
        cases op <;> simp only [tupRep] at w <;> try exact w.elim
        obtain ⟨⟨c1, c2, c3, c4⟩, w⟩ := w.ite
        refine op_repA pins s σ H _ _ u1 u2 Q I1 r1 r2 ⟨p, k, vs, rfl, rfl, hp, ?_, c2, c3, by rw [← RepIs.len ra]; exact c4, fun e => ?_, fun e => ?_, fun _ => w.newTup (RepIs.flat _ ra)⟩
        · rintro rfl
          cases repIs_nil ra
          cases c1
        · subst e
          have e2 : (List.replicate (1 : Int).toNat a).flatten = a := by simp
          rw [e2] at w
          exact w.imm (.tup hp ra)
        · have e2 : (List.replicate k.toNat a).flatten = [] := by rw [show k.toNat = 0 by omega]; rfl
          rw [e2] at w
          exact w.newTup .nil
    | lsi _ => cases i <;> exact gen w
    | lsd _ => cases i <;> exact gen w
    | tpd b =>
      cases i <;> try exact gen w
      case tup a =>
        obtain ⟨p, vs, rfl, hp, ra⟩ := repI_tup hi
        have w : Wq X.K fm W Hs H (tupC op a b (.tpd b, t2)) Q := w
        cases op <;> simp only [tupC] at w <;> try exact w.elim
        obtain ⟨⟨c1, c2⟩, w⟩ := w.ite
        cases h2 with
        | tpd hq rb =>
          refine op_catA pins s σ H _ _ u1 u2 Q I1 r1 r2 ⟨p, _, vs, _, rfl, rfl, hp, hq, by rw [← RepIs.len ra, ← Reps.len rb]; exact c2, fun e => ?_, fun _ e => ?_, fun e _ => ?_⟩
          · subst e
            cases repIs_nil ra
            exact w _ _ Same.refl (.tpd hq rb)
          · subst e
            cases rb
            cases c1
          · rw [if_neg (fun z => e (by cases a with
              | nil => cases ra; rfl
              | cons _ _ => cases z))] at w
            exact fun p hp => w _ _ (Same.new hp) (.tpd (.inl (.inl upd_same)) (((Reps.append (Reps.imms ra) rb).weak fun a z => kid_root0 z).same (Same.new hp)))
    | scr _ => cases i <;> exact gen w
  | lsi xs =>
    cases y with
    | imm j =>
      have hj := rep_imm h2
      cases j <;> try exact gen w
      case int k =>
        cases repI_int hj
        have w : Wq X.K fm W Hs H (repOp op xs k) Q := w
        cases op <;> simp only [repOp] at w <;> try exact w.elim
        obtain ⟨c, w⟩ := w.ite
        cases h1 with
        | lsi hp e r =>
          refine op_rep pins s σ H _ _ u1 u2 Q I1 r1 r2 ⟨_, k, _, rfl, rfl, e, by omega, by omega, ?_, ?_⟩
          · rw [← RepIs.len r, sizeLine_eq]; omega
          · exact w.newLsi f sm (RepIs.flat _ r)
    | lsi _ => exact gen w
    | lsd _ => exact gen w
    | tpd _ => exact gen w
    | scr _ => exact gen w
  | lsd xs => cases y <;> exact gen w
  | tpd a =>
    cases y with
    | imm j =>
      have hj := rep_imm h2
      cases j <;> try exact gen w
      case tup b =>
        obtain ⟨q, ws, rfl, hq, rb⟩ := repI_tup hj
        have w : Wq X.K fm W Hs H (tupCr op a b (.tpd a, t1)) Q := w
        cases op <;> simp only [tupCr] at w <;> try exact w.elim
        obtain ⟨⟨c1, c2⟩, w⟩ := w.ite
        cases h1 with
        | tpd hp ra =>
          refine op_catA pins s σ H _ _ u1 u2 Q I1 r1 r2 ⟨_, q, _, ws, rfl, rfl, hp, hq, by rw [← Reps.len ra, ← RepIs.len rb]; exact c2, fun e => ?_, fun _ e => ?_, fun _ e => ?_⟩
          · subst e
            cases ra
            cases c1
          · subst e
            cases repIs_nil rb
            exact w _ _ Same.refl (.tpd hp ra)
          · rw [if_neg (fun z => e (by cases b with
              | nil => cases rb; rfl
              | cons _ _ => cases z))] at w
            exact fun p hp => w _ _ (Same.new hp) (.tpd (.inl (.inl upd_same)) (((Reps.append ra (Reps.imms rb)).weak fun a z => kid_root0 z).same (Same.new hp)))
    | _ => exact gen w
  | scr xs => cases y <;> exact gen w
end
end Iv

namespace Iv
open PySem PySem.Spec L2 PySem.SeqAt PySem.W
section
variable {prog : Program} {w : World} {K : Type} [DecidableEq K] {knd : KeyKind prog w K} {A : Around} {E Q : Value → Shared → Prop} {s : Shared} {a b : Addr} {ka : List (K × Value)} {items : Array Value}
theorem tup_typeIs (hb : s.heap.IsTuple b items) : s.TypeIs (.ref b) "tuple" := by
  obtain ⟨o, ho, hc, _⟩ := hb
  exact ⟨o, ho, hc⟩
theorem dict_eq_declines_tuple (da : s.heap.DictOf knd a ka) (hb : s.heap.IsTuple b items) (h : Q .notImplemented s) : wpAny (model prog w) A (call (.builtin "dict.__eq__") [.ref a, .ref b]) Q E s := by
  refine wpAny_call_entry PySem.F.slot_dict_eq da.typeIs PySem.F.entry_dict_eq ?_ (PySem.F.args_dict_eq_2 _ _)
  show wpAny _ _ (Builtin.Dict.dictSlotArgs "__eq__" ⟨[.ref a, .ref b], []⟩ >>= _) _ _ s
  refine wpAny_bind ?_
  unfold Builtin.Dict.dictSlotArgs
  refine wpAny_bind (wpAny_notOrdered_dict da.typeIs ?_)
  show wpAny _ _ (pure (Value.ref a, Value.ref b)) _ _ s
  refine wpAny_pure ?_
  refine wpAny_bind (wpAny_isInstance (T := "tuple") (tup_typeIs hb) PySem.F.sub_tuple_dict ?_)
  simp only [Bool.not_false, if_true]
  refine wpAny_bind (wpAny_rule ?_)
  exact wpAny_pure ⟨_, rfl, h⟩
theorem tuple_eq_declines_dict (da : s.heap.DictOf knd a ka) (hb : s.heap.IsTuple b items) (h : Q .notImplemented s) : wpAny (model prog w) A (call (.builtin "tuple.__eq__") [.ref b, .ref a]) Q E s := by
  refine wpAny_call_entry PySem.F.slot_tuple_eq_refl (tup_typeIs hb) PySem.F.entry_tuple_eq ?_ (PySem.F.args_tuple_eq_2 _ _)
  have hd := da.typeIs
  unfold Builtin.«tuple.__eq__»
  refine wpAny_bind ?_
  show wpAny _ _ (pure (Value.ref b, [Value.ref a])) _ _ s
  refine wpAny_pure ?_
  refine wpAny_bind (wpAny_isInstance (T := "dict") hd PySem.F.sub_dict_tuple ?_)
  simp only [Bool.not_false, if_true]
  exact wpAny_pure ⟨_, rfl, h⟩
theorem dict_ne_declines_tuple (da : s.heap.DictOf knd a ka) (hb : s.heap.IsTuple b items) (h : Q .notImplemented s) : wpAny (model prog w) A (call (.builtin "dict.__ne__") [.ref a, .ref b]) Q E s := by
  refine wpAny_call_entry PySem.F.slot_dict_ne da.typeIs PySem.F.entry_dict_ne ?_ (PySem.F.args_dict_ne_2 _ _)
  show wpAny _ _ (Builtin.Dict.dictSlotArgs "__ne__" ⟨[.ref a, .ref b], []⟩ >>= _) _ _ s
  refine wpAny_bind ?_
  unfold Builtin.Dict.dictSlotArgs
  refine wpAny_bind (wpAny_notOrdered_dict da.typeIs ?_)
  show wpAny _ _ (pure (Value.ref a, Value.ref b)) _ _ s
  refine wpAny_pure ?_
  refine wpAny_bind (wpAny_isInstance (T := "tuple") (tup_typeIs hb) PySem.F.sub_tuple_dict ?_)
  simp only [Bool.not_false, if_true]
  refine wpAny_bind (wpAny_rule ?_)
  exact wpAny_pure ⟨_, rfl, h⟩
theorem tuple_ne_declines_dict (da : s.heap.DictOf knd a ka) (hb : s.heap.IsTuple b items) (h : Q .notImplemented s) : wpAny (model prog w) A (call (.builtin "tuple.__ne__") [.ref b, .ref a]) Q E s := by
  refine wpAny_call_entry PySem.F.slot_tuple_ne_refl (tup_typeIs hb) PySem.F.entry_tuple_ne ?_ (PySem.F.args_tuple_ne_2 _ _)
  have hd := da.typeIs
  unfold Builtin.«tuple.__ne__»
  refine wpAny_bind ?_
  show wpAny _ _ (pure (Value.ref b, [Value.ref a])) _ _ s
  refine wpAny_pure ?_
  refine wpAny_bind (wpAny_isInstance (T := "dict") hd PySem.F.sub_dict_tuple ?_)
  simp only [Bool.not_false, if_true]
  exact wpAny_pure ⟨_, rfl, h⟩
theorem ne_dict_tuple (da : s.heap.DictOf knd a ka) (hb : s.heap.IsTuple b items) : a ≠ b := fun e => by
  subst e
  obtain ⟨o, ho, hc⟩ := da.typeIs
  obtain ⟨o2, ho2, hc2, _⟩ := hb
  rw [ho] at ho2
  cases ho2
  rw [hc] at hc2
  exact absurd hc2 (by simp)
end
theorem dict_tuple_eq {P : Program} {w : World} {K : Type} [DecidableEq K] {knd : KeyKind P w K} {A : Around} {s : Shared} {a b : Addr} {ka : List (K × Value)} {items : Array Value} (da : s.heap.DictOf knd a ka) (hb : s.heap.IsTuple b items) (hu : A.units < cLine) {E Q : Value → Shared → Prop} (h : Q (.bool false) s) : wpAny (model P w) A (richCompare .Eq (.ref a) (.ref b)) Q E s := by
  have hne := ne_dict_tuple da hb
  obtain ⟨o, ho, hc⟩ := da.typeIs
  obtain ⟨o2, ho2, _⟩ := id hb
  refine rc_eq_decline_or (k := false) da.typeIs (tup_typeIs hb) (by decide) PySem.F.sub_tuple_dict PySem.F.slot_dict_eq PySem.F.slot_tuple_eq_refl
    (fun _ hq => dict_eq_declines_tuple da hb hq) (fun _ hq => tuple_eq_declines_dict da hb hq) (fun _ hq => ?_) (.inr hu) h
  exact wpAny_isSame_ref_other hne ho ho2 (by rw [hc]; simp) hq
theorem dict_tuple_ne {P : Program} {w : World} {K : Type} [DecidableEq K] {knd : KeyKind P w K} {A : Around} {s : Shared} {a b : Addr} {ka : List (K × Value)} {items : Array Value} (da : s.heap.DictOf knd a ka) (hb : s.heap.IsTuple b items) (hu : A.units < cLine) {E Q : Value → Shared → Prop} (h : Q (.bool true) s) : wpAny (model P w) A (richCompare .NotEq (.ref a) (.ref b)) Q E s := by
  have hne := ne_dict_tuple da hb
  obtain ⟨o, ho, hc⟩ := da.typeIs
  obtain ⟨o2, ho2, _⟩ := id hb
  refine rc_ne_decline_or (k := false) da.typeIs (tup_typeIs hb) (by decide) PySem.F.sub_tuple_dict PySem.F.slot_dict_ne PySem.F.slot_tuple_ne_refl
    (fun _ hq => dict_ne_declines_tuple da hb hq) (fun _ hq => tuple_ne_declines_dict da hb hq) (fun _ hq => ?_) (.inr hu) h
  exact wpAny_isSame_ref_other hne ho ho2 (by rw [hc]; simp) hq
end Iv

/-! Iv F: comparisons, places, slices. -/
namespace Iv
open PySem PySem.Spec L2
open PyProof.Rows hiding St

section
variable {K : PySem.W.Frag} {H : Hp}
mutual
theorem RepI.dp : ∀ {x : I} {v : V}, RepI K H x v → PyData.canLay0 x.py = true → Dp K H v x.py
  | _, _, .non, _ => by rw [I.py]; exact .non
  | _, _, .bl b, _ => by rw [I.py]; exact .bl b
  | _, _, .int b, _ => by rw [I.py]; exact .int b
  | _, _, .str b, _ => by rw [I.py]; exact .str b
  | _, _, .tup h r, c => by rw [I.py] at c ⊢; exact .tup h (RepIs.dp r c)
  | _, _, .dic h, c => by rw [I.py] at c; cases c
  | _, _, .dk h, c => by rw [I.py] at c; cases c
  | _, _, .dt h, c => by rw [I.py] at c; cases c
theorem RepIs.dp : ∀ {x : List I} {v : List V}, RepIs K H x v → PyData.canLayAll0 (I.pys x) = true → DpAll K H v (I.pys x)
  | _, _, .nil, _ => by rw [I.pys]; exact .nil
  | _, _, .cons h r, c => by
    rw [I.pys] at c ⊢
    have c := Bool.and_eq_true_iff.mp c
    exact .cons (RepI.dp h c.1) (RepIs.dp r c.2)
end
theorem dp_ints : ∀ ns : List Int, DpAll K H (ns.map V.int) (ns.map PyData.int)
  | [] => .nil
  | n :: r => .cons (.int n) (dp_ints r)
mutual
theorem Rep.dp : ∀ {p q : AP'} {x : D} {v : V}, Rep K H p q x v → PyData.canLay0 x.py = true → Dp K H v x.py
  | _, _, _, _, .imm r, c => by rw [D.py] at c ⊢; exact r.dp c
  | _, _, _, _, .lsi _ h r, c => by rw [D.py] at c ⊢; exact .lst (.inl (.inl h)) (r.dp c)
  | _, _, _, _, .lsd _ h r, c => by rw [D.py] at c ⊢; exact .lst (.inl (.inl h)) (Reps.dp r c)
  | _, _, _, _, .tpd h r, c => by rw [D.py] at c ⊢; exact .tup h (Reps.dp r c)
  | _, _, _, _, .scr _ h, c => by rw [D.py]; exact .lst (.inl h) (dp_ints _)
  | _, _, _, _, .scrK h, c => by rw [D.py]; exact .lst (h H) (dp_ints _)
theorem Reps.dp : ∀ {q : AP'} {x : List D} {v : List V}, Reps K H q x v → PyData.canLayAll0 (D.pys x) = true → DpAll K H v (D.pys x)
  | _, _, _, .nil, _ => by rw [D.pys]; exact .nil
  | _, _, _, .cons _ h r, c => by
    rw [D.pys] at c ⊢
    have c := Bool.and_eq_true_iff.mp c
    exact .cons (Rep.dp h c.1) (Reps.dp r c.2)
end
end
/-- a comparison of two values, by what it is on data -/
def rCmp (K : PySem.W.Frag) (op : CmpOp) : R2 := fun v u H Q => ∃ p q p' q' x y b, Rep K H p q x v ∧ Rep K H p' q' y u ∧ cmpD op x y = .ok b ∧ Q (.bl b) H
theorem M.bind_eq_ok {α β : Type} {m : M α} {f : α → M β} {b : β} (h : m.bind f = .ok b) : ∃ a, m = .ok a ∧ f a = .ok b := by
  cases m with
  | ok a => exact ⟨a, rfl, h⟩
  | exc c => cases h
  | bad => cases h
theorem M.ite_ok {α : Type} {c : Prop} [Decidable c] {m : M α} {b : α} (h : (if c then m else .bad) = .ok b) : c ∧ m = .ok b := by
  by_cases hc : c
  · rw [if_pos hc] at h; exact ⟨hc, h⟩
  · rw [if_neg hc] at h; cases h
theorem M.ok_inj {α : Type} {a b : α} (h : M.ok a = .ok b) : a = b := by cases h; rfl
section
variable {X : Cx} {pins : List (Addr × Obj)} {σ : St} {H : Hp} {s : Shared} {v u : V} {u1 u2 : Value} {p q p' q' : AP'} {x y : D} {b : Bool}
theorem flat_of {K : PySem.W.Frag} {i : I} {v : V} (h : RepI K H i v) (f : flatI i = true) : flatV v = true := by
  cases h <;> first | rfl | cases f
theorem flats_of {K : PySem.W.Frag} : ∀ {i : List I} {v : List V}, RepIs K H i v → i.all flatI = true → v.all flatV = true
  | _, _, .nil, _ => rfl
  | _, _, .cons h r, f => by
    rw [List.all_cons, Bool.and_eq_true] at f ⊢
    exact ⟨flat_of h f.1, flats_of r f.2⟩
theorem eqI_of {K : PySem.W.Frag} {i j : I} {v w : V} (h : RepI K H i v) (h' : RepI K H j w) (f : flatI i = true) (f' : flatI j = true) : eqV v w = eqI i j := by
  cases h <;> cases h' <;> first | rfl | cases f | cases f'
theorem inV_of {K : PySem.W.Frag} {i : I} {v : V} (h : RepI K H i v) (f : flatI i = true) : ∀ {xs : List I} {vs : List V}, RepIs K H xs vs → xs.all flatI = true → inV v vs = xs.any fun y => eqI y i
  | _, _, .nil, _ => rfl
  | _, _, .cons h' r, f' => by
    rw [List.all_cons, Bool.and_eq_true] at f'
    have e := inV_of h f r f'.2
    unfold inV at e ⊢
    rw [List.any_cons, List.any_cons, e, eqI_of h' h f'.1 f]
theorem eq_ok (hr : X.A.units + 64 < cLine) (I1 : Inv X pins σ H s) (r1 : RelV v u1) (r2 : RelV u u2) (h1 : Rep X.K H p q x v) (h2 : Rep X.K H p' q' y u) {Q : VK} (e : eqD x y = .ok b) :
    (Q (.bl b) H → wpAny (model X.prog X.w) X.A (compareOp .Eq u1 u2) (EP X pins σ Q) X.xe s) ∧ (Q (.bl (!b)) H → wpAny (model X.prog X.w) X.A (compareOp .NotEq u1 u2) (EP X pins σ Q) X.xe s) := by
  have gen : (if SeqAt.shaped x.py = true ∧ SeqAt.shaped y.py = true then M.ok (PyData.eqv x.py y.py) else .bad) = .ok b → (Q (.bl b) H → wpAny (model X.prog X.w) X.A (compareOp .Eq u1 u2) (EP X pins σ Q) X.xe s) ∧ (Q (.bl (!b)) H → wpAny (model X.prog X.w) X.A (compareOp .NotEq u1 u2) (EP X pins σ Q) X.xe s) := fun e => by
    obtain ⟨⟨c1, c2⟩, e⟩ := M.ite_ok e
    cases M.ok_inj e
    exact ⟨fun h => op_eqD hr pins s σ H v u u1 u2 Q I1 r1 r2 ⟨_, _, h1.dp (SeqAt.canLay_of_shaped c1), h2.dp (SeqAt.canLay_of_shaped c2), c1, c2, h⟩, fun h => op_neD hr pins s σ H v u u1 u2 Q I1 r1 r2 ⟨_, _, h1.dp (SeqAt.canLay_of_shaped c1), h2.dp (SeqAt.canLay_of_shaped c2), c1, c2, h⟩⟩
  have sc : scal v u = true → decide (v = u) = b → (Q (.bl b) H → wpAny (model X.prog X.w) X.A (compareOp .Eq u1 u2) (EP X pins σ Q) X.xe s) ∧ (Q (.bl (!b)) H → wpAny (model X.prog X.w) X.A (compareOp .NotEq u1 u2) (EP X pins σ Q) X.xe s) := fun c e => by
    subst e
    exact ⟨fun h => op_eq pins s σ H v u u1 u2 Q I1 r1 r2 ⟨c, h⟩, fun h => op_ne pins s σ H v u u1 u2 Q I1 r1 r2 ⟨c, h⟩⟩
  cases x with
  | imm i =>
    have hi := rep_imm h1
    cases y with
    | imm j =>
      have hj := rep_imm h2
      cases i <;> cases j <;> try exact gen e
      case str.str i j =>
        cases repI_str hi; cases repI_str hj
        refine sc rfl ?_
        rw [← M.ok_inj (show M.ok (decide (i = j)) = M.ok b from e), dec_str]
        exact Bool.beq_eq_decide_eq _ _
      case dk.dk x y =>
        have e : (if x = y ∧ (x.map (·.1)).Nodup then M.ok true else .bad) = .ok b := e
        obtain ⟨⟨rfl, nd⟩, e7⟩ := M.ite_ok e
        cases M.ok_inj e7
        have nd' : ((x.map fun q => ((Sum.inl q.1 : Key), V.bl q.2)).map (·.1)).Nodup := by
          rw [List.map_map, show ((fun q : Key × V => q.1) ∘ fun q : Int × Bool => ((Sum.inl q.1 : Key), V.bl q.2)) = (fun z : Int => (Sum.inl z : Key)) ∘ fun q : Int × Bool => q.1 from rfl, ← List.map_map]
          exact List.Pairwise.map _ (fun a b h z => h (Sum.inl.inj z)) nd
        have hv : ∀ p ∈ x.map fun q => ((Sum.inl q.1 : Key), V.bl q.2), valV (x.map fun q => ((Sum.inl q.1 : Key), V.bl q.2)) p.1 = some p.2 ∧ flatB p.2 = true := fun p hp => ⟨val_nodup nd' p hp, by
          obtain ⟨q, _, rfl⟩ := List.mem_map.mp hp
          rfl⟩
        cases hi with
        | dk ea =>
          cases hj with
          | dk eb => exact ⟨fun h => op_eq_dictA (by omega) pins s σ H _ _ u1 u2 Q I1 r1 r2 ⟨_, _, _, _, rfl, rfl, ea, eb, rfl, hv, h⟩, fun h => op_ne_dictA (by omega) pins s σ H _ _ u1 u2 Q I1 r1 r2 ⟨_, _, _, _, rfl, rfl, ea, eb, rfl, hv, h⟩⟩
      case dic.tup xs =>
        obtain ⟨a2, vs, rfl, hs, _⟩ := repI_tup hj
        cases hi with
        | dic ea =>
          cases r1
          cases r2
          cases M.ok_inj (show M.ok false = M.ok b from e)
          obtain ⟨_, _, kvs, _, da⟩ := dk_of I1.hok ea
          obtain ⟨its, rv, hb, _⟩ := I1.tuple hs
          exact ⟨fun h => dict_tuple_eq da hb (by omega) ⟨.bl _, H, I1, rfl, h⟩, fun h => dict_tuple_ne da hb (by omega) ⟨.bl _, H, I1, rfl, h⟩⟩
    | lsi _ => cases i <;> exact gen e
    | lsd _ => cases i <;> exact gen e
    | tpd _ => cases i <;> exact gen e
    | scr _ => cases i <;> exact gen e
  | lsi xs => cases y <;> exact gen e
  | lsd xs => cases y <;> exact gen e
  | tpd xs => cases y <;> exact gen e
  | scr xs => cases y <;> exact gen e
theorem in_ok (hr : X.A.units + 65 < cLine) (I1 : Inv X pins σ H s) (r1 : RelV v u1) (r2 : RelV u u2) (h1 : Rep X.K H p q x v) (h2 : Rep X.K H p' q' y u) {Q : VK} (e : inD x y = .ok b) :
    (Q (.bl b) H → wpAny (model X.prog X.w) X.A (compareOp .In u1 u2) (EP X pins σ Q) X.xe s) ∧ (Q (.bl (!b)) H → wpAny (model X.prog X.w) X.A (compareOp .NotIn u1 u2) (EP X pins σ Q) X.xe s) := by
  have sq : ∀ {i : I} {xs : List I} {vs : List V} {a : Addr}, RepI X.K H i v → flatI i = true → RepIs X.K H xs vs → xs.all flatI = true → u = .ref a → (SqL X.K H a vs ∨ SqT X.K H a vs) → (xs.any fun y => eqI y i) = b → (Q (.bl b) H → wpAny (model X.prog X.w) X.A (compareOp .In u1 u2) (EP X pins σ Q) X.xe s) ∧ (Q (.bl (!b)) H → wpAny (model X.prog X.w) X.A (compareOp .NotIn u1 u2) (EP X pins σ Q) X.xe s) := fun hi f hx fx eu hs eb => by
    subst eu
    have q1 := inV_of hi f hx fx
    refine ⟨fun h => op_in_seq pins s σ H _ _ u1 u2 Q I1 r1 r2 ⟨_, _, rfl, hs, flat_of hi f, flats_of hx fx, ?_⟩, fun h => op_notIn_seq pins s σ H _ _ u1 u2 Q I1 r1 r2 ⟨_, _, rfl, hs, flat_of hi f, flats_of hx fx, ?_⟩⟩
    · rw [if_neg Bool.false_ne_true, q1, eb]; exact h
    · rw [if_pos rfl, q1, eb]; exact h
  have dp : ∀ {ys : List PyData}, (PyData.canLay0 (.list ys) = true → Dp X.K H u (.list ys)) → inAny x ys = .ok b → (Q (.bl b) H → wpAny (model X.prog X.w) X.A (compareOp .In u1 u2) (EP X pins σ Q) X.xe s) ∧ (Q (.bl (!b)) H → wpAny (model X.prog X.w) X.A (compareOp .NotIn u1 u2) (EP X pins σ Q) X.xe s) := fun hy e => by
    obtain ⟨⟨c1, c2⟩, e⟩ := M.ite_ok e
    cases M.ok_inj e
    exact ⟨fun h => op_inD hr pins s σ H v u u1 u2 Q I1 r1 r2 ⟨_, _, h1.dp (SeqAt.canLay_of_shaped c1), hy (SeqAt.canLay_of_shaped c2), c1, c2, h⟩, fun h => op_notInD hr pins s σ H v u u1 u2 Q I1 r1 r2 ⟨_, _, h1.dp (SeqAt.canLay_of_shaped c1), hy (SeqAt.canLay_of_shaped c2), c1, c2, h⟩⟩
  have dpi : ∀ {xs : List I}, y = .lsi xs → PyData.canLay0 (.list (I.pys xs)) = true → Dp X.K H u (.list (I.pys xs)) := fun e c => by
    subst e
    exact h2.dp c
  have dpd : ∀ {xs : List D}, y = .lsd xs → PyData.canLay0 (.list (D.pys xs)) = true → Dp X.K H u (.list (D.pys xs)) := fun e c => by
    subst e
    exact h2.dp c
  cases x with
  | imm i =>
    have hi := rep_imm h1
    cases y with
    | imm j =>
      have hj := rep_imm h2
      cases j with
      | tup xs =>
        have e : (if flatI i = true ∧ xs.all flatI = true then M.ok (xs.any fun y => eqI y i) else .bad) = .ok b := by cases i <;> exact e
        obtain ⟨⟨c1, c2⟩, e⟩ := M.ite_ok e
        obtain ⟨a, vs, ea, ha, ra⟩ := repI_tup hj
        exact sq hi c1 ra c2 ea (.inr ha) (M.ok_inj e)
      | str j =>
        cases i with
        | str i =>
          cases repI_str hi; cases repI_str hj
          have e := M.ok_inj (show M.ok (!(Builtin.Str.occurrences j i 0 j.length 1).isEmpty) = M.ok b from e)
          refine ⟨fun h => op_in_str pins s σ H _ _ u1 u2 Q I1 r1 r2 ⟨i, j, rfl, rfl, by rw [e]; exact h⟩, fun h => op_notin_str pins s σ H _ _ u1 u2 Q I1 r1 r2 ⟨i, j, rfl, rfl, by rw [e]; exact h⟩⟩
        | _ => exact absurd e (by intro z; cases z)
      | non => exact absurd e (by intro z; cases i <;> cases z)
      | bl j => exact absurd e (by intro z; cases i <;> cases z)
      | int j => exact absurd e (by intro z; cases i <;> cases z)
      | dic => exact absurd e (by intro z; cases i <;> cases z)
      | exc j => exact absurd e (by intro z; cases i <;> cases z)
      | dk j => exact absurd e (by intro z; cases i <;> cases z)
      | dt j => exact absurd e (by intro z; cases i <;> cases z)
    | lsi xs =>
      have e : (if flatI i = true ∧ xs.all flatI = true then M.ok (xs.any fun y => eqI y i) else inAny (.imm i) (I.pys xs)) = .ok b := by
        cases i <;> exact e
      by_cases c : flatI i = true ∧ xs.all flatI = true
      · rw [if_pos c] at e
        cases h2 with
        | lsi hp ha ra => exact sq hi c.1 ra c.2 rfl (.inl (.inl (.inl ha))) (M.ok_inj e)
      · rw [if_neg c] at e
        exact dp (dpi rfl) e
    | lsd xs =>
      have e : inAny (.imm i) (D.pys xs) = .ok b := by cases i <;> exact e
      exact dp (dpd rfl) e
    | tpd _ => exact absurd e (by intro z; cases i <;> cases z)
    | scr _ => exact absurd e (by intro z; cases i <;> cases z)
  | lsi xs =>
    cases y with
    | lsi ys => exact dp (dpi rfl) e
    | lsd ys => exact dp (dpd rfl) e
    | imm j => exact absurd e (by intro z; cases j <;> cases z)
    | tpd _ => exact absurd e (by intro z; cases z)
    | scr _ => exact absurd e (by intro z; cases z)
  | lsd xs =>
    cases y with
    | lsi ys => exact dp (dpi rfl) e
    | lsd ys => exact dp (dpd rfl) e
    | imm j => exact absurd e (by intro z; cases j <;> cases z)
    | tpd _ => exact absurd e (by intro z; cases z)
    | scr _ => exact absurd e (by intro z; cases z)
  | tpd xs =>
    cases y with
    | lsi ys => exact dp (dpi rfl) e
    | lsd ys => exact dp (dpd rfl) e
    | imm j => exact absurd e (by intro z; cases j <;> cases z)
    | tpd _ => exact absurd e (by intro z; cases z)
    | scr _ => exact absurd e (by intro z; cases z)
  | scr xs =>
    cases y with
    | lsi ys => exact dp (dpi rfl) e
    | lsd ys => exact dp (dpd rfl) e
    | imm j => exact absurd e (by intro z; cases j <;> cases z)
    | tpd _ => exact absurd e (by intro z; cases z)
    | scr _ => exact absurd e (by intro z; cases z)
theorem room65 {k : Nat} {A : Around} (r : Room k A) : A.units + 65 < cLine := by have := r.un; omega
theorem isNon_of (h1 : Rep X.K H p q x v) : decide (v = .non) = isNon x := by
  cases h1 with
  | imm r => cases r <;> rfl
  | lsi _ _ _ => rfl
  | lsd _ _ _ => rfl
  | tpd _ _ => rfl
  | scr _ _ => rfl
  | scrK _ => rfl
theorem is_ok (I1 : Inv X pins σ H s) (r1 : RelV v u1) (r2 : RelV u u2) (h1 : Rep X.K H p q x v) (h2 : Rep X.K H p' q' y u) {Q : VK} (h : Q (.bl b) H) :
    (cmpD .Is x y = .ok b → wpAny (model X.prog X.w) X.A (compareOp .Is u1 u2) (EP X pins σ Q) X.xe s) ∧ (cmpD .IsNot x y = .ok b → wpAny (model X.prog X.w) X.A (compareOp .IsNot u1 u2) (EP X pins σ Q) X.xe s) := by
  have non : u = .non → (isNon x = b → wpAny (model X.prog X.w) X.A (compareOp .Is u1 u2) (EP X pins σ Q) X.xe s) ∧ ((!isNon x) = b → wpAny (model X.prog X.w) X.A (compareOp .IsNot u1 u2) (EP X pins σ Q) X.xe s) := fun eu => by
    refine ⟨fun e => op_isN pins s σ H v u u1 u2 Q I1 r1 r2 ⟨eu, ?_⟩, fun e => op_notN pins s σ H v u u1 u2 Q I1 r1 r2 ⟨eu, ?_⟩⟩
    · rw [isNon_of h1, e]; exact h
    · rw [isNon_of h1, e]; exact h
  cases y with
  | imm j =>
    have hj := rep_imm h2
    cases j with
    | non =>
      have z := non (repI_non hj)
      refine ⟨fun e => z.1 ?_, fun e => z.2 ?_⟩
      · cases x with
        | imm i => cases i <;> exact M.ok_inj e
        | _ => exact M.ok_inj e
      · cases x with
        | imm i => cases i <;> exact M.ok_inj e
        | _ => exact M.ok_inj e
    | bl j =>
      cases x with
      | imm i =>
        cases i with
        | bl i =>
          have hi := rep_imm h1
          cases repI_bl hi; cases repI_bl hj
          refine ⟨fun e => op_isBl pins s σ H _ _ u1 u2 Q I1 r1 r2 ⟨i, j, rfl, rfl, ?_⟩, fun e => op_notBl pins s σ H _ _ u1 u2 Q I1 r1 r2 ⟨i, j, rfl, rfl, ?_⟩⟩
          · rw [M.ok_inj (show M.ok (decide (i = j)) = M.ok b from e)]; exact h
          · rw [M.ok_inj (show M.ok (!decide (i = j)) = M.ok b from e)]; exact h
        | _ => exact ⟨fun e => (nomatch e), fun e => (nomatch e)⟩
      | _ => exact ⟨fun e => (nomatch e), fun e => (nomatch e)⟩
    | _ => (refine ⟨fun e => absurd e ?_, fun e => absurd e ?_⟩ <;> (intro z; cases x with | imm i => cases i <;> cases z | _ => cases z))
  | _ => (refine ⟨fun e => absurd e ?_, fun e => absurd e ?_⟩ <;> (intro z; cases x with | imm i => cases i <;> cases z | _ => cases z))
theorem ord_ok (op : CmpOp) (hop : op = .Lt ∨ op = .LtE ∨ op = .Gt ∨ op = .GtE) (I1 : Inv X pins σ H s) (r1 : RelV v u1) (r2 : RelV u u2) (h1 : Rep X.K H p q x v) (h2 : Rep X.K H p' q' y u) {Q : VK} (e : cmpD op x y = .ok b) (h : Q (.bl b) H) :
    wpAny (model X.prog X.w) X.A (compareOp op u1 u2) (EP X pins σ Q) X.xe s := by
  cases x with
  | imm i =>
    cases y with
    | imm j =>
      cases i with
      | int i =>
        cases j with
        | int j =>
          cases repI_int (rep_imm h1); cases repI_int (rep_imm h2)
          rcases hop with rfl | rfl | rfl | rfl
          · exact op_lt pins s σ H _ _ u1 u2 Q I1 r1 r2 ⟨i, j, rfl, rfl, by show Q (.bl (decide (i < j))) H; rw [M.ok_inj (show M.ok (decide (i < j)) = M.ok b from e)]; exact h⟩
          · exact op_le pins s σ H _ _ u1 u2 Q I1 r1 r2 ⟨i, j, rfl, rfl, by show Q (.bl (decide (i ≤ j))) H; rw [M.ok_inj (show M.ok (decide (i ≤ j)) = M.ok b from e)]; exact h⟩
          · exact op_gt pins s σ H _ _ u1 u2 Q I1 r1 r2 ⟨i, j, rfl, rfl, by show Q (.bl (decide (j < i))) H; rw [M.ok_inj (show M.ok (decide (j < i)) = M.ok b from e)]; exact h⟩
          · exact op_ge pins s σ H _ _ u1 u2 Q I1 r1 r2 ⟨i, j, rfl, rfl, by show Q (.bl (decide (j ≤ i))) H; rw [M.ok_inj (show M.ok (decide (j ≤ i)) = M.ok b from e)]; exact h⟩
        | _ => rcases hop with rfl | rfl | rfl | rfl <;> cases e
      | _ => rcases hop with rfl | rfl | rfl | rfl <;> cases e
    | _ => rcases hop with rfl | rfl | rfl | rfl <;> cases i <;> cases e
  | _ => rcases hop with rfl | rfl | rfl | rfl <;> cases e
theorem cmp_ok (hr : X.A.units + 65 < cLine) (op : CmpOp) : OpR X (compareOp op) (rCmp X.K op) := by
  intro pins s σ H v u u1 u2 Q I1 r1 r2 h
  obtain ⟨p, q, p', q', x, y, b, h1, h2, e, h⟩ := h
  cases op with
  | Eq => exact (eq_ok (by omega) I1 r1 r2 h1 h2 e).1 h
  | NotEq =>
    obtain ⟨c, e1, e2⟩ := M.bind_eq_ok (show (eqD x y).bind (fun r => .ok (!r)) = .ok b from e)
    exact (eq_ok (by omega) I1 r1 r2 h1 h2 e1).2 (by rw [M.ok_inj e2]; exact h)
  | In => exact (in_ok hr I1 r1 r2 h1 h2 e).1 h
  | NotIn =>
    obtain ⟨c, e1, e2⟩ := M.bind_eq_ok (show (inD x y).bind (fun r => .ok (!r)) = .ok b from e)
    exact (in_ok hr I1 r1 r2 h1 h2 e1).2 (by rw [M.ok_inj e2]; exact h)
  | Is => exact (is_ok I1 r1 r2 h1 h2 h).1 e
  | IsNot => exact (is_ok I1 r1 r2 h1 h2 h).2 e
  | Lt => exact ord_ok .Lt (.inl rfl) I1 r1 r2 h1 h2 e h
  | LtE => exact ord_ok .LtE (.inr (.inl rfl)) I1 r1 r2 h1 h2 e h
  | Gt => exact ord_ok .Gt (.inr (.inr (.inl rfl))) I1 r1 r2 h1 h2 e h
  | GtE => exact ord_ok .GtE (.inr (.inr (.inr rfl))) I1 r1 r2 h1 h2 e h
end
end Iv

/-! Iv G: places, slices, built-ins. -/
namespace Iv
open PySem PySem.Spec L2
open PyProof.Rows hiding St

theorem atI_rel {α β : Type} {R : α → β → Prop} {xs : List α} {vs : List β} {i : Int} {y : α} (hl : xs.length = vs.length) (hg : ∀ (j : Nat) x, xs[j]? = some x → ∃ v, vs[j]? = some v ∧ R x v) (e : atI xs i = some y) : ∃ v, atI vs i = some v ∧ R y v := by
  unfold atI at e ⊢
  rw [← hl]
  cases h : ixN xs.length i with
  | none => rw [h] at e; cases e
  | some j =>
    rw [h] at e
    exact hg j y e
theorem scr_rd {K : PySem.W.Frag} {H : Hp} {p q : AP'} {ns : List Int} {v : V} (h : Rep K H p q (.scr ns) v) : ∃ a, v = .ref a ∧ SqL K H a (ns.map V.int) := by
  cases h with
  | scr _ r => exact ⟨_, rfl, .inl r⟩
  | scrK h => exact ⟨_, rfl, h H⟩
/-- x[i] -/
def rIdx (K : PySem.W.Frag) : R2 := fun v u H Q => ∃ fm W Hs x k, FmAt fm Hs ∧ Same Hs H ∧ VR K fm Hs H x v ∧ u = .int k ∧ Wq K fm W Hs H (idxD x k) Q
section
variable {X : Cx}
theorem idx_ok : IxR X (rIdx X.K) := by
  intro value slice pins s σ H v u u1 u2 Q I1 r1 r2 h hss
  obtain ⟨fm, W, Hs, ⟨x, t⟩, k, f, sm, h1, rfl, w⟩ := h
  have hL : ∀ a vs y, v = .ref a → SqL X.K H a vs → atI vs k = some y → Q y H → rIx X.K v (.int k) H Q := fun a vs y e hs ha hq => .inl ⟨a, vs, k, y, e, rfl, hs, ha, hq⟩
  have hT : ∀ a vs y, v = .ref a → SqT X.K H a vs → atI vs k = some y → Q y H → rIx X.K v (.int k) H Q := fun a vs y e hs ha hq => .inr (.inl ⟨a, vs, k, y, e, rfl, hs, ha, hq⟩)
  refine ix_seq value slice pins s σ H v _ u1 u2 Q I1 r1 r2 ?_ hss
  cases x with
  | imm i =>
    have hi := rep_imm h1
    cases i with
    | tup xs =>
      obtain ⟨a, vs, rfl, ha, ra⟩ := repI_tup hi
      cases e : atI xs k with
      | none => simp only [idxD, e] at w; exact False.elim w
      | some y =>
        simp only [idxD, e] at w
        obtain ⟨z, e2, rz⟩ := atI_rel (RepIs.len ra) (fun j x h => RepIs.get ra h) e
        exact hT a vs z rfl ha e2 (Wq.imm w rz)
    | str z =>
      cases repI_str hi
      have w : Wq X.K fm W Hs H (if z.length ≤ sizeLine then match atI z.cps.toList k with | some c => .ok (pim (.str ⟨#[c]⟩)) | none => .bad else .bad) Q := w
      obtain ⟨c, w⟩ := w.ite
      cases e : atI z.cps.toList k with
      | none => rw [e] at w; exact False.elim w
      | some y =>
        rw [e] at w
        exact .inr (.inr ⟨z, k, y, rfl, rfl, c, e, Wq.imm w (.str _)⟩)
    | _ => exact False.elim w
  | lsi xs =>
    cases h1 with
    | lsi hp ha ra =>
      cases e : atI xs k with
      | none => simp only [idxD, e] at w; exact False.elim w
      | some y =>
        simp only [idxD, e] at w
        obtain ⟨z, e2, rz⟩ := atI_rel (RepIs.len ra) (fun j x h => RepIs.get ra h) e
        exact hL _ _ z rfl (.inl (.inl ha)) e2 (Wq.imm w rz)
  | scr xs =>
    have ha := scr_rd h1
    obtain ⟨a, rfl, ha⟩ := ha
    · cases e : atI xs k with
      | none => simp only [idxD, e] at w; exact False.elim w
      | some y =>
        simp only [idxD, e] at w
        obtain ⟨z, e2, rz⟩ := atI_rel (R := fun n v => v = V.int n) (xs := xs) (vs := xs.map V.int) (by simp) (fun j x h => ⟨.int x, by simp [h], rfl⟩) e
        subst rz
        exact hL _ _ _ rfl ha e2 (Wq.imm w (.int _))
  | lsd xs =>
    cases h1 with
    | lsd hp ha ra =>
      cases e : atI xs k with
      | none => simp only [idxD, e] at w; exact False.elim w
      | some y =>
        simp only [idxD, e] at w
        obtain ⟨z, e2, _, rz⟩ := atI_rel (Reps.len ra) (fun j x h => Reps.get ra h) e
        exact hL _ _ z rfl (.inl (.inl ha)) e2 (w z H Same.refl (vr_kid (fun a h => h.1) rz))
  | tpd xs =>
    cases h1 with
    | tpd ha ra =>
      cases e : atI xs k with
      | none => simp only [idxD, e] at w; exact False.elim w
      | some y =>
        simp only [idxD, e] at w
        obtain ⟨z, e2, _, rz⟩ := atI_rel (Reps.len ra) (fun j x h => Reps.get ra h) e
        exact hT _ _ z rfl ha e2 (w z H Same.refl (vr_kid (fun a h => h) rz))
/-- x[i:j] -/
def rSlc (K : PySem.W.Frag) : V → Option Int → Option Int → Hp → VK → Prop := fun v lo hi H Q => ∃ fm W Hs x, FmAt fm Hs ∧ Same Hs H ∧ VR K fm Hs H x v ∧ Wq K fm W Hs H (slcD x lo hi) Q
theorem cut_is {α : Type} {xs : List α} {lo hi : Option Int} (h : HT.sIx xs.length 0 lo = 0 ∧ HT.sIx xs.length xs.length hi = xs.length) : cut xs lo hi = xs := by
  unfold cut; rw [h.1, h.2]; simp
theorem kid_root {fm : Fm} {t : Tag} {Hs : Hp} {a : Addr} (n : NdI fm t Hs a) : NdI fm t.child.root Hs a := NdI.le (show t.le t.child.root from ⟨Nat.le_refl _, fun j hj => List.mem_map.mpr ⟨(j, true), List.mem_filter.mpr ⟨hj, rfl⟩, rfl⟩⟩) n
theorem allImm_map : ∀ {ds : List D} {is : List I}, allImm ds = some is → ds = is.map .imm
  | [], _, h => by cases h; rfl
  | .imm i :: r, is, h => by
    simp only [allImm, Option.map_eq_some_iff] at h
    obtain ⟨js, h1, rfl⟩ := h
    rw [allImm_map h1]; rfl
  | .lsi _ :: _, _, h => by cases h
  | .lsd _ :: _, _, h => by cases h
  | .tpd _ :: _, _, h => by cases h
  | .scr _ :: _, _, h => by cases h
theorem slc_ok : SlR X (rSlc X.K) := by
  intro pins s σ H v u1 vl vu lo hi sl Q I1 r1 hs pl pu h
  obtain ⟨fm, W, Hs, ⟨x, t⟩, f, sm, h1, w⟩ := h
  cases x with
  | imm i =>
    have hi' := rep_imm h1
    cases i with
    | tup xs =>
      obtain ⟨a, vs, rfl, ha, ra⟩ := repI_tup hi'
      have w : Wq X.K fm W Hs H (.ok (pim (.tup (cut xs lo hi)))) Q := w
      have hl := RepIs.len ra
      refine sl_tupA pins s σ H _ u1 vl vu lo hi sl Q I1 r1 hs pl pu ⟨a, vs, rfl, ha, fun e => ?_, fun e => ?_⟩
      · rw [← hl] at e; rw [cut_is e] at w; exact w.imm (.tup ha ra)
      · refine w.newTup ?_
        unfold cut cutV
        rw [hl]
        exact RepIs.take _ (RepIs.drop _ ra)
    | str z =>
      cases repI_str hi'
      have w : Wq X.K fm W Hs H (if z.length ≤ sizeLine then .ok (pim (.str (L2.cutS z lo hi))) else .bad) Q := w
      obtain ⟨c, w⟩ := w.ite
      exact sl_str pins s σ H _ u1 vl vu lo hi sl Q I1 r1 hs pl pu ⟨z, rfl, c, w.imm (.str _)⟩
    | _ => exact False.elim w
  | lsi xs =>
    have w : Wq X.K fm W Hs H (.ok (.lsi (cut xs lo hi), T0)) Q := w
    cases h1 with
    | lsi hp ha ra =>
      refine sl_list pins s σ H _ u1 vl vu lo hi sl Q I1 r1 hs pl pu ⟨_, _, rfl, .inl (.inl ha), w.newLsi f sm ?_⟩
      unfold cut cutV
      rw [RepIs.len ra]
      exact RepIs.take _ (RepIs.drop _ ra)
  | lsd xs =>
    have w : Wq X.K fm W Hs H (.ok (.lsd (cut xs lo hi), t.child.root)) Q := w
    cases h1 with
    | lsd hp ha ra =>
      have rr := Reps.trk ra
      refine sl_list pins s σ H _ u1 vl vu lo hi sl Q I1 r1 hs pl pu ⟨_, _, rfl, .inl (.inl ha), Wq.newLsd w f sm (q := fun a => NdI fm t Hs a ∧ H a ≠ none) ?_ (fun a z => kid_root z.1) fun a z => z.2⟩
      unfold cut cutV
      rw [Reps.len ra]
      exact (Reps.take _ (Reps.drop _ rr)).weak fun a z => ⟨z.1.1, z.2⟩
  | scr xs => exact False.elim w
  | tpd xs =>
    have w : Wq X.K fm W Hs H (match allImm (cut xs lo hi) with | some is => .ok (pim (.tup is)) | none => .ok (.tpd (cut xs lo hi), t.child.root)) Q := w
    cases h1 with
    | tpd ha ra =>
      rename_i a vs
      have rr := Reps.trk ra
      have hl := Reps.len ra
      have rc : Reps X.K H (fun a => NdI fm t Hs a ∧ H a ≠ none) (cut xs lo hi) (cutV vs lo hi) := by
        unfold cut cutV
        rw [hl]
        exact Reps.take _ (Reps.drop _ rr)
      have rI : ∀ is, allImm (cut xs lo hi) = some is → RepIs X.K H is (cutV vs lo hi) := fun is e => by
        rw [allImm_map e] at rc
        exact Reps.ofImms rc
      refine sl_tupA pins s σ H _ u1 vl vu lo hi sl Q I1 r1 hs pl pu ⟨a, vs, rfl, ha, fun e => ?_, fun e => ?_⟩
      · have ec : cutV vs lo hi = vs := by
          have := cut_is (xs := vs) (lo := lo) (hi := hi) e
          unfold cutV
          unfold cut at this
          exact this
        cases q : allImm (cut xs lo hi) with
        | some is => rw [q] at w; exact Wq.imm w (.tup ha (by rw [← ec]; exact rI is q))
        | none =>
          rw [q] at w
          refine w _ H Same.refl (.tpd ha (Reps.weak (q := fun a => NdI fm t Hs a ∧ H a ≠ none) (fun a z => kid_root z.1) ?_))
          rw [← ec]; exact rc
      · cases q : allImm (cut xs lo hi) with
        | some is => rw [q] at w; exact Wq.newTup w (rI is q)
        | none =>
          rw [q] at w
          exact fun p hp => w _ _ (Same.new hp) (.tpd (.inl (.inl upd_same)) ((rc.weak fun a z => kid_root z.1).same (Same.new hp)))
/-- x[::-1] -/
theorem rev_ok {fm : Fm} {W : String → Hp → Prop} {Hs H : Hp} {x : DT} {v : V} {Q : VK} (f : FmAt fm Hs) (sm : Same Hs H) (h1 : VR X.K fm Hs H x v) (w : Wq X.K fm W Hs H (revD x) Q) : ∃ a xs, v = .ref a ∧ SqL X.K H a xs ∧ ∀ p, H p = none → Q (.ref p) (upd H p (.lst xs.reverse)) := by
  obtain ⟨x, t⟩ := x
  cases x with
  | imm i => exact False.elim w
  | lsi xs =>
    have w : Wq X.K fm W Hs H (.ok (.lsi xs.reverse, T0)) Q := w
    cases h1 with
    | lsi hp ha ra => exact ⟨_, _, rfl, .inl (.inl ha), w.newLsi f sm (RepIs.rev ra)⟩
  | lsd xs =>
    have w : Wq X.K fm W Hs H (.ok (.lsd xs.reverse, t.child.root)) Q := w
    cases h1 with
    | lsd hp ha ra => exact ⟨_, _, rfl, .inl (.inl ha), Wq.newLsd w f sm ((Reps.rev (Reps.trk ra)).weak fun a z => ⟨z.1.1, z.2⟩) (fun a (z : NdI fm t Hs a ∧ H a ≠ none) => kid_root z.1) fun a z => z.2⟩
  | scr xs => exact False.elim w
  | tpd xs => exact False.elim w
/-- built-ins of one thing -/
def rB (K : PySem.W.Frag) (b : Blt) : List V → Hp → VK → Prop := fun vs H Q => ∃ fm W Hs xs, FmAt fm Hs ∧ Same Hs H ∧ VRs K fm Hs H xs vs ∧ Wq K fm W Hs H (bltD b xs) Q
theorem vrs1 {K : PySem.W.Frag} {fm : Fm} {Hs H : Hp} {x : DT} {vs : List V} (h : VRs K fm Hs H [x] vs) : ∃ v, vs = [v] ∧ VR K fm Hs H x v := by
  cases h with | cons a b => cases b; exact ⟨_, rfl, a⟩
theorem vrs2 {K : PySem.W.Frag} {fm : Fm} {Hs H : Hp} {x y : DT} {vs : List V} (h : VRs K fm Hs H [x, y] vs) : ∃ v u, vs = [v, u] ∧ VR K fm Hs H x v ∧ VR K fm Hs H y u := by
  cases h with | cons a b => cases b with | cons c d => cases d; exact ⟨_, _, rfl, a, c⟩
theorem len_ok : CallR X (.builtin "len") (rB X.K .len) := by
  intro pins s σ H vs us Q I1 r h
  obtain ⟨fm, W, Hs, xs, f, sm, h1, w⟩ := h
  match xs, h1, w with
  | [], _, w => exact False.elim w
  | _ :: _ :: _, _, w => exact False.elim w
  | [(x, t)], h1, w =>
    obtain ⟨v, rfl, g1⟩ := vrs1 h1; have h1 := g1
    have w : Wq X.K fm W Hs H ((lenD x).bind fun n => .ok (pim (.int n))) Q := w
    cases x with
    | imm i =>
      have hi := rep_imm h1
      cases i with
      | tup xs =>
        obtain ⟨a, vs, rfl, ha, ra⟩ := repI_tup hi
        have w : Wq X.K fm W Hs H (.ok (pim (.int xs.length))) Q := w
        refine call_len_seq pins s σ H _ us Q I1 r ⟨a, vs, rfl, .inr ha, ?_⟩
        rw [← RepIs.len ra]; exact w.imm (.int _)
      | str z =>
        cases repI_str hi
        have w : Wq X.K fm W Hs H ((if z.length ≤ sizeLine then M.ok (z.length : Int) else .bad).bind fun n => .ok (pim (.int n))) Q := w
        by_cases c : z.length ≤ sizeLine
        · rw [if_pos c] at w
          exact call_len_str pins s σ H _ us Q I1 r ⟨z, rfl, c, Wq.imm w (.int _)⟩
        · rw [if_neg c] at w; exact False.elim w
      | _ => exact False.elim w
    | lsi xs =>
      have w : Wq X.K fm W Hs H (.ok (pim (.int xs.length))) Q := w
      cases h1 with
      | lsi hp ha ra =>
        refine call_len_seq pins s σ H _ us Q I1 r ⟨_, _, rfl, .inl (.inl (.inl ha)), ?_⟩
        rw [← RepIs.len ra]; exact w.imm (.int _)
    | scr xs =>
      have w : Wq X.K fm W Hs H (.ok (pim (.int xs.length))) Q := w
      obtain ⟨a, rfl, ha⟩ := scr_rd h1
      · refine call_len_seq pins s σ H _ us Q I1 r ⟨_, _, rfl, .inl ha, ?_⟩
        rw [List.length_map]; exact w.imm (.int _)
    | lsd xs =>
      have w : Wq X.K fm W Hs H (.ok (pim (.int xs.length))) Q := w
      cases h1 with
      | lsd hp ha ra =>
        refine call_len_seq pins s σ H _ us Q I1 r ⟨_, _, rfl, .inl (.inl (.inl ha)), ?_⟩
        rw [← Reps.len ra]; exact w.imm (.int _)
    | tpd xs =>
      have w : Wq X.K fm W Hs H (.ok (pim (.int xs.length))) Q := w
      cases h1 with
      | tpd ha ra =>
        refine call_len_seq pins s σ H _ us Q I1 r ⟨_, _, rfl, .inr ha, ?_⟩
        rw [← Reps.len ra]; exact w.imm (.int _)
theorem tuple_ok : CallR X (.type "tuple") (rB X.K .tuple) := by
  intro pins s σ H vs us Q I1 r h
  obtain ⟨fm, W, Hs, xs, f, sm, h1, w⟩ := h
  match xs, h1, w with
  | [], _, w => exact False.elim w
  | _ :: _ :: _, _, w => exact False.elim w
  | [(x, t)], h1, w =>
    obtain ⟨v, rfl, g1⟩ := vrs1 h1; have h1 := g1
    cases x with
    | imm i =>
      have hi := rep_imm h1
      cases i with
      | tup xs =>
        obtain ⟨a, vs, rfl, ha, ra⟩ := repI_tup hi
        have w : Wq X.K fm W Hs H (.ok (pim (.tup xs))) Q := w
        exact call_tuple_of pins s σ H _ us Q I1 r ⟨a, vs, rfl, .inr ⟨ha, w.imm (.tup ha ra)⟩⟩
      | _ => exact False.elim w
    | lsi xs =>
      have w : Wq X.K fm W Hs H (.ok (pim (.tup xs))) Q := w
      cases h1 with
      | lsi hp ha ra => exact call_tuple_of pins s σ H _ us Q I1 r ⟨_, _, rfl, .inl ⟨.inl (.inl ha), w.newTup ra⟩⟩
    | scr xs => exact False.elim w
    | lsd xs =>
      have w : Wq X.K fm W Hs H (.ok (.tpd xs, t.child.root)) Q := w
      cases h1 with
      | lsd hp ha ra => exact call_tuple_of pins s σ H _ us Q I1 r ⟨_, _, rfl, .inl ⟨.inl (.inl ha), fun p hp' => w _ _ (Same.new hp') (.tpd (.inl (.inl upd_same)) ((ra.weak fun a z => kid_root z.1).same (Same.new hp')))⟩⟩
    | tpd xs =>
      have w : Wq X.K fm W Hs H (.ok (.tpd xs, t)) Q := w
      cases h1 with
      | tpd ha ra => exact call_tuple_of pins s σ H _ us Q I1 r ⟨_, _, rfl, .inr ⟨ha, w _ _ Same.refl (.tpd ha ra)⟩⟩
theorem call_listS (hc : X.calm = true) : CallR X (.type "list") (fun xs H Q => ∃ z : Str, xs = [.str z] ∧ z.length ≤ sizeLine ∧ ∀ p, H p = none → Q (.ref p) (upd H p (.lst ((z.cps.toList.map fun c => (⟨#[c]⟩ : Str)).map V.str)))) := by
  intro pins s σ H xs us Q I r h
  obtain ⟨z, rfl, hz, q⟩ := h
  cases r with
  | cons r1 r2 =>
  cases r2
  obtain ⟨t, rfl⟩ := r1
  refine call_list_str (I.ok.hd hc) z t (fun h' tk acc' c' hk hS' hacc => ?_) hz
  have hp := I.hok.fresh (Nat.le_refl _)
  have hsz : acc'.size = z.cps.size := hacc.1
  refine ⟨.ref s.heap.objs.size, upd H s.heap.objs.size (.lst ((z.cps.toList.map fun c => (⟨#[c]⟩ : Str)).map V.str)), I.laid hk (Nat.le_refl _) ⟨by rw [List.length_map, List.length_map]; show z.cps.toList.length ≤ sizeLine; rw [Array.length_toList]; exact hz, acc'.toList, c', vals_of_idx _ _ (by simp [hsz]) fun j u hj => ?_, by simpa using hS'⟩, rfl, q _ hp⟩
  obtain ⟨c, w, hc, rfl⟩ := hacc.2 j u (by simpa using hj)
  exact ⟨.str ⟨#[c]⟩, by rw [List.getElem?_map, List.getElem?_map]; simp [hc], ⟨_, rfl⟩⟩
theorem list_ok (hc : X.calm = true) : CallR X (.type "list") (rB X.K .list) := by
  intro pins s σ H vs us Q I1 r h
  obtain ⟨fm, W, Hs, xs, f, sm, h1, w⟩ := h
  match xs, h1, w with
  | [], _, w => exact False.elim w
  | _ :: _ :: _, _, w => exact False.elim w
  | [(x, t)], h1, w =>
    obtain ⟨v, rfl, g1⟩ := vrs1 h1; have h1 := g1
    cases x with
    | imm i =>
      have hi := rep_imm h1
      cases i with
      | tup xs =>
        obtain ⟨a, vs, rfl, ha, ra⟩ := repI_tup hi
        have w : Wq X.K fm W Hs H (.ok (.lsi xs, T0)) Q := w
        exact call_list_of pins s σ H _ us Q I1 r ⟨a, vs, rfl, .inr ha, w.newLsi f sm ra⟩
      | str z =>
        cases repI_str hi
        have w : Wq X.K fm W Hs H (if z.length ≤ 1000000 then .ok (.lsi ((z.cps.toList.map fun c => (⟨#[c]⟩ : Str)).map .str), T0) else .bad) Q := w
        obtain ⟨c, w⟩ := w.ite
        exact call_listS hc pins s σ H _ us Q I1 r ⟨z, rfl, by rw [sizeLine_eq]; omega, w.newLsi f sm (RepIs.ofStrs _)⟩
      | _ => exact False.elim w
    | lsi xs =>
      have w : Wq X.K fm W Hs H (.ok (.lsi xs, T0)) Q := w
      cases h1 with
      | lsi hp ha ra => exact call_list_of pins s σ H _ us Q I1 r ⟨_, _, rfl, .inl (.inl (.inl ha)), w.newLsi f sm ra⟩
    | scr ns =>
      have w : Wq X.K fm W Hs H (.ok (.lsi (ns.map .int), T0)) Q := w
      obtain ⟨a, rfl, ha⟩ := scr_rd h1
      · exact call_list_of pins s σ H _ us Q I1 r ⟨_, _, rfl, .inl ha, w.newLsi f sm (RepIs.ofInts ns)⟩
    | lsd xs =>
      have w : Wq X.K fm W Hs H (.ok (.lsd xs, t.child.root)) Q := w
      cases h1 with
      | lsd hp ha ra => exact call_list_of pins s σ H _ us Q I1 r ⟨_, _, rfl, .inl (.inl (.inl ha)), Wq.newLsd w f sm ((Reps.trk ra).weak fun a z => ⟨z.1.1, z.2⟩) (fun a (z : NdI fm t Hs a ∧ H a ≠ none) => kid_root z.1) fun a z => z.2⟩
    | tpd xs =>
      have w : Wq X.K fm W Hs H (.ok (.lsd xs, t.child.root)) Q := w
      cases h1 with
      | tpd ha ra => exact call_list_of pins s σ H _ us Q I1 r ⟨_, _, rfl, .inr ha, Wq.newLsd w f sm ((Reps.trk ra).weak fun a z => ⟨z.1, z.2⟩) (fun a (z : NdI fm t Hs a ∧ H a ≠ none) => kid_root z.1) fun a z => z.2⟩
/-- what a built-in says of a list of ints -/
theorem ints_rd {fm : Fm} {W : String → Hp → Prop} {Hs H : Hp} {Q : VK} {x : DT} {v : V} {g : List Int → M DT} (h1 : VR X.K fm Hs H x v) (w : Wq X.K fm W Hs H (match x.1 with | .lsi xs => (match asInts xs with | some ns => g ns | none => .bad) | _ => .bad) Q) :
    ∃ a ns, v = .ref a ∧ H a = some (.lst (ns.map V.int)) ∧ Wq X.K fm W Hs H (g ns) Q := by
  obtain ⟨x, t⟩ := x
  cases x with
  | lsi xs =>
    cases h1 with
    | lsi hp ha ra =>
      have w : Wq X.K fm W Hs H (match asInts xs with | some ns => g ns | none => .bad) Q := w
      cases e : asInts xs with
      | none => rw [e] at w; exact False.elim w
      | some ns =>
        rw [e] at w
        have q := RepIs.ints ra e
        subst q
        exact ⟨_, ns, rfl, ha, w⟩
  | _ => exact False.elim w
theorem bls_rd {fm : Fm} {W : String → Hp → Prop} {Hs H : Hp} {Q : VK} {x : DT} {v : V} {g : List Bool → M DT} (h1 : VR X.K fm Hs H x v) (w : Wq X.K fm W Hs H (match x.1 with | .lsi xs => (match asBls xs with | some ns => g ns | none => .bad) | _ => .bad) Q) :
    ∃ a ns, v = .ref a ∧ H a = some (.lst (ns.map V.bl)) ∧ Wq X.K fm W Hs H (g ns) Q := by
  obtain ⟨x, t⟩ := x
  cases x with
  | lsi xs =>
    cases h1 with
    | lsi hp ha ra =>
      have w : Wq X.K fm W Hs H (match asBls xs with | some ns => g ns | none => .bad) Q := w
      cases e : asBls xs with
      | none => rw [e] at w; exact False.elim w
      | some ns =>
        rw [e] at w
        have q := RepIs.bls ra e
        subst q
        exact ⟨_, ns, rfl, ha, w⟩
  | _ => exact False.elim w
theorem sum_ok (hc : X.calm = true) : CallR X (.builtin "sum") (rB X.K .sum) := by
  intro pins s σ H vs us Q I1 r h
  obtain ⟨fm, W, Hs, xs, f, sm, h1, w⟩ := h
  match xs, h1, w with
  | [], _, w => exact False.elim w
  | _ :: _ :: _, _, w => exact False.elim w
  | [x], h1, w =>
    obtain ⟨v, rfl, g1⟩ := vrs1 h1; have h1 := g1
    obtain ⟨a, ns, rfl, ha, w⟩ := ints_rd (g := fun ns => .ok (pim (.int ns.sum))) h1 w
    exact cr_sum hc pins s σ H _ us Q I1 r ⟨a, ns, rfl, .inl (.inl ha), Wq.imm w (.int _)⟩
theorem all_ok (hc : X.calm = true) : CallR X (.builtin "all") (rB X.K .all) := by
  intro pins s σ H vs us Q I1 r h
  obtain ⟨fm, W, Hs, xs, f, sm, h1, w⟩ := h
  match xs, h1, w with
  | [], _, w => exact False.elim w
  | _ :: _ :: _, _, w => exact False.elim w
  | [x], h1, w =>
    obtain ⟨v, rfl, g1⟩ := vrs1 h1; have h1 := g1
    obtain ⟨a, ns, rfl, ha, w⟩ := bls_rd (g := fun ns => .ok (pim (.bl (ns.all id)))) h1 w
    exact cr_all hc pins s σ H _ us Q I1 r ⟨a, ns, rfl, .inl (.inl ha), Wq.imm w (.bl _)⟩
theorem any_ok (hc : X.calm = true) : CallR X (.builtin "any") (rB X.K .any) := by
  intro pins s σ H vs us Q I1 r h
  obtain ⟨fm, W, Hs, xs, f, sm, h1, w⟩ := h
  match xs, h1, w with
  | [], _, w => exact False.elim w
  | _ :: _ :: _, _, w => exact False.elim w
  | [x], h1, w =>
    obtain ⟨v, rfl, g1⟩ := vrs1 h1; have h1 := g1
    obtain ⟨a, ns, rfl, ha, w⟩ := bls_rd (g := fun ns => .ok (pim (.bl (ns.any id)))) h1 w
    exact cr_any hc pins s σ H _ us Q I1 r ⟨a, ns, rfl, .inl (.inl ha), Wq.imm w (.bl _)⟩
theorem int2_rd {fm : Fm} {W : String → Hp → Prop} {Hs H : Hp} {Q : VK} {g : Int → Int → Int} {x y : D} (w : Wq X.K fm W Hs H (int2 g x y) Q) : ∃ i j, x = .imm (.int i) ∧ y = .imm (.int j) ∧ Wq X.K fm W Hs H (.ok (pim (.int (g i j)))) Q := by
  cases x with
  | imm i => cases i with
    | int i => cases y with
      | imm j => cases j with
        | int j => exact ⟨i, j, rfl, rfl, w⟩
        | _ => exact False.elim w
      | _ => exact False.elim w
    | _ => exact False.elim w
  | _ => exact False.elim w
theorem min2_ok (hc : X.calm = true) : CallR X (.builtin "min") (rB X.K .min2) := by
  intro pins s σ H vs us Q I1 r h
  obtain ⟨fm, W, Hs, xs, f, sm, h1, w⟩ := h
  match xs, h1, w with
  | [], _, w => exact False.elim w
  | [_], _, w => exact False.elim w
  | _ :: _ :: _ :: _, _, w => exact False.elim w
  | [(x, t), (y, t2)], h1, w =>
    obtain ⟨v, u, rfl, g1, h2⟩ := vrs2 h1; have h1 := g1
    obtain ⟨i, j, rfl, rfl, w⟩ := int2_rd w
    cases repI_int (rep_imm g1); cases repI_int (rep_imm h2)
    exact call_min2 hc pins s σ H _ us Q I1 r ⟨_, _, rfl, w.imm (.int _)⟩
theorem max2_ok (hc : X.calm = true) : CallR X (.builtin "max") (rB X.K .max2) := by
  intro pins s σ H vs us Q I1 r h
  obtain ⟨fm, W, Hs, xs, f, sm, h1, w⟩ := h
  match xs, h1, w with
  | [], _, w => exact False.elim w
  | [_], _, w => exact False.elim w
  | _ :: _ :: _ :: _, _, w => exact False.elim w
  | [(x, t), (y, t2)], h1, w =>
    obtain ⟨v, u, rfl, g1, h2⟩ := vrs2 h1; have h1 := g1
    obtain ⟨i, j, rfl, rfl, w⟩ := int2_rd w
    cases repI_int (rep_imm g1); cases repI_int (rep_imm h2)
    exact call_max2 hc pins s σ H _ us Q I1 r ⟨_, _, rfl, w.imm (.int _)⟩
theorem minOf_is : ∀ {ns : List Int} {m : Int}, minOf ns = some m → m ∈ ns ∧ ∀ y ∈ ns, m ≤ y
  | [], _, h => by cases h
  | x :: r, m, h => by
    unfold minOf at h
    cases e : minOf r with
    | none =>
      rw [e] at h; cases h
      have : r = [] := by cases r with
        | nil => rfl
        | cons a b => unfold minOf at e; split at e <;> cases e
      subst this
      simp
    | some k =>
      rw [e] at h; cases h
      obtain ⟨h1, h2⟩ := minOf_is e
      split
      · exact ⟨List.mem_cons_of_mem _ h1, fun y hy => by rcases List.mem_cons.mp hy with rfl | hy; omega; exact h2 y hy⟩
      · exact ⟨List.mem_cons_self, fun y hy => by rcases List.mem_cons.mp hy with rfl | hy; omega; have := h2 y hy; omega⟩
theorem maxOf_is : ∀ {ns : List Int} {m : Int}, maxOf ns = some m → m ∈ ns ∧ ∀ y ∈ ns, y ≤ m
  | [], _, h => by cases h
  | x :: r, m, h => by
    unfold maxOf at h
    cases e : maxOf r with
    | none =>
      rw [e] at h; cases h
      have : r = [] := by cases r with
        | nil => rfl
        | cons a b => unfold maxOf at e; split at e <;> cases e
      subst this
      simp
    | some k =>
      rw [e] at h; cases h
      obtain ⟨h1, h2⟩ := maxOf_is e
      split
      · exact ⟨List.mem_cons_of_mem _ h1, fun y hy => by rcases List.mem_cons.mp hy with rfl | hy; omega; exact h2 y hy⟩
      · exact ⟨List.mem_cons_self, fun y hy => by rcases List.mem_cons.mp hy with rfl | hy; omega; have := h2 y hy; omega⟩
theorem minl_ok (hc : X.calm = true) : CallR X (.builtin "min") (rB X.K .minl) := by
  intro pins s σ H vs us Q I1 r h
  obtain ⟨fm, W, Hs, xs, f, sm, h1, w⟩ := h
  match xs, h1, w with
  | [], _, w => exact False.elim w
  | _ :: _ :: _, _, w => exact False.elim w
  | [x], h1, w =>
    obtain ⟨v, rfl, g1⟩ := vrs1 h1; have h1 := g1
    obtain ⟨a, ns, rfl, ha, w⟩ := ints_rd (g := fun ns => match minOf ns with | some m => .ok (pim (.int m)) | none => .bad) h1 w
    cases e : minOf ns with
    | none => rw [e] at w; exact False.elim w
    | some m =>
      rw [e] at w
      obtain ⟨m1, m2⟩ := minOf_is e
      refine cr_min hc pins s σ H _ us Q I1 r ⟨a, ns, rfl, .inl (.inl ha), List.length_pos_of_mem m1, fun k k1 k2 => ?_⟩
      have : k = m := by have := k2 m m1; have := m2 k k1; omega
      subst this
      exact Wq.imm w (.int _)
theorem maxl_ok (hc : X.calm = true) : CallR X (.builtin "max") (rB X.K .maxl) := by
  intro pins s σ H vs us Q I1 r h
  obtain ⟨fm, W, Hs, xs, f, sm, h1, w⟩ := h
  match xs, h1, w with
  | [], _, w => exact False.elim w
  | _ :: _ :: _, _, w => exact False.elim w
  | [x], h1, w =>
    obtain ⟨v, rfl, g1⟩ := vrs1 h1; have h1 := g1
    obtain ⟨a, ns, rfl, ha, w⟩ := ints_rd (g := fun ns => match maxOf ns with | some m => .ok (pim (.int m)) | none => .bad) h1 w
    cases e : maxOf ns with
    | none => rw [e] at w; exact False.elim w
    | some m =>
      rw [e] at w
      obtain ⟨m1, m2⟩ := maxOf_is e
      refine cr_max hc pins s σ H _ us Q I1 r ⟨a, ns, rfl, .inl (.inl ha), List.length_pos_of_mem m1, fun k k1 k2 => ?_⟩
      have : k = m := by have := k2 m m1; have := m2 k k1; omega
      subst this
      exact Wq.imm w (.int _)
theorem int_okB : CallR X (.type "int") (rB X.K .int) := by
  intro pins s σ H vs us Q I1 r h
  obtain ⟨fm, W, Hs, xs, f, sm, h1, w⟩ := h
  match xs, h1, w with
  | [], _, w => exact False.elim w
  | _ :: _ :: _, _, w => exact False.elim w
  | [(x, t)], h1, w =>
    obtain ⟨v, rfl, g1⟩ := vrs1 h1; have h1 := g1
    cases x with
    | imm i =>
      have hi := rep_imm h1
      cases i with
      | int i =>
        cases repI_int hi
        have w : Wq X.K fm W Hs H (.ok (pim (.int i))) Q := w
        exact call_int1 pins s σ H _ us Q I1 r (.inl ⟨i, rfl, w.imm (.int _)⟩)
      | bl k =>
        cases repI_bl hi
        have w : Wq X.K fm W Hs H (.ok (pim (.int (if k then 1 else 0)))) Q := w
        exact call_int1 pins s σ H _ us Q I1 r (.inr ⟨k, rfl, w.imm (.int _)⟩)
      | str z =>
        cases repI_str hi
        have w : Wq X.K fm W Hs H (match PySem.intText? z with | some n => if z.length ≤ 640 then .ok (pim (.int n)) else .bad | none => .bad) Q := w
        cases e : PySem.intText? z with
        | none => rw [e] at w; exact False.elim w
        | some n =>
          rw [e] at w
          obtain ⟨c, w⟩ := Wq.ite w
          exact call_int_str pins s σ H _ us Q I1 r ⟨z, n, rfl, e, c, w.imm (.int _)⟩
      | _ => exact False.elim w
    | _ => exact False.elim w
theorem str_okB : CallR X (.type "str") (rB X.K .str) := by
  intro pins s σ H vs us Q I1 r h
  obtain ⟨fm, W, Hs, xs, f, sm, h1, w⟩ := h
  match xs, h1, w with
  | [], _, w => exact False.elim w
  | _ :: _ :: _, _, w => exact False.elim w
  | [(x, t)], h1, w =>
    obtain ⟨v, rfl, g1⟩ := vrs1 h1; have h1 := g1
    cases x with
    | imm i =>
      have hi := rep_imm h1
      cases i with
      | int i =>
        cases repI_int hi
        have w : Wq X.K fm W Hs H (if i.natAbs.log2 < 1920 then .ok (pim (.str (toString i))) else .bad) Q := w
        obtain ⟨c, w⟩ := w.ite
        exact call_str_int pins s σ H _ us Q I1 r ⟨i, rfl, c, w.imm (.str _)⟩
      | non =>
        cases repI_non hi
        have w : Wq X.K fm W Hs H (.ok (pim (.str "None"))) Q := w
        cases r with
        | cons ra rb =>
        cases rb
        cases ra
        exact P.str_of_none ⟨.str "None", H, I1.tok _, ⟨_, rfl⟩, w.imm (.str _)⟩
      | _ => exact False.elim w
    | _ => exact False.elim w
/-! isinstance -/
def tyOk : String → Bool := fun t => ["int", "bool", "str", "list", "tuple", "NoneType", "dict"].contains t
theorem ty_of {K : PySem.W.Frag} {H : Hp} {p q : AP'} {x : D} {v : V} (h : Rep K H p q x v) (hx : isExc x = false) : TyX K H v (.type (tyD x)) := by
  have tT : ∀ {a vs}, SqT K H a vs → TyX K H (.ref a) (.type "tuple") := fun {a vs} h => by
    rcases h with (h | ⟨o, h⟩) | ⟨o, its, n, h, c, _⟩
    · exact .base (.tup h)
    · exact .fTuple h
    · exact .kTuple h c
  cases h with
  | imm r =>
    cases r with
    | non => exact .base .non
    | bl b => exact .base (.bl b)
    | int b => exact .base (.int b)
    | str b => exact .base (.str b)
    | tup h r => exact tT h
    | dic h => exact .base (.dK h)
    | exc h => cases hx
    | dk h => exact .base (.dK h)
    | dt h => exact .base (.dT h)
  | lsi h e r => exact .base (.lst e)
  | lsd h e r => exact .base (.lst e)
  | tpd h r => exact tT h
  | scr h e =>
    rcases e with h | ⟨o, h⟩
    · exact .base (.lst h)
    · exact .base (.frz h)
  | scrK e =>
    rcases e (fun _ => none) with (h | ⟨o, h⟩) | ⟨o, its, n, h, c, _⟩
    · cases h
    · cases h
    · exact .kList h c
end
end Iv

/-! Iv Ga: sorted(a list of whole numbers, or of lists of them); methods. -/
namespace Iv
open PySem PySem.Spec L2
open PyProof.Rows hiding St
def IsLI (h : Heap) (v : Value) (ns : List Int) : Prop := ∃ a dd items n sl, v = .ref a ∧ h.get? a = some ⟨.type "list", dd, .seq items n, sl⟩ ∧ IntsAre items.toList ns
theorem IsLI.type {M : Model} {h : Heap} {v : Value} {ns : List Int} (x : IsLI h v ns) : W.Looks M h (typeOf v) (.type "list") := by
  obtain ⟨a, dd, items, n, sl, rfl, g, _⟩ := x
  exact W.Looks.andThen (W.Looks.ld g) W.Looks.now
theorem IsLI.keeps {h h' : Heap} {v : Value} {ns : List Int} (x : IsLI h v ns) (k : ∀ b o, v = .ref b → h.get? b = some o → h'.get? b = some o) : IsLI h' v ns := by
  obtain ⟨a, dd, items, n, sl, rfl, g, i⟩ := x
  exact ⟨a, dd, items, n, sl, rfl, k a _ rfl g, i⟩
theorem first_lex : ∀ (ns ms : List Int) (e r : Nat → Bool) (k : Nat) (f : Bool), (∀ j (h1 : j < ns.length) (h2 : j < ms.length), e (k + j) = decide (ns[j] = ms[j]) ∧ r (k + j) = decide (ns[j] < ms[j])) → f = decide (ns.length < ms.length) →
    SeqAt.firstLt e r f (List.range' k (min ns.length ms.length)) = HT.lexLt ns ms
  | [], [], e, r, k, f, h, hf => by subst hf; rfl
  | [], _ :: _, e, r, k, f, h, hf => by subst hf; rw [HT.lexLt.eq_2]; simp [SeqAt.firstLt.eq_1]
  | _ :: _, [], e, r, k, f, h, hf => by subst hf; rw [HT.lexLt.eq_3]; simp [SeqAt.firstLt.eq_1]
  | x :: ns, y :: ms, e, r, k, f, h, hf => by
    have h0 := h 0 (by simp) (by simp)
    rw [HT.lexLt.eq_4, List.length_cons, List.length_cons, Nat.succ_min_succ, List.range'_succ, SeqAt.firstLt.eq_2]
    have e0 : e k = decide (x = y) := by simpa using h0.1
    have r0 : r k = decide (x < y) := by simpa using h0.2
    rw [e0, r0]
    by_cases q : x = y
    · rw [if_pos (decide_eq_true q), if_pos q]
      refine first_lex ns ms e r (k + 1) f (fun j h1 h2 => ?_) (by rw [hf]; simp)
      have := h (j + 1) (by simpa using h1) (by simpa using h2)
      rw [show k + 1 + j = k + (j + 1) by omega]
      simpa using this
    · rw [if_neg (by simpa using q), if_neg q]
theorem lt_lst {prog : Program} {w : World} {A : Around} {E : Value → Shared → Prop} {s : Shared} {v u : Value} {ns ms : List Int} {Q : Bool → Shared → Prop} (hu : A.units < cLine) (hv : IsLI s.heap v ns) (hw : IsLI s.heap u ms) (h : Q (HT.lexLt ns ms) s) : wpAny (model prog w) A (keyLt' oneType' v u) Q E s := by
  have sp : W.Looks (model prog w) s.heap (specialOf v (Str.ofString "__lt__")) (some (.builtin "list.__lt__")) := W.Looks.andThen hv.type (by
    have := F.slot_list_lt.lookup
    rw [show (cmpInfo CmpOp.Lt).snd.fst = Str.ofString "__lt__" from rfl] at this
    rw [this]
    exact W.Looks.now)
  obtain ⟨a, dd, items, n, sl, rfl, ga, ia⟩ := hv
  obtain ⟨b, dd2, items2, n2, sl2, rfl, gb, ib⟩ := hw
  rw [keyLt'_oneType, oneLt'_eq]
  simp only [if_true]
  refine wpAny_bind (wpAny_cRoomFor hu (wpAny_bind (NtL.csib sp (F.slot_list_lt.bind (.ref a)) ?_)))
  have la : items.size = ns.length := by have := IntsAre.length ia; rw [Array.length_toList] at this; exact this
  have lb : items2.size = ms.length := by have := IntsAre.length ib; rw [Array.length_toList] at this; exact this
  have at1 : ∀ j (h1 : j < items.size), ∃ t, items[j] = .int (ns[j]'(by omega)) t := fun j h1 => by
    obtain ⟨t, e⟩ := PyProof.Rows.IntsAre.int_at ia j items[j] (by rw [Array.getElem?_toList]; exact Array.getElem?_eq_getElem h1)
    exact ⟨t, by rw [e, List.getD_eq_getElem?_getD, List.getElem?_eq_getElem (by omega)]; rfl⟩
  have at2 : ∀ j (h1 : j < items2.size), ∃ t, items2[j] = .int (ms[j]'(by omega)) t := fun j h1 => by
    obtain ⟨t, e⟩ := PyProof.Rows.IntsAre.int_at ib j items2[j] (by rw [Array.getElem?_toList]; exact Array.getElem?_eq_getElem h1)
    exact ⟨t, by rw [e, List.getD_eq_getElem?_getD, List.getElem?_eq_getElem (by omega)]; rfl⟩
  refine SeqAt.call_list_lt (e := fun j => decide (ns.getD j 0 = ms.getD j 0)) (r := fun j => decide (ns.getD j 0 < ms.getD j 0)) ⟨_, ga, rfl, n, rfl⟩ ⟨_, gb, rfl, n2, rfl⟩ (fun j h1 h2 => ?_) (fun j h1 h2 _ => ?_) ?_
  · obtain ⟨t, e1⟩ := at1 j h1
    obtain ⟨t2, e2⟩ := at2 j h2
    rw [e1, e2]
    have := SeqAt.EqAt.int_int (A := A.in1) (s := s) (ns[j]'(by omega)) t (ms[j]'(by omega)) t2
    rw [List.getD_eq_getElem?_getD, List.getD_eq_getElem?_getD, List.getElem?_eq_getElem (by omega), List.getElem?_eq_getElem (by omega)]
    have q : (decide (ns[j]'(by omega) = ms[j]'(by omega))) = (ns[j]'(by omega) == ms[j]'(by omega)) := by rw [Bool.eq_iff_iff]; simp
    show SeqAt.EqAt _ _ _ _ (decide (ns[j]'(by omega) = ms[j]'(by omega)))
    rw [q]
    exact this
  · obtain ⟨t, e1⟩ := at1 j h1
    obtain ⟨t2, e2⟩ := at2 j h2
    rw [e1, e2]
    have := HT.rcLt_int (A := A.in1) (s := s) (ns[j]'(by omega)) t (ms[j]'(by omega)) t2
    rw [List.getD_eq_getElem?_getD, List.getD_eq_getElem?_getD, List.getElem?_eq_getElem (by omega), List.getElem?_eq_getElem (by omega)]
    exact this
  · have := first_lex ns ms (fun j => decide (ns.getD j 0 = ms.getD j 0)) (fun j => decide (ns.getD j 0 < ms.getD j 0)) 0 (decide (items.size < items2.size)) (fun j h1 h2 => by
      rw [Nat.zero_add, List.getD_eq_getElem?_getD, List.getD_eq_getElem?_getD, List.getElem?_eq_getElem h1, List.getElem?_eq_getElem h2]
      exact ⟨rfl, rfl⟩) (by rw [la, lb])
    rw [la, lb, List.range_eq_range']
    rw [la, lb] at this
    rw [this]
    exact wpAny_truthy_bool h
theorem lst_sortable {prog : Program} {w : World} {A : Around} {s : Shared} {a : Addr} {vs : List Value} {k : Value → List Int} (h2 : 2 ≤ vs.length) (hu : A.units < cLine) (hv : ∀ v ∈ vs, IsLI s.heap v (k v)) (ha : ∀ v ∈ vs, v ≠ .ref a) : SrtO.SortableO prog w A s a vs fun v u => HT.lexLt (k v) (k u) := by
  intro h' keep
  have hv' : ∀ v ∈ vs, IsLI h' v (k v) := fun v hm => (hv v hm).keeps fun b o e g => keep b o (fun z => ha v hm (by rw [e, z])) g
  refine ⟨oneType', fun Q E hq => W.kas_kind h2 (fun v hm => (hv' v hm).type) (by decide) (by decide) hq, fun p q hp hq => ?_⟩
  exact lt_lst hu (hv' p.1 hp) (hv' q.1 hq) ⟨rfl, rfl⟩
/-- sorted(xs), xs a list of lists of whole numbers -/
def rSortedLL (K : PySem.W.Frag) : List V → Hp → VK → Prop := fun vs H Q => ∃ (a : Addr) (xs : List V) (k : V → List Int), vs = [.ref a] ∧ SqL K H a xs ∧ (∀ x ∈ xs, ∃ t, x = .ref t ∧ H t = some (.lst ((k x).map V.int))) ∧
  ∀ (ys : List V) (p : Addr), ys.Perm xs → ys.Pairwise (fun x y => HT.lexLt (k y) (k x) = false) → H p = none → Q (.ref p) (upd H p (.lst ys))
theorem cr_sortedLL {X : Cx} (hu : X.A.in1.in1.units < cLine) : CallR X (.builtin "sorted") (rSortedLL X.K) := by
  intro pins s σ H vs us Q I r h
  obtain ⟨a, xs, k, rfl, hs, hx, q⟩ := h
  obtain ⟨its, rv, hl, hz⟩ := I.list hs
  obtain ⟨u, rfl, ru⟩ := vals1 r
  have ru : u = .ref a := ru
  subst ru
  obtain ⟨e1, e2⟩ := refs_back rv fun x m => by obtain ⟨t, e, _⟩ := hx x m; exact ⟨t, e⟩
  have isli : ∀ v ∈ its, IsLI s.heap v (k (backV v)) := fun v hv => by
    obtain ⟨t, rfl⟩ := e2 v hv
    have hm : V.ref t ∈ xs := by rw [e1]; exact List.mem_map.mpr ⟨_, hv, rfl⟩
    obtain ⟨t', e, ht⟩ := hx _ hm
    cases e
    obtain ⟨_, hh⟩ := I.hok t _ ht
    obtain ⟨items, n, rvs, g⟩ := hh
    exact ⟨t, _, _, _, _, rfl, g, by have z := rvs.ints; simp; exact z⟩
  refine SrtO.sorted_ord (ltv := fun v u => HT.lexLt (k (backV v)) (k (backV u))) (NtL.swo_lexL fun v => k (backV v)) hl.isList (by rw [← rv.length]; exact hz) (fun h2 h₁ b hb kk => ?_) fun out h1 h2 => ?_
  · exact lst_sortable h2 hu (fun v hm => (isli v hm).keeps fun c o _ g => (kk c o g).2) fun v hm e => by
      obtain ⟨c, _, _, _, _, rfl, g, _⟩ := isli v hm
      cases e
      exact (kk _ _ g).1 rfl
  · have h3 := fun u hu => e2 u (h2.perm.mem_iff.mp hu)
    have hb : (out.map backV).Perm xs := by rw [e1]; exact h2.perm.map _
    obtain ⟨n, hn⟩ := sortedAll_at s.heap its out.toArray
    refine ⟨.ref (s.heap.objs.size + 1), upd H (s.heap.objs.size + 1) (.lst (out.map backV)), I.laid (fun b o e => sortedAll_old e) (Nat.le_succ _) ⟨by rw [hb.length_eq]; exact hz, out, n, vals_back h3, hn⟩, rfl, q _ _ hb ?_ (I.hok.fresh (Nat.le_succ _))⟩
    exact List.pairwise_map.mpr h1
theorem insI_perm {x : Int} : ∀ {l : List Int}, (insI x l).Perm (x :: l)
  | [] => .refl _
  | y :: r => by
    unfold insI
    split
    · exact .refl _
    · exact (List.Perm.cons y insI_perm).trans (List.Perm.swap x y r)
theorem sortI_perm : ∀ {l : List Int}, (sortI l).Perm l
  | [] => .refl _
  | x :: r => insI_perm.trans (List.Perm.cons x sortI_perm)
theorem insI_le {x : Int} : ∀ {l : List Int}, l.Pairwise (· ≤ ·) → (insI x l).Pairwise (· ≤ ·)
  | [], _ => List.pairwise_singleton _ _
  | y :: r, h => by
    unfold insI
    obtain ⟨h1, h2⟩ := List.pairwise_cons.mp h
    split
    · rename_i q
      refine List.pairwise_cons.mpr ⟨fun z hz => ?_, h⟩
      rcases List.mem_cons.mp hz with e | hz
      · rw [e]; exact q
      · exact Int.le_trans q (h1 z hz)
    · rename_i q
      refine List.pairwise_cons.mpr ⟨fun z hz => ?_, insI_le h2⟩
      rcases List.mem_cons.mp (insI_perm.mem_iff.mp hz) with e | hz
      · rw [e]; omega
      · exact h1 z hz
theorem sortI_le : ∀ {l : List Int}, (sortI l).Pairwise (· ≤ ·)
  | [] => List.Pairwise.nil
  | x :: r => insI_le sortI_le
theorem sortI_is {l m : List Int} (h : m.Perm l) (k : m.Pairwise (· ≤ ·)) : m = sortI l :=
  List.Perm.eq_of_pairwise (fun a b _ _ x y => Int.le_antisymm x y) k sortI_le (h.trans sortI_perm.symm)
theorem lex_tot : ∀ {a b : List Int}, HT.lexLt a b = false → HT.lexLt b a = false → a = b
  | [], [], _, _ => rfl
  | [], _ :: _, h, _ => by rw [HT.lexLt.eq_2] at h; cases h
  | _ :: _, [], _, h => by rw [HT.lexLt.eq_2] at h; cases h
  | x :: a, y :: b, h, k => by
    rw [HT.lexLt.eq_4] at h k
    by_cases q : x = y
    · rw [if_pos q] at h
      rw [if_pos q.symm] at k
      rw [q, lex_tot h k]
    · rw [if_neg q, decide_eq_false_iff_not] at h
      rw [if_neg (fun z => q z.symm), decide_eq_false_iff_not] at k
      omega
theorem insL_perm {x : List Int} : ∀ {l : List (List Int)}, (insL x l).Perm (x :: l)
  | [] => .refl _
  | y :: r => by
    unfold insL
    split
    · exact (List.Perm.cons y insL_perm).trans (List.Perm.swap x y r)
    · exact .refl _
theorem sortL_perm : ∀ {l : List (List Int)}, (sortL l).Perm l
  | [] => .refl _
  | x :: r => insL_perm.trans (List.Perm.cons x sortL_perm)
theorem insL_le {x : List Int} : ∀ {l : List (List Int)}, l.Pairwise (fun a b => HT.lexLt b a = false) → (insL x l).Pairwise (fun a b => HT.lexLt b a = false)
  | [], _ => List.pairwise_singleton _ _
  | y :: r, h => by
    have sw := NtL.swo_lexL (fun z : List Int => z)
    unfold insL
    obtain ⟨h1, h2⟩ := List.pairwise_cons.mp h
    split
    · rename_i q
      refine List.pairwise_cons.mpr ⟨fun z hz => ?_, insL_le h2⟩
      rcases List.mem_cons.mp (insL_perm.mem_iff.mp hz) with e | hz
      · rw [e]; exact sw.asym y x q
      · exact h1 z hz
    · rename_i q
      have q : HT.lexLt y x = false := by simpa using q
      refine List.pairwise_cons.mpr ⟨fun z hz => ?_, h⟩
      rcases List.mem_cons.mp hz with e | hz
      · rw [e]; exact q
      · exact sw.tr x y z q (h1 z hz)
theorem sortL_le : ∀ {l : List (List Int)}, (sortL l).Pairwise (fun a b => HT.lexLt b a = false)
  | [] => List.Pairwise.nil
  | x :: r => insL_le sortL_le
theorem sortL_is {l m : List (List Int)} (h : m.Perm l) (k : m.Pairwise (fun a b => HT.lexLt b a = false)) : m = sortL l :=
  List.Perm.eq_of_pairwise (fun a b _ _ x y => lex_tot y x) k sortL_le (h.trans sortL_perm.symm)
/-- the numbers of the list that v is -/
def nsOf (H : Hp) : V → List Int
  | .ref t => match H t with
    | some (.lst vs) => vs.map fun v => match v with | .int i => i | _ => 0
    | _ => []
  | _ => []
theorem nsOf_at {H : Hp} {t : Addr} {ns : List Int} (h : H t = some (.lst (ns.map V.int))) : nsOf H (.ref t) = ns := by
  show (match H t with | some (.lst vs) => vs.map (fun v => match v with | .int i => i | _ => 0) | _ => ([] : List Int)) = ns
  rw [h]
  show (ns.map V.int).map _ = ns
  rw [List.map_map]
  exact List.map_id'' (fun _ => rfl) ns
theorem ll_rd {K : PySem.W.Frag} {H : Hp} {q : AP'} : ∀ {ds : List D} {vs : List V} {ls : List (List Int)}, Reps K H q ds vs → asLL ds = some ls → vs.map (nsOf H) = ls ∧ ∀ v ∈ vs, ∃ t, v = .ref t ∧ q t ∧ H t = some (.lst ((nsOf H v).map V.int))
  | [], _, _, .nil, e => by cases e; exact ⟨rfl, fun _ h => nomatch h⟩
  | .lsi xs :: r, _, ls, .cons z h rr, e => by
    unfold asLL at e
    cases e1 : asInts xs with
    | none => rw [e1] at e; cases e
    | some ns =>
      cases e2 : asLL r with
      | none => rw [e1, e2] at e; cases e
      | some ls' =>
        rw [e1, e2] at e
        cases e
        obtain ⟨h1, h2⟩ := ll_rd rr e2
        cases h with
        | lsi hp ha ra =>
          have ev := RepIs.ints ra e1
          subst ev
          refine ⟨by rw [List.map_cons, nsOf_at ha, h1], fun v hv => ?_⟩
          rcases List.mem_cons.mp hv with e | hv
          · subst e; exact ⟨_, rfl, hp, by rw [nsOf_at ha]; exact ha⟩
          · exact h2 v hv
  | .imm _ :: _, _, _, _, e => by cases e
  | .lsd _ :: _, _, _, _, e => by cases e
  | .tpd _ :: _, _, _, _, e => by cases e
  | .scr _ :: _, _, _, _, e => by cases e
theorem ll_rep {K : PySem.W.Frag} {H : Hp} {q : AP'} : ∀ {vs : List V}, (∀ v ∈ vs, ∃ t, v = .ref t ∧ q t ∧ H t = some (.lst ((nsOf H v).map V.int))) → Reps K H q ((vs.map (nsOf H)).map fun l => .lsi (l.map .int)) vs
  | [], _ => .nil
  | v :: r, h => by
    obtain ⟨t, rfl, hq, ht⟩ := h _ List.mem_cons_self
    exact .cons rfl (.lsi hq ht (RepIs.ofInts _)) (ll_rep fun u hu => h u (List.mem_cons_of_mem _ hu))
section
variable {X : Cx}
theorem sorted_ok (hu : X.A.units + 64 < cLine) : CallR X (.builtin "sorted") (rB X.K .sorted) := by
  intro pins s σ H vs us Q I1 r h
  obtain ⟨fm, W, Hs, xs, f, sm, h1, w⟩ := h
  match xs, h1, w with
  | [], _, w => exact False.elim w
  | _ :: _ :: _, _, w => exact False.elim w
  | [x], h1, w =>
    obtain ⟨v, rfl, g1⟩ := vrs1 h1; have h1 := g1
    obtain ⟨d, t⟩ := x
    cases d with
    | lsi xs =>
      obtain ⟨a, ns, rfl, ha, w⟩ := ints_rd (x := (.lsi xs, t)) (g := fun ns => .ok (.lsi ((sortI ns).map .int), T0)) h1 w
      refine cr_sortedI pins s σ H _ us Q I1 r ⟨a, ns, rfl, .inl (.inl ha), fun ns' p hp hs hn => ?_⟩
      rw [sortI_is hp hs]
      exact Wq.newLsi w f sm (RepIs.ofInts _) p hn
    | lsd ds =>
      have w : Wq X.K fm W Hs H (match asLL ds with | some ls => .ok (.lsd ((sortL ls).map fun l => .lsi (l.map .int)), t.child.root) | none => .bad) Q := w
      cases e : asLL ds with
      | none => rw [e] at w; exact w.elim
      | some ls =>
        rw [e] at w
        cases h1 with
        | lsd hp ha ra =>
          obtain ⟨e1, e2⟩ := ll_rd (Reps.trk ra) e
          refine cr_sortedLL (show X.A.in1.in1.units < cLine from by show X.A.units + 1 + 1 < cLine; omega) pins s σ H _ us Q I1 r ⟨_, _, nsOf H, rfl, .inl (.inl ha), fun v hv => ?_, fun ys p hp hs hn => ?_⟩
          · obtain ⟨t, e, _, ht⟩ := e2 v hv
            exact ⟨t, e, ht⟩
          · have em : ys.map (nsOf H) = sortL ls := by
              rw [← e1]
              exact sortL_is (hp.map _) (List.pairwise_map.mpr hs)
            have w : Wq X.K fm W Hs H (.ok (.lsd ((sortL ls).map fun l => .lsi (l.map .int)), t.child.root)) Q := w
            rw [← em] at w
            exact Wq.newLsd w f sm (ll_rep fun v hv => e2 v (hp.mem_iff.mp hv)) (fun b z => kid_root z.1.1) (fun b z => z.2) p hn
    | _ => exact w.elim
/-! methods -/
def rM (K : PySem.W.Frag) (m : Mt) : V → List V → Hp → VK → Prop := fun v vs H Q => ∃ fm W Hs x xs, FmAt fm Hs ∧ Same Hs H ∧ VR K fm Hs H x v ∧ VRs K fm Hs H xs vs ∧ Wq K fm W Hs H (mthD m x xs) Q
theorem strs_rd {fm : Fm} {W : String → Hp → Prop} {Hs H : Hp} {Q : VK} {x : DT} {v : V} {g : List Str → M DT} (h1 : VR X.K fm Hs H x v) (w : Wq X.K fm W Hs H (match x.1 with | .lsi xs => (match asStrs xs with | some ns => g ns | none => .bad) | _ => .bad) Q) :
    ∃ a ns, v = .ref a ∧ H a = some (.lst (ns.map V.str)) ∧ Wq X.K fm W Hs H (g ns) Q := by
  obtain ⟨x, t⟩ := x
  cases x with
  | lsi xs =>
    cases h1 with
    | lsi hp ha ra =>
      have w : Wq X.K fm W Hs H (match asStrs xs with | some ns => g ns | none => .bad) Q := w
      cases e : asStrs xs with
      | none => rw [e] at w; exact False.elim w
      | some ns =>
        rw [e] at w
        have q := RepIs.strs' ra e
        subst q
        exact ⟨_, ns, rfl, ha, w⟩
  | _ => exact False.elim w
theorem newStrs {fm : Fm} {W : String → Hp → Prop} {Hs H : Hp} {Q : VK} {ys : List Str} (f : FmAt fm Hs) (sm : Same Hs H) (w : Wq X.K fm W Hs H (.ok (.lsi (ys.map .str), T0)) Q) : rNewStrs ys H Q := fun p hp => Wq.newLsi w f sm (RepIs.ofStrs ys) p hp
theorem str_rd {fm : Fm} {W : String → Hp → Prop} {Hs H : Hp} {Q : VK} {x : DT} {v : V} {g : Str → M DT} (h1 : VR X.K fm Hs H x v) (w : Wq X.K fm W Hs H (match x.1 with | .imm (.str b) => g b | _ => .bad) Q) : ∃ b, v = .str b ∧ Wq X.K fm W Hs H (g b) Q := by
  obtain ⟨x, t⟩ := x
  cases x with
  | imm i =>
    cases i with
    | str b => exact ⟨b, repI_str (rep_imm h1), w⟩
    | _ => exact False.elim w
  | _ => exact False.elim w
def mtId (m : Mt) : String := mtTy m ++ "." ++ mtN m
theorem mt_ok (m : Mt) : MtR X (mtId m) (rM X.K m) := by
  intro pins s σ H x xs v us Q I1 r1 r2 h
  obtain ⟨fm, W, Hs, ⟨d, t⟩, ds, f, sm, h1, h2, w⟩ := h
  cases m with
  | lindex =>
    match d, ds, h1, h2, w with
    | .lsi is, [y], h1, h2, w =>
      obtain ⟨u, rfl, g2⟩ := vrs1 h2
      have w : Wq X.K fm W Hs H (match asInts is, y.1 with
        | some ns, .imm (.int k) => match ns.findIdx? (fun z => z == k) with
          | some j => .ok (pim (.int (j : Nat)))
          | none => .bad
        | _, _ => .bad) Q := w
      cases h1 with
      | lsi hp ha ra =>
        cases e : asInts is with
        | none => rw [e] at w; exact w.elim
        | some ns =>
          have ev := RepIs.ints ra e
          subst ev
          rw [e] at w
          obtain ⟨y, t2⟩ := y
          cases y with
          | imm i =>
            cases i with
            | int k =>
              have eu : u = .int k := RepI.int_iff.mp (rep_imm g2)
              subst eu
              have w : Wq X.K fm W Hs H (match ns.findIdx? (fun z => z == k) with | some j => .ok (pim (.int (j : Nat))) | none => .bad) Q := w
              cases e2 : ns.findIdx? (fun z => z == k) with
              | none => rw [e2] at w; exact w.elim
              | some j =>
                rw [e2] at w
                obtain ⟨h1', h2', h3'⟩ := List.findIdx?_eq_some_iff_getElem.mp e2
                refine mt_index pins s σ H _ _ v us Q I1 r1 r2 ⟨_, ns.map V.int, .int k, j, .int ns[j], rfl, rfl, .inl (.inl ha), rfl, by rw [List.all_map]; exact List.all_eq_true.mpr fun _ _ => rfl, by rw [List.getElem?_map, List.getElem?_eq_getElem h1']; rfl, h2', fun m z' hm hz => ?_, Wq.imm w (.int _)⟩
                rw [List.getElem?_map, List.getElem?_eq_getElem (by omega)] at hz
                cases hz
                have := h3' m hm
                show (ns[m] == k) = false
                simpa using this
            | _ => exact w.elim
          | _ => exact w.elim
    | .imm _, _, _, _, w => exact False.elim (by revert w; cases ds <;> exact id)
    | .lsd _, _, _, _, w => exact False.elim (by revert w; cases ds <;> exact id)
    | .tpd _, _, _, _, w => exact False.elim (by revert w; cases ds <;> exact id)
    | .scr _, _, _, _, w => exact False.elim (by revert w; cases ds <;> exact id)
    | .lsi _, [], _, _, w => exact False.elim w
    | .lsi _, _ :: _ :: _, _, _, w => exact False.elim w
  | splitn =>
    match d, ds, h1, h2, w with
    | .imm (.str a), [y, z], h1, h2, w =>
      obtain ⟨u, u2, rfl, g2, g3⟩ := vrs2 h2
      cases repI_str (rep_imm h1)
      obtain ⟨y, t2⟩ := y
      obtain ⟨z, t3⟩ := z
      match y, z, g2, g3, w with
      | .imm (.str b), .imm (.int k), g2, g3, w =>
        cases repI_str (rep_imm g2)
        have eu : u2 = .int k := RepI.int_iff.mp (rep_imm g3)
        subst eu
        have w : Wq X.K fm W Hs H (if (b.length == 0) = false ∧ a.length + 2 ≤ sizeLine ∧ 0 ≤ k ∧ k ≤ 1000 then .ok (.lsi ((PySem.Txt.splitMax a b k).map .str), T0) else .bad) Q := w
        obtain ⟨c, w⟩ := Wq.ite w
        exact mt_splitMax pins s σ H _ _ v us Q I1 r1 r2 ⟨a, b, k, rfl, rfl, c.1, by have := c.2.2; omega, by have := c.2.2; omega, c.2.1, newStrs f sm w⟩
  | join =>
    match d, ds, h1, h2, w with
    | .imm (.str a), [y], h1, h2, w =>
      obtain ⟨u, rfl, g2⟩ := vrs1 h2
      cases repI_str (rep_imm h1)
      obtain ⟨p, ys, rfl, hp, w⟩ := strs_rd (g := fun ys => if (ys.map (·.length)).sum + ys.length * a.length ≤ 1000000 then .ok (pim (.str (PySem.Txt.join a ys))) else .bad) g2 w
      obtain ⟨c, w⟩ := Wq.ite w
      exact mt_join pins s σ H _ _ v us Q I1 r1 r2 ⟨a, p, ys, rfl, rfl, .inl (.inl (.inl hp)), by omega, Wq.imm w (.str _)⟩
  | split =>
    match d, ds, h1, h2, w with
    | .imm (.str a), [y], h1, h2, w =>
      obtain ⟨u, rfl, g2⟩ := vrs1 h2
      cases repI_str (rep_imm h1)
      obtain ⟨b, rfl, w⟩ := str_rd (g := fun b => if (b.length == 0) = false ∧ a.length + 2 ≤ sizeLine then .ok (.lsi ((PySem.Txt.split a b).map .str), T0) else .bad) g2 w
      obtain ⟨c, w⟩ := Wq.ite w
      exact mt_split pins s σ H _ _ v us Q I1 r1 r2 ⟨a, b, rfl, rfl, c.1, c.2, newStrs f sm w⟩
  | sindex =>
    match d, ds, h1, h2, w with
    | .imm (.str a), [y], h1, h2, w =>
      obtain ⟨u, rfl, g2⟩ := vrs1 h2
      cases repI_str (rep_imm h1)
      obtain ⟨b, rfl, w⟩ := str_rd (g := fun b => match PySem.Builtin.Str.occurrences a b 0 a.length 1 with
        | i :: _ => .ok (pim (.int (i : Nat)))
        | [] => .bad) g2 w
      cases e : PySem.Builtin.Str.occurrences a b 0 a.length 1 with
      | nil => simp only [e] at w; exact w.elim
      | cons i rest => simp only [e] at w; exact mt_sindex pins s σ H _ _ v us Q I1 r1 r2 ⟨a, b, i, rest, rfl, rfl, e, Wq.imm w (.int _)⟩
  | rfind =>
    match d, ds, h1, h2, w with
    | .imm (.str a), [y], h1, h2, w =>
      obtain ⟨u, rfl, g2⟩ := vrs1 h2
      cases repI_str (rep_imm h1)
      obtain ⟨b, rfl, w⟩ := str_rd (g := fun b => .ok (pim (.int (PySem.Txt.rfind a b)))) g2 w
      exact mt_rfind pins s σ H _ _ v us Q I1 r1 r2 ⟨a, b, rfl, rfl, Wq.imm w (.int _)⟩
  | find =>
    match d, ds, h1, h2, w with
    | .imm (.str a), [y], h1, h2, w =>
      obtain ⟨u, rfl, g2⟩ := vrs1 h2
      cases repI_str (rep_imm h1)
      obtain ⟨b, rfl, w⟩ := str_rd (g := fun b => .ok (pim (.int (PySem.Txt.find a b)))) g2 w
      exact mt_find pins s σ H _ _ v us Q I1 r1 r2 ⟨a, b, rfl, rfl, Wq.imm w (.int _)⟩
  | find3 =>
    match d, ds, h1, h2, w with
    | .imm (.str a), [y, z], h1, h2, w =>
      obtain ⟨u, u2, rfl, g2, g3⟩ := vrs2 h2
      cases repI_str (rep_imm h1)
      obtain ⟨y, t2⟩ := y
      obtain ⟨z, t3⟩ := z
      match y, z, g2, g3, w with
      | .imm (.str b), .imm (.int k), g2, g3, w =>
        cases repI_str (rep_imm g2)
        have eu : u2 = .int k := RepI.int_iff.mp (rep_imm g3)
        subst eu
        exact mt_find3 pins s σ H _ _ v us Q I1 r1 r2 ⟨a, b, k, rfl, rfl, Wq.imm w (.int _)⟩
  | rfind4 =>
    match d, ds, h1, h2, w with
    | .imm (.str a), [y, z, z2], h1, h2, w =>
      cases h2 with
      | cons g2 h22 =>
      obtain ⟨u2, u3, rfl, g3, g4⟩ := vrs2 h22
      cases repI_str (rep_imm h1)
      obtain ⟨y, t2⟩ := y
      obtain ⟨z, t3⟩ := z
      obtain ⟨z2, t4⟩ := z2
      match y, z, z2, g2, g3, g4, w with
      | .imm (.str b), .imm (.int k), .imm (.int j), g2, g3, g4, w =>
        cases repI_str (rep_imm g2)
        have eu : u2 = .int k := RepI.int_iff.mp (rep_imm g3)
        subst eu
        have eu : u3 = .int j := RepI.int_iff.mp (rep_imm g4)
        subst eu
        exact mt_rfind4 pins s σ H _ _ v us Q I1 r1 r2 ⟨a, b, k, j, rfl, rfl, Wq.imm w (.int _)⟩
end
end Iv

/-! Iv H: what is wanted of an expression, part by part. -/
namespace Iv
open PySem PySem.Spec L2
open PyProof.Rows hiding St

/-! ### the state -/
def P2 (fm : Fm) : AP' := fun a => (fm.ok0 a ∨ fm.H0 a = none) ∧ (∀ j, ¬ fm.O j a) ∧ ¬ fm.ban a
def P1 (fm : Fm) : AP' := fun a => fm.H0 a = none ∧ (∀ j, ¬ fm.O j a) ∧ ¬ fm.ban a
/-- owned by k alone, if at all -/
def Pv (k : Nat) (fm : Fm) : AP' := fun a => (fm.ok0 a ∨ fm.H0 a = none) ∧ (∀ j, fm.O j a → j = k) ∧ ¬ fm.ban a
def SlotOk (K : PySem.W.Frag) (fm : Fm) (H : Hp) (i : Nat) (c : Cls) (d : D) (v : V) : Prop := match c with
  | .old => Rep K H (P2 fm) (P2 fm) d v
  | .nw => Rep K H (P1 fm) (P1 fm) d v
  | .own n => Rep K H (fm.O i) (if n = true then P1 fm else P2 fm) d v
  | .ex => Rep K H (fm.O i) (fm.O i) d v
  | .vw k => Rep K H (Pv k fm) (Pv k fm) d v
/-- only of slots that own all are there views -/
def Cf.vwOk (cf : Cf) : Prop := ∀ i k, cf.cl i = .vw k → cf.cl k = .ex
structure SR (cf : Cf) (K : PySem.W.Frag) (fm : Fm) (ρ : Env) (σ : St) (H : Hp) : Prop where
  len : ρ.length = σ.length
  at' : FmAt fm H
  slot : ∀ (i : Nat) d, ρ[i]? = some (some d) → ∃ v, σ[i]? = some (some v) ∧ SlotOk K fm H i (cf.cl i) d v
  vx : cf.vwOk
section
variable {cf : Cf} {K : PySem.W.Frag} {fm : Fm} {ρ : Env} {σ : St} {H H' Hs : Hp}
theorem SlotOk.same (s : Same H H') {i : Nat} {c : Cls} {d : D} {v : V} (h : SlotOk K fm H i c d v) : SlotOk K fm H' i c d v := by
  cases c with
  | _ => exact Rep.same s h
theorem SR.same (sr : SR cf K fm ρ σ H) (s : Same H H') : SR cf K fm ρ σ H' := ⟨sr.len, sr.at'.mono s, fun i d e => let ⟨v, h1, h2⟩ := sr.slot i d e; ⟨v, h1, h2.same s⟩, sr.vx⟩
/-- a slot read -/
theorem SlotOk.read (f : FmAt fm H) {i : Nat} {c : Cls} {d : D} {v : V} (h : SlotOk K fm H i c d v) : VR K fm Hs H (norm d (rdTag i c)) v := by
  refine vr_norm ?_
  have p1R : ∀ t : Tag, t.fr = false → t.lv = 1 → ∀ a, P1 fm a → NdR fm t Hs a := fun t e1 e2 a h => ⟨fun z => (by rcases z with z | z; rw [e1] at z; cases z; rw [e2] at z; cases z), fun _ => h.1, .inr h.1, fun j o => absurd o (h.2.1 j), h.2.2⟩
  have p1I : ∀ t : Tag, t.lv = 1 → ∀ a, P1 fm a → NdI fm t Hs a := fun t e2 a h => ⟨fun z => (by rw [e2] at z; cases z), fun _ => h.1, .inr h.1, fun j o => absurd o (h.2.1 j), h.2.2⟩
  have p2R : ∀ t : Tag, t.fr = false → t.lv = 2 → ∀ a, P2 fm a → NdR fm t Hs a := fun t e1 e2 a h => ⟨fun z => (by rcases z with z | z; rw [e1] at z; cases z; rw [e2] at z; cases z), fun z => (by rw [e2] at z; omega), h.1, fun j o => absurd o (h.2.1 j), h.2.2⟩
  have p2I : ∀ t : Tag, t.lv = 2 → ∀ a, P2 fm a → NdI fm t Hs a := fun t e2 a h => ⟨fun z => (by rw [e2] at z; cases z), fun z => (by rw [e2] at z; omega), h.1, fun j o => absurd o (h.2.1 j), h.2.2⟩
  have oR : ∀ t : Tag, t.fr = false → t.lv ≠ 0 → t.bw = [(i, false)] → ∀ a, fm.O i a → NdR fm t Hs a := fun t e1 e2 e3 a h => ⟨fun z => (by rcases z with z | z; rw [e1] at z; cases z; exact absurd z e2), fun _ => f.fresh i a h, .inr (f.fresh i a h), fun j o => ⟨false, by rw [e3, f.disj _ _ _ o h]; exact List.mem_cons_self⟩, f.ob i a h⟩
  cases c with
  | old => exact Rep.weak (p2R _ rfl rfl) (p2I _ rfl) h
  | nw => exact Rep.weak (p1R _ rfl rfl) (p1I _ rfl) h
  | own n =>
    cases n with
    | true => exact Rep.weak (oR _ rfl (show (1 : Nat) ≠ 0 by decide) rfl) (p1I _ rfl) (show Rep K H (fm.O i) (P1 fm) d v from h)
    | false => exact Rep.weak (oR _ rfl (show (2 : Nat) ≠ 0 by decide) rfl) (p2I _ rfl) (show Rep K H (fm.O i) (P2 fm) d v from h)
  | ex =>
    have e1 : ∀ a, fm.O i a → NdR fm (rdTag i .ex) Hs a := fun a z => by
      refine ⟨fun q => ?_, fun _ => f.fresh i a z, .inr (f.fresh i a z), fun j o => ⟨true, ?_⟩, f.ob i a z⟩
      · rcases q with q | q <;> cases q
      · rw [f.disj _ _ _ o z]; exact List.mem_cons_self
    have e2 : ∀ a, fm.O i a → NdI fm (rdTag i .ex) Hs a := fun a z => by
      refine ⟨(fun q => nomatch q), fun _ => f.fresh i a z, .inr (f.fresh i a z), fun j o => ?_, f.ob i a z⟩
      rw [f.disj _ _ _ o z]; exact List.mem_cons_self
    exact Rep.weak e1 e2 (show Rep K H (fm.O i) (fm.O i) d v from h)
  | vw k =>
    have e1 : ∀ a, Pv k fm a → NdR fm (rdTag i (.vw k)) Hs a := fun a z => by
      refine ⟨fun q => ?_, fun q => ?_, z.1, fun j o => ⟨true, ?_⟩, z.2.2⟩
      · rcases q with q | q <;> cases q
      · exact absurd (show 2 ≤ 1 from q) (by decide)
      · rw [z.2.1 j o]; exact List.mem_cons_self
    have e2 : ∀ a, Pv k fm a → NdI fm (rdTag i (.vw k)) Hs a := fun a z => by
      refine ⟨(fun q => nomatch q), fun q => absurd (show 2 ≤ 1 from q) (by decide), z.1, fun j o => ?_, z.2.2⟩
      rw [z.2.1 j o]; exact List.mem_cons_self
    exact Rep.weak e1 e2 (show Rep K H (Pv k fm) (Pv k fm) d v from h)
/-- a thing stored in a slot that owns nothing -/
theorem SlotOk.fz {i : Nat} {c : Cls} {x : DT} {v : V} (hc : c = .old ∨ c = .nw ∨ isVw c = true) (ho : okSt c x = true) (h : VR K fm Hs H x v) : SlotOk K fm H i c x.1 v := by
  obtain ⟨d, t⟩ := x
  have no : t.bw.isEmpty = true → ∀ a, NdR fm t Hs a → ∀ j, ¬ fm.O j a := fun e a n j o => by
    obtain ⟨b, z⟩ := n.2.2.2.1 j o
    rw [List.isEmpty_iff.mp e] at z; cases z
  have no' : t.bw.isEmpty = true → ∀ a, NdI fm t Hs a → ∀ j, ¬ fm.O j a := fun e a n j o => by
    have z := n.2.2.2.1 j o
    rw [List.isEmpty_iff.mp e] at z; cases z
  have vw : ∀ k, (t.bw.all fun p => p.1 == k) = true → Rep K H (Pv k fm) (Pv k fm) d v := fun k e => by
    have e2 : ∀ j b, (j, b) ∈ t.bw → j = k := fun j b m => eq_of_beq (List.all_eq_true.mp e (j, b) m)
    exact Rep.weak (fun a n => ⟨n.2.2.1, fun j o => by obtain ⟨b, z⟩ := n.2.2.2.1 j o; exact e2 j b z, n.2.2.2.2⟩) (fun a n => ⟨n.2.2.1, fun j o => e2 j true (n.2.2.2.1 j o), n.2.2.2.2⟩) h
  cases d with
  | imm i =>
    have r := rep_imm h
    rcases hc with rfl | rfl | hc
    · exact .imm r
    · exact .imm r
    · cases c with
      | vw k => exact .imm r
      | _ => cases hc
  | _ =>
    rcases hc with rfl | rfl | hc
    rotate_left 2
    · cases c with
      | vw k => exact vw k ho
      | _ => cases hc
    · have e : t.bw.isEmpty = true := ho
      exact Rep.weak (fun a n => ⟨n.2.2.1, no e a n, n.2.2.2.2⟩) (fun a n => ⟨n.2.2.1, no' e a n, n.2.2.2.2⟩) h
    · have e : (t.bw.isEmpty && decide (t.lv ≤ 1)) = true := ho
      rw [Bool.and_eq_true] at e
      exact Rep.weak (fun a n => ⟨n.2.1 (of_decide_eq_true e.2), no e.1 a n, n.2.2.2.2⟩) (fun a n => ⟨n.2.1 (of_decide_eq_true e.2), no' e.1 a n, n.2.2.2.2⟩) h
theorem SR.setFz {i : Nat} {x : DT} {v : V} {ρ' : Env} (sr : SR cf K fm ρ σ H) (h : VR K fm Hs H x v) (e : setFz cf i x ρ = some ρ') : SR cf K fm ρ' (σ.set i (some v)) H := by
  unfold Iv.setFz at e
  split at e
  · rename_i c
    cases e
    refine ⟨by simp [sr.len], sr.at', fun j d e2 => ?_, sr.vx⟩
    by_cases hj : i = j
    · subst hj
      rw [List.getElem?_set_self c.2.2] at e2
      cases e2
      exact ⟨v, List.getElem?_set_self (by rw [← sr.len]; exact c.2.2), SlotOk.fz c.1 c.2.1 h⟩
    · rw [List.getElem?_set_ne hj] at e2
      obtain ⟨u, h1, h2⟩ := sr.slot j d e2
      exact ⟨u, by rw [List.getElem?_set_ne hj]; exact h1, h2⟩
  · cases e
end
/-! ### an expression -/
abbrev WC := String → St → Hp → Prop
def tD (cf : Cf) (K : PySem.W.Frag) (W : WC) (e : E) : TE := fun σ H Q => ∃ fm ρ, SR cf K fm ρ σ H ∧ Wq K fm (fun c H' => W c σ H') H H (ev cf e ρ) Q
def Wqs (K : PySem.W.Frag) (fm : Fm) (W : String → Hp → Prop) (Hs H : Hp) (r : M (List DT)) (Q : List V → Hp → Prop) : Prop := match r with
  | .ok xs => ∀ vs H', Same H H' → VRs K fm Hs H' xs vs → Q vs H'
  | .exc c => ∀ H', Same H H' → W c H'
  | .bad => False
def tDs (cf : Cf) (K : PySem.W.Frag) (W : WC) (es : List E) : TA := fun σ H Q => ∃ fm ρ, SR cf K fm ρ σ H ∧ Wqs K fm (fun c H' => W c σ H') H H (evs cf es ρ) Q
section
variable {cf : Cf} {K : PySem.W.Frag} {fm : Fm} {ρ : Env} {σ : St} {H H' Hs H1 : Hp} {W : String → Hp → Prop} {Q Q' : VK}
theorem Wq.later {r : M DT} (h : Wq K fm W Hs H r Q) (s : Same H H') : Wq K fm W Hs H' r Q := by
  cases r with
  | ok x => exact fun v H2 s2 => h v H2 (s.trans s2)
  | exc c => exact fun H2 s2 => h H2 (s.trans s2)
  | bad => exact h
theorem Wq.mono {r : M DT} (h : Wq K fm W Hs H r Q) (q : ∀ v H', Q v H' → Q' v H') : Wq K fm W Hs H r Q' := by
  cases r with
  | ok x => exact fun v H2 s2 r => q _ _ (h v H2 s2 r)
  | exc c => exact h
  | bad => exact h
/-- a part reckoned first -/
theorem Wq.first {m : M DT} {f : DT → M DT} (s : Same Hs H) (h : Wq K fm W Hs H (m.bind f) Q) : Wq K fm W H H m fun v H' => ∃ x, Same H H' ∧ VR K fm Hs H' x v ∧ Wq K fm W Hs H' (f x) Q := by
  cases m with
  | ok x => exact fun v H2 s2 r => ⟨x, s2, r.back s, h.later s2⟩
  | exc c => exact h
  | bad => exact h
theorem Wq.firstM {α : Type} {m : M α} {f : α → M DT} (h : Wq K fm W Hs H (m.bind f) Q) : (∃ a, m = .ok a ∧ Wq K fm W Hs H (f a) Q) ∨ ∃ c, m = .exc c ∧ ∀ H', Same H H' → W c H' := by
  cases m with
  | ok a => exact .inl ⟨a, rfl, h⟩
  | exc c => exact .inr ⟨c, rfl, h⟩
  | bad => exact h.elim
theorem Wq.firsts {m : M (List DT)} {f : List DT → M DT} (s : Same Hs H) (h : Wq K fm W Hs H (m.bind f) Q) : Wqs K fm W H H m fun vs H' => ∃ xs, Same H H' ∧ VRs K fm Hs H' xs vs ∧ Wq K fm W Hs H' (f xs) Q := by
  cases m with
  | ok x => exact fun v H2 s2 r => ⟨x, s2, Paired.mapP r fun _ _ z => z.back s, h.later s2⟩
  | exc c => exact h
  | bad => exact h
theorem Wqs.mono {r : M (List DT)} {Q Q' : List V → Hp → Prop} (h : Wqs K fm W Hs H r Q) (q : ∀ v H', Q v H' → Q' v H') : Wqs K fm W Hs H r Q' := by
  cases r with
  | ok x => exact fun v H2 s2 r => q _ _ (h v H2 s2 r)
  | exc c => exact h
  | bad => exact h
theorem Wqs.later {r : M (List DT)} {Q : List V → Hp → Prop} (h : Wqs K fm W Hs H r Q) (s : Same H H') : Wqs K fm W Hs H' r Q := by
  cases r with
  | ok x => exact fun v H2 s2 => h v H2 (s.trans s2)
  | exc c => exact fun H2 s2 => h H2 (s.trans s2)
  | bad => exact h
end
section
variable {cf : Cf} {K : PySem.W.Frag} {fm : Fm} {ρ : Env} {σ : St} {H H' Hs H1 : Hp} {W : WC} {Q Q' : VK}
/-- e is reckoned, then f goes on -/
theorem tD.bind {e : E} {f : DT → M DT} (sr : SR cf K fm ρ σ H) (s : Same Hs H) (h : Wq K fm (fun c H' => W c σ H') Hs H ((ev cf e ρ).bind f) Q)
    (q : ∀ v H' x, Same H H' → SR cf K fm ρ σ H' → VR K fm Hs H' x v → Wq K fm (fun c H' => W c σ H') Hs H' (f x) Q → Q' v H') : tD cf K W e σ H Q' :=
  ⟨fm, ρ, sr, (h.first s).mono fun v H2 ⟨x, s2, r, w⟩ => q v H2 x s2 (sr.same s2) r w⟩
theorem tDs.bind {es : List E} {f : List DT → M DT} {Q' : List V → Hp → Prop} (sr : SR cf K fm ρ σ H) (s : Same Hs H) (h : Wq K fm (fun c H' => W c σ H') Hs H ((evs cf es ρ).bind f) Q)
    (q : ∀ v H' x, Same H H' → SR cf K fm ρ σ H' → VRs K fm Hs H' x v → Wq K fm (fun c H' => W c σ H') Hs H' (f x) Q → Q' v H') : tDs cf K W es σ H Q' :=
  ⟨fm, ρ, sr, (h.firsts s).mono fun v H2 ⟨x, s2, r, w⟩ => q v H2 x s2 (sr.same s2) r w⟩
end
theorem _root_.L2.PE.mono' {X : Cx} {e : Expr} {t t' : TE} (h : PE X e t) (q : ∀ σ H Q, t' σ H Q → t σ H Q) : PE X e t' := ⟨fun pins s σ H Q I w => h.run pins s σ H Q I (q σ H Q w)⟩
theorem _root_.L2.PT.mono' {X : Cx} {e : Expr} {t t' : TT} (h : PT X e t) (q : ∀ σ H Q, t' σ H Q → t σ H Q) : PT X e t' := ⟨fun pins s σ H Q I w => h.run pins s σ H Q I (q σ H Q w)⟩
theorem _root_.L2.PA.mono' {X : Cx} {e : List Expr} {t t' : TA} (h : PA X e t) (q : ∀ σ H Q, t' σ H Q → t σ H Q) : PA X e t' := ⟨fun pos pins s σ H Q I w => h.run pos pins s σ H Q I (q σ H Q w)⟩
theorem asI_cases (x : DT) : (∃ i, x.1 = .imm (.int i) ∧ asI x = .ok i) ∨ asI x = .bad := by
  obtain ⟨d, t⟩ := x
  cases d with
  | imm i => cases i with
    | int i => exact .inl ⟨i, rfl, rfl⟩
    | _ => exact .inr rfl
  | _ => exact .inr rfl
theorem asB_cases (x : DT) : (∃ i, x.1 = .imm (.bl i) ∧ asB x = .ok i) ∨ asB x = .bad := by
  obtain ⟨d, t⟩ := x
  cases d with
  | imm i => cases i with
    | bl i => exact .inl ⟨i, rfl, rfl⟩
    | _ => exact .inr rfl
  | _ => exact .inr rfl
section
variable {K : PySem.W.Frag} {fm : Fm} {H Hs : Hp} {W : String → Hp → Prop} {Q : VK}
theorem Wq.int {x : DT} {v : V} {f : Int → M DT} (r : VR K fm Hs H x v) (h : Wq K fm W Hs H ((asI x).bind f) Q) : ∃ i, v = .int i ∧ Wq K fm W Hs H (f i) Q := by
  rcases asI_cases x with ⟨i, e, e2⟩ | e
  · rw [e2] at h
    obtain ⟨d, t⟩ := x
    cases e
    exact ⟨i, repI_int (rep_imm r), h⟩
  · rw [e] at h; exact h.elim
theorem Wq.bool {x : DT} {v : V} {f : Bool → M DT} (r : VR K fm Hs H x v) (h : Wq K fm W Hs H ((asB x).bind f) Q) : ∃ i, v = .bl i ∧ Wq K fm W Hs H (f i) Q := by
  rcases asB_cases x with ⟨i, e, e2⟩ | e
  · rw [e2] at h
    obtain ⟨d, t⟩ := x
    cases e
    exact ⟨i, repI_bl (rep_imm r), h⟩
  · rw [e] at h; exact h.elim
end
section
variable {X : Cx} {cf : Cf} {W : WC} {a b c lo hi : E} {ea eb ec el eh : Expr} {pos : Pos}
theorem snd_bin {op : Operator} (ha : PE X ea (tD cf X.K W a)) (hb : PE X eb (tD cf X.K W b)) : PE X (.BinOp ea op eb pos) (tD cf X.K W (.bin op a b)) :=
  (pe_op (bin_ok op) ha hb).mono' fun σ H Q ⟨fm, ρ, sr, w⟩ => tD.bind sr Same.refl w fun v H1 x s1 sr1 r1 w1 => tD.bind sr1 s1 w1 fun u H2 y s2 sr2 r2 w2 => ⟨fm, _, H, x, y, sr.at', s1.trans s2, r1.same s2, r2, w2⟩
theorem snd_neg (ha : PE X ea (tD cf X.K W a)) : PE X (.UnaryOp .USub ea pos) (tD cf X.K W (.neg a)) :=
  (pe_un un_neg ha).mono' fun σ H Q ⟨fm, ρ, sr, w⟩ => tD.bind sr Same.refl w fun v H1 x s1 sr1 r1 w1 => let ⟨i, e, w2⟩ := Wq.int r1 w1; ⟨i, e, w2.imm (X := X) (.int _)⟩
theorem snd_not (ha : PE X ea (tD cf X.K W a)) : PE X (.UnaryOp .Not ea pos) (tD cf X.K W (.not a)) :=
  (pe_not ha).mono' fun σ H Q ⟨fm, ρ, sr, w⟩ => tD.bind sr Same.refl w fun v H1 x s1 sr1 r1 w1 => let ⟨i, e, w2⟩ := Wq.bool r1 w1; ⟨i, e, w2.imm (X := X) (.bl _)⟩
theorem snd_and {r : List Expr} (ha : PE X ea (tD cf X.K W a)) (hb : PE X (.BoolOp .And (eb :: r) pos) (tD cf X.K W b)) : PE X (.BoolOp .And (ea :: eb :: r) pos) (tD cf X.K W (.and a b)) :=
  (pe_and ha hb).mono' fun σ H Q ⟨fm, ρ, sr, w⟩ => tD.bind sr Same.refl w fun v H1 x s1 sr1 r1 w1 => by
    obtain ⟨i, e, w2⟩ := Wq.bool r1 w1
    refine ⟨i, e, ?_⟩
    cases i with
    | true =>
      rw [if_pos rfl] at w2 ⊢
      refine ⟨fm, ρ, sr1, ?_⟩
      cases h : ev cf b ρ with
      | ok y => rw [h] at w2; exact fun v H' s r => w2 v H' s (r.back s1)
      | exc c => rw [h] at w2; exact w2
      | bad => rw [h] at w2; exact w2
    | false =>
      rw [if_neg Bool.false_ne_true] at w2 ⊢
      exact w2.imm (X := X) (.bl _)
theorem snd_or {r : List Expr} (ha : PE X ea (tD cf X.K W a)) (hb : PE X (.BoolOp .Or (eb :: r) pos) (tD cf X.K W b)) : PE X (.BoolOp .Or (ea :: eb :: r) pos) (tD cf X.K W (.or a b)) :=
  (pe_or ha hb).mono' fun σ H Q ⟨fm, ρ, sr, w⟩ => tD.bind sr Same.refl w fun v H1 x s1 sr1 r1 w1 => by
    obtain ⟨i, e, w2⟩ := Wq.bool r1 w1
    refine ⟨i, e, ?_⟩
    cases i with
    | false =>
      rw [if_neg Bool.false_ne_true] at w2 ⊢
      refine ⟨fm, ρ, sr1, ?_⟩
      cases h : ev cf b ρ with
      | ok y => rw [h] at w2; exact fun v H' s r => w2 v H' s (r.back s1)
      | exc c => rw [h] at w2; exact w2
      | bad => rw [h] at w2; exact w2
    | true =>
      rw [if_pos rfl] at w2 ⊢
      exact w2.imm (X := X) (.bl _)
theorem Wq.cmp {K : PySem.W.Frag} {fm : Fm} {H Hs : Hp} {W : String → Hp → Prop} {Q : VK} {op : CmpOp} {x y : DT} {v u : V} {f : Bool → M DT} (r1 : VR K fm Hs H x v) (r2 : VR K fm Hs H y u) (h : Wq K fm W Hs H ((cmpD op x.1 y.1).bind f) Q) : rCmp K op v u H fun z H' => H' = H ∧ ∃ r, z = .bl r ∧ Wq K fm W Hs H (f r) Q := by
  have ne : ∀ c, cmpD op x.1 y.1 ≠ .exc c := by
    intro c
    have e1 : ∀ a b c, eqD a b ≠ .exc c := by
      intro a b c h
      unfold eqD at h
      split at h <;> first | cases h | (split at h <;> cases h)
    have e2 : ∀ a b c, inD a b ≠ .exc c := by
      intro a b c h
      have e0 : ∀ a ys, inAny a ys ≠ .exc c := by
        intro a ys h
        unfold inAny at h
        split at h <;> cases h
      unfold inD at h
      split at h <;> first | cases h | exact e0 _ _ h | (split at h <;> first | cases h | exact e0 _ _ h)
    cases op <;> simp only [cmpD]
    case Eq => exact e1 _ _ _
    case NotEq => intro h; cases h' : eqD x.1 y.1 with
      | ok a => rw [h'] at h; cases h
      | exc a => exact e1 _ _ _ h'
      | bad => rw [h'] at h; cases h
    case In => exact e2 _ _ _
    case NotIn => intro h; cases h' : inD x.1 y.1 with
      | ok a => rw [h'] at h; cases h
      | exc a => exact e2 _ _ _ h'
      | bad => rw [h'] at h; cases h
    all_goals (intro h; split at h <;> cases h)
  rcases h.firstM with ⟨r, e, w⟩ | ⟨c, e, _⟩
  · exact ⟨_, _, _, _, x.1, y.1, r, r1, r2, e, rfl, r, rfl, w⟩
  · exact absurd e (ne c)
theorem rCmp.mono {K : PySem.W.Frag} {op : CmpOp} {v u : V} {H : Hp} {Q Q' : VK} (h : rCmp K op v u H Q) (q : ∀ z H', Q z H' → Q' z H') : rCmp K op v u H Q' := by
  obtain ⟨p, q1, p', q', x, y, b, h1, h2, e, h⟩ := h
  exact ⟨p, q1, p', q', x, y, b, h1, h2, e, q _ _ h⟩
theorem snd_cmp (hr : X.A.units + 65 < cLine) {op : CmpOp} (ha : PE X ea (tD cf X.K W a)) (hb : PE X eb (tD cf X.K W b)) (hm : behindInMarks op eb = false) : PE X (.Compare ea [op] [eb] pos) (tD cf X.K W (.cmp op a b)) :=
  (pe_cmpR (cmp_ok hr op) ha hb hm).mono' fun σ H Q ⟨fm, ρ, sr, w⟩ => tD.bind sr Same.refl w fun v H1 x s1 sr1 r1 w1 => tD.bind sr1 s1 w1 fun u H2 y s2 sr2 r2 w2 =>
    rCmp.mono (Wq.cmp (r1.same s2) r2 w2) fun z H' ⟨e1, r, e2, w3⟩ => by subst e1 e2; exact w3.imm (X := X) (.bl _)
theorem snd_chain (hr : X.A.units + 65 < cLine) {op op' : CmpOp} (ha : PE X ea (tD cf X.K W a)) (hb : PE X eb (tD cf X.K W b)) (hc : PE X ec (tD cf X.K W c)) (hm : lastMarks [op, op'] [eb, ec] = false) : PE X (.Compare ea [op, op'] [eb, ec] pos) (tD cf X.K W (.chain op op' a b c)) :=
  (pe_chain (cmp_ok hr op) (cmp_ok hr op') ha hb hc hm).mono' fun σ H Q ⟨fm, ρ, sr, w⟩ => tD.bind sr Same.refl w fun v H1 x s1 sr1 r1 w1 => tD.bind sr1 s1 w1 fun u H2 y s2 sr2 r2 w2 =>
    rCmp.mono (Wq.cmp (r1.same s2) r2 w2) fun z H' ⟨e1, r, e2, w3⟩ => by
      subst e1 e2
      refine ⟨r, rfl, ?_⟩
      cases r with
      | true =>
        rw [if_pos rfl] at w3 ⊢
        exact tD.bind sr2 (s1.trans s2) w3 fun u' H3 z s3 sr3 r3 w4 => rCmp.mono (Wq.cmp (r2.same s3) r3 w4) fun z' H' ⟨e1, r, e2, w5⟩ => by subst e1 e2; exact w5.imm (X := X) (.bl _)
      | false =>
        rw [if_neg Bool.false_ne_true] at w3 ⊢
        exact w3.imm (X := X) (.bl _)
theorem snd_idx (ha : PE X ea (tD cf X.K W a)) (hb : PE X eb (tD cf X.K W b)) (hs : PlainIx eb) : PE X (.Subscript ea eb pos) (tD cf X.K W (.idx a b)) :=
  (pe_ix idx_ok ha hb hs).mono' fun σ H Q ⟨fm, ρ, sr, w⟩ => tD.bind sr Same.refl w fun v H1 x s1 sr1 r1 w1 => tD.bind sr1 s1 w1 fun u H2 y s2 sr2 r2 w2 => by
    obtain ⟨i, e, w3⟩ := Wq.int r2 w2
    exact ⟨fm, _, H, x, i, sr.at', s1.trans s2, r1.same s2, e, w3⟩
theorem snd_slc {p2 : Pos} (ha : PE X ea (tD cf X.K W a)) (hl : PE X el (tD cf X.K W lo)) (hh : PE X eh (tD cf X.K W hi)) : PE X (.Subscript ea (.Slice (some el) (some eh) none p2) pos) (tD cf X.K W (.slc a lo hi)) :=
  (pe_slice slc_ok ha (po_some hl) (po_some hh)).mono' fun σ H Q ⟨fm, ρ, sr, w⟩ => tD.bind sr Same.refl w fun v H1 x s1 sr1 r1 w1 => tD.bind sr1 s1 w1 fun u H2 y s2 sr2 r2 w2 => by
    obtain ⟨i, e, w3⟩ := Wq.int r2 w2
    exact ⟨i, e, tD.bind sr2 (s1.trans s2) w3 fun u' H3 z s3 sr3 r3 w4 => let ⟨j, e', w5⟩ := Wq.int r3 w4; ⟨j, e', fm, _, H, x, sr.at', (s1.trans s2).trans s3, (r1.same s2).same s3, w5⟩⟩
theorem snd_slcL {p2 : Pos} (ha : PE X ea (tD cf X.K W a)) (hl : PE X el (tD cf X.K W lo)) : PE X (.Subscript ea (.Slice (some el) none none p2) pos) (tD cf X.K W (.slcL a lo)) :=
  (pe_slice slc_ok ha (po_some hl) po_none).mono' fun σ H Q ⟨fm, ρ, sr, w⟩ => tD.bind sr Same.refl w fun v H1 x s1 sr1 r1 w1 => tD.bind sr1 s1 w1 fun u H2 y s2 sr2 r2 w2 => by
    obtain ⟨i, e, w3⟩ := Wq.int r2 w2
    exact ⟨i, e, fm, _, H, x, sr.at', s1.trans s2, r1.same s2, w3⟩
theorem snd_slcH {p2 : Pos} (ha : PE X ea (tD cf X.K W a)) (hl : PE X eh (tD cf X.K W hi)) : PE X (.Subscript ea (.Slice none (some eh) none p2) pos) (tD cf X.K W (.slcH a hi)) :=
  (pe_slice slc_ok ha po_none (po_some hl)).mono' fun σ H Q ⟨fm, ρ, sr, w⟩ => tD.bind sr Same.refl w fun v H1 x s1 sr1 r1 w1 => tD.bind sr1 s1 w1 fun u H2 y s2 sr2 r2 w2 => by
    obtain ⟨i, e, w3⟩ := Wq.int r2 w2
    exact ⟨i, e, fm, _, H, x, sr.at', s1.trans s2, r1.same s2, w3⟩
theorem snd_slcN {p2 : Pos} (ha : PE X ea (tD cf X.K W a)) : PE X (.Subscript ea (.Slice none none none p2) pos) (tD cf X.K W (.slcN a)) :=
  (pe_slice slc_ok ha po_none po_none).mono' fun σ H Q ⟨fm, ρ, sr, w⟩ => tD.bind sr Same.refl w fun v H1 x s1 sr1 r1 w1 => ⟨fm, _, H, x, sr.at', s1, r1, w1⟩
theorem snd_rev {k : Nat} {p1 p2 p3 : Pos} (ha : PE X ea (tD cf X.K W a)) : PE X (.Subscript ea (.Slice none none (some (.UnaryOp .USub (.Constant (.int 1) k p1) p2)) p3) pos) (tD cf X.K W (.rev a)) :=
  (pe_revL ha).mono' fun σ H Q ⟨fm, ρ, sr, w⟩ => tD.bind sr Same.refl w fun v H1 x s1 sr1 r1 w1 => rev_ok sr.at' s1 r1 w1
/-! displays -/
theorem VRs.len {K : PySem.W.Frag} {fm : Fm} {Hs H : Hp} {xs : List DT} {vs : List V} (h : VRs K fm Hs H xs vs) : xs.length = vs.length := Paired.length h
theorem allImm_rd {K : PySem.W.Frag} {fm : Fm} {Hs H : Hp} : ∀ {xs : List DT} {vs : List V} {is : List I}, VRs K fm Hs H xs vs → allImm (xs.map (·.1)) = some is → RepIs K H is vs
  | [], _, _, .nil, e => by cases e; exact .nil
  | (d, t) :: xs, _, is, .cons h r, e => by
    cases d with
    | imm i =>
      simp only [List.map_cons, allImm, Option.map_eq_some_iff] at e
      obtain ⟨js, e1, rfl⟩ := e
      exact .cons (rep_imm h) (allImm_rd r e1)
    | _ => cases e
theorem tags_rd {K : PySem.W.Frag} {fm : Fm} {Hs H : Hp} : ∀ {xs : List DT} {vs : List V}, VRs K fm Hs H xs vs → (xs.all fun x => !isScr x.1) = true → Reps K H (fun a => NdI fm (tagsOf xs).root Hs a) (xs.map (·.1)) vs
  | [], _, .nil, _ => .nil
  | (d, t) :: xs, _, .cons h r, e => by
    rw [List.all_cons, Bool.and_eq_true] at e
    have ih := tags_rd r e.2
    have hs : isScr d = false := by simpa using e.1
    cases d with
    | imm i => exact .cons rfl (.imm (rep_imm h)) ih
    | scr i => cases hs
    | _ =>
      refine .cons hs (Rep.weak (fun a n => ?_) (fun a n => ?_) h) (ih.weak fun a n => ?_)
      · exact NdI.le (show t.root.le (t.join (tagsOf xs)).root from ⟨Nat.le_max_left _ _, fun j hj => by
          obtain ⟨p, hp, e⟩ := List.mem_map.mp hj
          exact List.mem_map.mpr ⟨p, List.mem_append_left _ hp, e⟩⟩) (NdI.ofR n)
      · exact NdI.le (show t.root.le (t.join (tagsOf xs)).root from ⟨Nat.le_max_left _ _, fun j hj => by
          obtain ⟨p, hp, e⟩ := List.mem_map.mp hj
          exact List.mem_map.mpr ⟨p, List.mem_append_left _ hp, e⟩⟩) (NdI.ofI n)
      · exact NdI.le (show (tagsOf xs).root.le (t.join (tagsOf xs)).root from ⟨Nat.le_max_right _ _, fun j hj => by
          obtain ⟨p, hp, e⟩ := List.mem_map.mp hj
          exact List.mem_map.mpr ⟨p, List.mem_append_right _ hp, e⟩⟩) n
theorem Wq.mkL {K : PySem.W.Frag} {fm : Fm} {Hs H : Hp} {W : String → Hp → Prop} {Q : VK} {xs : List DT} {vs : List V} (w : Wq K fm W Hs H (mkL xs) Q) (f : FmAt fm Hs) (s : Same Hs H) (r : VRs K fm Hs H xs vs) : ∀ p, H p = none → Q (.ref p) (upd H p (.lst vs)) := by
  unfold Iv.mkL at w
  split at w
  · rename_i is e
    exact fun p hp => w _ _ (Same.new hp) (.lsi (NdR.new f s hp) upd_same ((allImm_rd r e).same (Same.new hp)))
  · obtain ⟨c, w⟩ := Wq.ite w
    intro p hp
    refine w _ _ (Same.new hp) (.lsd (NdR.new f s hp) upd_same (((Reps.trk (tags_rd r c)).weak fun a z => ⟨z.1, fun e => z.2 (e ▸ hp)⟩).same (Same.new hp)))
theorem Wq.mkT {K : PySem.W.Frag} {fm : Fm} {Hs H : Hp} {W : String → Hp → Prop} {Q : VK} {xs : List DT} {vs : List V} (w : Wq K fm W Hs H (mkT xs) Q) (r : VRs K fm Hs H xs vs) : ∀ p, H p = none → Q (.ref p) (upd H p (.tup vs)) := by
  unfold Iv.mkT at w
  split at w
  · rename_i is e
    exact fun p hp => w _ _ (Same.new hp) (.imm (.tup (.inl (.inl upd_same)) ((allImm_rd r e).same (Same.new hp))))
  · obtain ⟨c, w⟩ := Wq.ite w
    exact fun p hp => w _ _ (Same.new hp) (.tpd (.inl (.inl upd_same)) ((tags_rd r c).same (Same.new hp)))
theorem snd_lst {es : List E} {xs : List Expr} (h : PA X xs (tDs cf X.K W es)) : PE X (.List xs pos) (tD cf X.K W (.lst es)) :=
  (pe_lst h).mono' fun σ H Q ⟨fm, ρ, sr, w⟩ => tDs.bind sr Same.refl w fun v H1 x s1 sr1 r1 w1 => by
    obtain ⟨c, w2⟩ := Wq.ite w1
    exact ⟨by rw [← VRs.len r1, sizeLine_eq]; omega, Wq.mkL w2 sr.at' s1 r1⟩
theorem snd_tup {es : List E} {xs : List Expr} {x1 : Nat} (h : PA X xs (tDs cf X.K W es)) : PE X (.Tuple xs x1 pos) (tD cf X.K W (.tup es)) :=
  (pe_tup h).mono' fun σ H Q ⟨fm, ρ, sr, w⟩ => tDs.bind sr Same.refl w fun v H1 x s1 sr1 r1 w1 => by
    obtain ⟨c, w2⟩ := Wq.ite w1
    exact ⟨by rw [← VRs.len r1, sizeLine_eq]; omega, Wq.mkT w2 r1⟩
theorem snd_nil : PA X [] (tDs cf X.K W []) :=
  pa_nil.mono' fun σ H Q ⟨fm, ρ, sr, w⟩ => w [] H Same.refl .nil
theorem snd_cons {es : List E} {xs : List Expr} (ha : PE X ea (tD cf X.K W a)) (hr : PA X xs (tDs cf X.K W es)) (hs : starEach (ea :: xs) X.env = (false, eval ea X.env) :: starEach xs X.env) : PA X (ea :: xs) (tDs cf X.K W (a :: es)) :=
  (pa_cons ha hr hs).mono' fun σ H Q ⟨fm, ρ, sr, w⟩ => by
    have w : Wqs X.K fm (fun c H' => W c σ H') H H ((ev cf a ρ).bind fun x => (evs cf es ρ).bind fun xs => .ok (x :: xs)) Q := w
    refine ⟨fm, ρ, sr, ?_⟩
    cases e1 : ev cf a ρ with
    | bad => rw [e1] at w; exact w
    | exc c => rw [e1] at w; exact w
    | ok x =>
      rw [e1] at w
      have w : Wqs X.K fm (fun c H' => W c σ H') H H ((evs cf es ρ).bind fun xs => .ok (x :: xs)) Q := w
      refine fun v H1 s1 r1 => ⟨fm, ρ, sr.same s1, ?_⟩
      cases e2 : evs cf es ρ with
      | bad => rw [e2] at w; exact w
      | exc c => rw [e2] at w; exact fun H2 s2 => w H2 (s1.trans s2)
      | ok ys =>
        rw [e2] at w
        exact fun vs H2 s2 r2 => w (v :: vs) H2 (s1.trans s2) (.cons (r1.same s2) (Paired.mapP r2 fun _ _ z => z.back s1))
end
end Iv

/-! Iv Ex: an error in the air, whoever holds it; an error that leaves a comprehension. -/
namespace Iv
open PySem PySem.Spec L2
open PyProof.Rows hiding St
def Trc (B : Heap) (l : List PySem.Env) (a : Addr) (Z : Obj → Prop) (h : Heap) : Prop := B.StaysIn h ∧ B.get? a = none ∧ h.FunFrames B l ∧ ∃ fl, HandSPX.TracedZ h B a Z fl
def SkyA (B : Heap) (l : List PySem.Env) (a : Addr) (Z : Obj → Prop) (h : Heap) : Prop :=
  (B.StaysIn h ∧ B.get? a = none ∧ h.FunFrames B l ∧ ∃ oe vs, h.get? a = some oe ∧ Z oe ∧ oe.data = .fields vs ∧ vs[1]? = some .none) ∨ Trc B l a Z h
section
variable {M : Model} {A : Around} {E₁ : Value → Shared → Prop} {env : PySem.Env} {outer : List PySem.Env} {L a : Addr} {Z : Obj → Prop} {B : Heap} {s : Shared} {Q : Unit → Shared → Prop}
theorem SkyA.ofSky {l : List PySem.Env} {h : Heap} (x : L2.Sky B l a Z L h) : SkyA B l a Z h := by
  rcases x with x | ⟨x1, x2, x3, x4⟩ | ⟨x1, x2, x3, x4⟩
  · exact .inl x
  · exact .inr ⟨x1, x2, x3, _, x4⟩
  · exact .inr ⟨x1, x2, x3, _, x4⟩
theorem Trc.note (hZ : HandSPX.Steady Z) (hfr : A.frames = some (env :: outer)) (hf : env.frame = some L) (x : Trc B (env :: outer) a Z s.heap)
    (hQ : ∀ h', Trc B (env :: outer) a Z h' → s.heap.UpToSlots h' → Q () { s with heap := h' }) : wpAny M A (noteFrame (.ref a) env) Q E₁ s := by
  obtain ⟨hkb, hen, hl, fl, oe, vs, T, oT, ts, he, hz, hd, h1, hnT, hTe, hT, hdT, h3⟩ := x
  have x0 : Trc B (env :: outer) a Z s.heap := ⟨hkb, hen, hl, fl, oe, vs, T, oT, ts, he, hz, hd, h1, hnT, hTe, hT, hdT, h3⟩
  unfold noteFrame
  simp only [hf]
  refine wpAny_bind (wpAny_field he hd h1 ?_)
  rw [if_pos (by simp : (Value.ref T != Value.none) = true)]
  refine wpAny_bind (wpAny_field hT hdT h3 ?_)
  by_cases hb : (fl == rawInt L) = true
  · rw [if_pos hb]
    exact wpAny_pure (hQ s.heap x0 (Heap.UpToSlots.refl _))
  · rw [if_neg hb]
    refine wpAny_bind (wpAny_setField hT hdT (Array.getElem?_eq_some_iff.mp h3).1 ?_)
    have oth : ∀ b, b ≠ T → (s.heap.update T (Obj.mapFields (·.setIfInBounds 3 Value.none))).get? b = s.heap.get? b := fun b q => Heap.get?_update_other _ _ q.symm
    have ntT : ∀ b o, s.heap.get? b = some o → (∀ vs, o.data ≠ .fields vs) → b ≠ T := fun b o hb hnf q => by
      subst q
      rw [hT] at hb
      cases hb
      exact hnf ts hdT
    refine HandSPX.wpAny_entryZ hZ hfr (hl.of_keeps fun b o hb hnf => ⟨o, by rw [oth b (ntT b o hb hnf)]; exact hb, rfl⟩) hf (by rw [oth a hTe.symm]; exact he)
      (fun b o hbo => by rw [oth b (fun q => by rw [q, hnT] at hbo; cases hbo)]; exact hkb b o hbo) hen hd (Array.getElem?_eq_some_iff.mp h1).1 hz fun h' ⟨n1, n2, n3, n4⟩ => ?_
    exact hQ h' ⟨n1, hen, n2, _, n3⟩ fun b o hb hnf => n4 b o (by show (s.heap.update _ _).get? b = _; rw [oth b (ntT b o hb hnf)]; exact hb) hnf
theorem SkyA.note (hZ : HandSPX.Steady Z) (hfr : A.frames = some (env :: outer)) (hf : env.frame = some L) (x : SkyA B (env :: outer) a Z s.heap)
    (hQ : ∀ h', Trc B (env :: outer) a Z h' → s.heap.UpToSlots h' → Q () { s with heap := h' }) : wpAny M A (noteFrame (.ref a) env) Q E₁ s := by
  rcases x with ⟨hB, hn, hl, oe, vs, he, hz, hd, h1⟩ | x
  · exact HandSPX.look_newZ hZ hfr hl hf he hB hn hd h1 hz fun h' ⟨y1, y2, y3, y4⟩ up => hQ h' ⟨y1, y2, y3, _, y4⟩ up
  · exact Trc.note hZ hfr hf x hQ
theorem Trc.fly {l : List PySem.Env} (x : Trc B l a Z s.heap) (hQ : ∀ h', HandSPX.FlyingZ B l a Z h' → s.heap.UpToSlots h' → Q () { s with heap := h' }) : wpAny M A (setFlight (.ref a) none) Q E₁ s := by
  obtain ⟨x1, x2, x3, fl, x4⟩ := x
  exact HandSPX.setFlight_anyZ x1 x3 x4 fun h' y1 y2 y3 up => hQ h' ⟨y1, x2, y2, y3⟩ up
theorem Trc.hold {l : List PySem.Env} {fr : Option Addr} (x : Trc B l a Z s.heap) (hQ : ∀ h', Trc B l a Z h' → s.heap.UpToSlots h' → Q () { s with heap := h' }) : wpAny M A (setFlight (.ref a) fr) Q E₁ s := by
  obtain ⟨x1, x2, x3, fl, x4⟩ := x
  exact HandSPX.setFlight_anyZ x1 x3 x4 fun h' y1 y2 y3 up => hQ h' ⟨y1, x2, y2, _, y3⟩ up
theorem SkyA.land (hZ : HandSPX.Steady Z) (hfr : A.frames = some (env :: outer)) (hf : env.frame = some L) (x : SkyA B (env :: outer) a Z s.heap)
    (hQ : ∀ h', HandSPX.FlyingZ B (env :: outer) a Z h' → s.heap.UpToSlots h' → Q () { s with heap := h' }) : wpAny M A (noteFrame (.ref a) env) (fun _ s₂ => wpAny M A (setFlight (.ref a) none) Q E₁ s₂) E₁ s :=
  SkyA.note hZ hfr hf x fun h1 t1 up1 => Trc.fly (s := { s with heap := h1 }) t1 fun h2 f2 up2 => hQ h2 f2 (up1.trans up2)
end
/-- an error in the air of X -/
def XEa (X : Cx) (W : WX) (u : Value) (s' : Shared) : Prop :=
  ∃ (a : Addr) (B : Heap) (sI : Shared) (pins : List (Addr × Obj)) (σ : St) (H : Hp) (cls : Value) (d : Option Addr),
    u = .ref a ∧ Inv X pins σ H sI ∧ (∀ b o, sI.heap.get? b = some o → b ∉ frs X.stack → B.get? b = some o) ∧ sI.heap.UpToSlots s'.heap ∧
      SkyA B X.stack a (Zc cls d) s'.heap ∧ H a = none ∧ s'.os = sI.os ∧ AllBare s'.gens ∧ W cls d σ H
def TakesA (X : Cx) (W : WX) : Prop := ∀ u s', XEa X W u s' → X.xe u s'
section
variable {X : Cx} {W W' : WX}
theorem TakesA.t (t : TakesA X W) : Takes X W := fun u s' ⟨a, B, sI, pins, σ, H, cls, d, e, I, nb, up, sky, na, os, ag, w⟩ => t u s' ⟨a, B, sI, pins, σ, H, cls, d, e, I, nb, up, .ofSky sky, na, os, ag, w⟩
theorem TakesA.imp (t : TakesA X W) (h : ∀ c d σ H, W' c d σ H → W c d σ H) : TakesA X W' := fun u s' ⟨a, B, sI, pins, σ, H, cls, d, e, I, nb, up, sky, na, os, ag, w⟩ => t u s' ⟨a, B, sI, pins, σ, H, cls, d, e, I, nb, up, sky, na, os, ag, h _ _ _ _ w⟩
theorem takesA_no (h : ∀ c d σ H, ¬ W c d σ H) : TakesA X W := fun u s' ⟨a, B, sI, pins, σ, H, cls, d, e, I, nb, up, sky, na, os, ag, w⟩ => absurd w (h _ _ _ _)
/-- out of a def -/
theorem takesA_of (hs : X.stack = X.env :: X.outer) (hf : X.env.frame = some X.env.locals) (hex : X.ex = []) {E : XK} {E₁ : Value → Shared → Prop}
    (hx : X.xe = fun e s' => wpAny (model X.prog X.w) X.A (leaving X.env e) (fun _ s'' => L2.CX X.prog X.w X.outer X.H_0 X.s_0 E e s'') E₁ s') : TakesA X (fun cls d _ H => E cls d H) := by
  rintro u s' ⟨a, B, sI, pins, σ, H, cls, d, rfl, I, nb, up, sky, na, os, ag, w⟩
  rw [hx]
  have hfr : X.A.frames = some (X.env :: X.outer) := by rw [I.ok.frames, hs]
  have noex : ∀ b, b ∉ X.ex := by rw [hex]; exact fun b => List.not_mem_nil
  have nst : ∀ b o, X.s_0.heap.get? b = some o → b ∉ X.fs → b ∉ frs X.stack := fun b o e hb hm => (List.mem_cons.mp (I.stkSub b hm)).elim
    (fun z => absurd (Nat.lt_of_lt_of_le (z ▸ Heap.lt_size e) I.ok.above) (Nat.lt_irrefl _)) hb
  have hokB := I.inGround nb
  rw [hs] at sky
  refine wpAny_bind (SkyA.note Zc.steady hfr hf sky fun h1 t1 up1 => Trc.fly (s := { s' with heap := h1 }) t1 fun h2 f2 up2 => ?_)
  obtain ⟨g1, g2, g3, g4⟩ := f2
  have upAll := (up.trans up1).trans up2
  have ub : UB (frs X.outer) X.H_0 H X.s_0.heap B h2 := by
    refine ⟨fun b o e n hb => nb b o (I.base.keep b o e n hb (noex b)) (nst b o e hb), fun b o e hb => ?_, fun b o e n => I.base.free b o e n (noex b), fun b o e hb => ?_, I.base.tups, I.base.frzs, I.base.tbls⟩
    · obtain ⟨_, o', e', hnf⟩ := I.ok.funs.mem hb
      cases e.symm.trans e'
      obtain ⟨sl, e1⟩ := I.base.slot b o e (I.ok.frf b hb) hb (noex b)
      obtain ⟨sl2, e2⟩ := upAll b _ e1 hnf
      exact ⟨sl2, e2⟩
    · obtain ⟨o', e1⟩ := I.base.there b o e (noex b)
      exact ⟨o', nb b o' e1 (nst b o e hb)⟩
  exact ⟨a, B, H, cls, d, rfl, ⟨g1, g2, g3.2.2, g4⟩, hokB, ub, na, os.trans I.os, ag, w⟩
end
/-- frames stand by what lies at them -/
theorem funFrames_at {B B' h h' : Heap} : ∀ {l : List PySem.Env}, h.FunFrames B l → (∀ L ∈ frs l, B'.get? L = none) → (∀ L ∈ frs l, h'.get? L = h.get? L) → h'.FunFrames B' l
  | [], _, _, _ => trivial
  | env :: l, ⟨hk, ⟨L, o, hf, _, ho, hd⟩, hr⟩, n, k => by
    have mL : L ∈ frs (env :: l) := List.mem_filterMap.mpr ⟨env, List.mem_cons_self, hf⟩
    have sub : ∀ b ∈ frs l, b ∈ frs (env :: l) := fun b hb => by
      obtain ⟨e, he, q⟩ := List.mem_filterMap.mp hb
      exact List.mem_filterMap.mpr ⟨e, List.mem_cons_of_mem _ he, q⟩
    exact ⟨hk, ⟨L, o, hf, n L mL, by rw [k L mL]; exact ho, hd⟩, funFrames_at hr (fun b hb => n b (sub b hb)) fun b hb => k b (sub b hb)⟩
/-- the context of a block that errors may leave -/
abbrev blkX (X : Cx) (s : Shared) (H : Hp) (scope : Scope) (cenv : PySem.Env) (fp : List Addr) (xe : Value → Shared → Prop) : Cx := { X.blk s H scope cenv fp with xe := xe }
section
variable {X : Cx} {W : WX} {pins : List (Addr × Obj)} {σ : St} {H : Hp} {s : Shared}
theorem takesA_blk (tk : TakesA X W) (I : Inv X pins σ H s) {scope : Scope} {ce : PySem.Env} {fp : List Addr} {use : Option (Value → Sem Unit)} {Qf : Value → Shared → Prop} {acc : Value} {C : Addr} {e0 : PySem.Env} {r0 : List PySem.Env} {L : Addr}
    (hC : C = s.heap.objs.size) (hce : ce.locals = C) (hcf : ce.frame = some L) (hst : X.stack = e0 :: r0) (hf0 : e0.frame = some L) (f3 : ∀ b ∈ fp, FpOk X pins H b) :
    TakesA (blkX X s H scope ce fp (notedBy (model X.prog X.w) X.A ce fun e s' => compPost (model X.prog X.w) X.A X.xe use Qf acc C (.error e) s')) (fun cls d _ H' => W cls d σ H') := by
  rintro u s' ⟨a, B, sI, pins', σ', H', cls, d, rfl, J, nb, up, sky, na, os, ag, w⟩
  have hfr : X.A.frames = some (e0 :: r0) := by rw [I.ok.frames, hst]
  have nb : ∀ b o, sI.heap.get? b = some o → b ∉ frs X.stack → B.get? b = some o := nb
  have sky : SkyA B (e0 :: r0) a (Zc cls d) s'.heap := by rw [← hst]; exact sky
  have Cst : C ∉ frs X.stack := fun hm => by
    obtain ⟨_, o, e, _⟩ := I.stack.mem hm
    rw [hC] at e
    exact absurd (Heap.lt_size e) (Nat.lt_irrefl _)
  have nC : H' C = none := by rw [← hce]; exact J.free
  have fC := I.fpOk (H' := H') (Nat.le_of_eq hC.symm) nC
  show wpAny _ _ (noteFrame (.ref a) ce) _ _ _
  rw [noteFrame_env _ (hcf.trans hf0.symm)]
  refine SkyA.note Zc.steady hfr hf0 sky fun h1 t1 up1 => ?_
  obtain ⟨m, hn, _⟩ := J.loc
  have hn : sI.heap.Ns ce.locals m := hn
  rw [hce] at hn
  have upI : sI.heap.UpToSlots h1 := up.trans up1
  refine ⟨m, hn.upToSlots upI, fun h2 sb ce2 _ => ?_⟩
  rw [← hst] at t1
  obtain ⟨b1, b2, b3, fl, oe, vs, T, oT, ts, q1, q2, q3, q4, q5, q6, q7, q8, q9⟩ := t1
  -- the block's names are let go
  obtain ⟨es, ep, oC, hoC, hdC⟩ : ∃ es ep oC, h1.get? C = some oC ∧ oC.data = .dict es ep := by
    obtain ⟨oC, es, ep, h1, h2, _⟩ := hn.upToSlots upI
    exact ⟨es, ep, oC, h1, h2⟩
  have nfC : ∀ (z : Addr) (o : Obj) (vs : Array Value), h1.get? z = some o → o.data = .fields vs → z ≠ C := fun z o vs e hd q => by
    rw [q, hoC] at e
    cases e
    rw [hdC] at hd
    cases hd
  have aC : a ≠ C := nfC a oe vs q1 q3
  have TC : T ≠ C := nfC T oT ts q7 q8
  have B2 : ∀ b o, (PySem.W.hideAll B [C]).get? b = some o → B.get? b = some o ∧ b ≠ C := fun b o e => ⟨PySem.W.of_hideAll _ e, fun q => by rw [q, PySem.W.hideAll_none [C] (List.mem_singleton.mpr rfl)] at e; cases e⟩
  have B2n : ∀ b, B.get? b = none → (PySem.W.hideAll B [C]).get? b = none := fun b e => by
    cases q : (PySem.W.hideAll B [C]).get? b with
    | none => rfl
    | some o => rw [(B2 b o q).1] at e; cases e
  have S2 : ∀ b o, (PySem.W.hideAll sI.heap [C]).get? b = some o → sI.heap.get? b = some o ∧ b ≠ C := fun b o e => ⟨PySem.W.of_hideAll _ e, fun q => by rw [q, PySem.W.hideAll_none [C] (List.mem_singleton.mpr rfl)] at e; cases e⟩
  have t2 : Trc (PySem.W.hideAll B [C]) X.stack a (Zc cls d) h2 := by
    refine ⟨fun b o e => ?_, B2n a b2, funFrames_at b3 (fun L' hL => B2n L' (b3.mem hL).1) (fun L' hL => sb.2 L' fun q => Cst (q ▸ hL)), fl, oe, vs, T, oT, ts, ?_, q2, q3, q4, B2n T q5, q6, ?_, q8, q9⟩
    · obtain ⟨e1, ne⟩ := B2 b o e
      rw [sb.2 b ne]
      exact b1 b o e1
    · rw [sb.2 a aC]; exact q1
    · rw [sb.2 T TC]; exact q7
  have J2 : Inv X pins σ H' { sI with heap := PySem.W.hideAll sI.heap [C], toks := sI.toks } := by
    have J1 : Inv X pins σ H' sI := I.call' (ch := fp) J.os J.base J.hok J.bare fun b hb => ⟨(f3 b hb).2.2.2.1, (f3 b hb).2.1, (f3 b hb).2.2.2.2.1, (f3 b hb).2.2.2.2.2⟩
    exact J1.turned (fun b o ne e => PySem.W.hideAll_get _ e fun q => ne (List.mem_singleton.mp q)) nC fC.2.1 fC.2.2.2.1 fC.2.2.2.2.1 fC.2.2.2.2.2
  unfold PySem.passOn
  refine wpAny_bind (wpAny_field (s := { s' with heap := h2 }) (by show h2.get? a = _; rw [sb.2 a aC]; exact q1) q3 q4 ?_)
  rw [if_neg (by simp : ¬ ((Value.ref T == Value.none) = true))]
  refine wpAny_bind (Trc.hold (s := { s' with heap := h2 }) t2 fun h3 t3 up3 => wpAny_throw (tk _ _ ⟨a, PySem.W.hideAll B [C], _, pins, σ, H', cls, d, rfl, J2, fun b o e hb => ?_, fun b o e hnf => ?_, .inr t3, na, os, ag, w⟩))
  · obtain ⟨e1, ne⟩ := S2 b o e
    exact PySem.W.hideAll_get _ (nb b o e1 hb) fun q => ne (List.mem_singleton.mp q)
  · obtain ⟨e1, ne⟩ := S2 b o e
    obtain ⟨sl, e2⟩ := upI b o e1 hnf
    obtain ⟨sl3, e4⟩ := up3 b { o with slots := sl } (by show h2.get? b = _; rw [sb.2 b ne]; exact e2) hnf
    exact ⟨sl3, e4⟩
end
end Iv

/-! Iv Ey: a list comprehension that errors may leave. -/
namespace Iv
open PySem PySem.Spec L2
open PyProof.Rows hiding St
section
variable {X : Cx}
/-- its reading: as tLc, the element's by the slots at the start -/
def tLcX (wi : TI) (g : TG) (tt : TT) (te : St → TE) (vs : List Nat) : TE := fun σ H Q => wi σ H fun J H1 => ∀ D, H1 D = none → ∃ W : Nat → Nat → Hp → Prop, (∃ m, W 0 m (upd H1 D (.lst []))) ∧ ∀ i m H, W i m H →
  (J.stop i H ∧ Q (.ref D) H) ∨ (J.go i H ∧ ∃ Nx : Hp → Prop, (∀ H', Nx H' → ∃ m', m' < m ∧ W (i + 1) m' H') ∧ ∀ x H', J.yld i H x H' → g x (wipe σ vs) H' fun σ2 H2 => wipe σ2 vs = wipe σ vs ∧ tt σ2 H2 fun b H3 =>
    (b = true → te σ σ2 H3 fun y H4 => ∃ acc, H4 D = some (.lst acc) ∧ acc.length < sizeLine ∧ Nx (upd H4 D (.lst (acc ++ [y])))) ∧ (b = false → Nx H3))
/-- what a block's parts hold -/
structure BlkP (X : Cx) (W : WX) (tg elt : Expr) (ifs : List Expr) (scope : Scope) (g : TG) (tt : TT) (te : St → TE) : Prop where
  g : ∀ s H C cl fp xe, PG (blkX X s H scope (compEnvC scope cl C X.env) fp xe) tg g
  t : ∀ s H C cl fp xe, PTs (blkX X s H scope (compEnvC scope cl C X.env) fp xe) ifs tt
  e : ∀ σ0 s H C cl fp xe, TakesA (blkX X s H scope (compEnvC scope cl C X.env) fp xe) (fun c d _ H' => W c d σ0 H') → PE (blkX X s H scope (compEnvC scope cl C X.env) fp xe) elt (te σ0)
theorem lcX_core {W : WX} {pins : List (Addr × Obj)} {s : Shared} {σ : St} {H : Hp} {Q : VK} {elt tg iter : Expr} {ifs : List Expr} {scope : Scope} {own : List (Str × Nat)} {pos pos' : Pos} {wi : TI} {g : TG} {tt : TT} {te : St → TE} {use : Option (Value → Sem Unit)} {Qf : Value → Shared → Prop} {e0 : PySem.Env} {r0 : List PySem.Env} {L : Addr}
    (hc : X.calm = true) (hN : X.N.Nodup) (tk : TakesA X W) (hst : X.stack = e0 :: r0) (hf0 : e0.frame = some L) (hfX : X.env.frame = some L) (I : Inv X pins σ H s) (hi : PI X tg iter wi) (ok : BlkOk X.N X.env.scope scope own)
    (bp : BlkP X W tg elt ifs scope g tt te) (hs : ∀ x, foldedSetIterable iter X.env x = pure x) (h : tLcX wi g tt te (own.map (·.2)) σ H Q)
    (hRR : ∀ D C s' m H', Inv X pins σ H' s' → Q (.ref D) H' → s'.heap.Ns C m → FpOk X pins H' C → compPost (model X.prog X.w) X.A X.xe use Qf (.ref D) C (.ok .next) s') :
    wpAny (model X.prog X.w) X.A (comprehension (.ListComp elt [⟨tg, iter, ifs, 0⟩] scope pos) scope X.env pos' (newList []) false (eval iter X.env) use) Qf X.xe s := by
  have free : ∀ y ∈ scope.names, y.2 = .free → ∃ c, X.env.cells.lookup y.1 = some c := fun y hy e => (ok.free y hy e).elim (fun k => I.ok.has _ (.inl k)) fun k => I.ok.has _ (.inr k)
  refine wpAny_comprehension_free (use := use) rfl hs (closure_ok free) ok.kind (fun y hy e => by rw [ok.uniq y hy, e]) (thn (hi.run pins s σ H _ I h) fun xv s1 hx => thn hx fun itv s2 h2 => ?_)
  obtain ⟨it, fp, tn, J, H2, rfl, I2, T, st2, f2, q⟩ := h2
  refine wpAny_newObj_type (newEnv_comp ?_) (by show 0 ≤ sizeLine; decide)
  obtain ⟨D, hD⟩ : ∃ D, D = s2.heap.objs.size := ⟨_, rfl⟩
  rw [← hD]
  have hDn : H2 D = none := I2.hok.fresh (Nat.le_of_eq hD.symm)
  obtain ⟨Wv, ⟨m0, w0⟩, turn⟩ := q D hDn
  obtain ⟨s3, hs3⟩ : ∃ s3 : Shared, s3 = { s2 with heap := s2.heap.push { cls := .type "list", data := .seq ([] : List Value).toArray } } := ⟨_, rfl⟩
  rw [← hs3]
  have gD : s3.heap.get? D = some { cls := .type "list", data := .seq ([] : List Value).toArray } := by rw [hs3, hD]; exact Heap.get?_push_size _ rfl
  have I3 : Inv X pins σ (upd H2 D (.lst [])) s3 := by
    rw [hs3] at gD ⊢
    exact I2.laid (t' := s2.toks) (fun b o e => Heap.get?_push_of_some _ e) (Nat.le_of_eq hD.symm) ⟨Nat.zero_le _, [], 0, .nil, gD⟩
  have k3 : ∀ b o, s2.heap.get? b = some o → s3.heap.get? b = some o := fun b o e => by rw [hs3]; exact Heap.get?_push_of_some _ e
  have f3 : ∀ b ∈ fp, FpOk X pins (upd H2 D (.lst [])) b ∧ b < s3.heap.objs.size := fun b hb => by
    obtain ⟨o, e, _⟩ := T.obj _ _ st2 b hb
    refine ⟨⟨?_, (f2 b hb).2⟩, Heap.lt_size (k3 b o e)⟩
    rw [upd_ne (by rw [hD]; exact Nat.ne_of_lt (Heap.lt_size e))]
    exact (f2 b hb).1
  have st3 : tn 0 s3.heap := T.keep _ _ _ st2 fun b _ o e => k3 b o e
  have I4 := block_start I3 ok hN f3
  obtain ⟨H3, hH3⟩ : ∃ H3, H3 = upd H2 D (.lst []) := ⟨_, rfl⟩
  rw [← hH3] at I3 I4 w0 f3
  obtain ⟨C, hC⟩ : ∃ C, C = s3.heap.objs.size := ⟨_, rfl⟩
  obtain ⟨cls, hcls⟩ : ∃ cls, cls = cellsFrom (s3.heap.objs.size + 1) scope.names (cloFrom X.env.cells scope.names []) := ⟨_, rfl⟩
  rw [← hcls, ← hC] at I4
  show codeAny _ _ (.compStart (.ListComp elt [⟨tg, iter, ifs, 0⟩] scope pos) 0 (.ref it) (.ref D) (compEnvC scope (cellsFrom (s3.heap.objs.size + 1) scope.names (cloFrom X.env.cells scope.names [])) s3.heap.objs.size X.env)) (compPost (model X.prog X.w) X.A X.xe use Qf (.ref D) s3.heap.objs.size) { s3 with heap := pushCells (s3.heap.push { cls := .type "dict", data := .dict #[] }) scope.names }
  rw [← hcls, ← hC]
  obtain ⟨xe, hxe⟩ : ∃ xe : Value → Shared → Prop, xe = notedBy (model X.prog X.w) X.A (compEnvC scope cls C X.env) fun e s' => compPost (model X.prog X.w) X.A X.xe use Qf (.ref D) C (.error e) s' := ⟨_, rfl⟩
  have tkB : TakesA (blkX X s3 H3 scope (compEnvC scope cls C X.env) fp xe) (fun c d _ H' => W c d σ H') := by
    rw [hxe]
    exact takesA_blk tk I3 hC rfl hfX hst hf0 fun b hb => (f3 b hb).1
  have pg := bp.g s3 H3 C cls fp xe
  have pt := bp.t s3 H3 C cls fp xe
  have pe := bp.e σ s3 H3 C cls fp xe tkB
  obtain ⟨s4, hs4⟩ : ∃ s4 : Shared, s4 = { s3 with heap := pushCells (s3.heap.push { cls := .type "dict", data := .dict #[] }) scope.names } := ⟨_, rfl⟩
  rw [← hs4] at I4 ⊢
  have nfp : ∀ b ∈ fp, H3 b = none := fun b hb => (f3 b hb).1.1
  have st4 : tn 0 s4.heap := T.keep _ _ _ st3 fun b _ o e => by rw [hs4]; exact pushCells_keeps _ _ _ _ (Heap.get?_push_of_some _ e)
  have I4' : Inv (blkX X s3 H3 scope (compEnvC scope cls C X.env) fp xe) [] (wipe σ (own.map (·.2))) H3 s4 := by
    exact ⟨⟨I4.ok.mod, I4.ok.kind, I4.ok.glob, I4.ok.blt, I4.ok.above, I4.ok.inj, I4.ok.has, I4.ok.cab, I4.ok.hd, I4.ok.frames, I4.ok.stk, I4.ok.exf, I4.ok.bs, I4.ok.bsz, I4.ok.noex, I4.ok.exfs, I4.ok.funs, I4.ok.frf⟩, I4.os, I4.bare, I4.base, I4.loc, I4.cell, I4.free, I4.freeC, I4.pin, I4.hok, I4.len⟩
  have stat : ∀ {σ' : St} {H' : Hp} {s' : Shared}, Inv (blkX X s3 H3 scope (compEnvC scope cls C X.env) fp xe) [] σ' H' s' → (∀ b ∈ fp, H' b = none) → ∀ b ∈ fp, FpOk (blkX X s3 H3 scope (compEnvC scope cls C X.env) fp xe) [] H' b := fun {σ' H' s'} I' hn b hb => by
    exact ⟨hn b hb, (I'.ok.exf b hb).1, I'.ok.exfs b hb, .inl hb, fun x c e => (I'.ok.exf b hb).2 x c e, fun p hp => nomatch (show p ∈ ([] : List (Addr × Obj)) ++ [] from hp)⟩
  have loop : codeAny (model X.prog X.w) X.A (.compLoop (.ListComp elt [⟨tg, iter, ifs, 0⟩] scope pos) 0 (.ref it) (.ref D) (compEnvC scope cls C X.env)) (compPost (model X.prog X.w) X.A X.xe use Qf (.ref D) C) s4 := by
    refine compLoop_any (fun n s' => ∃ i H', Inv (blkX X s3 H3 scope (compEnvC scope cls C X.env) fp xe) [] (wipe σ (own.map (·.2))) H' s' ∧ tn i s'.heap ∧ (∀ b ∈ fp, H' b = none) ∧ Wv i n H') ?_ m0 ⟨0, H3, I4', st4, nfp, w0⟩
    rintro n s5 ⟨i, H5, I5, st5, n5, w5⟩
    rw [← hxe]
    rcases turn i n H5 w5 with ⟨stop, qq⟩ | ⟨go, Nx, hNx, step⟩
    · refine thn (T.done (blkX X s3 H3 scope (compEnvC scope cls C X.env) fp xe) rfl rfl rfl hc i [] s5 _ H5 xe I5 (stat I5 n5) st5 stop) fun r s6 ⟨hr, I6⟩ => ?_
      subst hr
      have I7 : Inv X pins σ H5 s6 := I3.call' (ch := fp) I6.os I6.base I6.hok I6.bare fun b hb => ⟨(f3 b hb).1.2.2.2.1, (f3 b hb).1.2.1, (f3 b hb).1.2.2.2.2.1, (f3 b hb).1.2.2.2.2.2⟩
      obtain ⟨m, hn, _⟩ := I6.loc
      exact hRR D C s6 m H5 I7 qq hn (I3.fpOk (Nat.le_of_eq hC.symm) I6.free)
    · refine thn (T.item (blkX X s3 H3 scope (compEnvC scope cls C X.env) fp xe) rfl rfl rfl hc i [] s5 _ H5 xe I5 (stat I5 n5) st5 go) fun r s6 ⟨u, hr, h6⟩ => ?_
      subst hr
      refine thn h6 fun _ s7 ⟨x, H7, I7, r7, y7, st7, n7⟩ => ?_
      have I7' := I7.pinned (stat I7 n7) (T.obj _ _ st7)
      have fin : ∀ {s' : Shared} {H' : Hp} {σ8 : St}, wipe σ8 (own.map (·.2)) = wipe σ (own.map (·.2)) → Inv (blkX X s3 H3 scope (compEnvC scope cls C X.env) fp xe) ([] ++ pinsAt fp s7.heap) σ8 H' s' → Nx H' → ∃ m, m < n ∧ ∃ i H', Inv (blkX X s3 H3 scope (compEnvC scope cls C X.env) fp xe) [] (wipe σ (own.map (·.2))) H' s' ∧ tn i s'.heap ∧ (∀ b ∈ fp, H' b = none) ∧ Wv i m H' := fun {s' H' σ8} hw8 I' nx => by
        obtain ⟨m', hm, w'⟩ := hNx H' nx
        have pin' : ∀ b ∈ fp, ∀ o, s7.heap.get? b = some o → s'.heap.get? b = some o ∧ H' b = none := fun b hb o e => by
          have z := I'.pin (b, o) (List.mem_append_right _ (List.mem_append_right _ (mem_pinsAt hb e)))
          exact ⟨z.1, z.2.1⟩
        refine ⟨m', hm, i + 1, H', (I'.unpinned (pins := [])).weak (by rw [← hw8, wipe_length]) (fun j v e => (wipe_some (hw8 ▸ e)).1), T.keep _ _ _ st7 fun b hb o e => (pin' b hb o e).1, fun b hb => ?_, w'⟩
        obtain ⟨o, e, _⟩ := T.obj _ _ st7 b hb
        exact (pin' b hb o e).2
      refine thn (pg.run _ s7 _ H7 x u _ I7' r7 (step x H7 y7)) fun _ s8 ⟨σ8, H8, I8, hw8, q8⟩ => thn (pt.run _ s8 σ8 H8 _ I8 q8) fun b s9 ⟨H9, I9, q9⟩ => ?_
      cases b with
      | false =>
        simp only [Bool.false_eq_true, if_false]
        exact fin hw8 I9 (q9.2 rfl)
      | true =>
        simp only [if_true]
        refine thn (pe.run _ s9 σ8 H9 _ I9 (q9.1 rfl)) fun z s10 ⟨yv, H10, I10, r10, acc, hD10, hz10, nx⟩ => ?_
        exact app_ok (X := blkX X s3 H3 scope (compEnvC scope cls C X.env) fp xe) I10 hD10 hz10 r10 fun s11 I11 => fin hw8 I11 nx
  exact codeAny_compStart_list loop (T.self X.A 0 _ _ _ st4 loop)
section
variable {W : WX} {elt tg iter : Expr} {ifs : List Expr} {scope : Scope} {own : List (Str × Nat)} {pos : Pos} {wi : TI} {g : TG} {tt : TT} {te : St → TE} {e0 : PySem.Env} {r0 : List PySem.Env} {L : Addr}
theorem pe_lcX (hc : X.calm = true) (hN : X.N.Nodup) (tk : TakesA X W) (hst : X.stack = e0 :: r0) (hf0 : e0.frame = some L) (hfX : X.env.frame = some L) (hi : PI X tg iter wi) (ok : BlkOk X.N X.env.scope scope own)
    (bp : BlkP X W tg elt ifs scope g tt te) (hs : ∀ x, foldedSetIterable iter X.env x = pure x) : PE X (.ListComp elt [⟨tg, iter, ifs, 0⟩] scope pos) (tLcX wi g tt te (own.map (·.2))) := by
  refine ⟨fun pins s σ H Q I h => ?_⟩
  rw [eval_ListComp]
  exact lcX_core hc hN tk hst hf0 hfX I hi ok bp hs h fun D C s' m H' I' q hn ⟨z0, z1, z2, z3, z4, z5⟩ => ⟨m, hn, fun h'' sb => ⟨.ref D, H', I'.turned (t' := s'.toks) (fun b o hb e => by rw [sb.2 b hb]; exact e) z0 z1 z3 z4 z5, rfl, q⟩⟩
/-- y = [..] on one line -/
theorem ps_setLcX {i : Nat} {y : Str} {py spos : Pos} (hc : X.calm = true) (hN : X.N.Nodup) (tk : TakesA X W) (hst : X.stack = e0 :: r0) (hf0 : e0.frame = some L) (hfX : X.env.frame = some L) (hy : X.N[i]? = some y) (hyl : X.env.scope.names.lookup y = some .local)
    (hsw : swapsWith (.ListComp elt [⟨tg, iter, ifs, 0⟩] scope pos) (some (.Name y py)) spos.line X.env = pure true) (hi : PI X tg iter wi) (ok : BlkOk X.N X.env.scope scope own)
    (bp : BlkP X W tg elt ifs scope g tt te) (hs : ∀ x, foldedSetIterable iter X.env x = pure x) : PS X (.Assign [.Name y py] (.ListComp elt [⟨tg, iter, ifs, 0⟩] scope pos) spos) (tAsg (tLcX wi g tt te (own.map (·.2))) (gName i)) := by
  refine ⟨fun pins s σ H D I h => ?_⟩
  rw [exec_Assign_Name_used _ _ _ _ hsw]
  refine wpAny_bind (wpAny_standAt (wpAny_bind ?_))
  show wpAny _ X.A (do
    let _ ← comprehension (.ListComp elt [⟨tg, iter, ifs, 0⟩] scope pos) scope X.env (firstIterPos [⟨tg, iter, ifs, 0⟩] pos) (newList []) false (eval iter X.env) (some (assign (.Name y py) X.env))) _ _ s
  have h : tLcX wi g tt te (own.map (·.2)) σ H (fun x H1 => gName i x σ H1 D.nx) := h
  refine wpAny_bind (thn (lcX_core (Qf := fun _ s' => SP X pins D .next s') hc hN tk hst hf0 hfX I hi ok bp hs h fun L C s' m H' I' q hn fo => ?_) fun _ s' hq => wpAny_pure (wpAny_pure hq))
  show wpAny _ _ (assign (.Name y py) X.env (.ref L)) _ _ _
  obtain ⟨z0, z1, z2, z3, z4, z5⟩ := fo
  refine wpAny_assign_Name (store_ok2 (v := V.ref L) I' hN hy (.inl hyl) rfl (fun s2 I2 ⟨a, sb, ha⟩ => ⟨m, hn.sameBut sb (ha.elim (fun z => by rw [z]; exact z1) fun z q => z4 y a z q.symm), fun h3 sb3 => ?_⟩) (.inr hyl))
  exact ⟨_, H', I2.turned (t' := s2.toks) (fun b o hb e => by rw [sb3.2 b hb]; exact e) z0 z1 z3 z4 z5, q⟩
end
end
end Iv

/-! Iv I: the checker of texts; names, calls, tests. -/
namespace Iv
open PySem PySem.Spec L2
open PyProof.Rows hiding St

/-! ### tests -/
def Wb (W : String → Hp → Prop) (H : Hp) (r : M Bool) (Q : Bool → Hp → Prop) : Prop := match r with
  | .ok b => ∀ H', Same H H' → Q b H'
  | .exc c => ∀ H', Same H H' → W c H'
  | .bad => False
def tT (cf : Cf) (K : PySem.W.Frag) (W : WC) (e : E) : TT := fun σ H Q => ∃ fm ρ, SR cf K fm ρ σ H ∧ Wb (fun c H' => W c σ H') H ((ev cf e ρ).bind asB) Q
section
variable {K : PySem.W.Frag} {cf : Cf} {fm : Fm} {H H' : Hp} {W : String → Hp → Prop}
theorem Wb.later {r : M Bool} {Q : Bool → Hp → Prop} (h : Wb W H r Q) (s : Same H H') : Wb W H' r Q := by
  cases r with
  | ok x => exact fun H2 s2 => h H2 (s.trans s2)
  | exc c => exact fun H2 s2 => h H2 (s.trans s2)
  | bad => exact h
end
/-- a test by its value -/
theorem tT.toD {cf : Cf} {K : PySem.W.Frag} {W : WC} {e : E} {σ : St} {H : Hp} {Q : Bool → Hp → Prop} (h : tT cf K W e σ H Q) : tD cf K W e σ H fun x H1 => ∃ c, x = .bl c ∧ Q c H1 := by
  obtain ⟨fm, ρ, sr, w⟩ := h
  refine ⟨fm, ρ, sr, ?_⟩
  cases e1 : ev cf e ρ with
  | bad => rw [e1] at w; exact w
  | exc c => rw [e1] at w; exact w
  | ok x =>
    rw [e1] at w
    have w : Wb (fun c H' => W c σ H') H (asB x) Q := w
    rcases asB_cases x with ⟨i, e, e2⟩ | e2
    · rw [e2] at w
      refine fun v H1 s r => ⟨i, ?_, w H1 s⟩
      obtain ⟨d, t⟩ := x
      cases e
      exact repI_bl (rep_imm r)
    · rw [e2] at w; exact w.elim
section
variable {X : Cx} {cf : Cf} {W : WC} {a b : E} {ea eb : Expr} {pos : Pos}
theorem pt_of {e : E} {ex : Expr} (h : PE X ex (tD cf X.K W e)) (he : ∀ whole, isTrue ex X.env whole = (do let v ← whole; standAt ex.pos; holding [v] (truthy v))) : PT X ex (tT cf X.K W e) :=
  (pt_val h he).mono' fun σ H Q w => w.toD
/-- a part of a test first -/
theorem tT.bind {f : Bool → M DT} {fm : Fm} {ρ : Env} {σ : St} {H : Hp} {Q : Bool → Hp → Prop} {Q' : Bool → Hp → Prop} (sr : SR cf X.K fm ρ σ H) (w : Wb (fun c H' => W c σ H') H (((ev cf a ρ).bind fun x => (asB x).bind f).bind asB) Q)
    (q : ∀ c H', Same H H' → SR cf X.K fm ρ σ H' → Wb (fun c H' => W c σ H') H' ((f c).bind asB) Q → Q' c H') : tT cf X.K W a σ H Q' := by
  refine ⟨fm, ρ, sr, ?_⟩
  cases e1 : ev cf a ρ with
  | bad => rw [e1] at w; exact w
  | exc c => rw [e1] at w; exact w
  | ok x =>
    rw [e1] at w
    have w : Wb (fun c H' => W c σ H') H (((asB x).bind f).bind asB) Q := w
    show Wb _ H (asB x) Q'
    cases e2 : asB x with
    | bad => rw [e2] at w; exact w
    | exc c => rw [e2] at w; exact w
    | ok c =>
      rw [e2] at w
      exact fun H1 s => q c H1 s (sr.same s) (Wb.later w s)
theorem sndT_not (ha : PT X ea (tT cf X.K W a)) : PT X (.UnaryOp .Not ea pos) (tT cf X.K W (.not a)) :=
  (pt_not ha).mono' fun σ H Q ⟨fm, ρ, sr, w⟩ => tT.bind sr w fun c H1 s sr1 w1 => w1 H1 Same.refl
theorem sndT_and {r : List Expr} (ha : PT X ea (tT cf X.K W a)) (hb : PW X (.BoolOp .And (eb :: r) pos) (tT cf X.K W b)) : PW X (.BoolOp .And (ea :: eb :: r) pos) (tT cf X.K W (.and a b)) :=
  ⟨fun wh pins s σ H Q I h => (pw_and ha hb).run wh pins s σ H Q I (by
    obtain ⟨fm, ρ, sr, w⟩ := h
    refine tT.bind sr w fun c H1 s sr1 w1 => ?_
    cases c with
    | true => rw [if_pos rfl] at w1 ⊢; exact ⟨fm, ρ, sr1, w1⟩
    | false => rw [if_neg Bool.false_ne_true] at w1 ⊢; exact w1 H1 Same.refl)⟩
theorem sndT_or {r : List Expr} (ha : PT X ea (tT cf X.K W a)) (hb : PW X (.BoolOp .Or (eb :: r) pos) (tT cf X.K W b)) : PW X (.BoolOp .Or (ea :: eb :: r) pos) (tT cf X.K W (.or a b)) :=
  ⟨fun wh pins s σ H Q I h => (pw_or ha hb).run wh pins s σ H Q I (by
    obtain ⟨fm, ρ, sr, w⟩ := h
    refine tT.bind sr w fun c H1 s sr1 w1 => ?_
    cases c with
    | false => rw [if_neg Bool.false_ne_true] at w1 ⊢; exact ⟨fm, ρ, sr1, w1⟩
    | true => rw [if_pos rfl] at w1 ⊢; exact w1 H1 Same.refl)⟩
theorem sndT_cmp (hr : X.A.units + 65 < cLine) {op : CmpOp} (ha : PE X ea (tD cf X.K W a)) (hb : PE X eb (tD cf X.K W b)) (hm : behindInMarks op eb = false) : PT X (.Compare ea [op] [eb] pos) (tT cf X.K W (.cmp op a b)) :=
  (pt_cmpR (cmp_ok hr op) ha hb hm).mono' fun σ H Q w => by
    obtain ⟨fm, ρ, sr, w⟩ := w.toD
    exact tD.bind sr Same.refl w fun v H1 x s1 sr1 r1 w1 => tD.bind sr1 s1 w1 fun u H2 y s2 sr2 r2 w2 => rCmp.mono (Wq.cmp (r1.same s2) r2 w2) fun z H' ⟨e1, r, e2, w3⟩ => by
      subst e1 e2
      obtain ⟨c, e, q⟩ := w3.imm (X := X) (.bl _)
      exact ⟨c, e, q⟩
theorem sndT_chain {c : E} {ec : Expr} (hr : X.A.units + 65 < cLine) {op op' : CmpOp} (ha : PE X ea (tD cf X.K W a)) (hb : PE X eb (tD cf X.K W b)) (hc : PE X ec (tD cf X.K W c)) (hm : lastMarks [op, op'] [eb, ec] = false) : PT X (.Compare ea [op, op'] [eb, ec] pos) (tT cf X.K W (.chain op op' a b c)) :=
  (pt_chain (cmp_ok hr op) (cmp_ok hr op') ha hb hc hm).mono' fun σ H Q w => by
    obtain ⟨fm, ρ, sr, w⟩ := w.toD
    exact tD.bind sr Same.refl w fun v H1 x s1 sr1 r1 w1 => tD.bind sr1 s1 w1 fun u H2 y s2 sr2 r2 w2 =>
      rCmp.mono (Wq.cmp (r1.same s2) r2 w2) fun z H' ⟨e1, r, e2, w3⟩ => by
        subst e1 e2
        refine ⟨r, rfl, ?_⟩
        cases r with
        | true =>
          rw [if_pos rfl] at w3 ⊢
          exact tD.bind sr2 (s1.trans s2) w3 fun u' H3 z s3 sr3 r3 w4 => rCmp.mono (Wq.cmp (r2.same s3) r3 w4) fun z' H' ⟨e1, r, e2, w5⟩ => by subst e1 e2; exact w5.imm (X := X) (.bl _)
        | false =>
          rw [if_neg Bool.false_ne_true] at w3 ⊢
          exact w3.imm (X := X) (.bl _)
theorem snd_ife {c : E} {ec : Expr} (hc : PT X ec (tT cf X.K W c)) (ha : PE X ea (tD cf X.K W a)) (hb : PE X eb (tD cf X.K W b)) : PE X (.IfExp ec ea eb pos) (tD cf X.K W (.ife c a b)) :=
  (pe_ifExp hc ha hb).mono' fun σ H Q ⟨fm, ρ, sr, w⟩ => by
    have w : Wq X.K fm (fun c H' => W c σ H') H H ((ev cf c ρ).bind fun x => (asB x).bind fun r => if r = true then ev cf a ρ else ev cf b ρ) Q := w
    refine ⟨fm, ρ, sr, ?_⟩
    cases e1 : ev cf c ρ with
    | bad => rw [e1] at w; exact w
    | exc c => rw [e1] at w; exact w
    | ok x =>
      rw [e1] at w
      have w : Wq X.K fm (fun c H' => W c σ H') H H ((asB x).bind fun r => if r = true then ev cf a ρ else ev cf b ρ) Q := w
      show Wb _ H (asB x) _
      cases e2 : asB x with
      | bad => rw [e2] at w; exact w
      | exc c => rw [e2] at w; exact w
      | ok c =>
        rw [e2] at w
        have go : ∀ {e : E} {H1 : Hp}, Same H H1 → Wq X.K fm (fun c H' => W c σ H') H H (ev cf e ρ) Q → tD cf X.K W e σ H1 Q := fun {e H1} s w => ⟨fm, ρ, sr.same s, by
          cases e3 : ev cf e ρ with
          | bad => rw [e3] at w; exact w
          | exc c => rw [e3] at w; exact fun H2 s2 => w H2 (s.trans s2)
          | ok y => rw [e3] at w; exact fun v H2 s2 r => w v H2 (s.trans s2) (r.back s)⟩
        intro H1 s
        cases c with
        | true => rw [if_pos rfl]; exact go s w
        | false => rw [if_neg Bool.false_ne_true]; exact go s w
end

/-! ### a def's promise by data -/
def spD (K : PySem.W.Frag) (mg : Str → Option Value) (n : Nat) (φ : List D → M (D × Bool)) : Sp := fun vs H Q E => ∃ (ok : AP') (ds : List D), Paired (Rep K H ok ok) ds vs ∧ ds.length = n ∧ match φ ds with
  | .ok (d, nw) => ∀ v H', Same H H' → Rep K H' (fun a => (nw = false ∧ ok a) ∨ H a = none) (fun a => (nw = false ∧ ok a) ∨ H a = none) d v → Q v H'
  | .exc c => ∀ C H', mg c = some (.ref C) → Same H H' → E (.ref C) none H'
  | .bad => False
theorem spD.len {K : PySem.W.Frag} {mg : Str → Option Value} {n : Nat} {φ : List D → M (D × Bool)} {vs : List V} {H : Hp} {Q : VK} {E : XK} (h : spD K mg n φ vs H Q E) : vs.length = n := by
  obtain ⟨ok, ds, h, e, _⟩ := h
  rw [← e]; exact (Paired.length h).symm
/-- the promise of a def that changes a list made for it (of two noughts) -/
def spM (K : PySem.W.Frag) (φ : List D → M (D × Bool)) : Sp := fun vs H Q _ => ∃ (x : V) (y : Addr) (d : D) (H0 : Hp) (ok : AP'), vs = [x, .ref y, .int 0] ∧ Rep K H0 ok ok d x ∧ Same H0 H ∧ H0 y = none ∧ H y = some (.lst [.int 0, .int 0]) ∧ match φ [d, .lsi [.int 0, .int 0], .imm (.int 0)] with
  | .ok (.imm i, _) => ∀ v H', Same H0 H' → RepI K H' i v → Q v H'
  | _ => False
/-- the wish about an exception, by its class's name -/
def WX' (mg : Str → Option Value) (W : WC) : WX := fun cls d σ H => d = none ∧ ∃ (c : String) (C : Addr), cls = .ref C ∧ mg c = some (.ref C) ∧ W c σ H
structure Gs where
  funs : List (String × Nat)
  consts : List (String × Const)
  ts : List String
  calm : Bool
  mf : List String := []
/-- the class of a name -/
def clsV (mg : Str → Option Value) (t : String) : Value := match mg (t : Str) with | some v => v | none => .type t
/-- what is known of a class of errors -/
structure XFacts (K : PySem.W.Frag) (mg : Str → Option Value) (ts : List String) (c : String) (C : Addr) : Prop where
  ec : ExcC K C
  kt : ∀ t ∈ ts, PySem.W.kitOne K (.ref C) (clsV mg t) = some (excSub c t)
  em : ∀ t ∈ ts, PySem.W.exmOne K (.ref C) (clsV mg t) = some (excSub c t)
structure XAll (K : PySem.W.Frag) (mg : Str → Option Value) (ts : List String) : Prop where
  xt : ∀ t ∈ ts, ((∃ C, mg (t : Str) = some (.ref C)) ∨ (t = "ValueError" ∧ mg (t : Str) = none)) ∧ ((t : Str) == ("__debug__" : Str)) = false
  xf : ∀ c ∈ excAll, (mg (c : Str) = none ∧ PySem.W.nsIn K mainGlobals (c : Str) = some none) ∨ ∃ C, mg (c : Str) = some (.ref C) ∧ PySem.W.nsIn K mainGlobals (c : Str) = some (some (.ref C)) ∧ XFacts K mg ts c C
def bltAll : List String := ["len", "tuple", "list", "sum", "int", "str", "all", "any", "sorted", "min", "max", "isinstance", "bool", "range", "zip", "enumerate", "reversed", "set", "dict"]
structure Gd (g : Gs) (cf : Cf) (k : Nat) (X : Cx) (sc : Scope) (cl : Str → Bool) (W : WC) : Prop where
  sc : X.env.scope = sc
  nd : X.N.Nodup
  room : g.calm = true → Room k X.A
  un : X.A.units + 65 < cLine
  calm : g.calm = true → X.calm = true
  fnc : ∀ x, cl x = true → X.fn x = true
  tk : TakesA X (WX' X.mg W)
  stk : ∃ e0 r0 L, X.stack = e0 :: r0 ∧ e0.frame = some L ∧ X.env.frame = some L
  fn : ∀ f n, (f, n) ∈ g.funs → ∃ fa fd ps, X.mg (f : Str) = some (.ref fa) ∧ PySem.W.keepIn X.K (.ref fa) = true ∧ Binds X.K fd ps [] ∧ ps.length = n ∧ FnOk X.prog X.w X.K X.mg X.base (L2.CX X.prog X.w) k fa fd ps (spD X.K X.mg n (cf.F f))
  bl : ∀ b ∈ bltAll, X.mg (b : Str) = none
  cs : ∀ x c, (x, c) ∈ g.consts → ∃ u v i, X.mg (x : Str) = some u ∧ RelV v u ∧ ofConst c = some i ∧ ∀ H, RepI X.K H i v
  xa : g.ts ≠ [] → XAll X.K X.mg g.ts
  fm : ∀ f, f ∈ g.mf → ∃ fa fd ps, X.mg (f : Str) = some (.ref fa) ∧ PySem.W.keepIn X.K (.ref fa) = true ∧ Binds X.K fd ps [] ∧ ps.length = 3 ∧ FnOk X.prog X.w X.K X.mg X.base (L2.CX X.prog X.w) k fa fd ps (spM X.K (cf.F f))
def noStar : Expr → Bool
  | .Starred .. => false
  | _ => true
theorem star_cons {e : Expr} {es : List Expr} {env : PySem.Env} (h : noStar e = true) : starEach (e :: es) env = (false, eval e env) :: starEach es env := by
  cases e <;> first | rfl | cases h
theorem star_any {env : PySem.Env} {pos : Pos} : ∀ {es : List Expr}, es.all noStar = true → (backTo pos (starEach es env)).any (·.1) = false
  | [], _ => rfl
  | e :: es, h => by
    rw [List.all_cons, Bool.and_eq_true] at h
    rw [star_cons h.1]
    show (false || (backTo pos (starEach es env)).any (·.1)) = false
    rw [star_any h.2]
    rfl
section
variable {g : Gs} {cf : Cf} {k : Nat} {X : Cx} {sc : Scope} {cl : Str → Bool} {W : WC} {es : List E} {ea : Expr} {xs : List Expr} {pos p : Pos}
theorem call_rd {f : String} {n : Nat} {fm : Fm} {ρ : Env} {σ : St} {H H1 : Hp} {Q : VK} {ys : List DT} {vs : List V} (f0 : FmAt fm H) (s : Same H H1) (r : VRs X.K fm H H1 ys vs) (hn : ys.length = n)
    (w : Wq X.K fm (fun c H' => W c σ H') H H1 ((cf.F f (ys.map (·.1))).bind fun r => .ok (norm r.1 (if r.2 = true then T0 else ⟨false, (tagsOf ys).lv, (tagsOf ys).root.bw⟩))) Q) :
    spD X.K X.mg n (cf.F f) vs H1 Q (WE (WX' X.mg W) σ) := by
  have hp : ∀ {ys : List DT} {vs : List V}, VRs X.K fm H H1 ys vs → Paired (Rep X.K H1 (NdI fm (tagsOf ys).root H) (NdI fm (tagsOf ys).root H)) (ys.map (·.1)) vs := by
    intro ys vs r
    induction r with
    | nil => exact .nil
    | @cons y v ys vs h r ih =>
      obtain ⟨d, t⟩ := y
      cases d with
      | imm i => exact .cons (.imm (rep_imm h)) ih
      | _ =>
        have l1 : t.root.le (t.join (tagsOf ys)).root := ⟨Nat.le_max_left _ _, fun j hj => by
          obtain ⟨p, hp, e⟩ := List.mem_map.mp hj
          exact List.mem_map.mpr ⟨p, List.mem_append_left _ hp, e⟩⟩
        have l2 : (tagsOf ys).root.le (t.join (tagsOf ys)).root := ⟨Nat.le_max_right _ _, fun j hj => by
          obtain ⟨p, hp, e⟩ := List.mem_map.mp hj
          exact List.mem_map.mpr ⟨p, List.mem_append_right _ hp, e⟩⟩
        exact .cons (Rep.weak (fun a n => NdI.le l1 (NdI.ofR n)) (fun a n => NdI.le l1 (NdI.ofI n)) h) (Paired.mapP ih fun _ _ z => z.weak (fun a n => NdI.le l2 n) fun a n => NdI.le l2 n)
  refine ⟨NdI fm (tagsOf ys).root H, ys.map (·.1), hp r, by rw [List.length_map]; exact hn, ?_⟩
  cases e : cf.F f (ys.map (·.1)) with
  | bad => rw [e] at w; exact w
  | exc c => rw [e] at w; exact fun C H' hm s' => ⟨rfl, c, C, rfl, hm, w H' s'⟩
  | ok r =>
    obtain ⟨d, nw⟩ := r
    rw [e] at w
    refine fun v H' s' rr => w v H' s' (vr_norm ?_)
    cases nw with
    | true =>
      rw [if_pos rfl]
      refine rr.weak (fun a n => ?_) fun a n => ?_
      · rcases n with n | n
        · cases n.1
        · exact NdR.new f0 s n
      · rcases n with n | n
        · cases n.1
        · exact NdI.new f0 s n
    | false =>
      rw [if_neg Bool.false_ne_true]
      refine rr.weak (fun a n => ?_) fun a n => ?_
      · rcases n with n | n
        · exact ⟨fun z => n.2.1 (by rcases z with z | z; cases z; exact z), n.2.2.1, n.2.2.2.1, fun j o => ⟨true, n.2.2.2.2.1 j o⟩, n.2.2.2.2.2⟩
        · exact NdR.new f0 s n
      · rcases n with n | n
        · exact n.2
        · exact NdI.new f0 s n
theorem evs_len {ρ : Env} : ∀ {es : List E} {ys : List DT}, evs cf es ρ = .ok ys → ys.length = es.length := by
  intro es
  induction es with
  | nil => intro ys h; cases h; rfl
  | cons a es ih =>
    intro ys h
    obtain ⟨x, _, h⟩ := M.bind_eq_ok (show (ev cf a ρ).bind (fun x => (evs cf es ρ).bind fun xs => .ok (x :: xs)) = .ok ys from h)
    obtain ⟨zs, h1, h⟩ := M.bind_eq_ok h
    cases h
    exact congrArg (· + 1) (ih h1)
theorem snd_call {f : String} {n : Nat} {x : Str} (G : Gd g cf k X sc cl W) (hcm : g.calm = true) (hf : (f, n) ∈ g.funs) (hx : x = (f : Str)) (hg : sc.names.lookup x = some .globalImplicit) (hd : (x == ("__debug__" : Str)) = false) (hn : es.length = n) (ha : PA X (ea :: xs) (tDs cf X.K W es)) (hs : (ea :: xs).all noStar = true) :
    PE X (.Call (.Name x p) (ea :: xs) [] pos) (tD cf X.K W (.call f es)) := by
  obtain ⟨fa, fd, ps, hm, hk, hb, hl, F⟩ := G.fn f n hf
  subst hx
  rw [List.all_cons, Bool.and_eq_true] at hs
  refine (pe_callS F (G.room hcm) (show X.env.scope.names.lookup _ = _ by rw [G.sc]; exact hg) hm hk hb (fun σ => passAt G.tk.t σ) ha hd (star_cons hs.1) (star_any hs.2)).mono' fun σ H Q ⟨fm, ρ, sr, w⟩ => ?_
  have w : Wq X.K fm (fun c H' => W c σ H') H H ((evs cf es ρ).bind fun xs => (cf.F f (xs.map (·.1))).bind fun r => .ok (norm r.1 (if r.2 = true then T0 else ⟨false, (tagsOf xs).lv, (tagsOf xs).root.bw⟩))) Q := w
  refine ⟨fm, ρ, sr, ?_⟩
  cases e : evs cf es ρ with
  | bad => rw [e] at w; exact w
  | exc c => rw [e] at w; exact w
  | ok y =>
    rw [e] at w
    exact fun v H1 s1 r1 => call_rd (ρ := ρ) sr.at' s1 r1 ((evs_len e).trans hn) (w.later s1)
theorem find_k {kvs : List (Int × Bool)} {n : Int} {q : Int × Bool} (h : kvs.find? (fun q => decide (q.1 = n)) = some q) : valV (kvs.map fun q => ((Sum.inl q.1 : Key), V.bl q.2)) (Sum.inl n) = some (.bl q.2) := by
  unfold valV
  rw [List.find?_map]
  have e : ((fun kv : Key × V => decide (kv.1 = Sum.inl n)) ∘ fun q : Int × Bool => ((Sum.inl q.1 : Key), V.bl q.2)) = fun q => decide (q.1 = n) := by
    funext z
    show decide ((Sum.inl z.1 : Key) = Sum.inl n) = _
    by_cases c : z.1 = n
    · rw [c]; simp
    · rw [decide_eq_false c, decide_eq_false fun z => c (Sum.inl.inj z)]
  rw [e, h]
  rfl
theorem find_t {kvs : List (List Int × Bool)} {n : List Int} {q : List Int × Bool} (h : kvs.find? (fun q => decide (q.1 = n)) = some q) : valV (kvs.map fun q => ((q.1.map Sum.inl : List Key), V.bl q.2)) (n.map Sum.inl) = some (.bl q.2) := by
  unfold valV
  rw [List.find?_map]
  have inj : ∀ {a b : List Int}, (a.map Sum.inl : List Key) = b.map Sum.inl → a = b := fun {a b} e => by
    refine List.map_inj_right ?_ |>.mp e
    intro x y e
    exact Sum.inl.inj e
  have e : ((fun kv : List Key × V => decide (kv.1 = n.map Sum.inl)) ∘ fun q : List Int × Bool => ((q.1.map Sum.inl : List Key), V.bl q.2)) = fun q => decide (q.1 = n) := by
    funext z
    show decide ((z.1.map Sum.inl : List Key) = n.map Sum.inl) = _
    by_cases c : z.1 = n
    · rw [c]; simp
    · rw [decide_eq_false c, decide_eq_false fun z => c (inj z)]
  rw [e, h]
  rfl
theorem snd_dgk {i : E} (hu : X.A.units + 65 < cLine) (ha : PE X ea (tD cf X.K W a)) (hb : PE X eb (tD cf X.K W i)) (hs : PlainIx eb) : PE X (.Subscript ea eb pos) (tD cf X.K W (.dgk a i)) :=
  (pe_dget (by omega) ha hb hs).mono' fun σ H Q ⟨fm, ρ, sr, w⟩ => tD.bind sr Same.refl w fun v H1 x s1 sr1 r1 w1 => tD.bind sr1 s1 w1 fun u H2 y s2 sr2 r2 w2 => by
    obtain ⟨x, tx⟩ := x
    obtain ⟨y, ty⟩ := y
    have w2 : Wq X.K fm (fun c H' => W c σ H') H H2 (dgK x y) Q := w2
    unfold dgK at w2
    split at w2
    · rename_i kvs n
      split at w2
      · rename_i q hq
        cases r2 with
        | imm r2 =>
        cases r2
        have r1 := r1.same s2
        cases r1 with
        | imm r1 =>
        cases r1 with
        | @dk a0 _ hd =>
          refine ⟨_, _, rfl, ?_, w2.imm (X := X) (.bl _)⟩
          rw [← find_k hq]
          exact DGet.k (k := Sum.inl _) hd
      · exact w2.elim
    · exact w2.elim
theorem snd_dgt {i : E} {p2 p3 : Pos} (G : Gd g cf k X sc cl W) (hg : sc.names.lookup ("tuple" : Str) = some .globalImplicit) (ha : PE X ea (tD cf X.K W a)) (hb : PE X eb (tD cf X.K W i)) (hs : noStar eb = true) : PE X (.Subscript ea (.Call (.Name ("tuple" : Str) p2) [eb] [] p3) pos) (tD cf X.K W (.dgt a i)) :=
  (pe_dget (by have := G.un; omega) ha (pe_callTy call_tuple_of (show X.env.scope.names.lookup _ = _ by rw [G.sc]; exact hg) (G.bl "tuple" (by decide)) rfl (pa_cons hb pa_nil (star_cons hs)) (he := star_cons hs)) (fun _ _ => rfl)).mono' fun σ H Q ⟨fm, ρ, sr, w⟩ => tD.bind sr Same.refl w fun v H1 x s1 sr1 r1 w1 => tD.bind sr1 s1 w1 fun u H2 y s2 sr2 r2 w2 => by
    obtain ⟨x, tx⟩ := x
    obtain ⟨y, ty⟩ := y
    have w2 : Wq X.K fm (fun c H' => W c σ H') H H2 (dgT x y) Q := w2
    unfold dgT at w2
    split at w2
    · rename_i kvs xs
      split at w2
      · rename_i ns hns
        split at w2
        · rename_i q hq
          have r1 := r1.same s2
          cases r1 with
          | imm r1 =>
          cases r1 with
          | dt hd =>
          cases r2 with
          | lsi hp hl rr =>
          have rr := RepIs.ints rr hns
          subst rr
          refine ⟨_, _, rfl, .inl ⟨SqL.of hl, fun l hl' => ?_⟩⟩
          have sm : Same H2 (upd H2 l (.tup (ns.map V.int))) := Same.new hl'
          refine ⟨_, _, rfl, ?_, (w2.later sm).imm (X := X) (.bl _)⟩
          have := DGet.t (k := ns.map Sum.inl) (sm _ _ hd) (show upd H2 l (.tup (ns.map V.int)) l = some (.tup ((ns.map Sum.inl).map kV)) by rw [upd_same, List.map_map]; rfl)
          rw [find_t hq] at this
          exact this
        · exact w2.elim
      · exact w2.elim
    · exact w2.elim
/-- a call with a list made for it -/
theorem snd_fcall {f : String} {x : Str} {a : E} {pl p1 p2 p3 : Pos} {j1 j2 j3 : Nat} (G : Gd g cf k X sc cl W) (hcm : g.calm = true) (hf : f ∈ g.mf) (hx : x = (f : Str)) (hg : sc.names.lookup x = some .globalImplicit) (hd : (x == ("__debug__" : Str)) = false) (ha : PE X ea (tD cf X.K W a)) (hs : noStar ea = true) :
    PE X (.Call (.Name x p) [ea, .List [.Constant (.int 0) j1 p1, .Constant (.int 0) j2 p2] pl, .Constant (.int 0) j3 p3] [] pos) (tD cf X.K W (.fcall f a)) := by
  obtain ⟨fa, fd, ps, hm, hk, hb, hl, F⟩ := G.fm f hf
  subst hx
  refine (pe_callS F (G.room hcm) (show X.env.scope.names.lookup _ = _ by rw [G.sc]; exact hg) hm hk hb (fun σ => passAt G.tk.t σ) (pa_cons ha (pa_cons (pe_lst (pa_cons pe_int (pa_cons pe_int pa_nil))) (pa_cons pe_int pa_nil)) (star_cons hs)) hd (star_cons hs) (star_any (es := [_, _]) rfl)).mono' fun σ H Q ⟨fm, ρ, sr, w⟩ => ?_
  have w : Wq X.K fm (fun c H' => W c σ H') H H ((ev cf a ρ).bind fun x => immM (cf.F f [x.1, .lsi [.int 0, .int 0], .imm (.int 0)])) Q := w
  refine ⟨fm, ρ, sr, ?_⟩
  cases e : ev cf a ρ with
  | bad => rw [e] at w; exact w
  | exc c => rw [e] at w; exact w
  | ok y =>
    rw [e] at w
    intro v H1 s1 r1
    have w := w.later s1
    refine ⟨by show 2 ≤ sizeLine; decide, fun q hq => ?_⟩
    refine ⟨v, q, y.1, H1, fun _ => True, rfl, Rep.weak (fun _ _ => trivial) (fun _ _ => trivial) r1, Same.new hq, hq, upd_same, ?_⟩
    have w : Wq X.K fm (fun c H' => W c σ H') H H1 (immM (cf.F f [y.1, .lsi [.int 0, .int 0], .imm (.int 0)])) Q := w
    cases e2 : cf.F f [y.1, .lsi [.int 0, .int 0], .imm (.int 0)] with
    | bad => rw [e2] at w; exact w
    | exc c => rw [e2] at w; exact w
    | ok r =>
      obtain ⟨d, nw⟩ := r
      rw [e2] at w
      cases d with
      | imm i => exact fun v H' s' rr => w v H' s' (.imm rr)
      | _ => exact w.elim
/-- a call without arguments -/
theorem snd_call0 {f : String} {x : Str} (G : Gd g cf k X sc cl W) (hcm : g.calm = true) (hf : (f, 0) ∈ g.funs) (hx : x = (f : Str)) (hg : sc.names.lookup x = some .globalImplicit) (hd : (x == ("__debug__" : Str)) = false) : PE X (.Call (.Name x p) [] [] pos) (tD cf X.K W (.call f [])) := by
  obtain ⟨fa, fd, ps, hm, hk, hb, hl, F⟩ := G.fn f 0 hf
  subst hx
  refine ⟨fun pins s σ H Q I ⟨fm, ρ, sr, w⟩ => ?_⟩
  refine wpAny_Call_Name_kw (ld_glob I (show X.env.scope.names.lookup _ = _ by rw [G.sc]; exact hg) hm ?_ hd)
  exact PySem.W.callWith_K0 I.kIn hk (run_fnS (us := []) F (G.room hcm) hb (passAt G.tk.t σ) I .nil (call_rd (ρ := ρ) (ys := []) sr.at' Same.refl .nil rfl w))
/-- a name's slot -/
theorem snd_var {i : Nat} {x : Str} (hN : X.N[i]? = some x) (hv : Vis X.env.scope x) (hd : (x == ("__debug__" : Str)) = false) (hcd : (x == ("__classdict__" : Str)) = false) : PE X (.Name x pos) (tD cf X.K W (.var i)) :=
  (pe_var hN hv hd hcd).mono' fun σ H Q ⟨fm, ρ, sr, w⟩ => by
    have w : Wq X.K fm (fun c H' => W c σ H') H H (match ρ[i]? with | some (some d) => .ok (norm d (rdTag i (cf.cl i))) | _ => .bad) Q := w
    split at w
    · rename_i d e
      obtain ⟨v, h1, h2⟩ := sr.slot i d e
      exact ⟨v, h1, w v H Same.refl (h2.read sr.at')⟩
    · exact w.elim
def constB : Const → Bool
  | .none => true | .bool _ => true | .int _ => true | .str _ => true | _ => false
theorem snd_lit {c : Const} {j : Nat} (h : constB c = true) : PE X (.Constant c j pos) (tD cf X.K W (.lit c)) := by
  cases c with
  | none => exact pe_non.mono' fun σ H Q ⟨fm, ρ, sr, w⟩ => Wq.imm (X := X) (i := .non) w .non
  | bool b => exact pe_bl.mono' fun σ H Q ⟨fm, ρ, sr, w⟩ => Wq.imm (X := X) (i := .bl b) w (.bl b)
  | int b => exact pe_int.mono' fun σ H Q ⟨fm, ρ, sr, w⟩ => Wq.imm (X := X) (i := .int b) w (.int b)
  | str b => exact pe_str.mono' fun σ H Q ⟨fm, ρ, sr, w⟩ => Wq.imm (X := X) (i := .str b) w (.str b)
  | _ => cases h
theorem snd_glob {x : String} {y : Str} {c : Const} (G : Gd g cf k X sc cl W) (hx : y = (x : Str)) (hc : (x, c) ∈ g.consts) (hg : sc.names.lookup y = some .globalImplicit) (hd : (y == ("__debug__" : Str)) = false) : PE X (.Name y pos) (tD cf X.K W (.glob x c)) := by
  obtain ⟨u, v, i, h1, h2, h3, h4⟩ := G.cs x c hc
  subst hx
  refine (pe_glob (show X.env.scope.names.lookup _ = _ by rw [G.sc]; exact hg) h1 h2 hd).mono' fun σ H Q ⟨fm, ρ, sr, w⟩ => ?_
  have w : Wq X.K fm (fun c H' => W c σ H') H H (match ofConst c with | some c => .ok (pim c) | none => .bad) Q := w
  rw [h3] at w
  exact w.imm (X := X) (h4 H)
/-! built-ins -/
def bltN : Blt → String
  | .len => "len" | .tuple => "tuple" | .list => "list" | .sum => "sum" | .int => "int" | .str => "str" | .all => "all" | .any => "any"
  | .min2 => "min" | .max2 => "max" | .minl => "min" | .maxl => "max" | .isi _ => "isinstance" | .sorted => "sorted" | _ => ""
def bltT : Blt → Bool
  | .tuple => true | .list => true | .int => true | .str => true | _ => false
def bltC : Blt → Bool
  | .len => true | .tuple => true | .int => true | .str => true | _ => false
theorem blt_ok (G : Gd g cf k X sc cl W) : ∀ (b : Blt), (g.calm || bltC b) = true → bltN b ≠ "" → bltN b ≠ "isinstance" → CallR X (if bltT b = true then .type (bltN b) else .builtin (bltN b)) (rB X.K b) ∧ bootBuiltins (bltN b : Str) = some (if bltT b = true then .type (bltN b) else .builtin (bltN b)) ∧ (bltN b) ∈ bltAll
  | .len, _, _, _ => ⟨len_ok, by decide +kernel, by decide⟩
  | .tuple, _, _, _ => ⟨tuple_ok, by decide +kernel, by decide⟩
  | .list, c, _, _ => ⟨list_ok (G.calm (by simpa [bltC] using c)), by decide +kernel, by decide⟩
  | .sum, c, _, _ => ⟨sum_ok (G.calm (by simpa [bltC] using c)), by decide +kernel, by decide⟩
  | .int, _, _, _ => ⟨int_okB, by decide +kernel, by decide⟩
  | .str, _, _, _ => ⟨str_okB, by decide +kernel, by decide⟩
  | .all, c, _, _ => ⟨all_ok (G.calm (by simpa [bltC] using c)), by decide +kernel, by decide⟩
  | .any, c, _, _ => ⟨any_ok (G.calm (by simpa [bltC] using c)), by decide +kernel, by decide⟩
  | .min2, c, _, _ => ⟨min2_ok (G.calm (by simpa [bltC] using c)), by decide +kernel, by decide⟩
  | .max2, c, _, _ => ⟨max2_ok (G.calm (by simpa [bltC] using c)), by decide +kernel, by decide⟩
  | .minl, c, _, _ => ⟨minl_ok (G.calm (by simpa [bltC] using c)), by decide +kernel, by decide⟩
  | .maxl, c, _, _ => ⟨maxl_ok (G.calm (by simpa [bltC] using c)), by decide +kernel, by decide⟩
  | .isi _, _, _, h => absurd rfl h
  | .sorted, _, _, _ => ⟨sorted_ok (by have := G.un; omega), by decide +kernel, by decide⟩
  | .lenset, _, h, _ => absurd rfl h
  | .sortedset, _, h, _ => absurd rfl h
  | .lrg, _, h, _ => absurd rfl h
  | .trg, _, h, _ => absurd rfl h
  | .ise _, _, h, _ => absurd rfl h
  | .lzip, _, h, _ => absurd rfl h
theorem snd_blt {b : Blt} {x : Str} (G : Gd g cf k X sc cl W) (h0 : (g.calm || bltC b) = true) (h1 : bltN b ≠ "") (h2 : bltN b ≠ "isinstance") (hx : x = (bltN b : Str)) (hg : sc.names.lookup x = some .globalImplicit) (hn : x ≠ ("__name__" : Str)) (hd : (x == ("__debug__" : Str)) = false) (ha : PA X (ea :: xs) (tDs cf X.K W es)) (hs : (ea :: xs).all noStar = true) :
    PE X (.Call (.Name x p) (ea :: xs) [] pos) (tD cf X.K W (.blt b es)) := by
  obtain ⟨c1, c2, c3⟩ := blt_ok G b h0 h1 h2
  have hm := G.bl _ c3
  subst hx
  rw [List.all_cons, Bool.and_eq_true] at hs
  have hgl : Gl X (bltN b : Str) := show X.env.scope.names.lookup _ = _ by rw [G.sc]; exact hg
  have fin : PE X (.Call (.Name (bltN b : Str) p) (ea :: xs) [] pos) (tCB (rB X.K b) (tDs cf X.K W es)) := by
    cases e : bltT b with
    | true =>
      rw [e, if_pos rfl] at c1 c2
      exact pe_callTy c1 hgl hm c2 ha hn hd (star_cons hs.1) (star_any hs.2)
    | false =>
      rw [e, if_neg Bool.false_ne_true] at c1 c2
      exact pe_callB c1 hgl hm c2 ha hn hd (star_cons hs.1) (star_any hs.2)
  exact fin.mono' fun σ H Q ⟨fm, ρ, sr, w⟩ => tDs.bind sr Same.refl w fun v H1 y s1 sr1 r1 w1 => ⟨fm, _, H, y, sr.at', s1, r1, w1⟩
/-! methods -/
def objOk : Expr → Bool
  | .Name .. => true
  | .Subscript .. => true
  | .Constant .. => true
  | _ => false
theorem mt_facts (m : Mt) : PySem.PlainAttrs (mtTy m) ∧ PySem.Slot (mtTy m) (mtN m : Str) (mtId m) ∧ PySem.typeOf (.builtin (mtId m)) = pure (.type "method_descriptor") := by
  cases m
  · exact ⟨PySem.F.plainAttrs_str, PySem.F.slot_str_join, PySem.F.type_str_join⟩
  · exact ⟨PySem.F.plainAttrs_str, PySem.F.slot_str_split, PySem.F.type_str_split⟩
  · exact ⟨PySem.F.plainAttrs_str, PySem.F.slot_str_split, PySem.F.type_str_split⟩
  · exact ⟨PySem.F.plainAttrs_str, PySem.F.slot_str_index, PySem.F.type_str_index⟩
  · exact ⟨PySem.F.plainAttrs_list, PySem.F.slot_list_index, PySem.F.type_list_index⟩
  · exact ⟨PySem.F.plainAttrs_str, PySem.F.slot_str_rfind, PySem.F.type_str_rfind⟩
  · exact ⟨PySem.F.plainAttrs_str, PySem.F.slot_str_find, PySem.F.type_str_find⟩
  · exact ⟨PySem.F.plainAttrs_str, PySem.F.slot_str_find, PySem.F.type_str_find⟩
  · exact ⟨PySem.F.plainAttrs_str, PySem.F.slot_str_rfind, PySem.F.type_str_rfind⟩
theorem mtOk_ty {m : Mt} {x : DT} {v : V} {fm : Fm} {Hs H : Hp} (h : mtOk m x.1 = true) (r : VR X.K fm Hs H x v) : tyV X.K (mtTy m) v H := by
  obtain ⟨d, t⟩ := x
  cases d with
  | imm i =>
    cases i with
    | str s => cases repI_str (rep_imm r); exact eq_of_beq h
    | _ => cases h
  | lsi xs =>
    cases r with
    | lsi hp ha ra => exact .inl ⟨eq_of_beq h, _, .inl (.inl ha)⟩
  | _ => cases h
theorem snd_mth {m : Mt} {o : Expr} {x : Str} {ap pc : Pos} (hx : x = (mtN m : Str)) (ho : objOk o = true) (hl : (ap.endLine == pc.line) = true) (hn : xs.length ≤ 2) (ho' : PE X o (tD cf X.K W a)) (ha : PA X (ea :: xs) (tDs cf X.K W es)) (hs : (ea :: xs).all noStar = true) :
    PE X (.Call (.Attribute o x ap) (ea :: xs) [] pc) (tD cf X.K W (.mth m a es)) := by
  obtain ⟨f1, f2, f3⟩ := mt_facts m
  subst hx
  rw [List.all_cons, Bool.and_eq_true] at hs
  have hb : attributeBase o (mtN m : Str) X.env (eval o X.env) = eval o X.env := by
    cases o <;> first | rfl | cases ho
  have h2 : ((((backTo pc (starEach (ea :: xs) X.env)).all fun x => !x.fst) && (backToKw pc (keywordEach [] X.env)).all fun x => x.fst.isSome) && decide (((ea :: xs).length + ([] : List Keyword).length + if ([] : List Keyword).isEmpty = true then 0 else 1) < 30)) = true := by
    match xs, hn, hs with
    | [], _, hs => rw [star_cons hs.1]; rfl
    | [b], _, hs =>
      have hb := hs.2
      rw [List.all_cons, Bool.and_eq_true] at hb
      rw [star_cons hs.1, star_cons hb.1]; rfl
    | [b, c], _, hs =>
      have hb := hs.2
      rw [List.all_cons, Bool.and_eq_true, List.all_cons, Bool.and_eq_true] at hb
      rw [star_cons hs.1, star_cons hb.1, star_cons hb.2.1]; rfl
  refine (pe_bm f1 f2 f3 (mt_ok m) ho' ha hb h2 hl (star_cons hs.1) (star_any hs.2)).mono' fun σ H Q ⟨fm, ρ, sr, w⟩ => ?_
  refine tD.bind sr Same.refl w fun v H1 y s1 sr1 r1 w1 => ?_
  obtain ⟨c, w1⟩ := Wq.ite w1
  exact ⟨mtOk_ty c r1, tDs.bind sr1 s1 w1 fun vs H2 ys s2 sr2 r2 w2 => ⟨fm, _, H, y, ys, sr.at', s1.trans s2, r1.same s2, r2, w2⟩⟩
/-! isinstance -/
def tyAll : List String := ["int", "bool", "str", "list", "tuple"]
theorem ty_boot : ∀ t ∈ tyAll, bootBuiltins (t : Str) = some (.type t) := by decide +kernel
theorem ty_in : ∀ t ∈ tyAll, t ∈ bltAll := by decide
theorem ty_kit : ∀ t ∈ tyAll, ∀ a ∈ ["NoneType", "int", "bool", "str", "list", "tuple", "dict"], kitB a t = some (t == a || (t == "int" && a == "bool")) := by decide +kernel
theorem ty_nn : ∀ t ∈ tyAll, (t : Str) ≠ ("__name__" : Str) ∧ ((t : Str) == ("__debug__" : Str)) = false := by decide +kernel
theorem tyD_in (d : D) (h : isExc d = false) : tyD d ∈ ["NoneType", "int", "bool", "str", "list", "tuple", "dict"] := by
  cases d with
  | imm i => cases i <;> first | (cases h; done) | simp [tyD]
  | _ => simp [tyD]
/-- the classes' names -/
def clsNames : List String → List Expr → Bool
  | [], [] => true
  | t :: ts, .Name x _ :: es => x == (t : Str) && clsNames ts es
  | _, _ => false
end
end Iv

/-! Iv J: isinstance; targets, what is walked, comprehensions. -/
namespace Iv
open PySem PySem.Spec L2
open PyProof.Rows hiding St
section
variable {g : Gs} {cf : Cf} {k : Nat} {X : Cx} {sc : Scope} {cl : Str → Bool} {W : WC} {a : E} {ea : Expr} {pos p p2 : Pos}
def tysG (sc : Scope) (ts : List String) : Bool := ts.all fun t => tyAll.contains t && sc.names.lookup (t : Str) == some .globalImplicit
theorem pe_ty (G : Gd g cf k X sc cl W) {t : String} (ht : t ∈ tyAll) (hg : sc.names.lookup (t : Str) = some .globalImplicit) : PE X (.Name (t : Str) pos) (tC (.ty t)) :=
  pe_bltn (show X.env.scope.names.lookup _ = _ by rw [G.sc]; exact hg) (G.bl t (ty_in t ht)) (ty_boot t ht) rfl (ty_nn t ht).1 (ty_nn t ht).2
theorem isi_any {K : PySem.W.Frag} {tn : String} (hn : tn ∈ ["NoneType", "int", "bool", "str", "list", "tuple", "dict"]) : ∀ {ts : List String}, (∀ t ∈ ts, t ∈ tyAll) → PySem.W.kitAny K (.type tn) (ts.map Value.type) = some (isiB tn ts)
  | [], _ => kitAny_nil
  | t :: ts, h => by
    have h1 := ty_kit t (h t List.mem_cons_self) tn hn
    have ih := isi_any (K := K) hn (ts := ts) fun t ht => h t (List.mem_cons_of_mem _ ht)
    refine kitAny_cons (kit_ty h1) (fun e => ?_) fun e => ?_
    · rw [ih]
      show some (isiB tn ts) = some ((t == tn || (t == "int" && tn == "bool")) || isiB tn ts)
      rw [e, Bool.false_or]
    · show ((t == tn || (t == "int" && tn == "bool")) || isiB tn ts) = true
      rw [e, Bool.true_or]
theorem snd_isi1 {t : String} {x y : Str} (G : Gd g cf k X sc cl W) (hx : x = ("isinstance" : Str)) (hy : y = (t : Str)) (hg : sc.names.lookup x = some .globalImplicit) (ht : tysG sc [t] = true) (ha : PE X ea (tD cf X.K W a)) (hs : noStar ea = true) :
    PE X (.Call (.Name x p) [ea, .Name y p2] [] pos) (tD cf X.K W (.blt (.isi [t]) [a])) := by
  subst hx hy
  unfold tysG at ht
  simp only [List.all_cons, List.all_nil, Bool.and_true, Bool.and_eq_true, List.contains_iff_mem, beq_iff_eq] at ht
  have fin := pe_callB (X := X) (x := ("isinstance" : Str)) (p := p) (pos := pos) call_isi (show X.env.scope.names.lookup _ = _ by rw [G.sc]; exact hg) (G.bl "isinstance" (by decide)) (by decide +kernel) (pa_cons ha (pa_cons (pe_ty (pos := p2) G ht.1 ht.2) pa_nil) (star_cons hs)) (by decide +kernel) (by decide +kernel) (star_cons hs)
  refine fin.mono' fun σ H Q ⟨fm, ρ, sr, w⟩ => ?_
  have w : Wq X.K fm (fun c H' => W c σ H') H H ((ev cf a ρ).bind fun x => if isExc x.1 = true then .bad else .ok (pim (.bl (isiB (tyD x.1) [t])))) Q := by
    have w : Wq X.K fm (fun c H' => W c σ H') H H ((evs cf [a] ρ).bind fun xs => bltD (.isi [t]) xs) Q := w
    have e : evs cf [a] ρ = (ev cf a ρ).bind fun x => .ok [x] := rfl
    rw [e] at w
    cases h : ev cf a ρ with
    | _ => rw [h] at w; exact w
  refine tD.bind sr Same.refl w fun v H1 x s1 sr1 r1 w1 => ?_
  by_cases hxc : isExc x.1 = true
  · rw [if_pos hxc] at w1; exact w1.elim
  rw [if_neg hxc] at w1
  have hxc := Bool.eq_false_iff.mpr hxc
  refine ⟨v, .ty t, .type (tyD x.1), .type t, isiB (tyD x.1) [t], rfl, .ty t, ty_of r1 hxc, ?_, w1.imm (X := X) (.bl _)⟩
  have h1 := ty_kit t ht.1 (tyD x.1) (tyD_in _ hxc)
  rw [kit_ty h1]
  unfold isiB
  simp
theorem pa_tys (G : Gd g cf k X sc cl W) : ∀ {ts : List String} {es : List Expr}, clsNames ts es = true → tysG sc ts = true → PA X es (fun _ H Q => Q (ts.map V.ty) H)
  | [], [], _, _ => pa_nil.mono' fun _ _ _ h => h
  | [], _ :: _, h, _ => by cases h
  | t :: ts, [], h, _ => by cases h
  | t :: ts, e :: es, h, ht => by
    unfold tysG at ht
    rw [List.all_cons, Bool.and_eq_true, Bool.and_eq_true] at ht
    cases e with
    | Name x pos =>
      have h : (x == (t : Str) && clsNames ts es) = true := h
      rw [Bool.and_eq_true] at h
      cases eq_of_beq h.1
      exact (pa_cons (pe_ty G (by simpa using ht.1.1) (by simpa using ht.1.2)) (pa_tys G h.2 ht.2) (star_cons rfl)).mono' fun _ _ _ h => h
    | _ => cases h
theorem clsv_all : ∀ ts : List String, Paired ClsV (ts.map V.ty) (ts.map Value.type)
  | [] => .nil
  | t :: ts => .cons (.ty t) (clsv_all ts)
theorem snd_isiT {ts : List String} {x : Str} {es : List Expr} {j : Nat} (G : Gd g cf k X sc cl W) (hx : x = ("isinstance" : Str)) (hy : clsNames ts es = true) (hl : ts.length ≤ 100) (hg : sc.names.lookup x = some .globalImplicit) (ht : tysG sc ts = true) (ha : PE X ea (tD cf X.K W a)) (hs : noStar ea = true) :
    PE X (.Call (.Name x p) [ea, .Tuple es j p2] [] pos) (tD cf X.K W (.blt (.isi ts) [a])) := by
  subst hx
  have fin := pe_callB (X := X) (x := ("isinstance" : Str)) (p := p) (pos := pos) call_isiT (show X.env.scope.names.lookup _ = _ by rw [G.sc]; exact hg) (G.bl "isinstance" (by decide)) (by decide +kernel) (pa_cons ha (pa_cons (pe_tup (x1 := j) (pos := p2) (pa_tys G hy ht)) pa_nil (star_cons rfl)) (star_cons hs)) (by decide +kernel) (by decide +kernel) (star_cons hs)
  refine fin.mono' fun σ H Q ⟨fm, ρ, sr, w⟩ => ?_
  have w : Wq X.K fm (fun c H' => W c σ H') H H ((ev cf a ρ).bind fun x => if isExc x.1 = true then .bad else .ok (pim (.bl (isiB (tyD x.1) ts)))) Q := by
    have w : Wq X.K fm (fun c H' => W c σ H') H H ((evs cf [a] ρ).bind fun xs => bltD (.isi ts) xs) Q := w
    have e : evs cf [a] ρ = (ev cf a ρ).bind fun x => .ok [x] := rfl
    rw [e] at w
    cases h : ev cf a ρ with
    | _ => rw [h] at w; exact w
  refine tD.bind sr Same.refl w fun v H1 x s1 sr1 r1 w1 => ?_
  by_cases hxc : isExc x.1 = true
  · rw [if_pos hxc] at w1; exact w1.elim
  rw [if_neg hxc] at w1
  have hxc := Bool.eq_false_iff.mpr hxc
  have hall : ∀ t ∈ ts, t ∈ tyAll := fun t m => by
    have := List.all_eq_true.mp ht t m
    rw [Bool.and_eq_true] at this
    simpa using this.1
  refine ⟨by rw [List.length_map, sizeLine_eq]; omega, fun q hq => ?_⟩
  refine ⟨v, q, ts.map V.ty, .type (tyD x.1), ts.map Value.type, isiB (tyD x.1) ts, rfl, upd_same, ?_, ty_of (r1.same (Same.new hq)) hxc, isi_any (tyD_in _ hxc) hall, w1 _ _ (Same.new hq) (.imm (.bl _))⟩
  exact clsv_all ts
end

/-! ### targets -/
mutual
def tgS : Tg → List Nat
  | .nm i => [i]
  | .tp ts => tgSs ts
def tgSs : List Tg → List Nat
  | [] => []
  | t :: ts => tgS t ++ tgSs ts
end
/-- only slots of L differ -/
def Chg (L : List Nat) (σ σ' : St) : Prop := σ'.length = σ.length ∧ ∀ i, i ∉ L → σ'[i]? = σ[i]?
def tG (cf : Cf) (K : PySem.W.Frag) (tg : Tg) : TG := fun v σ H Q => ∃ fm ρ Hs x ρ', SR cf K fm ρ σ H ∧ VR K fm Hs H x v ∧ asgTg cf tg x ρ = some ρ' ∧ ∀ σ', SR cf K fm ρ' σ' H → Chg (tgS tg) σ σ' → Q σ' H
def tGs (cf : Cf) (K : PySem.W.Frag) (ts : List Tg) : TGs := fun vs σ H Q => ∃ fm ρ Hs xs ρ', SR cf K fm ρ σ H ∧ VRs K fm Hs H xs vs ∧ asgTgs cf ts xs ρ = some ρ' ∧ ∀ σ', SR cf K fm ρ' σ' H → Chg (tgSs ts) σ σ' → Q σ' H
mutual
def chkTg (N : List Str) (sc : Scope) (cl : Str → Bool) : Tg → Expr → Bool
  | .nm i, .Name x _ => decide (N[i]? = some x) && ((sc.names.lookup x == some .local) || (sc.names.lookup x == some .cell && cl x))
  | .tp ts, .Tuple es _ _ => chkTgs N sc cl ts es
  | _, _ => false
def chkTgs (N : List Str) (sc : Scope) (cl : Str → Bool) : List Tg → List Expr → Bool
  | [], [] => true
  | t :: ts, e :: es => chkTg N sc cl t e && chkTgs N sc cl ts es
  | _, _ => false
end
theorem _root_.L2.PG.mono' {X : Cx} {e : Expr} {t t' : TG} (h : PG X e t) (q : ∀ v σ H Q, t' v σ H Q → t v σ H Q) : PG X e t' := ⟨fun pins s σ H v u Q I r w => h.run pins s σ H v u Q I r (q v σ H Q w)⟩
theorem _root_.L2.PGs.mono' {X : Cx} {e : List Expr} {t t' : TGs} (h : PGs X e t) (q : ∀ v σ H Q, t' v σ H Q → t v σ H Q) : PGs X e t' := ⟨fun pins s σ H v u Q I r w => h.run pins s σ H v u Q I r (q v σ H Q w)⟩
theorem pims {K : PySem.W.Frag} {fm : Fm} {Hs H : Hp} : ∀ {xs : List I} {vs : List V}, RepIs K H xs vs → VRs K fm Hs H (xs.map pim) vs
  | _, _, .nil => .nil
  | _, _, .cons h r => .cons (.imm h) (pims r)
theorem kids_rd {K : PySem.W.Frag} {fm : Fm} {Hs H : Hp} {t : Tag} {q : AP'} (hq : ∀ a, q a → NdI fm t Hs a) : ∀ {xs : List D} {vs : List V}, Reps K H q xs vs → VRs K fm Hs H (kids t xs) vs
  | _, _, .nil => .nil
  | _, _, .cons _ h r => .cons (vr_kid hq h) (kids_rd hq r)
theorem tgs_len {cf : Cf} : ∀ {ts : List Tg} {xs : List DT} {ρ ρ' : Env}, asgTgs cf ts xs ρ = some ρ' → xs.length = ts.length
  | [], [], _, _, _ => rfl
  | [], _ :: _, _, _, h => by simp [asgTgs] at h
  | _ :: _, [], _, _, h => by simp [asgTgs] at h
  | t :: ts, x :: xs, ρ, ρ', h => by
    rw [asgTgs] at h
    split at h
    · exact congrArg (· + 1) (tgs_len h)
    · cases h
theorem tgE_len {N : List Str} {sc : Scope} {cl : Str → Bool} : ∀ {ts : List Tg} {es : List Expr}, chkTgs N sc cl ts es = true → es.length = ts.length
  | [], [], _ => rfl
  | [], _ :: _, h => by simp [chkTgs] at h
  | _ :: _, [], h => by simp [chkTgs] at h
  | t :: ts, e :: es, h => by
    rw [chkTgs, Bool.and_eq_true] at h
    exact congrArg (· + 1) (tgE_len h.2)
theorem each_cons {e : Expr} {es : List Expr} {env : PySem.Env} (h : noStar e = true) : assignEach (e :: es) env = (false, assign e env) :: assignEach es env := by
  cases e <;> first | rfl | cases h
theorem PG.or {X : Cx} {e : Expr} {t u : TG} (a : PG X e t) (b : PG X e u) : PG X e (fun v σ H Q => t v σ H Q ∨ u v σ H Q) :=
  ⟨fun pins s σ H v w Q I r h => by
    rcases h with h | h
    · exact a.run pins s σ H v w Q I r h
    · exact b.run pins s σ H v w Q I r h⟩
theorem chkTg_star {N : List Str} {sc : Scope} {cl : Str → Bool} {t : Tg} {e : Expr} (h : chkTg N sc cl t e = true) : noStar e = true := by
  cases e <;> first | rfl | (cases t <;> simp [chkTg] at h)
mutual
theorem snd_tg (cf : Cf) {X : Cx} {sc : Scope} {cl : Str → Bool} (hsc : X.env.scope = sc) (hN : X.N.Nodup) (hc : X.calm = true) (hf : ∀ x, cl x = true → X.fn x = true) : ∀ {tg : Tg} {e : Expr}, chkTg X.N sc cl tg e = true → PG X e (tG cf X.K tg)
  | .nm i, .Name x pos, h => by
    rw [chkTg, Bool.and_eq_true, Bool.or_eq_true, Bool.and_eq_true] at h
    have h1 : X.N[i]? = some x := of_decide_eq_true h.1
    have hl : Loc X.env.scope x := by
      rw [hsc]
      rcases h.2 with z | z
      · exact .inl (eq_of_beq z)
      · exact .inr (eq_of_beq z.1)
    have hfn : X.fn x = true ∨ X.env.scope.names.lookup x = some .local := by
      rcases h.2 with z | z
      · exact .inr (by rw [hsc]; exact eq_of_beq z)
      · exact .inl (hf x z.2)
    exact (pg_name hN h1 hl hfn).mono' fun v σ H Q ⟨fm, ρ, Hs, x, ρ', sr, r, e, q⟩ => q _ (sr.setFz r (by rw [asgTg] at e; exact e)) ⟨by simp, fun j hj => by rw [tgS] at hj; rw [List.getElem?_set_ne (fun e => hj (by rw [e]; exact List.mem_cons_self))]⟩
  | .tp ts, .Tuple es j pos, h => by
    rw [chkTg] at h
    have hs : (assignEach es X.env).length = ts.length ∧ (assignEach es X.env).findIdx? (·.1) = none := by
      have : ∀ {ts : List Tg} {es : List Expr}, chkTgs X.N sc cl ts es = true → (assignEach es X.env).length = ts.length ∧ (assignEach es X.env).findIdx? (·.1) = none := by
        intro ts
        induction ts with
        | nil =>
          intro es h
          cases es with
          | nil => exact ⟨rfl, rfl⟩
          | cons e es => have := tgE_len h; simp at this
        | cons t ts ih =>
          intro es h
          cases es with
          | nil => have := tgE_len h; simp at this
          | cons e es =>
            rw [chkTgs, Bool.and_eq_true] at h
            obtain ⟨h1, h2⟩ := ih h.2
            rw [each_cons (chkTg_star h.1)]
            exact ⟨congrArg (· + 1) h1, by simp [List.findIdx?_cons, h2]⟩
      exact this h
    refine (PG.or (pg_tup (n := ts.length) hc (snd_tgs cf hsc hN hc hf h) hs.1 hs.2) (pg_unl (n := ts.length) hc (snd_tgs cf hsc hN hc hf h) hs.1 hs.2)).mono' fun v σ H Q ⟨fm, ρ, Hs, x, ρ', sr, r, e, q⟩ => ?_
    obtain ⟨d, t⟩ := x
    cases d with
    | imm i =>
      cases i with
      | tup xs =>
        obtain ⟨a, vs, rfl, ha, ra⟩ := repI_tup (rep_imm r)
        rw [asgTg] at e
        exact .inl ⟨a, vs, rfl, ha, by rw [← RepIs.len ra, ← tgs_len e, List.length_map], fm, ρ, Hs, _, ρ', sr, pims ra, e, by rw [tgS] at q; exact q⟩
      | _ => simp [asgTg] at e
    | tpd ds =>
      cases r with
      | tpd ha ra =>
        rw [asgTg] at e
        exact .inl ⟨_, _, rfl, ha, by rw [← Reps.len ra, ← tgs_len e]; unfold kids; rw [List.length_map], fm, ρ, Hs, _, ρ', sr, kids_rd (fun a z => z) ra, e, by rw [tgS] at q; exact q⟩
    | lsi xs =>
      cases r with
      | lsi hp ha ra =>
        rw [asgTg] at e
        exact .inr ⟨_, _, rfl, .inl (.inl ha), by rw [← RepIs.len ra, ← tgs_len e, List.length_map], fm, ρ, Hs, _, ρ', sr, pims ra, e, by rw [tgS] at q; exact q⟩
    | lsd ds =>
      cases r with
      | lsd hp ha ra =>
        rw [asgTg] at e
        exact .inr ⟨_, _, rfl, .inl (.inl ha), by rw [← Reps.len ra, ← tgs_len e]; unfold kids; rw [List.length_map], fm, ρ, Hs, _, ρ', sr, kids_rd (fun a z => z.1) ra, e, by rw [tgS] at q; exact q⟩
    | _ => simp [asgTg] at e
  | .nm i, .Tuple .., h => by simp [chkTg] at h
  | .tp ts, .Name .., h => by simp [chkTg] at h
  | tg, .BoolOp .., h => by cases tg <;> simp [chkTg] at h
  | tg, .NamedExpr .., h => by cases tg <;> simp [chkTg] at h
  | tg, .BinOp .., h => by cases tg <;> simp [chkTg] at h
  | tg, .UnaryOp .., h => by cases tg <;> simp [chkTg] at h
  | tg, .Lambda .., h => by cases tg <;> simp [chkTg] at h
  | tg, .IfExp .., h => by cases tg <;> simp [chkTg] at h
  | tg, .Dict .., h => by cases tg <;> simp [chkTg] at h
  | tg, .Set .., h => by cases tg <;> simp [chkTg] at h
  | tg, .ListComp .., h => by cases tg <;> simp [chkTg] at h
  | tg, .SetComp .., h => by cases tg <;> simp [chkTg] at h
  | tg, .DictComp .., h => by cases tg <;> simp [chkTg] at h
  | tg, .GeneratorExp .., h => by cases tg <;> simp [chkTg] at h
  | tg, .Await .., h => by cases tg <;> simp [chkTg] at h
  | tg, .Yield .., h => by cases tg <;> simp [chkTg] at h
  | tg, .YieldFrom .., h => by cases tg <;> simp [chkTg] at h
  | tg, .Compare .., h => by cases tg <;> simp [chkTg] at h
  | tg, .Call .., h => by cases tg <;> simp [chkTg] at h
  | tg, .FormattedValue .., h => by cases tg <;> simp [chkTg] at h
  | tg, .JoinedStr .., h => by cases tg <;> simp [chkTg] at h
  | tg, .Constant .., h => by cases tg <;> simp [chkTg] at h
  | tg, .Attribute .., h => by cases tg <;> simp [chkTg] at h
  | tg, .Subscript .., h => by cases tg <;> simp [chkTg] at h
  | tg, .Starred .., h => by cases tg <;> simp [chkTg] at h
  | tg, .List .., h => by cases tg <;> simp [chkTg] at h
  | tg, .Slice .., h => by cases tg <;> simp [chkTg] at h
theorem snd_tgs (cf : Cf) {X : Cx} {sc : Scope} {cl : Str → Bool} (hsc : X.env.scope = sc) (hN : X.N.Nodup) (hc : X.calm = true) (hf : ∀ x, cl x = true → X.fn x = true) : ∀ {tg : List Tg} {e : List Expr}, chkTgs X.N sc cl tg e = true → PGs X e (tGs cf X.K tg)
  | [], [], _ => pgs_nil.mono' fun v σ H Q ⟨fm, ρ, Hs, xs, ρ', sr, r, e, q⟩ => by
    have := tgs_len e
    cases xs with
    | nil =>
      cases r
      rw [asgTgs] at e
      cases e
      exact ⟨rfl, q σ sr ⟨rfl, fun _ _ => rfl⟩⟩
    | cons _ _ => simp at this
  | [], _ :: _, h => by simp [chkTgs] at h
  | _ :: _, [], h => by simp [chkTgs] at h
  | t :: ts, e :: es, h => by
    rw [chkTgs, Bool.and_eq_true] at h
    refine (pgs_cons (snd_tg cf hsc hN hc hf h.1) (snd_tgs cf hsc hN hc hf h.2) (by rw [each_cons (chkTg_star h.1)]; rfl)).mono' fun v σ H Q ⟨fm, ρ, Hs, xs, ρ', sr, r, e, q⟩ => ?_
    cases r with
    | nil => have := tgs_len e; simp at this
    | cons h1 r =>
      rw [asgTgs] at e
      split at e
      · rename_i ρ1 e1
        exact ⟨_, _, rfl, fm, ρ, Hs, _, ρ1, sr, h1, e1, fun σ' sr' c1 => ⟨fm, ρ1, Hs, _, ρ', sr', r, e, fun σ2 sr2 c2 => q σ2 sr2 ⟨c2.1.trans c1.1, fun i hi => by rw [tgSs, List.mem_append, not_or] at hi; rw [c2.2 i hi.2, c1.2 i hi.1]⟩⟩⟩
      · cases e
end
end Iv

/-! Iv Ja: enumerate over a tuple. -/
namespace Iv
open PySem PySem.Spec L2
open PyProof.Rows hiding St

theorem meets_enum1 {v : Value} {o : Obj} {H : Heap → Prop} (B : Begins v o H) :
    Meets (Builtin.«enumerate.__new__» ⟨[.type "enumerate", v], []⟩) (fun _ R s => H s.heap ∧
      R (.ok (.ret (.ref (s.heap.push o).objs.size))) { s with heap := (s.heap.push o).push { cls := .type "enumerate", data := .fields #[.none, .bool false, .ref s.heap.objs.size, rawInt 0, .none, .none] } }) :=
  .of_wp fun prog w A R s h => by
    obtain ⟨hp, g, d, tk, os⟩ := s; obtain ⟨h1, h⟩ := h
    have hsub := sub_enumerate
    have q1 : ∀ {A' : Around} {E : Value → Shared → Prop} {Q : Value → Shared → Prop}, Q (.ref hp.objs.size) ⟨hp.push o, g, d, tk, os⟩ → wpAny (model prog w) A' (pyIter v) Q E ⟨hp, g, d, tk, os⟩ :=
      fun q => B.iter prog w _ _ ⟨hp, g, d, tk, os⟩ _ h1 q
    wp_walk using q1
    refine wpAny_stack_any fun st => wpAny_pure ?_
    split
    · rename_i c _ _ _ _ _
      cases (c == Value.type "enumerate")
      · wp_walk using q1
        exact ⟨_, rfl, h⟩
      · wp_walk using q1
        exact ⟨_, rfl, h⟩
    · wp_walk using q1
      exact ⟨_, rfl, h⟩
section
variable {prog : Program} {w : World} {A : Around} {E : Value → Shared → Prop} {s : Shared}
theorem enum_starts {v : Value} {o : Obj} {H : Heap → Prop} {Q : Value → Shared → Prop} (B : Begins v o H) (h1 : H s.heap)
    (h : ∀ h', IsEnum h' (s.heap.objs.size + 1) s.heap.objs.size 0 .none → h'.get? s.heap.objs.size = some o → h'.objs.size = s.heap.objs.size + 2 →
      (∀ b o, s.heap.get? b = some o → h'.get? b = some o) → Q (.ref (s.heap.objs.size + 1)) { s with heap := h' }) :
    wpAny (model prog w) A (call (.type "enumerate") [v]) Q E s := by
  refine callType_new F.called_enumerate (by decide) (F.typeCall_enumerate_1 _) (F.newCall_enumerate_1 _) (fun obj => F.args_object_init_2 obj _) F.entry_enumerate_new
    (meets_enum1 B) ⟨h1, ?_⟩
  have hz : (s.heap.push o).objs.size = s.heap.objs.size + 1 := Heap.size_push ..
  show _ ∧ _
  rw [hz]
  have he : IsEnum ((s.heap.push o).push { cls := .type "enumerate", data := .fields #[.none, .bool false, .ref s.heap.objs.size, rawInt 0, .none, .none] }) (s.heap.objs.size + 1) s.heap.objs.size 0 .none := by
    have := Heap.get?_push_size (s.heap.push o) (o := { cls := .type "enumerate", data := .fields #[.none, .bool false, .ref s.heap.objs.size, rawInt 0, .none, .none] }) rfl
    rw [hz] at this; exact this
  refine ⟨⟨_, he, rfl⟩, h _ he (Heap.get?_push_of_some _ (Heap.get?_push_size _ B.free)) (by rw [Heap.size_push, hz]) fun b o x => Heap.get?_push_of_some _ (Heap.get?_push_of_some _ x)⟩
end
/-- the tuple at a, each item in a new pair -/
def IteT (K : PySem.W.Frag) (a : Addr) : It :=
  ⟨fun i H => ∃ (xs : List V) (x : V), SqT K H a xs ∧ xs[i]? = some x, fun i H v H' => ∃ T x, v = .ref T ∧ H T = none ∧ H' = upd H T (.tup [.int (i : Nat), x]) ∧ ∀ xs, SqT K H a xs → xs[i]? = some x, fun i H => ∃ xs : List V, SqT K H a xs ∧ xs.length ≤ i⟩
theorem turn_enumT {P : Program} {w : World} {K : PySem.W.Frag} {elts : List Expr} {kk : Nat} {tpos : Pos} (a e it : Addr) (hei : e ≠ it) (hai : a ≠ it) (hea : e ≠ a) :
    Turn P w K (.Tuple elts kk tpos) (IteT K a) [e, it] e (fun i h => (∃ old, IsEnum h e it ((i : Nat) : Int) old) ∧ h.IsTupleIter it a i) where
  mem := by simp
  obj := fun i h st b hb => by
    obtain ⟨⟨old, he⟩, ⟨o, ho, hc, hd⟩⟩ := st
    have e' : b = e ∨ b = it := by simpa using hb
    rcases e' with z | z
    · rw [z]; exact ⟨_, he, fun v q => nomatch q⟩
    · rw [z]; exact ⟨o, ho, fun v q => by rw [hd] at q; cases q⟩
  keep := fun i h h' st k => let ⟨⟨old, he⟩, hi⟩ := st; ⟨⟨old, k e (by simp) _ he⟩, hi.at fun o q => k it (by simp) o q⟩
  item := by
    intro X hP hw hK hc i pins s σ H E I hf st hg
    subst hP hw hK
    obtain ⟨⟨old, he⟩, hit⟩ := st
    obtain ⟨xs, x, hq, hx⟩ := hg
    obtain ⟨its, rv, p, hz⟩ := I.tuple hq
    obtain ⟨u, hu, ru⟩ := rv.get hx
    have hel : e < s.heap.objs.size := Heap.lt_size he
    have hil : it < s.heap.objs.size := by obtain ⟨_, q, _⟩ := hit; exact Heap.lt_size q
    have hlt : i < its.toArray.size := by
      have := (List.getElem?_eq_some_iff.mp hu).1
      simpa using this
    refine wpAny_pyNext_enum_itemD (Draws.tuple (show X.A.in1.handled = none from I.ok.hd hc) it a hai its.toArray) he ⟨hit, p⟩ hlt hei (by simp [hei, hea]) fun x' h' tk hPx ho hst hT hsz hk => ?_
    have hPx : its.toArray[i]? = some x' := hPx
    have hu' : its.toArray[i]? = some u := by simpa using hu
    rw [hu'] at hPx
    cases hPx
    obtain ⟨hit', hp'⟩ := hst
    refine ⟨_, rfl, wpAny_letOwnedTupleGo_enum (s := { s with heap := h', toks := tk + 1 }) ho fun h'' he' sb => ?_⟩
    have hT2 : h''.get? s.heap.objs.size = some { cls := .type "tuple", data := .seq #[.int i tk, u] } := (sb.2 _ (Nat.ne_of_gt hel)).trans hT
    have new : ObjOk X.prog X.w (upd H s.heap.objs.size (.tup [.int (i : Nat), x])) h'' s.heap.objs.size (.tup [.int (i : Nat), x]) :=
      ⟨by show 2 ≤ sizeLine; decide, [.int i tk, u], .cons ⟨_, rfl⟩ (.cons ru .nil), ⟨_, hT2, rfl, _, rfl⟩⟩
    have I1 : Inv X pins σ (upd H s.heap.objs.size (.tup [.int (i : Nat), x])) { s with heap := h'', toks := tk + 1 } :=
      I.turnedNew (ch := [e, it]) (fun b ob hb q => (sb.2 b (fun z => hb (by simp [z]))).trans (hk b ob (fun z => hb (by simp [z])) (fun z => hb (by simp [z])) q)) hf (Nat.le_refl _) new
    refine ⟨.ref s.heap.objs.size, _, I1, rfl, ⟨_, x, rfl, I.hok.fresh (Nat.le_refl _), rfl, fun ys hy => by rw [I.tuple_inj hy hq]; exact hx⟩, ⟨⟨u, ?_⟩, hit'.at fun o q => (sb.2 it (Ne.symm hei)).trans q⟩, fun b hb => ?_⟩
    · have e1 : ((i + 1 : Nat) : Int) = (i : Int) + 1 := by omega
      rw [e1]; exact he'
    · have hb' : b < s.heap.objs.size := by
        have e' : b = e ∨ b = it := by simpa using hb
        rcases e' with z | z
        · rw [z]; exact hel
        · rw [z]; exact hil
      rw [upd_ne (Nat.ne_of_lt hb')]
      exact (hf b hb).1
  done := by
    intro X hP hw hK hc i pins s σ H E I hf st hg
    subst hP hw hK
    obtain ⟨⟨old, he⟩, hit⟩ := st
    obtain ⟨xs, hq, hx⟩ := hg
    obtain ⟨its, rv, p, hz⟩ := I.tuple hq
    obtain ⟨f0, f1, f2, f3, f4, f5⟩ := hf it (by simp)
    have hl := rv.length
    have hend : its.toArray[i]? = none := by simp; omega
    have hT : s.TypeIs (.ref e) "enumerate" := ⟨_, he, rfl⟩
    unfold pyNext
    refine wpAny_bind (wpAny_attempt (wpAny_callSpecial?_slot (name := Str.ofString "__next__") hT F.slot_enumerate_next
      (wpAny_call_entry F.slot_enumerate_next hT F.entry_enumerate_next ?_ (F.args_enumerate_next_1 _))))
    show wpAny _ _ (field (.ref e) 2 >>= _) _ _ _
    refine wpAny_bind (wpAny_field he rfl (x := .ref it) rfl ?_)
    refine wpAny_bind (wpAny_nextOf_tuple_end (show X.A.in1.handled = none from I.ok.hd hc) hit p hend fun h' x he' hx' => ?_)
    obtain ⟨o, ho, hcl⟩ := hx'
    refine wpAny_bind (wpAny_isInstance (T := "StopIteration") (b := true) ⟨o, ho, hcl⟩ isSubtype_stop ?_)
    exact wpAny_pure ⟨rfl, I.turned (t' := s.toks) (fun b o hb q => he' b o hb q) f0 f1 f3 f4 f5⟩
  self := fun A i s Q E st h => let ⟨⟨_, he⟩, _⟩ := st; wpAny_pyIter_enum he h
def iEnumA (K : PySem.W.Frag) (ta : TA) : TI := fun σ H R => ta σ H fun vs H1 => ∃ a xs, vs = [.ref a] ∧ ((SqL K H1 a xs ∧ R (Ite K a) H1) ∨ (SqT K H1 a xs ∧ R (IteT K a) H1))
theorem pi_enumA {X : Cx} {e : Expr} {ta : TA} {p pos tpos : Pos} {elts : List Expr} {kk : Nat} (hg : Gl X "enumerate") (hm : X.mg "enumerate" = none) (ha : PA X [e] ta) (hs : starEach [e] X.env = (false, eval e X.env) :: starEach [] X.env) :
    PI X (.Tuple elts kk tpos) (.Call (.Name "enumerate" p) [e] [] pos) (iEnumA X.K ta) := by
  refine ⟨fun pins s σ H R I h => ?_⟩
  refine Call_ (ld_blt I hg hm boot_enumerate (PyProof.Rows.callWith_type1 (thn (ha.run pos pins s σ H _ I h) fun us s1 ⟨vs, H1, I1, r1, q1⟩ => ?_) hs rfl))
  obtain ⟨a, xs, ex, q⟩ := q1
  subst ex
  cases r1 with
  | cons r rr =>
    cases rr
    cases r
    rcases q with ⟨hq, q⟩ | ⟨hq, q⟩
    · obtain ⟨its, rv, p', hz⟩ := I1.list hq
      refine call_enumerate_list p'.isList fun h' he hit hsz hk => wpAny_pyIter_enum he ?_
      have I2 : Inv X pins σ H1 { s1 with heap := h' } := I1.kept (t' := s1.toks) hk
      refine ⟨s1.heap.objs.size + 1, [s1.heap.objs.size + 1, s1.heap.objs.size], _, _, H1, rfl, I2, turn_enum a (s1.heap.objs.size + 1) s1.heap.objs.size, ⟨⟨.none, he⟩, hit, Nat.succ_ne_self _⟩, fun b hb => ?_, q⟩
      have e' : b = s1.heap.objs.size + 1 ∨ b = s1.heap.objs.size := by simpa using hb
      have hle : s1.heap.objs.size ≤ b := by rcases e' with z | z <;> (rw [z]; omega)
      exact I1.fpOk hle (I1.hok.fresh hle)
    · obtain ⟨its, rv, p', hz⟩ := I1.tuple hq
      refine enum_starts (begins_tuple a its.toArray) p' fun h' he hit hsz hk => wpAny_pyIter_enum he ?_
      have I2 : Inv X pins σ H1 { s1 with heap := h' } := I1.kept (t' := s1.toks) hk
      have ha : a < s1.heap.objs.size := by obtain ⟨_, q', _⟩ := p'; exact Heap.lt_size q'
      refine ⟨s1.heap.objs.size + 1, [s1.heap.objs.size + 1, s1.heap.objs.size], _, _, H1, rfl, I2, turn_enumT a (s1.heap.objs.size + 1) s1.heap.objs.size (Nat.succ_ne_self _) (Nat.ne_of_lt ha) (Nat.ne_of_gt (Nat.lt_succ_of_lt ha)), ⟨⟨.none, he⟩, ⟨_, hit, rfl, rfl⟩⟩, fun b hb => ?_, q⟩
      have e' : b = s1.heap.objs.size + 1 ∨ b = s1.heap.objs.size := by simpa using hb
      have hle : s1.heap.objs.size ≤ b := by rcases e' with z | z <;> (rw [z]; omega)
      exact I1.fpOk hle (I1.hok.fresh hle)
end Iv

/-! Iv Jb: list(range(..)), tuple(range(..)). -/
namespace Iv
open PySem PySem.Spec L2
open PyProof.Rows hiding St
theorem repIs_rng {K : PySem.W.Frag} {H : Hp} {i : Int} : ∀ {l : List Nat}, RepIs K H (l.map fun (k : Nat) => I.int (i + k)) (l.map fun (k : Nat) => V.int (i + k))
  | [] => .nil
  | _ :: r => .cons (.int _) (repIs_rng (l := r))
theorem rng_rep {K : PySem.W.Frag} {H : Hp} {i j : Int} : RepIs K H (rngI i j) (rgV i j) := repIs_rng
section
variable {g : Gs} {cf : Cf} {k : Nat} {X : Cx} {sc : Scope} {cl : Str → Bool} {W : WC} {a b : E} {ea eb : Expr} {p p2 pos pos2 : Pos}
theorem rng_L {K : PySem.W.Frag} {fm : Fm} {W : String → Hp → Prop} {Hs H : Hp} {Q : VK} {i j : Int} (f : FmAt fm Hs) (s : Same Hs H) (w : Wq K fm W Hs H (rngD false i j) Q) : RgOk i j ∧ ∀ q, H q = none → Q (.ref q) (upd H q (.lst (rgV i j))) := by
  unfold rngD at w
  obtain ⟨c, w⟩ := Wq.ite w
  rw [if_neg Bool.false_ne_true] at w
  refine ⟨⟨c.1.1, c.1.2, c.2.1.1, c.2.1.2, by have := c.2.2; rw [sizeLine_eq] at this; exact this⟩, fun q hq => w _ _ (Same.new hq) (.lsi (NdR.new f s hq) upd_same (rng_rep.same (Same.new hq)))⟩
theorem rng_T {K : PySem.W.Frag} {fm : Fm} {W : String → Hp → Prop} {Hs H : Hp} {Q : VK} {i j : Int} (w : Wq K fm W Hs H (rngD true i j) Q) : RgOk i j ∧ ∀ q, H q = none → Q (.ref q) (upd H q (.tup (rgV i j))) := by
  unfold rngD at w
  obtain ⟨c, w⟩ := Wq.ite w
  rw [if_pos rfl] at w
  refine ⟨⟨c.1.1, c.1.2, c.2.1.1, c.2.1.2, by have := c.2.2; rw [sizeLine_eq] at this; exact this⟩, fun q hq => w _ _ (Same.new hq) (.imm (.tup (.inl (.inl upd_same)) (rng_rep.same (Same.new hq))))⟩
theorem evs_one {ρ : Env} : evs cf [a] ρ = (ev cf a ρ).bind fun x => .ok [x] := rfl
theorem evs_two {ρ : Env} : evs cf [a, b] ρ = (ev cf a ρ).bind fun x => (ev cf b ρ).bind fun y => .ok [x, y] := by
  show (ev cf a ρ).bind _ = _
  cases ev cf a ρ with
  | ok x =>
    show ((ev cf b ρ).bind fun y => .ok [y]).bind _ = (ev cf b ρ).bind _
    cases ev cf b ρ <;> rfl
  | exc c => rfl
  | bad => rfl
theorem M.bind_bind {α β γ : Type} {m : M α} {f : α → M β} {h : β → M γ} : (m.bind f).bind h = m.bind fun x => (f x).bind h := by cases m <;> rfl
theorem snd_lrg1 {x y : Str} (G : Gd g cf k X sc cl W) (hcm : g.calm = true) (hx : x = ("list" : Str)) (hy : y = ("range" : Str)) (hg : sc.names.lookup x = some .globalImplicit) (hg2 : sc.names.lookup y = some .globalImplicit) (ha : PE X ea (tD cf X.K W a)) (hs : noStar ea = true) :
    PE X (.Call (.Name x p) [.Call (.Name y p2) [ea] [] pos2] [] pos) (tD cf X.K W (.blt .lrg [a])) := by
  subst hx hy
  refine (pe_listRg (G.calm hcm) (show X.env.scope.names.lookup _ = _ by rw [G.sc]; exact hg) (G.bl "list" (by decide)) (prg_1 (show X.env.scope.names.lookup _ = _ by rw [G.sc]; exact hg2) (G.bl "range" (by decide)) ha (star_cons hs))).mono' fun σ H Q ⟨fm, ρ, sr, w⟩ => ?_
  have w : Wq X.K fm (fun c H' => W c σ H') H H ((evs cf [a] ρ).bind fun xs => bltD .lrg xs) Q := w
  rw [evs_one, M.bind_bind] at w
  refine tD.bind sr Same.refl w fun v H1 x s1 sr1 r1 w1 => ?_
  have w1 : Wq X.K fm (fun c H' => W c σ H') H H1 ((asI x).bind fun j => rngD false 0 j) Q := w1
  obtain ⟨i, e, w2⟩ := Wq.int r1 w1
  exact ⟨i, e, rng_L sr.at' s1 w2⟩
theorem snd_trg1 {x y : Str} (G : Gd g cf k X sc cl W) (hcm : g.calm = true) (hx : x = ("tuple" : Str)) (hy : y = ("range" : Str)) (hg : sc.names.lookup x = some .globalImplicit) (hg2 : sc.names.lookup y = some .globalImplicit) (ha : PE X ea (tD cf X.K W a)) (hs : noStar ea = true) :
    PE X (.Call (.Name x p) [.Call (.Name y p2) [ea] [] pos2] [] pos) (tD cf X.K W (.blt .trg [a])) := by
  subst hx hy
  refine (pe_tupRg (G.calm hcm) (show X.env.scope.names.lookup _ = _ by rw [G.sc]; exact hg) (G.bl "tuple" (by decide)) (prg_1 (show X.env.scope.names.lookup _ = _ by rw [G.sc]; exact hg2) (G.bl "range" (by decide)) ha (star_cons hs))).mono' fun σ H Q ⟨fm, ρ, sr, w⟩ => ?_
  have w : Wq X.K fm (fun c H' => W c σ H') H H ((evs cf [a] ρ).bind fun xs => bltD .trg xs) Q := w
  rw [evs_one, M.bind_bind] at w
  refine tD.bind sr Same.refl w fun v H1 x s1 sr1 r1 w1 => ?_
  have w1 : Wq X.K fm (fun c H' => W c σ H') H H1 ((asI x).bind fun j => rngD true 0 j) Q := w1
  obtain ⟨i, e, w2⟩ := Wq.int r1 w1
  exact ⟨i, e, rng_T w2⟩
theorem snd_lrg2 {x y : Str} (G : Gd g cf k X sc cl W) (hcm : g.calm = true) (hx : x = ("list" : Str)) (hy : y = ("range" : Str)) (hg : sc.names.lookup x = some .globalImplicit) (hg2 : sc.names.lookup y = some .globalImplicit) (ha : PE X ea (tD cf X.K W a)) (hb : PE X eb (tD cf X.K W b)) (hs : noStar ea = true) (hs2 : noStar eb = true) :
    PE X (.Call (.Name x p) [.Call (.Name y p2) [ea, eb] [] pos2] [] pos) (tD cf X.K W (.blt .lrg [a, b])) := by
  subst hx hy
  refine (pe_listRg (G.calm hcm) (show X.env.scope.names.lookup _ = _ by rw [G.sc]; exact hg) (G.bl "list" (by decide)) (prg_2 (show X.env.scope.names.lookup _ = _ by rw [G.sc]; exact hg2) (G.bl "range" (by decide)) ha hb (by rw [star_cons hs, star_cons hs2]) (star_cons hs2) (by rw [star_cons hs2]; rfl))).mono' fun σ H Q ⟨fm, ρ, sr, w⟩ => ?_
  have w : Wq X.K fm (fun c H' => W c σ H') H H ((evs cf [a, b] ρ).bind fun xs => bltD .lrg xs) Q := w
  rw [evs_two, M.bind_bind] at w
  refine tD.bind sr Same.refl w fun v H1 x s1 sr1 r1 w1 => ?_
  have w1 : Wq X.K fm (fun c H' => W c σ H') H H1 (((ev cf b ρ).bind fun y => M.ok [x, y]).bind fun xs => bltD .lrg xs) Q := w1
  rw [M.bind_bind] at w1
  refine tD.bind sr1 s1 w1 fun u H2 y s2 sr2 r2 w2 => ?_
  have w2 : Wq X.K fm (fun c H' => W c σ H') H H2 ((asI x).bind fun i => (asI y).bind fun j => rngD false i j) Q := w2
  obtain ⟨i, e, w3⟩ := Wq.int (r1.same s2) w2
  obtain ⟨j, e', w4⟩ := Wq.int r2 w3
  exact ⟨i, j, e, e', rng_L sr.at' (s1.trans s2) w4⟩
theorem snd_trg2 {x y : Str} (G : Gd g cf k X sc cl W) (hcm : g.calm = true) (hx : x = ("tuple" : Str)) (hy : y = ("range" : Str)) (hg : sc.names.lookup x = some .globalImplicit) (hg2 : sc.names.lookup y = some .globalImplicit) (ha : PE X ea (tD cf X.K W a)) (hb : PE X eb (tD cf X.K W b)) (hs : noStar ea = true) (hs2 : noStar eb = true) :
    PE X (.Call (.Name x p) [.Call (.Name y p2) [ea, eb] [] pos2] [] pos) (tD cf X.K W (.blt .trg [a, b])) := by
  subst hx hy
  refine (pe_tupRg (G.calm hcm) (show X.env.scope.names.lookup _ = _ by rw [G.sc]; exact hg) (G.bl "tuple" (by decide)) (prg_2 (show X.env.scope.names.lookup _ = _ by rw [G.sc]; exact hg2) (G.bl "range" (by decide)) ha hb (by rw [star_cons hs, star_cons hs2]) (star_cons hs2) (by rw [star_cons hs2]; rfl))).mono' fun σ H Q ⟨fm, ρ, sr, w⟩ => ?_
  have w : Wq X.K fm (fun c H' => W c σ H') H H ((evs cf [a, b] ρ).bind fun xs => bltD .trg xs) Q := w
  rw [evs_two, M.bind_bind] at w
  refine tD.bind sr Same.refl w fun v H1 x s1 sr1 r1 w1 => ?_
  have w1 : Wq X.K fm (fun c H' => W c σ H') H H1 (((ev cf b ρ).bind fun y => M.ok [x, y]).bind fun xs => bltD .trg xs) Q := w1
  rw [M.bind_bind] at w1
  refine tD.bind sr1 s1 w1 fun u H2 y s2 sr2 r2 w2 => ?_
  have w2 : Wq X.K fm (fun c H' => W c σ H') H H2 ((asI x).bind fun i => (asI y).bind fun j => rngD true i j) Q := w2
  obtain ⟨i, e, w3⟩ := Wq.int (r1.same s2) w2
  obtain ⟨j, e', w4⟩ := Wq.int r2 w3
  exact ⟨i, j, e, e', rng_T w4⟩
end
end Iv

set_option maxHeartbeats 4000000
/-! Iv Jc: set(a list of whole numbers), sorted(set(..)). -/
namespace Iv
open PySem PySem.Spec L2
open PyProof.Rows hiding St
section
variable {P : Program} {w : World} {A : Around} {E : Value → Shared → Prop} {s : Shared}
abbrev newSetO (w : World) : Obj := { cls := .type "set", dict := none, data := .set #[] 0 (.fresh 0 0 (!w.params.followText "set-order")) }
/-- what set.__init__ leaves behind -/
def SetDone (w : World) (ns : List Int) (s s₂ : Shared) : Prop :=
  ∃ h' tk c, s₂ = { s with heap := h', toks := tk } ∧ SetR w h' s.heap.objs.size (fun j => decide (j ∈ ns)) c ∧ c ≤ ns.length ∧ ∀ b o, s.heap.get? b = some o → h'.get? b = some o
theorem call_setL {l : Addr} {items : Array Value} (ns : List Int) {Q : Value → Shared → Prop} (hh : A.handled = none) (hl : s.heap.IsList l items) (hit : IntsAre items.toList ns) (hb : ns.length + 1 < scanBound)
    (h : ∀ s₂, SetDone w ns s s₂ → Q (.ref s.heap.objs.size) s₂) : wpAny (model P w) A (call (.type "set") [.ref l]) Q E s := by
  have mro := PySem.F.called_set.mro
  obtain ⟨c, tl, hmro⟩ := mro
  have f1 := PySem.F.called_set.made
  have f2 := PySem.F.called_set.sub
  have f3 := PySem.F.called_set.notType
  have f4 := PySem.F.called_set.canCreate
  have f5 := PySem.F.typeCall_set_1 (.ref l)
  refine wpAny_call (codeAny_of_tree ?_)
  show wpAny _ _ (callAny (.type "set") _) _ _ _
  refine wpAny_pure ⟨Code.quiet_builtin _ (by decide +kernel), codeAny_builtin PySem.F.entry_type_call ?_⟩
  rw [Around.under_plain (weight_type_call_type "set" [.ref l] []) rfl]
  repeat (any_goals (first | assumption | wp_step))
  refine codeAny_mono (code_set_led1 (.ref l) (E := E) (Q₁ := fun obj s₁ => obj = .ref s.heap.objs.size ∧ s₁ = { s with heap := s.heap.push (newSetO w) }) ⟨rfl, rfl⟩) fun r s₁ hr => ?_
  cases r with
  | error e => exact hr
  | ok fl =>
    cases fl with
    | ret obj =>
      obtain ⟨rfl, rfl⟩ := hr
      have hS : (s.heap.push (newSetO w)).get? s.heap.objs.size = some (newSetO w) := Heap.get?_push_size _ rfl
      have hT : Shared.TypeIs { s with heap := s.heap.push (newSetO w) } (.ref s.heap.objs.size) "set" := ⟨_, hS, rfl⟩
      have g1 := PySem.F.called_set.init.lookup
      have g2 := PySem.F.called_set.init.bind (.ref s.heap.objs.size)
      repeat (any_goals (first | assumption | wp_step))
      refine codeAny_mono (codeAny_call_builtin (R := wants (fun r s₂ => r = .none ∧ SetDone w ns s s₂) E) PySem.F.called_set.init.plain PySem.F.entry_set_init (check_set_init_1 hT ?_)) fun r₂ s₂ hr₂ => ?_
      · obtain ⟨ol, hol, hcl, nl, hdl⟩ := hl
        obtain ⟨oc, od, oda, osl⟩ := ol
        simp only at hcl hdl
        subst hcl hdl
        have lt : l < s.heap.objs.size := Heap.lt_size hol
        have size1 : (s.heap.push (newSetO w)).objs.size = s.heap.objs.size + 1 := Heap.size_push ..
        have e1 := PySem.F.sub_list_set
        have e2 := PySem.F.sub_list_frozenset
        have e3 : (Value.type "list" == Value.type "dict") = false := by decide
        have there : (s.heap.push (newSetO w)).get? l = some { cls := .type "list", dict := od, data := .seq items nl, slots := osl } := Heap.get?_push_of_some _ hol
        have isl : (s.heap.push (newSetO w)).IsList l items := ⟨_, there, rfl, nl, rfl⟩
        unfold Builtin.«set.__init__» noKeywords Builtin.Frozenset.updateFrom
        generalize hPI : pyIter = PI
        wp_walk
        subst hPI
        refine wpAny_pyIter_list isl ?_
        refine wpAny_bind (wpAny_runValue ?_)
        have size2 : items.size = ns.length := by
          have q := IntsAre.length hit
          rw [Array.length_toList] at q
          exact q
        have calm3 : A.in1.in1.in1.handled = none := by simp [hh]
        have apart : l ≠ (s.heap.push (newSetO w)).objs.size := by rw [size1]; exact Nat.ne_of_lt (Nat.lt_succ_of_lt lt)
        have out : s.heap.objs.size ∉ [(s.heap.push (newSetO w)).objs.size, l] := by
          rw [size1]
          simp only [List.mem_cons, List.not_mem_nil, or_false, not_or]
          exact ⟨Nat.ne_of_lt (Nat.lt_succ_self _), Nat.ne_of_gt lt⟩
        have val : ∀ (i : Nat) (v : Value), items[i]? = some v → ∃ k t, ns[i]? = some k ∧ v = .int k t := fun i v hv => by
          have hi : i < ns.length := by rw [← size2]; exact (Array.getElem?_eq_some_iff.mp hv).1
          obtain ⟨t, e⟩ := PyProof.Rows.IntsAre.int_at hit i v (by rw [Array.getElem?_toList]; exact hv)
          exact ⟨ns[i], t, List.getElem?_eq_getElem hi, by rw [e, List.getD_eq_getElem?_getD, List.getElem?_eq_getElem hi]; rfl⟩
        refine set_update_ints ((Walks.list calm3 _ l apart items).toS) s.heap.objs.size out ns size2 hb val (items.size - 0) 0 _ (by omega) (Nat.zero_le _)
          ⟨⟨_, Heap.get?_push_size _ rfl, rfl, rfl⟩, isl.push _⟩ ⟨0, Nat.le_refl 0, setR_new_at (Heap.get?_push_of_some _ hS)⟩ fun s' c' hm hc' hS' => ?_
        obtain ⟨h', g', d', tk', os'⟩ := s'
        have eg : g' = s.gens := hm.gens
        have ed : d' = s.drawn := hm.drawn
        have eo : os' = s.os := hm.os
        subst eg ed eo
        show wpAny _ _ _ _ _ _
        refine wpAny_pure ?_
        show wpAny _ _ (ret Value.none) _ _ _
        rw [size2] at hc'
        refine wpAny_pure ⟨rfl, h', tk', c', rfl, hS', hc', fun b o e => ?_⟩
        have b0 : b < s.heap.objs.size := Heap.lt_size e
        refine hm.heap b o ?_ (Heap.get?_push_of_some _ (Heap.get?_push_of_some _ e))
        simp only [List.mem_cons, List.not_mem_nil, or_false, not_or]
        exact ⟨Nat.ne_of_lt b0, by rw [size1]; exact Nat.ne_of_lt (Nat.lt_succ_of_lt b0)⟩
      · cases r₂ with
        | error e => exact hr₂
        | ok fl₂ =>
          cases fl₂ with
          | ret r =>
            obtain ⟨rfl, hd⟩ := hr₂
            repeat (any_goals (first | assumption | wp_step))
            exact h _ hd
          | _ => exact hr₂.elim
    | _ => exact hr.elim
end
end Iv

set_option maxHeartbeats 4000000
/-! Iv Jd: sorted(set(..)), len(set(..)). -/
namespace Iv
open PySem PySem.Spec L2
open PyProof.Rows hiding St
theorem boot_srt : bootBuiltins ("sorted" : Str) = some (.builtin "sorted") := by decide +kernel
section
variable {X : Cx}
def tSrtSet (K : PySem.W.Frag) (ta : TE) : TE := fun σ H Q => ta σ H fun x H1 => ∃ (l : Addr) (ns : List Int), x = .ref l ∧ SqL K H1 l (ns.map V.int) ∧ ns.length < 64 ∧
  ∀ (ms : List Int) (p : Addr), ms.Pairwise (· < ·) → (∀ k : Int, k ∈ ms ↔ k ∈ ns) → H1 p = none → Q (.ref p) (upd H1 p (.lst (ms.map V.int)))
theorem pe_srtSet {a : Expr} {ta : TE} {p p2 q pos : Pos} (hc : X.calm = true) (hg : Gl X "sorted") (hm : X.mg "sorted" = none) (hg2 : Gl X "set") (hm2 : X.mg "set" = none) (ha : PE X a ta)
    (na : starEach [a] X.env = (false, eval a X.env) :: starEach [] X.env) : PE X (.Call (.Name "sorted" p) [.Call (.Name "set" p2) [a] [] q] [] pos) (tSrtSet X.K ta) := by
  refine ⟨fun pins s σ H Q I h => ?_⟩
  refine Call_ (ld_blt I hg hm boot_srt ?_)
  refine PyProof.Rows.callWith_builtin1 (PyProof.Rows.args_cons ?_ rfl) rfl rfl
  refine Call_ (ld_blt I hg2 hm2 PyProof.Rows.boot_set ?_)
  refine PyProof.Rows.callWith_type1 (PyProof.Rows.args_cons (thn (ha.run pins s σ H _ I h) fun v s1 ⟨x, H1, I1, r1, q1⟩ => PyProof.Rows.args_nil ?_) na) na rfl
  obtain ⟨l, ns, rfl, hq, h64, q1⟩ := q1
  cases r1
  obtain ⟨its, r, pl, hz⟩ := I1.list hq
  refine call_setL ns (I1.ok.hd hc) pl.isList (by simpa using r.ints) (by unfold scanBound; omega) fun s2 ⟨h', tk, c, e2, hS, hcn, hk⟩ => ?_
  refine PyProof.Rows.args_nil ?_
  have I2 : Inv X pins σ H1 s2 := by rw [e2]; exact I1.kept hk
  have hS2 : SetR X.w s2.heap s1.heap.objs.size (fun j => decide (j ∈ ns)) c := by rw [e2]; exact hS
  refine sorted_set hS2 (I2.ok.hd hc) (by omega) fun s' p out c' ms k g o hp hgt hi hs hmem hl => ?_
  have hlen : (ms.map V.int).length ≤ sizeLine := by rw [List.length_map, hl, sizeLine_eq]; omega
  have hn : H1 p = none := I2.hok.fresh hp
  have J : Inv X pins σ (upd H1 p (.lst (ms.map V.int))) { s2 with heap := s'.heap, gens := s'.gens, drawn := s'.drawn, toks := s'.toks } :=
    I2.call (ch := []) (Un.laid k hp hn) (I2.hok.laid k hp ⟨hlen, out.toList, c', vals_of_ints hi, hgt⟩) (by rw [g]; exact I2.bare) (fun _ z => nomatch z)
  have e : s' = { s2 with heap := s'.heap, gens := s'.gens, drawn := s'.drawn, toks := s'.toks } := by
    cases s'
    cases s2
    cases o
    rfl
  rw [e]
  exact ⟨.ref p, _, J, rfl, q1 ms p hs (fun k => by rw [hmem k]; simp) hn⟩
end
end Iv

/-! Iv Je: rising lists. -/
namespace Iv
open PySem PySem.Spec L2
open PyProof.Rows hiding St
theorem mem_insI {x z : Int} : ∀ {l : List Int}, z ∈ insI x l ↔ z = x ∨ z ∈ l
  | [] => by simp [insI]
  | y :: r => by
    unfold insI
    split
    · simp
    · rw [List.mem_cons, mem_insI (l := r), List.mem_cons]
      constructor
      · rintro (h | h | h)
        · exact .inr (.inl h)
        · exact .inl h
        · exact .inr (.inr h)
      · rintro (h | h | h)
        · exact .inr (.inl h)
        · exact .inl h
        · exact .inr (.inr h)
theorem mem_sortI {z : Int} : ∀ {l : List Int}, z ∈ sortI l ↔ z ∈ l
  | [] => by simp [sortI]
  | x :: r => by rw [sortI, mem_insI, mem_sortI (l := r), List.mem_cons]
theorem mem_dedup {z : Int} : ∀ {l : List Int}, z ∈ dedup l ↔ z ∈ l
  | [] => by simp [dedup]
  | x :: r => by
    unfold dedup
    split
    · rename_i h
      rw [mem_dedup (l := r), List.mem_cons]
      exact ⟨.inr, fun h' => by rcases h' with h' | h'; exact h' ▸ mem_dedup.mp h; exact h'⟩
    · rw [List.mem_cons, mem_dedup (l := r), List.mem_cons]
theorem rise_insI {x : Int} : ∀ {l : List Int}, l.Pairwise (· < ·) → x ∉ l → (insI x l).Pairwise (· < ·)
  | [], _, _ => by simp [insI]
  | y :: r, h, hx => by
    rw [List.pairwise_cons] at h
    rw [List.mem_cons, not_or] at hx
    unfold insI
    split
    · rename_i hxy
      rw [List.pairwise_cons, List.pairwise_cons]
      refine ⟨fun z hz => ?_, h⟩
      rcases List.mem_cons.mp hz with e | hz
      · have := hx.1; omega
      · have := h.1 z hz; have := hx.1; omega
    · rename_i hxy
      rw [List.pairwise_cons]
      refine ⟨fun z hz => ?_, rise_insI h.2 hx.2⟩
      rcases mem_insI.mp hz with e | hz
      · omega
      · exact h.1 z hz
theorem rise_sortI : ∀ {l : List Int}, l.Nodup → (sortI l).Pairwise (· < ·)
  | [], _ => by simp [sortI]
  | x :: r, h => by
    rw [List.nodup_cons] at h
    rw [sortI]
    exact rise_insI (rise_sortI h.2) fun z => h.1 (mem_sortI.mp z)
theorem nodup_dedup : ∀ {l : List Int}, (dedup l).Nodup
  | [] => by simp [dedup]
  | x :: r => by
    unfold dedup
    split
    · exact nodup_dedup
    · rename_i h
      exact List.nodup_cons.mpr ⟨h, nodup_dedup⟩
theorem rise_one : ∀ {a b : List Int}, a.Pairwise (· < ·) → b.Pairwise (· < ·) → (∀ k, k ∈ a ↔ k ∈ b) → a = b
  | [], [], _, _, _ => rfl
  | [], y :: b, _, _, h => by have := (h y).mpr List.mem_cons_self; cases this
  | x :: a, [], _, _, h => by have := (h x).mp List.mem_cons_self; cases this
  | x :: a, y :: b, ha, hb, h => by
    rw [List.pairwise_cons] at ha hb
    have e : x = y := by
      rcases List.mem_cons.mp ((h x).mp List.mem_cons_self) with e | e
      · exact e
      · rcases List.mem_cons.mp ((h y).mpr List.mem_cons_self) with e' | e'
        · exact e'.symm
        · have := hb.1 x e; have := ha.1 y e'; omega
    subst e
    congr 1
    refine rise_one ha.2 hb.2 fun k => ⟨fun hk => ?_, fun hk => ?_⟩
    · rcases List.mem_cons.mp ((h k).mp (List.mem_cons_of_mem _ hk)) with e | e
      · have := ha.1 k hk; omega
      · exact e
    · rcases List.mem_cons.mp ((h k).mpr (List.mem_cons_of_mem _ hk)) with e | e
      · have := hb.1 k hk; omega
      · exact e
/-- the rising list of some numbers, each once -/
def rise (ns : List Int) : List Int := sortI (dedup ns)
theorem rise_is {ns ms : List Int} (h : ms.Pairwise (· < ·)) (hm : ∀ k, k ∈ ms ↔ k ∈ ns) : ms = rise ns :=
  rise_one h (rise_sortI nodup_dedup) fun k => by rw [hm k]; unfold rise; rw [mem_sortI, mem_dedup]
end Iv

/-! Iv Jf: sorted(set(e)). -/
namespace Iv
open PySem PySem.Spec L2
open PyProof.Rows hiding St
section
variable {g : Gs} {cf : Cf} {k : Nat} {X : Cx} {sc : Scope} {cl : Str → Bool} {W : WC} {a : E} {ea : Expr} {p p2 pos pos2 : Pos}
theorem snd_srtset {x y : Str} (G : Gd g cf k X sc cl W) (hcm : g.calm = true) (hx : x = ("sorted" : Str)) (hy : y = ("set" : Str)) (hg : sc.names.lookup x = some .globalImplicit) (hg2 : sc.names.lookup y = some .globalImplicit) (ha : PE X ea (tD cf X.K W a)) (hs : noStar ea = true) :
    PE X (.Call (.Name x p) [.Call (.Name y p2) [ea] [] pos2] [] pos) (tD cf X.K W (.blt .sortedset [a])) := by
  subst hx hy
  refine (pe_srtSet (G.calm hcm) (show X.env.scope.names.lookup _ = _ by rw [G.sc]; exact hg) (G.bl "sorted" (by decide)) (show X.env.scope.names.lookup _ = _ by rw [G.sc]; exact hg2) (G.bl "set" (by decide)) ha (star_cons hs)).mono' fun σ H Q ⟨fm, ρ, sr, w⟩ => ?_
  have w : Wq X.K fm (fun c H' => W c σ H') H H ((evs cf [a] ρ).bind fun xs => bltD .sortedset xs) Q := w
  rw [evs_one, M.bind_bind] at w
  refine tD.bind sr Same.refl w fun v H1 x s1 sr1 r1 w1 => ?_
  obtain ⟨d, t⟩ := x
  cases r1 with
  | imm r => exact w1.elim
  | lsd h e r => exact w1.elim
  | tpd h r => exact w1.elim
  | scr h r => exact w1.elim
  | scrK h => exact w1.elim
  | lsi h e r =>
    rename_i l vs xs
    have w1 : Wq X.K fm (fun c H' => W c σ H') H H1 (match asInts xs with | some ns => if ns.length < 64 then M.ok (D.lsi ((sortI (dedup ns)).map .int), T0) else .bad | none => .bad) Q := w1
    cases e2 : asInts xs with
    | none => rw [e2] at w1; exact w1.elim
    | some ns =>
      rw [e2] at w1
      obtain ⟨c, w2⟩ := Wq.ite w1
      have ev := RepIs.ints r e2
      subst ev
      refine ⟨l, ns, rfl, .inl (.inl e), c, fun ms q hp hm hq => ?_⟩
      have em : ms = sortI (dedup ns) := rise_is hp hm
      subst em
      exact w2 _ _ (Same.new hq) (.lsi (NdR.new sr.at' s1 hq) upd_same (RepIs.ofInts _))
end
end Iv

/-! Iv Jg: isinstance of a caught error. -/
namespace Iv
open PySem PySem.Spec L2
open PyProof.Rows hiding St
section
variable {g : Gs} {cf : Cf} {k : Nat} {X : Cx} {sc : Scope} {cl : Str → Bool} {W : WC} {a : E} {ea : Expr} {p p2 pos pos2 : Pos}
/-- a caught error at a: its class answers as told -/
def rEx (K : PySem.W.Frag) : List V → Hp → VK → Prop := fun xs H Q => ∃ (a : Addr) (c : V) (cv : Value) (nm : String) (b : Bool), xs = [.ref a, c] ∧ ClsV c cv ∧ H a = some (ExO K nm a) ∧
  (∀ C, PySem.W.nsIn K mainGlobals (nm : Str) = some (some (.ref C)) → ExcC K C ∧ PySem.W.kitOne K (.ref C) cv = some b) ∧ Q (.bl b) H
def rExT (K : PySem.W.Frag) : List V → Hp → VK → Prop := fun xs H Q => ∃ (a tp : Addr) (cs : List V) (us : List Value) (nm : String) (b : Bool), xs = [.ref a, .ref tp] ∧ H tp = some (.tup cs) ∧ Paired ClsV cs us ∧ H a = some (ExO K nm a) ∧
  (∀ C, PySem.W.nsIn K mainGlobals (nm : Str) = some (some (.ref C)) → ExcC K C ∧ PySem.W.kitAny K (.ref C) us = some b) ∧ Q (.bl b) H
theorem exO_at {pins : List (Addr × Obj)} {σ : St} {H : Hp} {s : Shared} {nm : String} {a : Addr} (I : Inv X pins σ H s) (h : H a = some (ExO X.K nm a)) : ∃ C oe, PySem.W.nsIn X.K mainGlobals (nm : Str) = some (some (.ref C)) ∧ PySem.W.InstAt s.heap a oe C none := by
  obtain ⟨⟨C, oe, hn, hget, ⟨z1, z2⟩, vs, hv⟩, _, _⟩ := (show ObjOk X.prog X.w H s.heap a (ExO X.K nm a) from I.hok a _ h)
  refine ⟨C, oe, hn, ?_⟩
  obtain ⟨oc, od, oda, osl⟩ := oe
  dsimp only at z1 z2 hv
  subst z1 z2 hv
  exact ⟨hget, rfl, rfl, trivial⟩
theorem call_ex : CallR X (.builtin "isinstance") (rEx X.K) := by
  intro pins s σ H xs us Q I r h
  obtain ⟨a, c, cv, nm, b, rfl, k, ha, hf, q⟩ := h
  obtain ⟨u1, u2, rfl, r1, r2⟩ := vals2 r
  cases (show u1 = Value.ref a from r1)
  have e2 := k.eq r2
  subst e2
  obtain ⟨C, oe, hn, J⟩ := exO_at I ha
  obtain ⟨F, e⟩ := hf C hn
  exact PySem.W.kia_one (PySem.W.handS_kitx_exc F.hg F.hk F.hs F.hd F.ha F.hn F.ht F.hm) I.kIn J e (fun z => nomatch z) fun tk => ⟨.bl b, H, I.tok tk, rfl, q⟩
theorem call_exT : CallR X (.builtin "isinstance") (rExT X.K) := by
  intro pins s σ H xs us Q I r h
  obtain ⟨a, tp, cs, ws, nm, b, rfl, hT, k, ha, hf, q⟩ := h
  obtain ⟨u1, u2, rfl, r1, r2⟩ := vals2 r
  cases (show u1 = Value.ref a from r1)
  cases (show u2 = Value.ref tp from r2)
  obtain ⟨C, oe, hn, J⟩ := exO_at I ha
  obtain ⟨F, e⟩ := hf C hn
  obtain ⟨_, its, rv, o, h1, h2, n, h3⟩ := (show ObjOk X.prog X.w H s.heap tp (.tup cs) from I.hok tp _ hT)
  have e3 := ClsV.all k rv
  subst e3
  obtain ⟨oc, od, dt, sl⟩ := o
  simp only at h2 h3
  subst h2 h3
  exact PySem.W.kia_tup (PySem.W.handS_kitx_exc F.hg F.hk F.hs F.hd F.ha F.hn F.ht F.hm) I.kIn J h1 e (fun z => nomatch z) fun tk => ⟨.bl b, H, I.tok tk, rfl, q⟩
/-- a class's name, and what it holds -/
def clsVV (mg : Str → Option Value) (t : String) : V := match mg (t : Str) with
  | some (.ref C) => .ref C
  | _ => .ty t
theorem clsVV_ok {K : PySem.W.Frag} {mg : Str → Option Value} {ts : List String} (A : XAll K mg ts) {t : String} (ht : t ∈ ts) : ClsV (clsVV mg t) (clsV mg t) := by
  unfold clsVV clsV
  rcases (A.xt t ht).1 with ⟨C, e⟩ | ⟨rfl, e⟩
  · rw [e]; exact .own C
  · rw [e]; exact .ty _
theorem pe_cls (G : Gd g cf k X sc cl W) {t : String} (ht : t ∈ g.ts) (hg : sc.names.lookup (t : Str) = some .globalImplicit) : PE X (.Name (t : Str) pos) (tC (clsVV X.mg t)) := by
  have A := G.xa (fun z => by rw [z] at ht; cases ht)
  have hg' : Gl X (t : Str) := show X.env.scope.names.lookup _ = _ by rw [G.sc]; exact hg
  obtain ⟨h1, h2⟩ := A.xt t ht
  rcases h1 with ⟨C, e⟩ | ⟨rfl, e⟩
  · have e2 : clsVV X.mg t = .ref C := by unfold clsVV; rw [e]
    rw [e2]
    exact pe_glob hg' e rfl h2
  · have e2 : clsVV X.mg "ValueError" = .ty "ValueError" := by unfold clsVV; rw [e]
    rw [e2]
    exact pe_bltn hg' e (u := .type "ValueError") (by decide +kernel) rfl (by decide +kernel) h2
def xtsG (g : Gs) (sc : Scope) (ts : List String) : Bool := ts.all fun t => g.ts.contains t && sc.names.lookup (t : Str) == some .globalImplicit
theorem xtsG_ok {ts : List String} (h : xtsG g sc ts = true) : ∀ t ∈ ts, t ∈ g.ts ∧ sc.names.lookup (t : Str) = some .globalImplicit := fun t m => by
  have := List.all_eq_true.mp h t m
  rw [Bool.and_eq_true] at this
  exact ⟨by simpa using this.1, eq_of_beq this.2⟩
theorem pa_cls (G : Gd g cf k X sc cl W) : ∀ {ts : List String} {es : List Expr}, clsNames ts es = true → (∀ t ∈ ts, t ∈ g.ts ∧ sc.names.lookup (t : Str) = some .globalImplicit) → PA X es (fun _ H Q => Q (ts.map (clsVV X.mg)) H)
  | [], [], _, _ => pa_nil.mono' fun _ _ _ h => h
  | [], _ :: _, h, _ => by cases h
  | t :: ts, [], h, _ => by cases h
  | t :: ts, e :: es, h, ht => by
    cases e with
    | Name x pos =>
      have h : (x == (t : Str) && clsNames ts es) = true := h
      rw [Bool.and_eq_true] at h
      cases eq_of_beq h.1
      have h0 := ht t List.mem_cons_self
      exact (pa_cons (pe_cls G h0.1 h0.2) (pa_cls G h.2 fun t m => ht t (List.mem_cons_of_mem _ m)) (star_cons rfl)).mono' fun _ _ _ h => h
    | _ => cases h
theorem ise_any {K : PySem.W.Frag} {mg : Str → Option Value} {ts0 : List String} {c : String} {C : Addr} (F : XFacts K mg ts0 c C) : ∀ {ts : List String}, (∀ t ∈ ts, t ∈ ts0) → PySem.W.kitAny K (.ref C) (ts.map (clsV mg)) = some (ts.any (excSub c))
  | [], _ => kitAny_nil
  | t :: ts, h => by
    have h1 := F.kt t (h t List.mem_cons_self)
    have ih := ise_any F (ts := ts) fun t m => h t (List.mem_cons_of_mem _ m)
    refine kitAny_cons h1 (fun e => ?_) fun e => ?_
    · rw [ih, List.any_cons, e, Bool.false_or]
    · rw [List.any_cons, e, Bool.true_or]
theorem clss_all {K : PySem.W.Frag} {mg : Str → Option Value} {ts0 : List String} (A : XAll K mg ts0) : ∀ {ts : List String}, (∀ t ∈ ts, t ∈ ts0) → Paired ClsV (ts.map (clsVV mg)) (ts.map (clsV mg))
  | [], _ => .nil
  | t :: ts, h => .cons (clsVV_ok A (h t List.mem_cons_self)) (clss_all A fun t m => h t (List.mem_cons_of_mem _ m))
/-- the class by the name -/
theorem XAll.at {K : PySem.W.Frag} {mg : Str → Option Value} {ts : List String} (A : XAll K mg ts) {c : String} (hc : c ∈ excAll) {C : Addr} (h : PySem.W.nsIn K mainGlobals (c : Str) = some (some (.ref C))) : mg (c : Str) = some (.ref C) ∧ XFacts K mg ts c C := by
  rcases A.xf c hc with ⟨_, e⟩ | ⟨D, e1, e2, F⟩
  · rw [e] at h; cases h
  · rw [e2] at h; cases h; exact ⟨e1, F⟩
theorem XAll.at' {K : PySem.W.Frag} {mg : Str → Option Value} {ts : List String} (A : XAll K mg ts) {c : String} (hc : c ∈ excAll) {C : Addr} (h : mg (c : Str) = some (.ref C)) : PySem.W.nsIn K mainGlobals (c : Str) = some (some (.ref C)) ∧ XFacts K mg ts c C := by
  rcases A.xf c hc with ⟨e, _⟩ | ⟨D, e1, e2, F⟩
  · rw [e] at h; cases h
  · rw [e1] at h; cases h; exact ⟨e2, F⟩
theorem ise_rd {ts : List String} {x : DT} {fm : Fm} {W' : String → Hp → Prop} {Hs H : Hp} {Q : VK} {v : V} (w : Wq X.K fm W' Hs H (bltD (.ise ts) [x]) Q) (r : VR X.K fm Hs H x v) :
    ∃ a c, v = .ref a ∧ c ∈ excAll ∧ H a = some (ExO X.K c a) ∧ Wq X.K fm W' Hs H (.ok (pim (.bl (ts.any (excSub c))))) Q := by
  obtain ⟨d, t⟩ := x
  cases d with
  | imm i =>
    cases i with
    | exc c =>
      have w : Wq X.K fm W' Hs H (if excAll.contains c = true then M.ok (pim (.bl (ts.any (excSub c)))) else .bad) Q := w
      obtain ⟨hc, w⟩ := w.ite
      cases rep_imm r with
      | exc h => exact ⟨_, c, rfl, by simpa using hc, h, w⟩
    | _ => exact w.elim
  | _ => exact w.elim
theorem snd_ise1 {t : String} {x y : Str} (G : Gd g cf k X sc cl W) (hx : x = ("isinstance" : Str)) (hy : y = (t : Str)) (hg : sc.names.lookup x = some .globalImplicit) (ht : xtsG g sc [t] = true) (ha : PE X ea (tD cf X.K W a)) (hs : noStar ea = true) :
    PE X (.Call (.Name x p) [ea, .Name y p2] [] pos) (tD cf X.K W (.blt (.ise [t]) [a])) := by
  subst hx hy
  have ht := xtsG_ok ht t List.mem_cons_self
  have A := G.xa (fun z => by rw [z] at ht; cases ht.1)
  have fin := pe_callB (X := X) (x := ("isinstance" : Str)) (p := p) (pos := pos) call_ex (show X.env.scope.names.lookup _ = _ by rw [G.sc]; exact hg) (G.bl "isinstance" (by decide)) (by decide +kernel) (pa_cons ha (pa_cons (pe_cls (pos := p2) G ht.1 ht.2) pa_nil) (star_cons hs)) (by decide +kernel) (by decide +kernel) (star_cons hs)
  refine fin.mono' fun σ H Q ⟨fm, ρ, sr, w⟩ => ?_
  have w : Wq X.K fm (fun c H' => W c σ H') H H ((evs cf [a] ρ).bind fun xs => bltD (.ise [t]) xs) Q := w
  rw [evs_one, M.bind_bind] at w
  refine tD.bind sr Same.refl w fun v H1 x s1 sr1 r1 w1 => ?_
  obtain ⟨e, c, rfl, hc, he, w2⟩ := ise_rd (X := X) w1 r1
  refine ⟨e, _, _, c, _, rfl, clsVV_ok A ht.1, he, fun C hC => ?_, w2.imm (X := X) (.bl _)⟩
  have F := (A.at hc hC).2
  refine ⟨F.ec, ?_⟩
  rw [F.kt t ht.1]
  simp
theorem snd_iseT {ts : List String} {x : Str} {es : List Expr} {j : Nat} (G : Gd g cf k X sc cl W) (hx : x = ("isinstance" : Str)) (hy : clsNames ts es = true) (hl : ts.length ≤ 100) (hg : sc.names.lookup x = some .globalImplicit) (h0 : g.ts.isEmpty = false) (ht : xtsG g sc ts = true) (ha : PE X ea (tD cf X.K W a)) (hs : noStar ea = true) :
    PE X (.Call (.Name x p) [ea, .Tuple es j p2] [] pos) (tD cf X.K W (.blt (.ise ts) [a])) := by
  subst hx
  have ht := xtsG_ok ht
  have A := G.xa (fun z => by rw [z] at h0; cases h0)
  have fin := pe_callB (X := X) (x := ("isinstance" : Str)) (p := p) (pos := pos) call_exT (show X.env.scope.names.lookup _ = _ by rw [G.sc]; exact hg) (G.bl "isinstance" (by decide)) (by decide +kernel) (pa_cons ha (pa_cons (pe_tup (x1 := j) (pos := p2) (pa_cls G hy ht)) pa_nil (star_cons rfl)) (star_cons hs)) (by decide +kernel) (by decide +kernel) (star_cons hs)
  refine fin.mono' fun σ H Q ⟨fm, ρ, sr, w⟩ => ?_
  have w : Wq X.K fm (fun c H' => W c σ H') H H ((evs cf [a] ρ).bind fun xs => bltD (.ise ts) xs) Q := w
  rw [evs_one, M.bind_bind] at w
  refine tD.bind sr Same.refl w fun v H1 x s1 sr1 r1 w1 => ?_
  obtain ⟨e, c, rfl, hc, he, w2⟩ := ise_rd (X := X) w1 r1
  refine ⟨by rw [List.length_map, sizeLine_eq]; omega, fun q hq => ?_⟩
  refine ⟨e, q, ts.map (clsVV X.mg), ts.map (clsV X.mg), c, ts.any (excSub c), rfl, upd_same, clss_all A fun t m => (ht t m).1, Same.new hq _ _ he, fun C hC => ?_, w2 _ _ (Same.new hq) (.imm (.bl _))⟩
  have F := (A.at hc hC).2
  exact ⟨F.ec, ise_any F fun t m => (ht t m).1⟩
end
end Iv

/-! Iv Ji: zip of two, each a list or a tuple. -/
namespace Iv
open PySem PySem.Spec L2
open PyProof.Rows hiding St
/-- what stands at a: a tuple (true), a list (false) -/
def Sqk (K : PySem.W.Frag) (b : Bool) (H : Hp) (a : Addr) (xs : List V) : Prop := match b with | true => SqT K H a xs | false => SqL K H a xs
def ItKd (b : Bool) (h : Heap) (i a : Addr) (n : Nat) : Prop := match b with | true => h.IsTupleIter i a n | false => h.IsListIter i a n
def IsKd (b : Bool) (h : Heap) (a : Addr) (xs : Array Value) : Prop := match b with | true => h.IsTuple a xs | false => h.IsList a xs
theorem Sqk.sq {X : Cx} {pins : List (Addr × Obj)} {σ : L2.St} {H : Hp} {s : Shared} {b : Bool} {a : Addr} {xs : List V} (I : Inv X pins σ H s) (h : Sqk X.K b H a xs) : ∃ its : List Value, Vals xs its ∧ IsKd b s.heap a its.toArray ∧ a < s.heap.objs.size := by
  cases b with
  | true =>
    obtain ⟨its, rv, p, _⟩ := I.tuple h
    obtain ⟨o, ho, _⟩ := id p
    exact ⟨its, rv, p, Heap.lt_size ho⟩
  | false =>
    obtain ⟨its, rv, p, _⟩ := I.list h
    exact ⟨its, rv, p.isList, p.lt⟩
theorem Sqk.inj {X : Cx} {pins : List (Addr × Obj)} {σ : L2.St} {H : Hp} {s : Shared} {b : Bool} {a : Addr} {xs ys : List V} (I : Inv X pins σ H s) (h : Sqk X.K b H a xs) (h' : Sqk X.K b H a ys) : xs = ys := by
  cases b with
  | true => exact I.tuple_inj h h'
  | false => exact I.list_inj h h'
theorem ItKd.obj {b : Bool} {h : Heap} {i a : Addr} {n : Nat} (q : ItKd b h i a n) : ∃ o, h.get? i = some o ∧ ∀ v, o.data ≠ .cell v := by
  cases b with
  | true => obtain ⟨o, e, _, d⟩ := q; exact ⟨o, e, fun v z => by rw [d] at z; cases z⟩
  | false => obtain ⟨o, e, _, d⟩ := q; exact ⟨o, e, fun v z => by rw [d] at z; cases z⟩
theorem ItKd.keep {b : Bool} {h h' : Heap} {i a : Addr} {n : Nat} (q : ItKd b h i a n) (k : ∀ o, h.get? i = some o → h'.get? i = some o) : ItKd b h' i a n := by
  cases b with
  | true => exact Heap.IsTupleIter.at q k
  | false => exact Heap.IsListIter.at q k
theorem draws_kd {prog : Program} {w : World} {A : Around} (hh : A.handled = none) (b : Bool) (it a : Addr) (hne : a ≠ it) (items : Array Value) :
    Draws prog w A it [it, a] items.size (fun i v => items[i]? = some v) (fun i h => ItKd b h it a i ∧ IsKd b h a items) := by
  cases b with
  | true => exact Draws.tuple hh it a hne items
  | false => exact Draws.list hh it a hne items
theorem begins_kd (b : Bool) (a : Addr) (items : Array Value) : ∃ o, Begins (.ref a) o (fun h => IsKd b h a items) ∧ ∀ (h : Heap) (it : Addr), h.get? it = some o → ItKd b h it a 0 := by
  cases b with
  | true => exact ⟨_, begins_tuple a items, fun h it e => ⟨_, e, rfl, rfl⟩⟩
  | false => exact ⟨_, begins_list a items, fun h it e => ⟨_, e, rfl, rfl⟩⟩
def Itzk (K : PySem.W.Frag) (ka kb : Bool) (a b : Addr) : It :=
  ⟨fun i H => ∃ (xs ys : List V) (x y : V), Sqk K ka H a xs ∧ Sqk K kb H b ys ∧ xs[i]? = some x ∧ ys[i]? = some y,
    fun i H v H' => ∃ T x y, v = .ref T ∧ H T = none ∧ H' = upd H T (.tup [x, y]) ∧ (∀ xs, Sqk K ka H a xs → xs[i]? = some x) ∧ ∀ ys, Sqk K kb H b ys → ys[i]? = some y,
    fun i H => ∃ xs ys : List V, Sqk K ka H a xs ∧ Sqk K kb H b ys ∧ i = min xs.length ys.length⟩
theorem turn_zipk {P : Program} {w : World} {K : PySem.W.Frag} {elts : List Expr} {kk : Nat} {tpos : Pos} {ka kb : Bool} {a b z TI TO i1 i2 : Addr} (D : ZipSep2 z TI TO i1 i2 [i1, a] [i2, b]) (n1 : a ≠ i1) (n2 : b ≠ i2) :
    Turn P w K (.Tuple elts kk tpos) (Itzk K ka kb a b) [z, TI, TO, i1, i2] z (fun i h => IsZip h z TI TO .none ∧ IsTupOf2 h TI (.ref i1) (.ref i2) ∧ (∃ x y, IsTupOf2 h TO x y) ∧ ItKd ka h i1 a i ∧ ItKd kb h i2 b i) where
  mem := by simp
  obj := fun i h st e he => by
    obtain ⟨hz, hTI, ⟨x, y, hTO⟩, h1, h2⟩ := st
    have e' : e = z ∨ e = TI ∨ e = TO ∨ e = i1 ∨ e = i2 := by simpa using he
    rcases e' with rfl | rfl | rfl | rfl | rfl
    · exact ⟨_, hz, fun v q => nomatch q⟩
    · exact ⟨_, hTI, fun v q => nomatch q⟩
    · exact ⟨_, hTO, fun v q => nomatch q⟩
    · exact h1.obj
    · exact h2.obj
  keep := fun i h h' st k => by
    obtain ⟨hz, hTI, ⟨x, y, hTO⟩, h1, h2⟩ := st
    exact ⟨k z (by simp) _ hz, k TI (by simp) _ hTI, ⟨x, y, k TO (by simp) _ hTO⟩, h1.keep fun o q => k i1 (by simp) o q, h2.keep fun o q => k i2 (by simp) o q⟩
  item := by
    intro X hP hw hK hc i pins s σ H E I hf st hg
    subst hP hw hK
    obtain ⟨hz, hTI, hTO, h1, h2⟩ := st
    obtain ⟨xs, ys, x, y, hqx, hqy, hx, hy⟩ := hg
    obtain ⟨its, rv, p, _⟩ := hqx.sq I
    obtain ⟨its2, rv2, p2, _⟩ := hqy.sq I
    obtain ⟨x', hx', rx⟩ := rv.get hx
    obtain ⟨y', hy', ry⟩ := rv2.get hy
    have hh := I.ok.hd hc
    have G := GoesN.zip2 (prog := X.prog) (w := X.w) (A := X.A) (elts := elts) (x1 := kk) (pos := tpos) D (draws_kd (A := X.A.in1) hh ka i1 a n1 its.toArray) (draws_kd (A := X.A.in1) hh kb i2 b n2 its2.toArray)
    have l1 : i < its.length := (List.getElem?_eq_some_iff.mp hx').1
    have l2 : i < its2.length := (List.getElem?_eq_some_iff.mp hy').1
    have rd : ∀ (v : Value) (h' : Heap) (tk : Nat), (∃ T x y, v = .ref T ∧ s.heap.objs.size ≤ T ∧ its.toArray[i]? = some x ∧ its2.toArray[i]? = some y ∧ h'.IsTuple T #[x, y]) →
        (IsZip h' z TI TO .none ∧ IsTupOf2 h' TI (.ref i1) (.ref i2) ∧ (∃ a1 a2, IsTupOf2 h' TO a1 a2) ∧ (ItKd ka h' i1 a (i + 1) ∧ IsKd ka h' a its.toArray) ∧ (ItKd kb h' i2 b (i + 1) ∧ IsKd kb h' b its2.toArray)) →
        (∀ b o, b ∉ [z, TO, i1, i2] → s.heap.get? b = some o → h'.get? b = some o) → s.toks ≤ tk →
        ∃ x0 H', Inv X pins σ H' { s with heap := h', toks := tk } ∧ RelV x0 v ∧ (Itzk X.K ka kb a b).yld i H x0 H' ∧ (IsZip h' z TI TO .none ∧ IsTupOf2 h' TI (.ref i1) (.ref i2) ∧ (∃ x y, IsTupOf2 h' TO x y) ∧ ItKd ka h' i1 a (i + 1) ∧ ItKd kb h' i2 b (i + 1)) ∧ ∀ e ∈ [z, TI, TO, i1, i2], H' e = none := by
      rintro v h' tk ⟨T, vx, vy, rfl, hT, e1, e2, o, hTo, hTc, n, hTd⟩ ⟨g1, g2, g3, g4, g5⟩ hk htk
      have q1 : vx = x' := by simp [hx'] at e1; exact e1.symm
      have q2 : vy = y' := by simp [hy'] at e2; exact e2.symm
      subst q1 q2
      have hn : H T = none := I.hok.fresh hT
      have new : ObjOk X.prog X.w (upd H T (.tup [x, y])) h' T (.tup [x, y]) := ⟨by show 2 ≤ sizeLine; decide, [vx, vy], .cons rx (.cons ry .nil), ⟨o, hTo, hTc, n, hTd⟩⟩
      have I1 := I.turnedNew (t' := tk) (ch := [z, TI, TO, i1, i2]) (fun c o hb q => hk c o (fun z => hb (by simp at z ⊢; rcases z with z | z | z | z <;> simp [z])) q) hf hT new
      refine ⟨.ref T, _, I1, rfl, ⟨T, x, y, rfl, hn, rfl, fun l hl => by rw [hl.inj I hqx]; exact hx, fun l hl => by rw [hl.inj I hqy]; exact hy⟩, ⟨g1, g2, g3, g4.1, g5.1⟩, fun e he => ?_⟩
      have hlt : e < s.heap.objs.size := by
        have e' : e = z ∨ e = TI ∨ e = TO ∨ e = i1 ∨ e = i2 := by simpa using he
        obtain ⟨_, _, hTO'⟩ := id hTO
        rcases e' with rfl | rfl | rfl | rfl | rfl
        · exact Heap.lt_size hz
        · exact Heap.lt_size hTI
        · exact Heap.lt_size hTO'
        · obtain ⟨_, q, _⟩ := h1.obj; exact Heap.lt_size q
        · obtain ⟨_, q, _⟩ := h2.obj; exact Heap.lt_size q
      rw [upd_ne (Nat.ne_of_lt (Nat.lt_of_lt_of_le hlt hT))]
      exact (hf e he).1
    refine wpAny_mono (G.goes i s (fun v s2 => ∃ x0 H', Inv X pins σ H' s2 ∧ RelV x0 v ∧ (Itzk X.K ka kb a b).yld i H x0 H' ∧ (IsZip s2.heap z TI TO .none ∧ IsTupOf2 s2.heap TI (.ref i1) (.ref i2) ∧ (∃ x y, IsTupOf2 s2.heap TO x y) ∧ ItKd ka s2.heap i1 a (i + 1) ∧ ItKd kb s2.heap i2 b (i + 1)) ∧ ∀ e ∈ [z, TI, TO, i1, i2], H' e = none) E (by simp; omega) ⟨hz, hTI, hTO, ⟨h1, p⟩, ⟨h2, p2⟩⟩ fun v h' tk hY st' hk htk => rd v h' tk hY st' hk htk) (fun r s1 q => q) fun _ _ q => q
  done := by
    intro X hP hw hK hc i pins s σ H E I hf st hg
    subst hP hw hK
    obtain ⟨hz, hTI, hTO, h1, h2⟩ := st
    obtain ⟨xs, ys, hqx, hqy, hi⟩ := hg
    obtain ⟨its, rv, p, _⟩ := hqx.sq I
    obtain ⟨its2, rv2, p2, _⟩ := hqy.sq I
    have l1 := rv.length
    have l2 := rv2.length
    have hh := I.ok.hd hc
    have G := GoesN.zip2 (prog := X.prog) (w := X.w) (A := X.A) (elts := elts) (x1 := kk) (pos := tpos) D (draws_kd (A := X.A.in1) hh ka i1 a n1 its.toArray) (draws_kd (A := X.A.in1) hh kb i2 b n2 its2.toArray)
    refine G.stops s _ E ?_ fun h' tk hk _ => ?_
    · have e : min its.toArray.size its2.toArray.size = i := by simp; omega
      rw [e]
      exact ⟨hz, hTI, hTO, ⟨h1, p⟩, ⟨h2, p2⟩⟩
    · exact I.turnedL (t' := tk) (ch := [z, TI, TO, i1, i2]) (fun c o hb q => hk c o (fun z => hb (by simp at z ⊢; rcases z with z | z | z | z <;> simp [z])) q) hf
  self := fun A i s Q E st h => wpAny_pyIter_zip st.1 h
theorem nin2k {x y z : Addr} (h1 : x ≠ y) (h2 : x ≠ z) : x ∉ [y, z] := by
  intro h
  rcases List.mem_cons.mp h with h | h
  · exact h1 h
  · exact h2 (List.mem_singleton.mp h)
theorem sep2k (n a b : Nat) (la : a < n) (lb : b < n) : ZipSep2 (n + 4) (n + 2) (n + 3) n (n + 1) [n, a] [n + 1, b] := by
  have ne : ∀ x y : Nat, x ≠ y → (x : Addr) ≠ (y : Addr) := fun _ _ h => h
  refine ⟨ne _ _ ?_, ne _ _ ?_, ne _ _ ?_, ne _ _ ?_, List.mem_cons_self, nin2k (ne _ _ ?_) (ne _ _ ?_), nin2k (ne _ _ ?_) (ne _ _ ?_), ne _ _ ?_, List.mem_cons_self, nin2k (ne _ _ ?_) (ne _ _ ?_), nin2k (ne _ _ ?_) (ne _ _ ?_), nin2k (ne _ _ ?_) (ne _ _ ?_), nin2k (ne _ _ ?_) (ne _ _ ?_)⟩ <;> omega
theorem mem5k (n e : Nat) (h : e ∈ [n + 4, n + 2, n + 3, n, n + 1]) : n ≤ e := by
  simp at h
  omega
def iZipk (K : PySem.W.Frag) (ta : TA) : TI := fun σ H R => ta σ H fun vs H1 => ∃ ka kb a b xs ys, vs = [.ref a, .ref b] ∧ Sqk K ka H1 a xs ∧ Sqk K kb H1 b ys ∧ R (Itzk K ka kb a b) H1
theorem pi_zipk {X : Cx} {e e2 : Expr} {ta : TA} {p pos tpos : Pos} {elts : List Expr} {kk : Nat} (hg : Gl X "zip") (hm : X.mg "zip" = none) (ha : PA X [e, e2] ta)
    (hs : starEach [e, e2] X.env = (false, eval e X.env) :: starEach [e2] X.env := by rfl) (hpl : (backTo pos (starEach [e2] X.env)).any (·.1) = false := by rfl) :
    PI X (.Tuple elts kk tpos) (.Call (.Name "zip" p) [e, e2] [] pos) (iZipk X.K ta) := by
  refine ⟨fun pins s σ H R I h => ?_⟩
  refine Call_ (ld_blt I hg hm PyProof.Rows.boot_zip (PyProof.Rows.callWith_type1 (thn (ha.run pos pins s σ H _ I h) fun us s2 ⟨vs, H1, J1, r1, q1⟩ => ?_) hs hpl))
  obtain ⟨ka, kb, a, b, xs, ys, rfl, hqx, hqy, q⟩ := q1
  cases r1 with
  | cons r rr =>
    cases rr with
    | cons r' rr =>
      cases rr
      cases r
      cases r'
      obtain ⟨its, rv, p1, la⟩ := hqx.sq J1
      obtain ⟨its2, rv2, p2, lb⟩ := hqy.sq J1
      obtain ⟨o1, B1, b1⟩ := begins_kd ka a its.toArray
      obtain ⟨o2, B2, b2⟩ := begins_kd kb b its2.toArray
      refine zip_begins2 B1 B2 p1 p2 fun h' hz hTI hTO g1 g2 hsz hk => wpAny_pyIter_zip hz ?_
      have J2 : Inv X pins σ H1 { s2 with heap := h' } := J1.kept (t' := s2.toks) hk
      refine ⟨s2.heap.objs.size + 4, [s2.heap.objs.size + 4, s2.heap.objs.size + 2, s2.heap.objs.size + 3, s2.heap.objs.size, s2.heap.objs.size + 1], _, _, H1, rfl, J2, turn_zipk (kk := kk) (tpos := tpos) (elts := elts) (ka := ka) (kb := kb) (a := a) (b := b) (sep2k _ _ _ la lb) (Nat.ne_of_lt la) (Nat.ne_of_lt (Nat.lt_succ_of_lt lb)), ⟨hz, hTI, ⟨_, _, hTO⟩, b1 _ _ g1, b2 _ _ g2⟩, fun e he => ?_, q⟩
      have hle : s2.heap.objs.size ≤ e := mem5k _ _ he
      exact J1.fpOk hle (J1.hok.fresh hle)
end Iv

/-! Iv Jh: zip of three lists. -/
namespace Iv
open PySem PySem.Spec L2
open PyProof.Rows hiding St
def Itz3 (K : PySem.W.Frag) (a b c : Addr) : It :=
  ⟨fun i H => ∃ (xs ys zs : List V) (x y z : V), SqL K H a xs ∧ SqL K H b ys ∧ SqL K H c zs ∧ xs[i]? = some x ∧ ys[i]? = some y ∧ zs[i]? = some z,
    fun i H v H' => ∃ T x y z, v = .ref T ∧ H T = none ∧ H' = upd H T (.tup [x, y, z]) ∧ (∀ xs, SqL K H a xs → xs[i]? = some x) ∧ (∀ ys, SqL K H b ys → ys[i]? = some y) ∧ ∀ zs, SqL K H c zs → zs[i]? = some z,
    fun i H => ∃ xs ys zs : List V, SqL K H a xs ∧ SqL K H b ys ∧ SqL K H c zs ∧ i = min (min xs.length ys.length) zs.length⟩
theorem turn_zip3 {P : Program} {w : World} {K : PySem.W.Frag} {elts : List Expr} {kk : Nat} {tpos : Pos} {a b c z TI TO i1 i2 i3 : Addr} (D : ZipSep3 z TI TO i1 i2 i3 [i1, a] [i2, b] [i3, c]) (n1 : a ≠ i1) (n2 : b ≠ i2) (n3 : c ≠ i3) (nz : a ≠ z ∧ b ≠ z ∧ c ≠ z) :
    Turn P w K (.Tuple elts kk tpos) (Itz3 K a b c) [z, TI, TO, i1, i2, i3] z (fun i h => IsZip h z TI TO .none ∧ IsTupOf3 h TI (.ref i1) (.ref i2) (.ref i3) ∧ (∃ x y u, IsTupOf3 h TO x y u) ∧ h.IsListIter i1 a i ∧ h.IsListIter i2 b i ∧ h.IsListIter i3 c i) where
  mem := by simp
  obj := fun i h st e he => by
    obtain ⟨hz, hTI, ⟨x, y, u, hTO⟩, ⟨o1, e1, _, d1⟩, ⟨o2, e2, _, d2⟩, ⟨o3, e3, _, d3⟩⟩ := st
    have e' : e = z ∨ e = TI ∨ e = TO ∨ e = i1 ∨ e = i2 ∨ e = i3 := by simpa using he
    rcases e' with rfl | rfl | rfl | rfl | rfl | rfl
    · exact ⟨_, hz, fun v q => nomatch q⟩
    · exact ⟨_, hTI, fun v q => nomatch q⟩
    · exact ⟨_, hTO, fun v q => nomatch q⟩
    · exact ⟨o1, e1, fun v q => by rw [d1] at q; cases q⟩
    · exact ⟨o2, e2, fun v q => by rw [d2] at q; cases q⟩
    · exact ⟨o3, e3, fun v q => by rw [d3] at q; cases q⟩
  keep := fun i h h' st k => by
    obtain ⟨hz, hTI, ⟨x, y, u, hTO⟩, h1, h2, h3⟩ := st
    exact ⟨k z (by simp) _ hz, k TI (by simp) _ hTI, ⟨x, y, u, k TO (by simp) _ hTO⟩, h1.at fun o q => k i1 (by simp) o q, h2.at fun o q => k i2 (by simp) o q, h3.at fun o q => k i3 (by simp) o q⟩
  item := by
    intro X hP hw hK hc i pins s σ H E I hf st hg
    subst hP hw hK
    obtain ⟨hz, hTI, hTO, h1, h2, h3⟩ := st
    obtain ⟨xs, ys, zs, x, y, u, hqx, hqy, hqz, hx, hy, hu⟩ := hg
    obtain ⟨its, rv, p, _⟩ := I.list hqx
    obtain ⟨its2, rv2, p2, _⟩ := I.list hqy
    obtain ⟨its3, rv3, p3, _⟩ := I.list hqz
    obtain ⟨x', hx', rx⟩ := rv.get hx
    obtain ⟨y', hy', ry⟩ := rv2.get hy
    obtain ⟨u', hu', ru⟩ := rv3.get hu
    have hh := I.ok.hd hc
    have G := GoesN.zip3 (prog := X.prog) (w := X.w) (A := X.A) (elts := elts) (x1 := kk) (pos := tpos) D (Draws.list (A := X.A.in1) hh i1 a n1 its.toArray) (Draws.list (A := X.A.in1) hh i2 b n2 its2.toArray) (Draws.list (A := X.A.in1) hh i3 c n3 its3.toArray)
    have l1 : i < its.length := (List.getElem?_eq_some_iff.mp hx').1
    have l2 : i < its2.length := (List.getElem?_eq_some_iff.mp hy').1
    have l3 : i < its3.length := (List.getElem?_eq_some_iff.mp hu').1
    have rd : ∀ (v : Value) (h' : Heap) (tk : Nat), (∃ T x y u, v = .ref T ∧ s.heap.objs.size ≤ T ∧ its.toArray[i]? = some x ∧ its2.toArray[i]? = some y ∧ its3.toArray[i]? = some u ∧ h'.IsTuple T #[x, y, u]) →
        (IsZip h' z TI TO .none ∧ IsTupOf3 h' TI (.ref i1) (.ref i2) (.ref i3) ∧ (∃ a1 a2 a3, IsTupOf3 h' TO a1 a2 a3) ∧ (h'.IsListIter i1 a (i + 1) ∧ h'.IsList a its.toArray) ∧ (h'.IsListIter i2 b (i + 1) ∧ h'.IsList b its2.toArray) ∧ (h'.IsListIter i3 c (i + 1) ∧ h'.IsList c its3.toArray)) →
        (∀ b o, b ∉ [z, TO, i1, i2, i3] → s.heap.get? b = some o → h'.get? b = some o) → s.toks ≤ tk →
        ∃ x0 H', Inv X pins σ H' { s with heap := h', toks := tk } ∧ RelV x0 v ∧ (Itz3 X.K a b c).yld i H x0 H' ∧ (IsZip h' z TI TO .none ∧ IsTupOf3 h' TI (.ref i1) (.ref i2) (.ref i3) ∧ (∃ x y u, IsTupOf3 h' TO x y u) ∧ h'.IsListIter i1 a (i + 1) ∧ h'.IsListIter i2 b (i + 1) ∧ h'.IsListIter i3 c (i + 1)) ∧ ∀ e ∈ [z, TI, TO, i1, i2, i3], H' e = none := by
      rintro v h' tk ⟨T, vx, vy, vu, rfl, hT, e1, e2, e3, o, hTo, hTc, n, hTd⟩ ⟨g1, g2, g3, g4, g5, g6⟩ hk htk
      have q1 : vx = x' := by simp [hx'] at e1; exact e1.symm
      have q2 : vy = y' := by simp [hy'] at e2; exact e2.symm
      have q3 : vu = u' := by simp [hu'] at e3; exact e3.symm
      subst q1 q2 q3
      have hn : H T = none := I.hok.fresh hT
      have new : ObjOk X.prog X.w (upd H T (.tup [x, y, u])) h' T (.tup [x, y, u]) := ⟨by show 3 ≤ sizeLine; decide, [vx, vy, vu], .cons rx (.cons ry (.cons ru .nil)), ⟨o, hTo, hTc, n, hTd⟩⟩
      have I1 := I.turnedNew (t' := tk) (ch := [z, TI, TO, i1, i2, i3]) (fun c o hb q => hk c o (fun z => hb (by simp at z ⊢; rcases z with z | z | z | z | z <;> simp [z])) q) hf hT new
      refine ⟨.ref T, _, I1, rfl, ⟨T, x, y, u, rfl, hn, rfl, fun l hl => by rw [I.list_inj hl hqx]; exact hx, fun l hl => by rw [I.list_inj hl hqy]; exact hy, fun l hl => by rw [I.list_inj hl hqz]; exact hu⟩, ⟨g1, g2, g3, g4.1, g5.1, g6.1⟩, fun e he => ?_⟩
      have hlt : e < s.heap.objs.size := by
        have e' : e = z ∨ e = TI ∨ e = TO ∨ e = i1 ∨ e = i2 ∨ e = i3 := by simpa using he
        obtain ⟨_, _, _, hTO'⟩ := id hTO
        rcases e' with rfl | rfl | rfl | rfl | rfl | rfl
        · exact Heap.lt_size hz
        · exact Heap.lt_size hTI
        · exact Heap.lt_size hTO'
        · obtain ⟨_, q, _⟩ := h1; exact Heap.lt_size q
        · obtain ⟨_, q, _⟩ := h2; exact Heap.lt_size q
        · obtain ⟨_, q, _⟩ := h3; exact Heap.lt_size q
      rw [upd_ne (Nat.ne_of_lt (Nat.lt_of_lt_of_le hlt hT))]
      exact (hf e he).1
    refine wpAny_mono (G.goes i s (fun v s2 => ∃ x0 H', Inv X pins σ H' s2 ∧ RelV x0 v ∧ (Itz3 X.K a b c).yld i H x0 H' ∧ (IsZip s2.heap z TI TO .none ∧ IsTupOf3 s2.heap TI (.ref i1) (.ref i2) (.ref i3) ∧ (∃ x y u, IsTupOf3 s2.heap TO x y u) ∧ s2.heap.IsListIter i1 a (i + 1) ∧ s2.heap.IsListIter i2 b (i + 1) ∧ s2.heap.IsListIter i3 c (i + 1)) ∧ ∀ e ∈ [z, TI, TO, i1, i2, i3], H' e = none) E (by simp; omega) ⟨hz, hTI, hTO, ⟨h1, p.isList⟩, ⟨h2, p2.isList⟩, ⟨h3, p3.isList⟩⟩ fun v h' tk hY st' hk htk => rd v h' tk hY st' hk htk) (fun r s1 q => q) fun _ _ q => q
  done := by
    intro X hP hw hK hc i pins s σ H E I hf st hg
    subst hP hw hK
    obtain ⟨hz, hTI, hTO, h1, h2, h3⟩ := st
    obtain ⟨xs, ys, zs, hqx, hqy, hqz, hi⟩ := hg
    obtain ⟨its, rv, p, _⟩ := I.list hqx
    obtain ⟨its2, rv2, p2, _⟩ := I.list hqy
    obtain ⟨its3, rv3, p3, _⟩ := I.list hqz
    have l1 := rv.length
    have l2 := rv2.length
    have l3 := rv3.length
    have hh := I.ok.hd hc
    have G := GoesN.zip3 (prog := X.prog) (w := X.w) (A := X.A) (elts := elts) (x1 := kk) (pos := tpos) D (Draws.list (A := X.A.in1) hh i1 a n1 its.toArray) (Draws.list (A := X.A.in1) hh i2 b n2 its2.toArray) (Draws.list (A := X.A.in1) hh i3 c n3 its3.toArray)
    refine G.stops s _ E ?_ fun h' tk hk _ => ?_
    · have e : min (min its.toArray.size its2.toArray.size) its3.toArray.size = i := by simp; omega
      rw [e]
      exact ⟨hz, hTI, hTO, ⟨h1, p.isList⟩, ⟨h2, p2.isList⟩, ⟨h3, p3.isList⟩⟩
    · exact I.turnedL (t' := tk) (ch := [z, TI, TO, i1, i2, i3]) (fun c o hb q => hk c o (fun z => hb (by simp at z ⊢; rcases z with z | z | z | z | z <;> simp [z])) q) hf
  self := fun A i s Q E st h => wpAny_pyIter_zip st.1 h
theorem nin2 {x y z : Addr} (h1 : x ≠ y) (h2 : x ≠ z) : x ∉ [y, z] := by
  intro h
  rcases List.mem_cons.mp h with h | h
  · exact h1 h
  · exact h2 (List.mem_singleton.mp h)
theorem sep3 (n a b c : Nat) (la : a < n) (lb : b < n) (lc : c < n) : ZipSep3 (n + 5) (n + 3) (n + 4) n (n + 1) (n + 2) [n, a] [n + 1, b] [n + 2, c] := by
  have ne : ∀ x y : Nat, x ≠ y → (x : Addr) ≠ (y : Addr) := fun _ _ h => h
  refine ⟨ne _ _ ?_, ne _ _ ?_, ne _ _ ?_, ne _ _ ?_, List.mem_cons_self, nin2 (ne _ _ ?_) (ne _ _ ?_), nin2 (ne _ _ ?_) (ne _ _ ?_), ne _ _ ?_, List.mem_cons_self, nin2 (ne _ _ ?_) (ne _ _ ?_), nin2 (ne _ _ ?_) (ne _ _ ?_), ne _ _ ?_, List.mem_cons_self, nin2 (ne _ _ ?_) (ne _ _ ?_), nin2 (ne _ _ ?_) (ne _ _ ?_), nin2 (ne _ _ ?_) (ne _ _ ?_), nin2 (ne _ _ ?_) (ne _ _ ?_), nin2 (ne _ _ ?_) (ne _ _ ?_), nin2 (ne _ _ ?_) (ne _ _ ?_), nin2 (ne _ _ ?_) (ne _ _ ?_), nin2 (ne _ _ ?_) (ne _ _ ?_)⟩ <;> omega
theorem lt_ne (n a k : Nat) (h : a < n) : (a : Addr) ≠ n + k := Nat.ne_of_lt (by omega)
theorem mem6 (n e : Nat) (h : e ∈ [n + 5, n + 3, n + 4, n, n + 1, n + 2]) : n ≤ e := by
  simp at h
  omega
def iZip3 (K : PySem.W.Frag) (ta : TA) : TI := fun σ H R => ta σ H fun vs H1 => ∃ a b c xs ys zs, vs = [.ref a, .ref b, .ref c] ∧ SqL K H1 a xs ∧ SqL K H1 b ys ∧ SqL K H1 c zs ∧ R (Itz3 K a b c) H1
theorem pi_zip3 {X : Cx} {e e2 e3 : Expr} {ta : TA} {p pos tpos : Pos} {elts : List Expr} {kk : Nat} (hg : Gl X "zip") (hm : X.mg "zip" = none) (ha : PA X [e, e2, e3] ta)
    (hs : starEach [e, e2, e3] X.env = (false, eval e X.env) :: starEach [e2, e3] X.env := by rfl) (hpl : (backTo pos (starEach [e2, e3] X.env)).any (·.1) = false := by rfl) :
    PI X (.Tuple elts kk tpos) (.Call (.Name "zip" p) [e, e2, e3] [] pos) (iZip3 X.K ta) := by
  refine ⟨fun pins s σ H R I h => ?_⟩
  refine Call_ (ld_blt I hg hm PyProof.Rows.boot_zip (PyProof.Rows.callWith_type1 (thn (ha.run pos pins s σ H _ I h) fun us s2 ⟨vs, H1, J1, r1, q1⟩ => ?_) hs hpl))
  obtain ⟨a, b, c, xs, ys, zs, rfl, hqx, hqy, hqz, q⟩ := q1
  cases r1 with
  | cons r rr =>
    cases rr with
    | cons r' rr =>
      cases rr with
      | cons r'' rr =>
        cases rr
        cases r
        cases r'
        cases r''
        obtain ⟨its, rv, p1, _⟩ := J1.list hqx
        obtain ⟨its2, rv2, p2, _⟩ := J1.list hqy
        obtain ⟨its3, rv3, p3, _⟩ := J1.list hqz
        refine zip_begins3 (begins_list a its.toArray) (begins_list b its2.toArray) (begins_list c its3.toArray) p1.isList p2.isList p3.isList fun h' hz hTI hTO g1 g2 g3 hsz hk => wpAny_pyIter_zip hz ?_
        have J2 : Inv X pins σ H1 { s2 with heap := h' } := J1.kept (t' := s2.toks) hk
        have la := p1.lt
        have lb := p2.lt
        have lc := p3.lt
        refine ⟨s2.heap.objs.size + 5, [s2.heap.objs.size + 5, s2.heap.objs.size + 3, s2.heap.objs.size + 4, s2.heap.objs.size, s2.heap.objs.size + 1, s2.heap.objs.size + 2], _, _, H1, rfl, J2, turn_zip3 (kk := kk) (tpos := tpos) (elts := elts) (a := a) (b := b) (c := c) (sep3 _ _ _ _ la lb lc) (Nat.ne_of_lt la) (lt_ne _ _ 1 lb) (lt_ne _ _ 2 lc) ⟨lt_ne _ _ 5 la, lt_ne _ _ 5 lb, lt_ne _ _ 5 lc⟩, ⟨hz, hTI, ⟨_, _, _, hTO⟩, ⟨_, g1, rfl, rfl⟩, ⟨_, g2, rfl, rfl⟩, ⟨_, g3, rfl, rfl⟩⟩, fun e he => ?_, q⟩
        have hle : s2.heap.objs.size ≤ e := mem6 _ _ he
        exact J1.fpOk hle (J1.hok.fresh hle)
end Iv

/-! Iv Jj: zip of three, each a list or a tuple. -/
namespace Iv
open PySem PySem.Spec L2
open PyProof.Rows hiding St
def Itz3k (K : PySem.W.Frag) (ka kb kc : Bool) (a b c : Addr) : It :=
  ⟨fun i H => ∃ (xs ys zs : List V) (x y z : V), Sqk K ka H a xs ∧ Sqk K kb H b ys ∧ Sqk K kc H c zs ∧ xs[i]? = some x ∧ ys[i]? = some y ∧ zs[i]? = some z,
    fun i H v H' => ∃ T x y z, v = .ref T ∧ H T = none ∧ H' = upd H T (.tup [x, y, z]) ∧ (∀ xs, Sqk K ka H a xs → xs[i]? = some x) ∧ (∀ ys, Sqk K kb H b ys → ys[i]? = some y) ∧ ∀ zs, Sqk K kc H c zs → zs[i]? = some z,
    fun i H => ∃ xs ys zs : List V, Sqk K ka H a xs ∧ Sqk K kb H b ys ∧ Sqk K kc H c zs ∧ i = min (min xs.length ys.length) zs.length⟩
theorem turn_zip3k {P : Program} {w : World} {K : PySem.W.Frag} {elts : List Expr} {kk : Nat} {tpos : Pos} {ka kb kc : Bool} {a b c z TI TO i1 i2 i3 : Addr} (D : ZipSep3 z TI TO i1 i2 i3 [i1, a] [i2, b] [i3, c]) (n1 : a ≠ i1) (n2 : b ≠ i2) (n3 : c ≠ i3) :
    Turn P w K (.Tuple elts kk tpos) (Itz3k K ka kb kc a b c) [z, TI, TO, i1, i2, i3] z (fun i h => IsZip h z TI TO .none ∧ IsTupOf3 h TI (.ref i1) (.ref i2) (.ref i3) ∧ (∃ x y u, IsTupOf3 h TO x y u) ∧ ItKd ka h i1 a i ∧ ItKd kb h i2 b i ∧ ItKd kc h i3 c i) where
  mem := by simp
  obj := fun i h st e he => by
    obtain ⟨hz, hTI, ⟨x, y, u, hTO⟩, h1, h2, h3⟩ := st
    have e' : e = z ∨ e = TI ∨ e = TO ∨ e = i1 ∨ e = i2 ∨ e = i3 := by simpa using he
    rcases e' with rfl | rfl | rfl | rfl | rfl | rfl
    · exact ⟨_, hz, fun v q => nomatch q⟩
    · exact ⟨_, hTI, fun v q => nomatch q⟩
    · exact ⟨_, hTO, fun v q => nomatch q⟩
    · exact h1.obj
    · exact h2.obj
    · exact h3.obj
  keep := fun i h h' st k => by
    obtain ⟨hz, hTI, ⟨x, y, u, hTO⟩, h1, h2, h3⟩ := st
    exact ⟨k z (by simp) _ hz, k TI (by simp) _ hTI, ⟨x, y, u, k TO (by simp) _ hTO⟩, h1.keep fun o q => k i1 (by simp) o q, h2.keep fun o q => k i2 (by simp) o q, h3.keep fun o q => k i3 (by simp) o q⟩
  item := by
    intro X hP hw hK hc i pins s σ H E I hf st hg
    subst hP hw hK
    obtain ⟨hz, hTI, hTO, h1, h2, h3⟩ := st
    obtain ⟨xs, ys, zs, x, y, u, hqx, hqy, hqz, hx, hy, hu⟩ := hg
    obtain ⟨its, rv, p, _⟩ := hqx.sq I
    obtain ⟨its2, rv2, p2, _⟩ := hqy.sq I
    obtain ⟨its3, rv3, p3, _⟩ := hqz.sq I
    obtain ⟨x', hx', rx⟩ := rv.get hx
    obtain ⟨y', hy', ry⟩ := rv2.get hy
    obtain ⟨u', hu', ru⟩ := rv3.get hu
    have hh := I.ok.hd hc
    have G := GoesN.zip3 (prog := X.prog) (w := X.w) (A := X.A) (elts := elts) (x1 := kk) (pos := tpos) D (draws_kd (A := X.A.in1) hh ka i1 a n1 its.toArray) (draws_kd (A := X.A.in1) hh kb i2 b n2 its2.toArray) (draws_kd (A := X.A.in1) hh kc i3 c n3 its3.toArray)
    have l1 : i < its.length := (List.getElem?_eq_some_iff.mp hx').1
    have l2 : i < its2.length := (List.getElem?_eq_some_iff.mp hy').1
    have l3 : i < its3.length := (List.getElem?_eq_some_iff.mp hu').1
    have rd : ∀ (v : Value) (h' : Heap) (tk : Nat), (∃ T x y u, v = .ref T ∧ s.heap.objs.size ≤ T ∧ its.toArray[i]? = some x ∧ its2.toArray[i]? = some y ∧ its3.toArray[i]? = some u ∧ h'.IsTuple T #[x, y, u]) →
        (IsZip h' z TI TO .none ∧ IsTupOf3 h' TI (.ref i1) (.ref i2) (.ref i3) ∧ (∃ a1 a2 a3, IsTupOf3 h' TO a1 a2 a3) ∧ (ItKd ka h' i1 a (i + 1) ∧ IsKd ka h' a its.toArray) ∧ (ItKd kb h' i2 b (i + 1) ∧ IsKd kb h' b its2.toArray) ∧ (ItKd kc h' i3 c (i + 1) ∧ IsKd kc h' c its3.toArray)) →
        (∀ b o, b ∉ [z, TO, i1, i2, i3] → s.heap.get? b = some o → h'.get? b = some o) → s.toks ≤ tk →
        ∃ x0 H', Inv X pins σ H' { s with heap := h', toks := tk } ∧ RelV x0 v ∧ (Itz3k X.K ka kb kc a b c).yld i H x0 H' ∧ (IsZip h' z TI TO .none ∧ IsTupOf3 h' TI (.ref i1) (.ref i2) (.ref i3) ∧ (∃ x y u, IsTupOf3 h' TO x y u) ∧ ItKd ka h' i1 a (i + 1) ∧ ItKd kb h' i2 b (i + 1) ∧ ItKd kc h' i3 c (i + 1)) ∧ ∀ e ∈ [z, TI, TO, i1, i2, i3], H' e = none := by
      rintro v h' tk ⟨T, vx, vy, vu, rfl, hT, e1, e2, e3, o, hTo, hTc, n, hTd⟩ ⟨g1, g2, g3, g4, g5, g6⟩ hk htk
      have q1 : vx = x' := by simp [hx'] at e1; exact e1.symm
      have q2 : vy = y' := by simp [hy'] at e2; exact e2.symm
      have q3 : vu = u' := by simp [hu'] at e3; exact e3.symm
      subst q1 q2 q3
      have hn : H T = none := I.hok.fresh hT
      have new : ObjOk X.prog X.w (upd H T (.tup [x, y, u])) h' T (.tup [x, y, u]) := ⟨by show 3 ≤ sizeLine; decide, [vx, vy, vu], .cons rx (.cons ry (.cons ru .nil)), ⟨o, hTo, hTc, n, hTd⟩⟩
      have I1 := I.turnedNew (t' := tk) (ch := [z, TI, TO, i1, i2, i3]) (fun c o hb q => hk c o (fun z => hb (by simp at z ⊢; rcases z with z | z | z | z | z <;> simp [z])) q) hf hT new
      refine ⟨.ref T, _, I1, rfl, ⟨T, x, y, u, rfl, hn, rfl, fun l hl => by rw [hl.inj I hqx]; exact hx, fun l hl => by rw [hl.inj I hqy]; exact hy, fun l hl => by rw [hl.inj I hqz]; exact hu⟩, ⟨g1, g2, g3, g4.1, g5.1, g6.1⟩, fun e he => ?_⟩
      have hlt : e < s.heap.objs.size := by
        have e' : e = z ∨ e = TI ∨ e = TO ∨ e = i1 ∨ e = i2 ∨ e = i3 := by simpa using he
        obtain ⟨_, _, _, hTO'⟩ := id hTO
        rcases e' with rfl | rfl | rfl | rfl | rfl | rfl
        · exact Heap.lt_size hz
        · exact Heap.lt_size hTI
        · exact Heap.lt_size hTO'
        · obtain ⟨_, q, _⟩ := h1.obj; exact Heap.lt_size q
        · obtain ⟨_, q, _⟩ := h2.obj; exact Heap.lt_size q
        · obtain ⟨_, q, _⟩ := h3.obj; exact Heap.lt_size q
      rw [upd_ne (Nat.ne_of_lt (Nat.lt_of_lt_of_le hlt hT))]
      exact (hf e he).1
    refine wpAny_mono (G.goes i s (fun v s2 => ∃ x0 H', Inv X pins σ H' s2 ∧ RelV x0 v ∧ (Itz3k X.K ka kb kc a b c).yld i H x0 H' ∧ (IsZip s2.heap z TI TO .none ∧ IsTupOf3 s2.heap TI (.ref i1) (.ref i2) (.ref i3) ∧ (∃ x y u, IsTupOf3 s2.heap TO x y u) ∧ ItKd ka s2.heap i1 a (i + 1) ∧ ItKd kb s2.heap i2 b (i + 1) ∧ ItKd kc s2.heap i3 c (i + 1)) ∧ ∀ e ∈ [z, TI, TO, i1, i2, i3], H' e = none) E (by simp; omega) ⟨hz, hTI, hTO, ⟨h1, p⟩, ⟨h2, p2⟩, ⟨h3, p3⟩⟩ fun v h' tk hY st' hk htk => rd v h' tk hY st' hk htk) (fun r s1 q => q) fun _ _ q => q
  done := by
    intro X hP hw hK hc i pins s σ H E I hf st hg
    subst hP hw hK
    obtain ⟨hz, hTI, hTO, h1, h2, h3⟩ := st
    obtain ⟨xs, ys, zs, hqx, hqy, hqz, hi⟩ := hg
    obtain ⟨its, rv, p, _⟩ := hqx.sq I
    obtain ⟨its2, rv2, p2, _⟩ := hqy.sq I
    obtain ⟨its3, rv3, p3, _⟩ := hqz.sq I
    have l1 := rv.length
    have l2 := rv2.length
    have l3 := rv3.length
    have hh := I.ok.hd hc
    have G := GoesN.zip3 (prog := X.prog) (w := X.w) (A := X.A) (elts := elts) (x1 := kk) (pos := tpos) D (draws_kd (A := X.A.in1) hh ka i1 a n1 its.toArray) (draws_kd (A := X.A.in1) hh kb i2 b n2 its2.toArray) (draws_kd (A := X.A.in1) hh kc i3 c n3 its3.toArray)
    refine G.stops s _ E ?_ fun h' tk hk _ => ?_
    · have e : min (min its.toArray.size its2.toArray.size) its3.toArray.size = i := by simp; omega
      rw [e]
      exact ⟨hz, hTI, hTO, ⟨h1, p⟩, ⟨h2, p2⟩, ⟨h3, p3⟩⟩
    · exact I.turnedL (t' := tk) (ch := [z, TI, TO, i1, i2, i3]) (fun c o hb q => hk c o (fun z => hb (by simp at z ⊢; rcases z with z | z | z | z | z <;> simp [z])) q) hf
  self := fun A i s Q E st h => wpAny_pyIter_zip st.1 h
def iZip3k (K : PySem.W.Frag) (ta : TA) : TI := fun σ H R => ta σ H fun vs H1 => ∃ ka kb kc a b c xs ys zs, vs = [.ref a, .ref b, .ref c] ∧ Sqk K ka H1 a xs ∧ Sqk K kb H1 b ys ∧ Sqk K kc H1 c zs ∧ R (Itz3k K ka kb kc a b c) H1
theorem pi_zip3k {X : Cx} {e e2 e3 : Expr} {ta : TA} {p pos tpos : Pos} {elts : List Expr} {kk : Nat} (hg : Gl X "zip") (hm : X.mg "zip" = none) (ha : PA X [e, e2, e3] ta)
    (hs : starEach [e, e2, e3] X.env = (false, eval e X.env) :: starEach [e2, e3] X.env := by rfl) (hpl : (backTo pos (starEach [e2, e3] X.env)).any (·.1) = false := by rfl) :
    PI X (.Tuple elts kk tpos) (.Call (.Name "zip" p) [e, e2, e3] [] pos) (iZip3k X.K ta) := by
  refine ⟨fun pins s σ H R I h => ?_⟩
  refine Call_ (ld_blt I hg hm PyProof.Rows.boot_zip (PyProof.Rows.callWith_type1 (thn (ha.run pos pins s σ H _ I h) fun us s2 ⟨vs, H1, J1, r1, q1⟩ => ?_) hs hpl))
  obtain ⟨ka, kb, kc, a, b, c, xs, ys, zs, rfl, hqx, hqy, hqz, q⟩ := q1
  cases r1 with
  | cons r rr =>
    cases rr with
    | cons r' rr =>
      cases rr with
      | cons r'' rr =>
        cases rr
        cases r
        cases r'
        cases r''
        obtain ⟨its, rv, p1, la⟩ := hqx.sq J1
        obtain ⟨its2, rv2, p2, lb⟩ := hqy.sq J1
        obtain ⟨its3, rv3, p3, lc⟩ := hqz.sq J1
        obtain ⟨o1, B1, b1⟩ := begins_kd ka a its.toArray
        obtain ⟨o2, B2, b2⟩ := begins_kd kb b its2.toArray
        obtain ⟨o3, B3, b3⟩ := begins_kd kc c its3.toArray
        refine zip_begins3 B1 B2 B3 p1 p2 p3 fun h' hz hTI hTO g1 g2 g3 hsz hk => wpAny_pyIter_zip hz ?_
        have J2 : Inv X pins σ H1 { s2 with heap := h' } := J1.kept (t' := s2.toks) hk
        refine ⟨s2.heap.objs.size + 5, [s2.heap.objs.size + 5, s2.heap.objs.size + 3, s2.heap.objs.size + 4, s2.heap.objs.size, s2.heap.objs.size + 1, s2.heap.objs.size + 2], _, _, H1, rfl, J2, turn_zip3k (kk := kk) (tpos := tpos) (elts := elts) (ka := ka) (kb := kb) (kc := kc) (a := a) (b := b) (c := c) (sep3 _ _ _ _ la lb lc) (Nat.ne_of_lt la) (lt_ne _ _ 1 lb) (lt_ne _ _ 2 lc), ⟨hz, hTI, ⟨_, _, _, hTO⟩, b1 _ _ g1, b2 _ _ g2, b3 _ _ g3⟩, fun e he => ?_, q⟩
        have hle : s2.heap.objs.size ≤ e := mem6 _ _ he
        exact J1.fpOk hle (J1.hok.fresh hle)
end Iv

/-! Iv K: what is walked, comprehensions. -/
namespace Iv
open PySem PySem.Spec L2
open PyProof.Rows hiding St

/-- what is tracked stays, but for what the slots in m own -/
def Kp (m : List Nat) (O : Nat → AP') (H H' : Hp) : Prop := ∀ b o, H b = some o → (∀ j ∈ m, ¬ O j b) → H' b = some o
theorem Kp.keep {K : PySem.W.Frag} {m : List Nat} {fm : Fm} {H H' : Hp} (f : FmAt fm H) (k : Kp m fm.O H H') : Keep K (fun b => ∀ j ∈ m, ¬ fm.O j b) H H' where
  t := fun a u q => by
    rcases q with (q | ⟨o, q⟩) | q
    · exact .inl (.inl (k _ _ q fun j _ o => by obtain ⟨vs, e⟩ := f.own j a o; rw [q] at e; cases e))
    · exact .inl (.inr ⟨o, k _ _ q fun j _ o' => by obtain ⟨vs, e⟩ := f.own j a o'; rw [q] at e; cases e⟩)
    · exact .inr q
  l := fun a vs o q => k _ _ q o
  d := fun a _ q => k _ _ q fun j _ o' => by obtain ⟨vs, e⟩ := f.own j a o'; rw [q] at e; cases e
  e := fun a _ q => k _ _ q fun j _ o' => by obtain ⟨vs, e⟩ := f.own j a o'; rw [q] at e; cases e
  x := fun a c q => k _ _ q fun j _ o' => by obtain ⟨vs, e⟩ := f.own j a o'; rw [q] at e; cases e
  s := fun a vs o q => by
    rcases q with q | ⟨ob, q⟩
    · exact .inl (k _ _ q o)
    · exact .inr ⟨ob, k _ _ q o⟩
/-- a thing of a walk: its lists stood at the walk's start -/
abbrev VRt (K : PySem.W.Frag) (fm : Fm) (Hs H1 H : Hp) (x : DT) (v : V) : Prop := Rep K H (fun a => NdR fm x.2 Hs a ∧ H1 a ≠ none) (fun a => NdI fm x.2 Hs a ∧ H1 a ≠ none) x.1 v
structure ItOk (K : PySem.W.Frag) (fm : Fm) (m : List Nat) (Hs H1 : Hp) (J : It) (its : List DT) : Prop where
  go : ∀ i H, Kp m fm.O H1 H → i < its.length → J.go i H
  stop : ∀ i H, Kp m fm.O H1 H → i = its.length → J.stop i H
  yld : ∀ i H v H', Kp m fm.O H1 H → J.yld i H v H' → Same H H' ∧ ∀ x, its[i]? = some x → VRt K fm Hs H1 H' x v
def tI (cf : Cf) (K : PySem.W.Frag) (W : WC) (src : Src) : TI := fun σ H R => ∃ fm ρ, SR cf K fm ρ σ H ∧ match evSrc cf src ρ with
  | .ok its => ∀ J H1, Same H H1 → (∀ m, (∀ j ∈ its.2, j ∉ m) → ItOk K fm m H H1 J its.1) → its.1.length ≤ sizeLine → R J H1
  | .exc c => ∀ H', Same H H' → W c σ H'
  | .bad => False
section
variable {X : Cx} {tg l : Expr} {tl : TE}
theorem _root_.L2.PI.mono' {it : Expr} {t t' : TI} (h : PI X tg it t) (q : ∀ σ H Q, t' σ H Q → t σ H Q) : PI X tg it t' := ⟨fun pins s σ H R I w => h.run pins s σ H R I (q σ H R w)⟩
/-- a list, a tuple or a text -/
theorem pi_alt (hl : PE X l tl) : PI X tg l (fun σ H R => tl σ H fun x H1 => (∃ a xs, x = .ref a ∧ SqL X.K H1 a xs ∧ (xs.length ≤ sizeLine → R (Itl X.K a) H1)) ∨ (∃ a xs, x = .ref a ∧ SqT X.K H1 a xs ∧ (xs.length ≤ sizeLine → R (Itt X.K a) H1)) ∨ ∃ z, x = .str z ∧ R (Its z) H1) := by
  refine ⟨fun pins s σ H R I h => ?_⟩
  refine thn (hl.run pins s σ H _ I h) fun v s1 ⟨x, H1, I1, r1, q1⟩ => ?_
  rcases q1 with ⟨a, xs, e, hq, q⟩ | ⟨a, xs, e, hq, q⟩ | ⟨z, e, q⟩
  · subst e
    cases r1
    obtain ⟨its, rv, p, hz⟩ := I1.list hq
    refine wpAny_pyIter_list p.isList ?_
    refine ⟨s1.heap.objs.size, [s1.heap.objs.size], _, _, H1, rfl, I1.kept (t' := s1.toks) fun b o e => Heap.get?_push_of_some _ e, turn_list a _, ⟨_, Heap.get?_push_size _ rfl, rfl, rfl⟩, fun b hb => ?_, q hz⟩
    have e : b = s1.heap.objs.size := by simpa using hb
    subst e
    exact I1.fpOk (Nat.le_refl _) (I1.hok.fresh (Nat.le_refl _))
  · subst e
    cases r1
    obtain ⟨its, rv, p, hz⟩ := I1.tuple hq
    refine wpAny_pyIter_tuple (show s1.heap.IsTuple a its.toArray from p) ?_
    refine ⟨s1.heap.objs.size, [s1.heap.objs.size], _, _, H1, rfl, I1.kept (t' := s1.toks) fun b o e => Heap.get?_push_of_some _ e, turn_tuple a _, ⟨_, Heap.get?_push_size _ rfl, rfl, rfl⟩, fun b hb => ?_, q hz⟩
    have e : b = s1.heap.objs.size := by simpa using hb
    subst e
    exact I1.fpOk (Nat.le_refl _) (I1.hok.fresh (Nat.le_refl _))
  · subst e
    obtain ⟨t, rfl⟩ := r1
    cases ha : z.cps.all (· < 128)
    · exact wpAny_pyIter_wide ha (pi_one (tk := s1.toks) I1 _ (turn_str _ z t "str_iterator" (.inr rfl)) ⟨_, Heap.get?_push_size _ rfl, rfl, rfl⟩ q)
    · exact wpAny_pyIter_ascii ha (pi_one (tk := s1.toks) I1 _ (turn_str _ z t "str_ascii_iterator" (.inl rfl)) ⟨_, Heap.get?_push_size _ rfl, rfl, rfl⟩ q)
end
/-- the items of a walked thing, as values -/
structure Walked (K : PySem.W.Frag) (fm : Fm) (m : List Nat) (Hs H1 : Hp) (its : List DT) (vs : List V) : Prop where
  len : its.length = vs.length
  at' : ∀ H, Kp m fm.O H1 H → ∀ (i : Nat) x v, its[i]? = some x → vs[i]? = some v → VRt K fm Hs H1 H x v
  ns : ∀ (i : Nat) x, its[i]? = some x → isScr x.1 = false
section
variable {K : PySem.W.Frag} {fm : Fm} {m : List Nat} {Hs H1 : Hp} {t : Tag} {v : V}
theorem walked_imms {is : List I} {vs : List V} (f : FmAt fm H1) (r : RepIs K H1 is vs) (t : Tag) : Walked K fm m Hs H1 (kids t (is.map .imm)) vs where
  len := by unfold kids; rw [List.length_map, List.length_map]; exact RepIs.len r
  at' := fun H k i x v hx hv => by
    unfold kids at hx
    rw [List.map_map, List.getElem?_map, Option.map_eq_some_iff] at hx
    obtain ⟨y, hy, rfl⟩ := hx
    obtain ⟨v', e, rr⟩ := RepIs.get r hy
    rw [hv] at e; cases e
    exact .imm (rr.keep (Kp.keep f k))
  ns := fun i x hx => by
    unfold kids at hx
    rw [List.map_map, List.getElem?_map, Option.map_eq_some_iff] at hx
    obtain ⟨y, hy, rfl⟩ := hx
    rfl
theorem walked_ds {ds : List D} {vs : List V} {q : AP'} (f : FmAt fm H1) (hq : ∀ a, q a → NdI fm t Hs a) (hm : ∀ j, (j, true) ∈ t.bw → j ∉ m) (r : Reps K H1 q ds vs) : Walked K fm m Hs H1 (kids t ds) vs where
  len := by unfold kids; rw [List.length_map]; exact Reps.len r
  at' := fun H k i x v hx hv => by
    unfold kids at hx
    rw [List.getElem?_map, Option.map_eq_some_iff] at hx
    obtain ⟨y, hy, rfl⟩ := hx
    obtain ⟨v', e, _, rr⟩ := Reps.get (Reps.trk r) hy
    rw [hv] at e; cases e
    have rr2 := Rep.keep (p' := fun a => NdI fm t Hs a ∧ H1 a ≠ none) (q' := fun a => NdI fm t Hs a ∧ H1 a ≠ none) (Kp.keep f k) (fun a z => ⟨fun j hj o => hm j ((hq a z.1).2.2.2.1 j o) hj, hq a z.1, z.2⟩) (fun a z => ⟨fun j hj o => hm j ((hq a z.1).2.2.2.1 j o) hj, hq a z.1, z.2⟩) rr
    cases y with
    | imm i => cases rr2 with | imm h => exact .imm h
    | _ => exact Rep.weak (fun a z => ⟨NdR.child z.1, z.2⟩) (fun a z => ⟨NdI.child z.1, z.2⟩) rr2
  ns := fun i x hx => by
    unfold kids at hx
    rw [List.getElem?_map, Option.map_eq_some_iff] at hx
    obtain ⟨y, hy, rfl⟩ := hx
    obtain ⟨v', e, z, rr⟩ := Reps.get r hy
    cases y <;> first | rfl | exact z
/-- how a value is walked -/
inductive Kind (K : PySem.W.Frag) (fm : Fm) (m : List Nat) (Hs H1 : Hp) (its : List DT) : D → V → Prop
  | l {x : D} {a : Addr} {vs : List V} : isT x = false → SqL K H1 a vs → (∀ H, Kp m fm.O H1 H → SqL K H a vs) → Walked K fm m Hs H1 its vs → Kind K fm m Hs H1 its x (.ref a)
  | t {x : D} {a : Addr} {vs : List V} : isT x = true → SqT K H1 a vs → (∀ H, Kp m fm.O H1 H → SqT K H a vs) → Walked K fm m Hs H1 its vs → Kind K fm m Hs H1 its x (.ref a)
  | s {x : D} {z : Str} : its = z.cps.toList.map (fun c => pim (.str ⟨#[c]⟩)) → z.length ≤ sizeLine → Kind K fm m Hs H1 its x (.str z)
theorem kind_of {x : D} {its : List DT × List Nat} (f : FmAt fm H1) (r : VR K fm Hs H1 (x, t) v) (e : itemsT (x, t) = .ok its) (hm : ∀ j ∈ its.2, j ∉ m) : Kind K fm m Hs H1 its.1 x v := by
  have tk : ∀ {a vs}, SqT K H1 a vs → ∀ H, Kp m fm.O H1 H → SqT K H a vs := fun h H k => (Kp.keep f k).t _ _ h
  cases r with
  | imm ri =>
    cases ri with
    | tup h r =>
      rename_i xs
      have e : M.ok (kids t (xs.map D.imm), ([] : List Nat)) = M.ok its := e
      cases e
      exact .t rfl h (tk h) (walked_imms f r t)
    | str z =>
      have e : (if (decide (sizeLine < z.length)) = true then M.bad else M.ok (kids t (z.cps.toList.map fun c => D.imm (.str ⟨#[c]⟩)), ([] : List Nat))) = M.ok its := e
      by_cases c : sizeLine < z.length
      · rw [if_pos (decide_eq_true c)] at e; cases e
      · rw [if_neg (by simpa using c)] at e
        cases e
        refine .s ?_ (by omega)
        unfold kids
        rw [List.map_map]
        rfl
    | non => cases e
    | bl b => cases e
    | int b => cases e
    | dic h => cases e
    | exc h => cases e
    | dk h => cases e
    | dt h => cases e
  | lsi h ha r =>
    rename_i a vs xs
    have e : M.ok (kids t (xs.map D.imm), bwOf t) = M.ok its := e
    cases e
    have hl : ∀ H, Kp m fm.O H1 H → SqL K H a vs := fun H k => .inl (.inl (k _ _ ha fun j hj o => by
      obtain ⟨b, hb⟩ := h.2.2.2.1 j o
      exact hm j (List.mem_map.mpr ⟨_, hb, rfl⟩) hj))
    exact .l rfl (.inl (.inl ha)) hl (walked_imms f r t)
  | lsd h ha r =>
    rename_i a vs ds
    have e : M.ok (kids t ds, bwOf t) = M.ok its := e
    cases e
    have hl : ∀ H, Kp m fm.O H1 H → SqL K H a vs := fun H k => .inl (.inl (k _ _ ha fun j hj o => by
      obtain ⟨b, hb⟩ := h.2.2.2.1 j o
      exact hm j (List.mem_map.mpr ⟨_, hb, rfl⟩) hj))
    exact .l rfl (.inl (.inl ha)) hl (walked_ds f (fun a z => z.1) (fun j hj => hm j (List.mem_map.mpr ⟨_, hj, rfl⟩)) r)
  | tpd h r =>
    rename_i a vs ds
    have e : M.ok (kids t ds, bwOf t) = M.ok its := e
    cases e
    exact .t rfl h (tk h) (walked_ds f (fun a z => z) (fun j hj => hm j (List.mem_map.mpr ⟨_, hj, rfl⟩)) r)
  | scr h ha =>
    rename_i a ns
    have e : M.ok (kids t (ns.map fun n => D.imm (.int n)), bwOf t) = M.ok its := e
    cases e
    have hl : ∀ H, Kp m fm.O H1 H → SqL K H a (ns.map V.int) := fun H k => .inl ((Kp.keep (K := K) f k).s _ _ (fun j hj o => by
      obtain ⟨b, hb⟩ := h.2.2.2.1 j o
      exact hm j (List.mem_map.mpr ⟨_, hb, rfl⟩) hj) ha)
    have ri : RepIs K H1 (ns.map .int) (ns.map V.int) := RepIs.ofInts ns
    have w := walked_imms (m := m) (Hs := Hs) f ri t
    rw [List.map_map] at w
    exact .l rfl (.inl ha) hl w
  | scrK h =>
    rename_i a ns
    have e : M.ok (kids t (ns.map fun n => D.imm (.int n)), bwOf t) = M.ok its := e
    cases e
    have ri : RepIs K H1 (ns.map .int) (ns.map V.int) := RepIs.ofInts ns
    have w := walked_imms (m := m) (Hs := Hs) f ri t
    rw [List.map_map] at w
    exact .l rfl (h H1) (fun H _ => h H) w
theorem Walked.get {its : List DT} {vs : List V} (w : Walked K fm m Hs H1 its vs) {i : Nat} (h : i < its.length) : ∃ v, vs[i]? = some v := ⟨vs[i]'(by rw [← w.len]; exact h), by simp⟩
/-- a list walked -/
theorem itok_l {a : Addr} {vs : List V} {its : List DT} (hs : ∀ H, Kp m fm.O H1 H → SqL K H a vs) (w : Walked K fm m Hs H1 its vs) : ItOk K fm m Hs H1 (Itl K a) its where
  go := fun i H k h => let ⟨v, e⟩ := w.get h; ⟨vs, v, hs H k, e⟩
  stop := fun i H k h' => have h := Nat.le_of_eq h'.symm; ⟨vs, hs H k, by rw [← w.len]; exact h⟩
  yld := fun i H v H' k y => by
    obtain ⟨rfl, y⟩ := y
    exact ⟨Same.refl, fun x hx => w.at' _ k i x v hx (y vs (hs _ k))⟩
theorem itok_t {a : Addr} {vs : List V} {its : List DT} (hs : ∀ H, Kp m fm.O H1 H → SqT K H a vs) (w : Walked K fm m Hs H1 its vs) : ItOk K fm m Hs H1 (Itt K a) its where
  go := fun i H k h => let ⟨v, e⟩ := w.get h; ⟨vs, v, hs H k, e⟩
  stop := fun i H k h' => have h := Nat.le_of_eq h'.symm; ⟨vs, hs H k, by rw [← w.len]; exact h⟩
  yld := fun i H v H' k y => by
    obtain ⟨rfl, y⟩ := y
    exact ⟨Same.refl, fun x hx => w.at' _ k i x v hx (y vs (hs _ k))⟩
theorem itok_s {z : Str} : ItOk K fm m Hs H1 (Its z) (z.cps.toList.map fun c => pim (.str ⟨#[c]⟩)) where
  go := fun i H k h => by show i < z.cps.size; simpa using h
  stop := fun i H k h' => have h := Nat.le_of_eq h'.symm; by show z.cps.size ≤ i; simpa using h
  yld := fun i H v H' k y => by
    obtain ⟨rfl, c, hc, rfl⟩ := y
    refine ⟨Same.refl, fun x hx => ?_⟩
    rw [List.getElem?_map, Option.map_eq_some_iff] at hx
    obtain ⟨c', h1, rfl⟩ := hx
    rw [Array.getElem?_toList, hc] at h1
    cases h1
    exact .imm (.str _)
theorem itok_r {lo hi : Int} : ItOk K fm m Hs H1 (Itr lo (hi - lo).toNat) (rangeL lo hi) where
  go := fun i H k h => by unfold rangeL at h; rw [List.length_map, List.length_range] at h; exact h
  stop := fun i H k h' => have h := Nat.le_of_eq h'.symm; by unfold rangeL at h; rw [List.length_map, List.length_range] at h; exact h
  yld := fun i H v H' k y => by
    obtain ⟨rfl, rfl⟩ := y
    refine ⟨Same.refl, fun x hx => ?_⟩
    unfold rangeL at hx
    rw [List.getElem?_map, Option.map_eq_some_iff] at hx
    obtain ⟨c', h1, rfl⟩ := hx
    rw [List.getElem?_range (by
      have := (List.getElem?_eq_some_iff.mp h1).1
      simpa using this)] at h1
    cases h1
    exact .imm (.int _)
/-- reversed -/
theorem itok_v {a : Addr} {vs : List V} {its : List DT} (hs : ∀ H, Kp m fm.O H1 H → SqL K H a vs) (w : Walked K fm m Hs H1 its vs) : ItOk K fm m Hs H1 (Itv K a vs.length) its.reverse where
  go := fun i H k h => by
    rw [List.length_reverse] at h
    have h' : i < vs.length := by rw [← w.len]; exact h
    exact ⟨h', vs, vs[vs.length - 1 - i]'(by omega), hs H k, by simp⟩
  stop := fun i H k h' => have h := Nat.le_of_eq h'.symm; by rw [List.length_reverse] at h; show vs.length ≤ i; rw [← w.len]; exact h
  yld := fun i H v H' k y => by
    obtain ⟨rfl, y⟩ := y
    refine ⟨Same.refl, fun x hx => ?_⟩
    have hi : i < its.length := by have := (List.getElem?_eq_some_iff.mp hx).1; simpa using this
    rw [List.getElem?_reverse hi] at hx
    exact w.at' _ k _ x v hx (by rw [w.len]; exact y vs (hs _ k))
theorem itok_vt {a : Addr} {vs : List V} {its : List DT} (hs : ∀ H, Kp m fm.O H1 H → SqT K H a vs) (w : Walked K fm m Hs H1 its vs) : ItOk K fm m Hs H1 (RT.ItvT K a vs.length) its.reverse where
  go := fun i H k h => by
    rw [List.length_reverse] at h
    have h' : i < vs.length := by rw [← w.len]; exact h
    exact ⟨h', vs, vs[vs.length - 1 - i]'(by omega), hs H k, by simp⟩
  stop := fun i H k h' => have h := Nat.le_of_eq h'.symm; by rw [List.length_reverse] at h; show vs.length ≤ i; rw [← w.len]; exact h
  yld := fun i H v H' k y => by
    obtain ⟨rfl, y⟩ := y
    refine ⟨Same.refl, fun x hx => ?_⟩
    have hi : i < its.length := by have := (List.getElem?_eq_some_iff.mp hx).1; simpa using this
    rw [List.getElem?_reverse hi] at hx
    exact w.at' _ k _ x v hx (by rw [w.len]; exact y vs (hs _ k))
theorem mkP_rd {H : Hp} {x y : DT} {u v : V} {T : Addr} (hT : SqT K H T [u, v]) (r1 : VRt K fm Hs H1 H x u) (r2 : VRt K fm Hs H1 H y v) (z1 : isScr x.1 = false) (z2 : isScr y.1 = false) : VRt K fm Hs H1 H (mkP x y) (.ref T) := by
  obtain ⟨x, t1⟩ := x
  obtain ⟨y, t2⟩ := y
  have gen : (∀ a, NdI fm (tagsOf [(x, t1), (y, t2)]).root Hs a → True) → Rep K H (fun a => NdR fm (tagsOf [(x, t1), (y, t2)]).root Hs a ∧ H1 a ≠ none) (fun a => NdI fm (tagsOf [(x, t1), (y, t2)]).root Hs a ∧ H1 a ≠ none) (.tpd [x, y]) (.ref T) := fun _ => by
    have one : ∀ {d : D} {t : Tag} {w : V}, VRt K fm Hs H1 H (d, t) w → (∀ a, isScr d = false → (∃ i, d = .imm i) ∨ t.root.le (tagsOf [(x, t1), (y, t2)]).root) → isScr d = false → Rep K H (fun a => NdI fm (tagsOf [(x, t1), (y, t2)]).root Hs a ∧ H1 a ≠ none) (fun a => NdI fm (tagsOf [(x, t1), (y, t2)]).root Hs a ∧ H1 a ≠ none) d w := fun {d t w} r h z => by
      rcases h T z with ⟨i, rfl⟩ | h
      · cases r with | imm r => exact .imm r
      · exact Rep.weak (fun a n => ⟨NdI.le h (NdI.ofR n.1), n.2⟩) (fun a n => ⟨NdI.le h (NdI.ofI n.1), n.2⟩) r
    have jl : ∀ (t s : Tag), t.root.le (t.join s).root := fun t s => ⟨Nat.le_max_left _ _, fun j hj => by
      obtain ⟨p, hp, e⟩ := List.mem_map.mp hj
      exact List.mem_map.mpr ⟨p, List.mem_append_left _ hp, e⟩⟩
    have jr : ∀ (t s : Tag), s.root.le (t.join s).root := fun t s => ⟨Nat.le_max_right _ _, fun j hj => by
      obtain ⟨p, hp, e⟩ := List.mem_map.mp hj
      exact List.mem_map.mpr ⟨p, List.mem_append_right _ hp, e⟩⟩
    have tr : ∀ {a b c : Tag}, a.le b → b.le c → a.le c := fun h h' => ⟨Nat.le_trans h.1 h'.1, fun j hj => h'.2 j (h.2 j hj)⟩
    refine .tpd hT (.cons z1 (one r1 (fun a z => ?_) z1) (.cons z2 (one r2 (fun a z => ?_) z2) .nil))
    · cases x with
      | imm i => exact .inl ⟨i, rfl⟩
      | _ => exact .inr (jl _ _)
    · cases y with
      | imm i => exact .inl ⟨i, rfl⟩
      | _ =>
        cases x with
        | imm i => exact .inr (jl _ _)
        | _ => exact .inr (tr (jl _ _) (jr _ _))
  cases x with
  | imm i =>
    cases y with
    | imm j =>
      cases r1 with | imm r1 => cases r2 with | imm r2 => exact .imm (.tup hT (.cons r1 (.cons r2 .nil)))
    | _ => exact gen fun _ _ => trivial
  | _ => exact gen fun _ _ => trivial
theorem tags_le' (e : D) (s : Tag) (r : List DT) (d : D) (t : Tag) (he : ∀ q : Tag, tagsOf ((e, q) :: r) = q.join (tagsOf r)) (h : (d, t) ∈ (e, s) :: r) (ih : ∀ (d : D) (t : Tag), (d, t) ∈ r → (∃ i, d = .imm i) ∨ t.root.le (tagsOf r).root) : (∃ i, d = .imm i) ∨ t.root.le (tagsOf ((e, s) :: r)).root := by
    rw [he]
    rcases List.mem_cons.mp h with h | h
    · cases h
      exact .inr ⟨Nat.le_max_left _ _, fun j hj => by
        obtain ⟨p, hp, e⟩ := List.mem_map.mp hj
        exact List.mem_map.mpr ⟨p, List.mem_append_left _ hp, e⟩⟩
    · rcases ih d t h with q | q
      · exact .inl q
      · exact .inr ⟨Nat.le_trans q.1 (Nat.le_max_right _ _), fun j hj => by
          obtain ⟨p, hp, e⟩ := List.mem_map.mp (q.2 j hj)
          exact List.mem_map.mpr ⟨p, List.mem_append_right _ hp, e⟩⟩
theorem tags_le : ∀ (xs : List DT) (d : D) (t : Tag), (d, t) ∈ xs → (∃ i, d = .imm i) ∨ t.root.le (tagsOf xs).root
  | (.imm i, s) :: r, d, t, h => by
    rcases List.mem_cons.mp h with h | h
    · cases h; exact .inl ⟨i, rfl⟩
    · exact tags_le r d t h
  | (.lsi a, s) :: r, d, t, h => tags_le' (.lsi a) s r d t (fun _ => rfl) h (tags_le r)
  | (.lsd a, s) :: r, d, t, h => tags_le' (.lsd a) s r d t (fun _ => rfl) h (tags_le r)
  | (.tpd a, s) :: r, d, t, h => tags_le' (.tpd a) s r d t (fun _ => rfl) h (tags_le r)
  | (.scr a, s) :: r, d, t, h => tags_le' (.scr a) s r d t (fun _ => rfl) h (tags_le r)
theorem mkP3_rd {H : Hp} {x y z : DT} {u v w : V} {T : Addr} (hT : SqT K H T [u, v, w]) (r1 : VRt K fm Hs H1 H x u) (r2 : VRt K fm Hs H1 H y v) (r3 : VRt K fm Hs H1 H z w) (z1 : isScr x.1 = false) (z2 : isScr y.1 = false) (z3 : isScr z.1 = false) : VRt K fm Hs H1 H (mkP3 x y z) (.ref T) := by
  have gen : Rep K H (fun a => NdR fm (tagsOf [x, y, z]).root Hs a ∧ H1 a ≠ none) (fun a => NdI fm (tagsOf [x, y, z]).root Hs a ∧ H1 a ≠ none) (.tpd [x.1, y.1, z.1]) (.ref T) := by
    have one : ∀ (q : DT) (w : V), q ∈ [x, y, z] → VRt K fm Hs H1 H q w → Rep K H (fun a => NdI fm (tagsOf [x, y, z]).root Hs a ∧ H1 a ≠ none) (fun a => NdI fm (tagsOf [x, y, z]).root Hs a ∧ H1 a ≠ none) q.1 w := fun q w hq r => by
      obtain ⟨d, t⟩ := q
      rcases tags_le _ d t hq with ⟨i, rfl⟩ | h
      · cases r with | imm r => exact .imm r
      · exact Rep.weak (fun a n => ⟨NdI.le h (NdI.ofR n.1), n.2⟩) (fun a n => ⟨NdI.le h (NdI.ofI n.1), n.2⟩) r
    exact .tpd hT (.cons z1 (one x u (by simp) r1) (.cons z2 (one y v (by simp) r2) (.cons z3 (one z w (by simp) r3) .nil)))
  obtain ⟨x, t1⟩ := x
  obtain ⟨y, t2⟩ := y
  obtain ⟨z, t3⟩ := z
  cases x with
  | imm i =>
    cases y with
    | imm j =>
      cases z with
      | imm k => cases r1 with | imm r1 => cases r2 with | imm r2 => cases r3 with | imm r3 => exact .imm (.tup hT (.cons r1 (.cons r2 (.cons r3 .nil))))
      | _ => exact gen
    | _ => exact gen
  | _ => exact gen
theorem zip3_get : ∀ {xs ys zs : List DT} {i : Nat} {p : DT}, (zipD3 xs ys zs)[i]? = some p → ∃ x y z, xs[i]? = some x ∧ ys[i]? = some y ∧ zs[i]? = some z ∧ p = mkP3 x y z
  | x :: xs, y :: ys, z :: zs, 0, p, h => by cases h; exact ⟨x, y, z, rfl, rfl, rfl, rfl⟩
  | x :: xs, y :: ys, z :: zs, i + 1, p, h => zip3_get (xs := xs) (ys := ys) (zs := zs) (i := i) h
  | [], _, _, _, _, h => by simp [zipD3] at h
  | _ :: _, [], _, _, _, h => by simp [zipD3] at h
  | _ :: _, _ :: _, [], _, _, h => by simp [zipD3] at h
theorem zip3_len : ∀ {xs ys zs : List DT}, (zipD3 xs ys zs).length = min (min xs.length ys.length) zs.length
  | x :: xs, y :: ys, z :: zs => by simp only [zipD3, List.length_cons, zip3_len (xs := xs) (ys := ys) (zs := zs)]; omega
  | [], _, _ => by simp [zipD3]
  | _ :: _, [], _ => by simp [zipD3]
  | _ :: _, _ :: _, [] => by simp [zipD3]
theorem zip_get : ∀ {xs ys : List DT} {i : Nat} {p : DT}, (zipD xs ys)[i]? = some p → ∃ x y, xs[i]? = some x ∧ ys[i]? = some y ∧ p = mkP x y
  | x :: xs, y :: ys, 0, p, h => by cases h; exact ⟨x, y, rfl, rfl, rfl⟩
  | x :: xs, y :: ys, i + 1, p, h => zip_get (xs := xs) (ys := ys) (i := i) h
  | [], _, _, _, h => by simp [zipD] at h
  | _ :: _, [], _, _, h => by simp [zipD] at h
theorem zip_len : ∀ {xs ys : List DT}, (zipD xs ys).length = min xs.length ys.length
  | x :: xs, y :: ys => by simp only [zipD, List.length_cons, zip_len (xs := xs) (ys := ys)]; omega
  | [], _ => by simp [zipD]
  | _ :: _, [] => by simp [zipD]
theorem enm_get : ∀ {xs : List DT} {n i : Nat} {p : DT}, (enmD n xs)[i]? = some p → ∃ x, xs[i]? = some x ∧ p = mkP (pim (.int ((n + i : Nat) : Int))) x
  | x :: xs, n, 0, p, h => by cases h; exact ⟨x, rfl, rfl⟩
  | x :: xs, n, i + 1, p, h => by
    obtain ⟨y, h1, h2⟩ := enm_get (xs := xs) (n := n + 1) (i := i) h
    exact ⟨y, h1, by rw [h2, show n + 1 + i = n + (i + 1) by omega]⟩
  | [], _, _, _, h => by simp [enmD] at h
theorem enm_len : ∀ {xs : List DT} {n : Nat}, (enmD n xs).length = xs.length
  | x :: xs, n => by simp [enmD, enm_len (xs := xs)]
  | [], _ => rfl
theorem VRt.same {H H' : Hp} (s : Same H H') {x : DT} {v : V} (r : VRt K fm Hs H1 H x v) : VRt K fm Hs H1 H' x v := Rep.same s r
theorem itok_zl {a b : Addr} {vs ws : List V} {xs ys : List DT} (ha : ∀ H, Kp m fm.O H1 H → SqL K H a vs) (hb : ∀ H, Kp m fm.O H1 H → SqL K H b ws) (w1 : Walked K fm m Hs H1 xs vs) (w2 : Walked K fm m Hs H1 ys ws) : ItOk K fm m Hs H1 (Itz K a b) (zipD xs ys) where
  go := fun i H k h => by
    rw [zip_len] at h
    obtain ⟨v, e⟩ := w1.get (i := i) (by omega)
    obtain ⟨u, e'⟩ := w2.get (i := i) (by omega)
    exact ⟨vs, ws, v, u, ha H k, hb H k, e, e'⟩
  stop := fun i H k h' => have h := Nat.le_of_eq h'.symm; ⟨vs, ws, ha H k, hb H k, by rw [zip_len, w1.len, w2.len] at h; omega⟩
  yld := fun i H v H' k y => by
    obtain ⟨T, p, q, rfl, hT, rfl, y1, y2⟩ := y
    refine ⟨Same.new hT, fun x hx => ?_⟩
    obtain ⟨x1, x2, e1, e2, rfl⟩ := zip_get hx
    exact mkP_rd (.inl (.inl upd_same)) ((w1.at' _ k i x1 p e1 (y1 vs (ha _ k))).same (Same.new hT)) ((w2.at' _ k i x2 q e2 (y2 ws (hb _ k))).same (Same.new hT)) (w1.ns i x1 e1) (w2.ns i x2 e2)
theorem itok_zt {a b : Addr} {vs ws : List V} {xs ys : List DT} (ha : ∀ H, Kp m fm.O H1 H → SqT K H a vs) (hb : ∀ H, Kp m fm.O H1 H → SqT K H b ws) (w1 : Walked K fm m Hs H1 xs vs) (w2 : Walked K fm m Hs H1 ys ws) : ItOk K fm m Hs H1 (RZ.ItzT K a b) (zipD xs ys) where
  go := fun i H k h => by
    rw [zip_len] at h
    obtain ⟨v, e⟩ := w1.get (i := i) (by omega)
    obtain ⟨u, e'⟩ := w2.get (i := i) (by omega)
    exact ⟨vs, ws, v, u, ha H k, hb H k, e, e'⟩
  stop := fun i H k h' => have h := Nat.le_of_eq h'.symm; ⟨vs, ws, ha H k, hb H k, by rw [zip_len, w1.len, w2.len] at h; omega⟩
  yld := fun i H v H' k y => by
    obtain ⟨T, p, q, rfl, hT, rfl, y1, y2⟩ := y
    refine ⟨Same.new hT, fun x hx => ?_⟩
    obtain ⟨x1, x2, e1, e2, rfl⟩ := zip_get hx
    exact mkP_rd (.inl (.inl upd_same)) ((w1.at' _ k i x1 p e1 (y1 vs (ha _ k))).same (Same.new hT)) ((w2.at' _ k i x2 q e2 (y2 ws (hb _ k))).same (Same.new hT)) (w1.ns i x1 e1) (w2.ns i x2 e2)
theorem itok_zk {ka kb : Bool} {a b : Addr} {vs ws : List V} {xs ys : List DT} (ha : ∀ H, Kp m fm.O H1 H → Sqk K ka H a vs) (hb : ∀ H, Kp m fm.O H1 H → Sqk K kb H b ws) (w1 : Walked K fm m Hs H1 xs vs) (w2 : Walked K fm m Hs H1 ys ws) : ItOk K fm m Hs H1 (Itzk K ka kb a b) (zipD xs ys) where
  go := fun i H k h => by
    rw [zip_len] at h
    obtain ⟨v, e⟩ := w1.get (i := i) (by omega)
    obtain ⟨u, e'⟩ := w2.get (i := i) (by omega)
    exact ⟨vs, ws, v, u, ha H k, hb H k, e, e'⟩
  stop := fun i H k h => ⟨vs, ws, ha H k, hb H k, by rw [zip_len, w1.len, w2.len] at h; omega⟩
  yld := fun i H v H' k y => by
    obtain ⟨T, p, q, rfl, hT, rfl, y1, y2⟩ := y
    refine ⟨Same.new hT, fun x hx => ?_⟩
    obtain ⟨x1, x2, e1, e2, rfl⟩ := zip_get hx
    exact mkP_rd (.inl (.inl upd_same)) ((w1.at' _ k i x1 p e1 (y1 vs (ha _ k))).same (Same.new hT)) ((w2.at' _ k i x2 q e2 (y2 ws (hb _ k))).same (Same.new hT)) (w1.ns i x1 e1) (w2.ns i x2 e2)
theorem itok_z3 {ka kb kc : Bool} {a b c : Addr} {vs ws us : List V} {xs ys zs : List DT} (ha : ∀ H, Kp m fm.O H1 H → Sqk K ka H a vs) (hb : ∀ H, Kp m fm.O H1 H → Sqk K kb H b ws) (hc : ∀ H, Kp m fm.O H1 H → Sqk K kc H c us) (w1 : Walked K fm m Hs H1 xs vs) (w2 : Walked K fm m Hs H1 ys ws) (w3 : Walked K fm m Hs H1 zs us) : ItOk K fm m Hs H1 (Itz3k K ka kb kc a b c) (zipD3 xs ys zs) where
  go := fun i H k h => by
    rw [zip3_len] at h
    obtain ⟨v, e⟩ := w1.get (i := i) (by omega)
    obtain ⟨u, e'⟩ := w2.get (i := i) (by omega)
    obtain ⟨t, e''⟩ := w3.get (i := i) (by omega)
    exact ⟨vs, ws, us, v, u, t, ha H k, hb H k, hc H k, e, e', e''⟩
  stop := fun i H k h => ⟨vs, ws, us, ha H k, hb H k, hc H k, by rw [zip3_len, w1.len, w2.len, w3.len] at h; omega⟩
  yld := fun i H v H' k y => by
    obtain ⟨T, p, q, r, rfl, hT, rfl, y1, y2, y3⟩ := y
    refine ⟨Same.new hT, fun x hx => ?_⟩
    obtain ⟨x1, x2, x3, e1, e2, e3, rfl⟩ := zip3_get hx
    exact mkP3_rd (.inl (.inl upd_same)) ((w1.at' _ k i x1 p e1 (y1 vs (ha _ k))).same (Same.new hT)) ((w2.at' _ k i x2 q e2 (y2 ws (hb _ k))).same (Same.new hT)) ((w3.at' _ k i x3 r e3 (y3 us (hc _ k))).same (Same.new hT)) (w1.ns i x1 e1) (w2.ns i x2 e2) (w3.ns i x3 e3)
theorem itok_ent {a : Addr} {vs : List V} {xs : List DT} (ha : ∀ H, Kp m fm.O H1 H → SqT K H a vs) (w1 : Walked K fm m Hs H1 xs vs) : ItOk K fm m Hs H1 (IteT K a) (enmD 0 xs) where
  go := fun i H k h => by
    rw [enm_len] at h
    obtain ⟨v, e⟩ := w1.get (i := i) h
    exact ⟨vs, v, ha H k, e⟩
  stop := fun i H k h' => have h := Nat.le_of_eq h'.symm; ⟨vs, ha H k, by rw [enm_len, w1.len] at h; exact h⟩
  yld := fun i H v H' k y => by
    obtain ⟨T, p, rfl, hT, rfl, y1⟩ := y
    refine ⟨Same.new hT, fun x hx => ?_⟩
    obtain ⟨x1, e1, rfl⟩ := enm_get hx
    rw [Nat.zero_add]
    exact mkP_rd (.inl (.inl upd_same)) (.imm (.int _)) ((w1.at' _ k i x1 p e1 (y1 vs (ha _ k))).same (Same.new hT)) rfl (w1.ns i x1 e1)
theorem itok_en {a : Addr} {vs : List V} {xs : List DT} (ha : ∀ H, Kp m fm.O H1 H → SqL K H a vs) (w1 : Walked K fm m Hs H1 xs vs) : ItOk K fm m Hs H1 (Ite K a) (enmD 0 xs) where
  go := fun i H k h => by
    rw [enm_len] at h
    obtain ⟨v, e⟩ := w1.get (i := i) h
    exact ⟨vs, v, ha H k, e⟩
  stop := fun i H k h' => have h := Nat.le_of_eq h'.symm; ⟨vs, ha H k, by rw [enm_len, w1.len] at h; exact h⟩
  yld := fun i H v H' k y => by
    obtain ⟨T, p, rfl, hT, rfl, y1⟩ := y
    refine ⟨Same.new hT, fun x hx => ?_⟩
    obtain ⟨x1, e1, rfl⟩ := enm_get hx
    rw [Nat.zero_add]
    exact mkP_rd (.inl (.inl upd_same)) (.imm (.int _)) ((w1.at' _ k i x1 p e1 (y1 vs (ha _ k))).same (Same.new hT)) rfl (w1.ns i x1 e1)
end
end Iv

/-! Iv L: sources, comprehensions. -/
namespace Iv
open PySem PySem.Spec L2
open PyProof.Rows hiding St

/-- lists and tuples have a largest length -/
def Lens (K : PySem.W.Frag) (H : Hp) : Prop := ∀ a vs, SqL K H a vs ∨ SqT K H a vs → vs.length ≤ sizeLine
section
variable {g : Gs} {cf : Cf} {k : Nat} {X : Cx} {sc : Scope} {cl : Str → Bool} {W : WC} {a b : E} {ea eb tg : Expr} {pos p : Pos}
theorem _root_.L2.PE.lens {t : TE} (h : PE X ea t) : PE X ea (fun σ H Q => t σ H fun v H1 => Lens X.K H1 → Q v H1) := ⟨fun pins s σ H Q I w => thn (h.run pins s σ H _ I w) fun u s1 ⟨v, H1, I1, r, q⟩ => ⟨v, H1, I1, r, q fun a vs hs => by
  rcases hs with hs | hs
  · obtain ⟨_, _, _, z⟩ := I1.list hs; exact z
  · obtain ⟨_, _, _, z⟩ := I1.tuple hs; exact z⟩⟩
theorem src_ok {src : Src} {fm : Fm} {ρ : Env} {σ : St} {H : Hp} {R : It → Hp → Prop} {its : List DT × List Nat} (e : evSrc cf src ρ = .ok its) (w : match evSrc cf src ρ with
  | .ok its => ∀ J H1, Same H H1 → (∀ m, (∀ j ∈ its.2, j ∉ m) → ItOk X.K fm m H H1 J its.1) → its.1.length ≤ sizeLine → R J H1
  | .exc c => ∀ H', Same H H' → W c σ H'
  | .bad => False) : ∀ J H1, Same H H1 → (∀ m, (∀ j ∈ its.2, j ∉ m) → ItOk X.K fm m H H1 J its.1) → its.1.length ≤ sizeLine → R J H1 := by
  rw [e] at w; exact w
theorem snd_ex (h : PE X ea (tD cf X.K W a)) : PI X tg ea (tI cf X.K W (.ex a)) :=
  (pi_alt h).mono' fun σ H R ⟨fm, ρ, sr, w⟩ => by
    have w : match (ev cf a ρ).bind fun x => itemsT x with
      | .ok its => ∀ J H1, Same H H1 → (∀ m, (∀ j ∈ its.2, j ∉ m) → ItOk X.K fm m H H1 J its.1) → its.1.length ≤ sizeLine → R J H1
      | .exc c => ∀ H', Same H H' → W c σ H'
      | .bad => False := w
    refine ⟨fm, ρ, sr, ?_⟩
    cases e : ev cf a ρ with
    | bad => rw [e] at w; exact w
    | exc c => rw [e] at w; exact w
    | ok x =>
      rw [e] at w
      simp only [M.bind_ok] at w
      obtain ⟨d, t⟩ := x
      intro v H1 s r
      cases e2 : itemsT (d, t) with
      | bad => rw [e2] at w; exact w.elim
      | exc c => exact absurd e2 (by unfold itemsT; split <;> (try split) <;> (intro z; cases z))
      | ok its =>
        rw [e2] at w
        have w : ∀ J H1, Same H H1 → (∀ m, (∀ j ∈ its.2, j ∉ m) → ItOk X.K fm m H H1 J its.1) → its.1.length ≤ sizeLine → R J H1 := w
        have f := sr.at'.mono s
        have kd := fun m hm => kind_of (m := m) f r e2 hm
        have k0 := kd [] fun _ _ => List.not_mem_nil
        cases k0 with
        | l hx hs hk w0 =>
          refine .inl ⟨_, _, rfl, hs, fun hz => w _ H1 s (fun m hm => ?_) (by rw [w0.len]; exact hz)⟩
          cases kd m hm with
          | l _ hs' hk' w' => exact itok_l hk' w'
          | t hx' _ _ _ => rw [hx] at hx'; cases hx'
        | t hx hs hk w0 =>
          refine .inr (.inl ⟨_, _, rfl, hs, fun hz => w _ H1 s (fun m hm => ?_) (by rw [w0.len]; exact hz)⟩)
          cases kd m hm with
          | t _ hs' hk' w' => exact itok_t hk' w'
          | l hx' _ _ _ => rw [hx] at hx'; cases hx'
        | s he hz =>
          refine .inr (.inr ⟨_, rfl, w _ H1 s (fun m hm => ?_) ?_⟩)
          · rw [he]; exact itok_s
          · rw [he, List.length_map, Array.length_toList]; exact hz
theorem rngL_len {i j : Int} : (rangeL i j).length = (j - i).toNat := by unfold rangeL; simp
theorem snd_r1 {x : Str} (G : Gd g cf k X sc cl W) (hx : x = ("range" : Str)) (hg : sc.names.lookup x = some .globalImplicit) (h : PE X ea (tD cf X.K W a)) (hs : noStar ea = true) : PI X tg (.Call (.Name x p) [ea] [] pos) (tI cf X.K W (.r1 a)) := by
  subst hx
  refine (pi_range1 (show X.env.scope.names.lookup _ = _ by rw [G.sc]; exact hg) (G.bl "range" (by decide)) (pa_cons h pa_nil (star_cons hs)) (star_cons hs)).mono' fun σ H R ⟨fm, ρ, sr, w⟩ => ?_
  have w : match (ev cf a ρ).bind fun x => (asI x).bind fun j => if small62 j ∧ j.toNat ≤ sizeLine then M.ok (rangeL 0 j, ([] : List Nat)) else .bad with
      | .ok its => ∀ J H1, Same H H1 → (∀ m, (∀ j ∈ its.2, j ∉ m) → ItOk X.K fm m H H1 J its.1) → its.1.length ≤ sizeLine → R J H1
      | .exc c => ∀ H', Same H H' → W c σ H'
      | .bad => False := w
  refine ⟨fm, ρ, sr, ?_⟩
  cases e : ev cf a ρ with
  | bad => rw [e] at w; exact w
  | exc c => rw [e] at w; exact w
  | ok x =>
    rw [e] at w
    simp only [M.bind_ok] at w
    intro v H1 s r
    rcases asI_cases x with ⟨i, e1, e2⟩ | e2
    · rw [e2] at w
      simp only [M.bind_ok] at w
      obtain ⟨d, t⟩ := x
      cases e1
      by_cases c : small62 i ∧ i.toNat ≤ sizeLine
      · rw [if_pos c] at w
        refine ⟨i, by rw [repI_int (rep_imm r)], c.1.1, c.1.2, w _ H1 s (fun m _ => ?_) ?_⟩
        · have q := itok_r (K := X.K) (fm := fm) (m := m) (Hs := H) (H1 := H1) (lo := 0) (hi := i)
          rw [show (i - 0).toNat = i.toNat by omega] at q
          exact q
        · rw [rngL_len]; omega
      · rw [if_neg c] at w; exact w.elim
    · rw [e2] at w; exact w.elim
theorem snd_r2 {x : Str} (G : Gd g cf k X sc cl W) (hx : x = ("range" : Str)) (hg : sc.names.lookup x = some .globalImplicit) (h : PE X ea (tD cf X.K W a)) (h' : PE X eb (tD cf X.K W b)) (hs : noStar ea = true) (hs' : noStar eb = true) : PI X tg (.Call (.Name x p) [ea, eb] [] pos) (tI cf X.K W (.r2 a b)) := by
  subst hx
  refine (pi_range2 (show X.env.scope.names.lookup _ = _ by rw [G.sc]; exact hg) (G.bl "range" (by decide)) (pa_cons h (pa_cons h' pa_nil (star_cons hs')) (star_cons hs)) (by rw [star_cons hs, star_cons hs']; rfl) (star_cons hs')).mono' fun σ H R ⟨fm, ρ, sr, w⟩ => ?_
  have w : match (ev cf a ρ).bind fun x => (asI x).bind fun i => (ev cf b ρ).bind fun y => (asI y).bind fun j => if small62 i ∧ small62 j ∧ (j - i).toNat ≤ sizeLine then M.ok (rangeL i j, ([] : List Nat)) else .bad with
      | .ok its => ∀ J H1, Same H H1 → (∀ m, (∀ j ∈ its.2, j ∉ m) → ItOk X.K fm m H H1 J its.1) → its.1.length ≤ sizeLine → R J H1
      | .exc c => ∀ H', Same H H' → W c σ H'
      | .bad => False := w
  refine ⟨fm, ρ, sr, ?_⟩
  cases e : ev cf a ρ with
  | bad => rw [e] at w; exact w
  | exc c => rw [e] at w; exact w
  | ok x =>
    rw [e] at w
    simp only [M.bind_ok] at w
    intro v H1 s r
    rcases asI_cases x with ⟨i, e1, e2⟩ | e2
    · rw [e2] at w
      simp only [M.bind_ok] at w
      obtain ⟨d, t⟩ := x
      cases e1
      refine ⟨fm, ρ, sr.same s, ?_⟩
      cases e3 : ev cf b ρ with
      | bad => rw [e3] at w; exact w
      | exc c => rw [e3] at w; exact fun H2 s2 => w H2 (s.trans s2)
      | ok y =>
        rw [e3] at w
        simp only [M.bind_ok] at w
        intro u H2 s2 r2
        rcases asI_cases y with ⟨j, e4, e5⟩ | e5
        · rw [e5] at w
          simp only [M.bind_ok] at w
          obtain ⟨d2, t2⟩ := y
          cases e4
          by_cases c : small62 i ∧ small62 j ∧ (j - i).toNat ≤ sizeLine
          · rw [if_pos c] at w
            refine ⟨i, j, by rw [repI_int (rep_imm r), repI_int (rep_imm r2)], ⟨c.1.1, c.1.2, c.2.1.1, c.2.1.2⟩, w _ H2 (s.trans s2) (fun m _ => itok_r) ?_⟩
            rw [rngL_len]; exact c.2.2
          · rw [if_neg c] at w; exact w.elim
        · rw [e5] at w; exact w.elim
    · rw [e2] at w; exact w.elim
theorem items_ne {x : DT} {c : String} : itemsT x ≠ .exc c := by unfold itemsT; split <;> (try split) <;> (intro z; cases z)
theorem items_isL {x : D} {t : Tag} (h : isL x = true) : ∃ its, itemsT (x, t) = .ok its := by
  cases x <;> first | exact ⟨_, rfl⟩ | cases h
theorem items_isT {x : D} {t : Tag} (h : isT x = true) : ∃ its, itemsT (x, t) = .ok its := by
  cases x with
  | imm i => cases i <;> first | exact ⟨_, rfl⟩ | cases h
  | _ => first | exact ⟨_, rfl⟩ | cases h
theorem isL_T {x : D} (h : isL x = true) : isT x = false := by cases x <;> first | rfl | cases h
theorem snd_rv {x : Str} (G : Gd g cf k X sc cl W) (hx : x = ("reversed" : Str)) (hg : sc.names.lookup x = some .globalImplicit) (h : PE X ea (tD cf X.K W a)) (hs : noStar ea = true) : PI X tg (.Call (.Name x p) [ea] [] pos) (tI cf X.K W (.rv a)) := by
  subst hx
  refine (RT.pi_revA (show X.env.scope.names.lookup _ = _ by rw [G.sc]; exact hg) (G.bl "reversed" (by decide)) h.lens (star_cons hs)).mono' fun σ H R ⟨fm, ρ, sr, w⟩ => ?_
  have w : match (ev cf a ρ).bind fun x => if (isL x.1 || isT x.1) = true then (itemsT x).bind fun xs => M.ok (xs.1.reverse, xs.2) else .bad with
      | .ok its => ∀ J H1, Same H H1 → (∀ m, (∀ j ∈ its.2, j ∉ m) → ItOk X.K fm m H H1 J its.1) → its.1.length ≤ sizeLine → R J H1
      | .exc c => ∀ H', Same H H' → W c σ H'
      | .bad => False := w
  refine ⟨fm, ρ, sr, ?_⟩
  cases e : ev cf a ρ with
  | bad => rw [e] at w; exact w
  | exc c => rw [e] at w; exact w
  | ok x =>
    rw [e] at w
    simp only [M.bind_ok] at w
    intro v H1 s r ln
    obtain ⟨d, t⟩ := x
    by_cases c : (isL d || isT d) = true
    · rw [if_pos c] at w
      rw [Bool.or_eq_true] at c
      have f := sr.at'.mono s
      rcases c with c | c
      · obtain ⟨its, e2⟩ := items_isL (t := t) c
        rw [e2] at w
        simp only [M.bind_ok] at w
        have kd := fun m hm => kind_of (m := m) f r e2 hm
        have k0 := kd [] fun _ _ => List.not_mem_nil
        cases k0 with
        | l hx hs hk w0 =>
          refine ⟨_, _, rfl, .inl ⟨hs, w _ H1 s (fun m hm => ?_) (by rw [List.length_reverse, w0.len]; exact ln _ _ (.inl hs))⟩⟩
          cases kd m hm with
          | l _ hs' hk' w' =>
            have q := itok_v hk' w'
            rw [← w'.len, w0.len] at q
            exact q
          | t hx' _ _ _ => rw [hx] at hx'; cases hx'
        | t hx _ _ _ => rw [isL_T c] at hx; cases hx
        | s he hz => cases r with | imm r => cases c
      · obtain ⟨its, e2⟩ := items_isT (t := t) c
        rw [e2] at w
        simp only [M.bind_ok] at w
        have kd := fun m hm => kind_of (m := m) f r e2 hm
        have k0 := kd [] fun _ _ => List.not_mem_nil
        cases k0 with
        | t hx hs hk w0 =>
          refine ⟨_, _, rfl, .inr ⟨hs, w _ H1 s (fun m hm => ?_) (by rw [List.length_reverse, w0.len]; exact ln _ _ (.inr hs))⟩⟩
          cases kd m hm with
          | t _ hs' hk' w' =>
            have q := itok_vt hk' w'
            rw [← w'.len, w0.len] at q
            exact q
          | l hx' _ _ _ => rw [hx] at hx'; cases hx'
        | l hx _ _ _ => rw [hx] at c; cases c
        | s he hz => cases r with | imm r => cases r with | str z => cases c
    · rw [if_neg c] at w; exact w.elim
theorem snd_enm {x : Str} {elts : List Expr} {kk : Nat} {tpos : Pos} (G : Gd g cf k X sc cl W) (hx : x = ("enumerate" : Str)) (hg : sc.names.lookup x = some .globalImplicit) (h : PE X ea (tD cf X.K W a)) (hs : noStar ea = true) : PI X (.Tuple elts kk tpos) (.Call (.Name x p) [ea] [] pos) (tI cf X.K W (.enm a)) := by
  subst hx
  refine (pi_enumA (show X.env.scope.names.lookup _ = _ by rw [G.sc]; exact hg) (G.bl "enumerate" (by decide)) (pa_cons h.lens pa_nil (star_cons hs)) (star_cons hs)).mono' fun σ H R ⟨fm, ρ, sr, w⟩ => ?_
  have w : match (ev cf a ρ).bind fun x => if (isL x.1 || isT x.1) = true then (itemsT x).bind fun xs => M.ok (enmD 0 xs.1, xs.2) else .bad with
      | .ok its => ∀ J H1, Same H H1 → (∀ m, (∀ j ∈ its.2, j ∉ m) → ItOk X.K fm m H H1 J its.1) → its.1.length ≤ sizeLine → R J H1
      | .exc c => ∀ H', Same H H' → W c σ H'
      | .bad => False := w
  refine ⟨fm, ρ, sr, ?_⟩
  cases e : ev cf a ρ with
  | bad => rw [e] at w; exact w
  | exc c => rw [e] at w; exact w
  | ok x =>
    rw [e] at w
    simp only [M.bind_ok] at w
    intro v H1 s r ln
    obtain ⟨d, t⟩ := x
    by_cases c : (isL d || isT d) = true
    · rw [if_pos c] at w
      rw [Bool.or_eq_true] at c
      have f := sr.at'.mono s
      rcases c with c | c
      · obtain ⟨its, e2⟩ := items_isL (t := t) c
        rw [e2] at w
        simp only [M.bind_ok] at w
        have kd := fun m hm => kind_of (m := m) f r e2 hm
        have k0 := kd [] fun _ _ => List.not_mem_nil
        cases k0 with
        | l hx hs hk w0 =>
          refine ⟨_, _, rfl, .inl ⟨hs, w _ H1 s (fun m hm => ?_) (by rw [enm_len, w0.len]; exact ln _ _ (.inl hs))⟩⟩
          cases kd m hm with
          | l _ hs' hk' w' => exact itok_en hk' w'
          | t hx' _ _ _ => rw [hx] at hx'; cases hx'
        | t hx _ _ _ => rw [isL_T c] at hx; cases hx
        | s he hz => cases r with | imm r => cases c
      · obtain ⟨its, e2⟩ := items_isT (t := t) c
        rw [e2] at w
        simp only [M.bind_ok] at w
        have kd := fun m hm => kind_of (m := m) f r e2 hm
        have k0 := kd [] fun _ _ => List.not_mem_nil
        cases k0 with
        | t hx hs hk w0 =>
          refine ⟨_, _, rfl, .inr ⟨hs, w _ H1 s (fun m hm => ?_) (by rw [enm_len, w0.len]; exact ln _ _ (.inr hs))⟩⟩
          cases kd m hm with
          | t _ hs' hk' w' => exact itok_ent hk' w'
          | l hx' _ _ _ => rw [hx] at hx'; cases hx'
        | l hx _ _ _ => rw [hx] at c; cases c
        | s he hz => cases r with | imm r => cases r with | str z => cases c
    · rw [if_neg c] at w; exact w.elim
theorem kind_sq {K : PySem.W.Frag} {fm : Fm} {Hs H1 : Hp} {d : D} {t : Tag} {v : V} (c : (isL d || isT d) = true) (f : FmAt fm H1) (r : VR K fm Hs H1 (d, t) v) : ∃ its, itemsT (d, t) = .ok its ∧ ∃ kd a vs, v = .ref a ∧ Sqk K kd H1 a vs ∧ its.1.length = vs.length ∧ ∀ m, (∀ j ∈ its.2, j ∉ m) → ∃ vs', (∀ H, Kp m fm.O H1 H → Sqk K kd H a vs') ∧ Walked K fm m Hs H1 its.1 vs' := by
  rw [Bool.or_eq_true] at c
  rcases c with c | c
  · obtain ⟨its, e2⟩ := items_isL (t := t) c
    have kd := fun m hm => kind_of (m := m) f r e2 hm
    have k0 := kd [] fun _ _ => List.not_mem_nil
    cases k0 with
    | l hx hs hk w0 =>
      refine ⟨its, e2, false, _, _, rfl, hs, w0.len, fun m hm => ?_⟩
      cases kd m hm with
      | l _ hs' hk' w' => exact ⟨_, hk', w'⟩
      | t hx' _ _ _ => rw [isL_T c] at hx'; cases hx'
    | t hx _ _ _ => rw [isL_T c] at hx; cases hx
    | s he hz => cases r with | imm r => cases c
  · obtain ⟨its, e2⟩ := items_isT (t := t) c
    have kd := fun m hm => kind_of (m := m) f r e2 hm
    have k0 := kd [] fun _ _ => List.not_mem_nil
    cases k0 with
    | t hx hs hk w0 =>
      refine ⟨its, e2, true, _, _, rfl, hs, w0.len, fun m hm => ?_⟩
      cases kd m hm with
      | t _ hs' hk' w' => exact ⟨_, hk', w'⟩
      | l hx' _ _ _ => rw [hx] at hx'; cases hx'
    | l hx _ _ _ => rw [hx] at c; cases c
    | s he hz => cases r with | imm r => cases r; cases c
theorem snd_zip {x : Str} {elts : List Expr} {kk : Nat} {tpos : Pos} (G : Gd g cf k X sc cl W) (hx : x = ("zip" : Str)) (hg : sc.names.lookup x = some .globalImplicit) (h : PE X ea (tD cf X.K W a)) (h' : PE X eb (tD cf X.K W b)) (hs : noStar ea = true) (hs' : noStar eb = true) : PI X (.Tuple elts kk tpos) (.Call (.Name x p) [ea, eb] [] pos) (tI cf X.K W (.zip a b)) := by
  subst hx
  refine (pi_zipk (show X.env.scope.names.lookup _ = _ by rw [G.sc]; exact hg) (G.bl "zip" (by decide)) (pa_cons h (pa_cons h'.lens pa_nil (star_cons hs')) (star_cons hs)) (star_cons hs) (by rw [star_cons hs']; rfl)).mono' fun σ H R ⟨fm, ρ, sr, w⟩ => ?_
  have w : match (ev cf a ρ).bind fun x => (ev cf b ρ).bind fun y => if sameK x.1 y.1 = true then (itemsT x).bind fun xs => (itemsT y).bind fun ys => M.ok (zipD xs.1 ys.1, xs.2 ++ ys.2) else .bad with
      | .ok its => ∀ J H1, Same H H1 → (∀ m, (∀ j ∈ its.2, j ∉ m) → ItOk X.K fm m H H1 J its.1) → its.1.length ≤ sizeLine → R J H1
      | .exc c => ∀ H', Same H H' → W c σ H'
      | .bad => False := w
  refine ⟨fm, ρ, sr, ?_⟩
  cases e : ev cf a ρ with
  | bad => rw [e] at w; exact w
  | exc c => rw [e] at w; exact w
  | ok x =>
    rw [e] at w
    simp only [M.bind_ok] at w
    intro v H1 s r
    refine ⟨fm, ρ, sr.same s, ?_⟩
    cases e3 : ev cf b ρ with
    | bad => rw [e3] at w; exact w
    | exc c => rw [e3] at w; exact fun H2 s2 => w H2 (s.trans s2)
    | ok y =>
      rw [e3] at w
      simp only [M.bind_ok] at w
      intro u H2 s2 r2 ln
      obtain ⟨d, t⟩ := x
      obtain ⟨d2, t2⟩ := y
      have r := Rep.same s2 r
      have r2 := VR.back s r2
      have f := sr.at'.mono (s.trans s2)
      by_cases c : sameK d d2 = true
      · rw [if_pos c] at w
        unfold sameK at c
        rw [Bool.and_eq_true] at c
        obtain ⟨its, e2, ka, a', vs, rfl, q1, l1, kd⟩ := kind_sq c.1 f r
        obtain ⟨its2, e4, kb, b', ws, rfl, q2, l2, kd2⟩ := kind_sq c.2 f r2
        rw [e2, e4] at w
        simp only [M.bind_ok] at w
        refine ⟨ka, kb, _, _, _, _, rfl, q1, q2, w _ H2 (s.trans s2) (fun m hm => ?_) ?_⟩
        · obtain ⟨vs', k1, w1⟩ := kd m fun j hj => hm j (List.mem_append_left _ hj)
          obtain ⟨ws', k2, w2⟩ := kd2 m fun j hj => hm j (List.mem_append_right _ hj)
          exact itok_zk k1 k2 w1 w2
        · have hv : vs.length ≤ sizeLine := by
            cases ka with
            | true => exact ln _ _ (.inr q1)
            | false => exact ln _ _ (.inl q1)
          rw [zip_len, l1]
          exact Nat.le_trans (Nat.min_le_left _ _) hv
      · rw [if_neg c] at w; exact w.elim
theorem snd_zip3 {c : E} {ec : Expr} {x : Str} {elts : List Expr} {kk : Nat} {tpos : Pos} (G : Gd g cf k X sc cl W) (hx : x = ("zip" : Str)) (hg : sc.names.lookup x = some .globalImplicit) (h : PE X ea (tD cf X.K W a)) (h' : PE X eb (tD cf X.K W b)) (h'' : PE X ec (tD cf X.K W c)) (hs : noStar ea = true) (hs' : noStar eb = true) (hs'' : noStar ec = true) : PI X (.Tuple elts kk tpos) (.Call (.Name x p) [ea, eb, ec] [] pos) (tI cf X.K W (.zip3 a b c)) := by
  subst hx
  refine (pi_zip3k (show X.env.scope.names.lookup _ = _ by rw [G.sc]; exact hg) (G.bl "zip" (by decide)) (pa_cons h (pa_cons h' (pa_cons h''.lens pa_nil (star_cons hs'')) (star_cons hs')) (star_cons hs)) (star_cons hs) (by rw [star_cons hs', star_cons hs'']; rfl)).mono' fun σ H R ⟨fm, ρ, sr, w⟩ => ?_
  have w : match (ev cf a ρ).bind fun x => (ev cf b ρ).bind fun y => (ev cf c ρ).bind fun z => if (sameK x.1 y.1 && sameK y.1 z.1) = true then (itemsT x).bind fun xs => (itemsT y).bind fun ys => (itemsT z).bind fun zs => M.ok (zipD3 xs.1 ys.1 zs.1, xs.2 ++ (ys.2 ++ zs.2)) else .bad with
      | .ok its => ∀ J H1, Same H H1 → (∀ m, (∀ j ∈ its.2, j ∉ m) → ItOk X.K fm m H H1 J its.1) → its.1.length ≤ sizeLine → R J H1
      | .exc c => ∀ H', Same H H' → W c σ H'
      | .bad => False := w
  refine ⟨fm, ρ, sr, ?_⟩
  cases e : ev cf a ρ with
  | bad => rw [e] at w; exact w
  | exc c => rw [e] at w; exact w
  | ok x =>
    rw [e] at w
    simp only [M.bind_ok] at w
    intro v H1 s r
    refine ⟨fm, ρ, sr.same s, ?_⟩
    cases e3 : ev cf b ρ with
    | bad => rw [e3] at w; exact w
    | exc c => rw [e3] at w; exact fun H2 s2 => w H2 (s.trans s2)
    | ok y =>
      rw [e3] at w
      simp only [M.bind_ok] at w
      intro u H2 s2 r2
      refine ⟨fm, ρ, (sr.same s).same s2, ?_⟩
      cases e5 : ev cf c ρ with
      | bad => rw [e5] at w; exact w
      | exc c => rw [e5] at w; exact fun H3 s3 => w H3 ((s.trans s2).trans s3)
      | ok z =>
        rw [e5] at w
        simp only [M.bind_ok] at w
        intro t H3 s3 r3 ln
        obtain ⟨d, t1⟩ := x
        obtain ⟨d2, t2⟩ := y
        obtain ⟨d3, t3⟩ := z
        have r := Rep.same s3 (Rep.same s2 r)
        have r2 := Rep.same s3 (VR.back s r2)
        have r3 := VR.back (s.trans s2) r3
        have f := sr.at'.mono ((s.trans s2).trans s3)
        by_cases c : (sameK d d2 && sameK d2 d3) = true
        · rw [if_pos c] at w
          rw [Bool.and_eq_true] at c
          obtain ⟨c, c'⟩ := c
          unfold sameK at c c'
          rw [Bool.and_eq_true] at c c'
          obtain ⟨its, e2, ka, a', vs, rfl, q1, l1, kd⟩ := kind_sq c.1 f r
          obtain ⟨its2, e4, kb, b', ws, rfl, q2, l2, kd2⟩ := kind_sq c.2 f r2
          obtain ⟨its3, e6, kc, c'', us, rfl, q3, l3, kd3⟩ := kind_sq c'.2 f r3
          rw [e2, e4, e6] at w
          simp only [M.bind_ok] at w
          refine ⟨ka, kb, kc, _, _, _, _, _, _, rfl, q1, q2, q3, w _ H3 ((s.trans s2).trans s3) (fun m hm => ?_) ?_⟩
          · obtain ⟨vs', k1, w1⟩ := kd m fun j hj => hm j (List.mem_append_left _ hj)
            obtain ⟨ws', k2, w2⟩ := kd2 m fun j hj => hm j (List.mem_append_right _ (List.mem_append_left _ hj))
            obtain ⟨us', k3, w3⟩ := kd3 m fun j hj => hm j (List.mem_append_right _ (List.mem_append_right _ hj))
            exact itok_z3 k1 k2 k3 w1 w2 w3
          · have hv : us.length ≤ sizeLine := by
              cases kc with
              | true => exact ln _ _ (.inr q3)
              | false => exact ln _ _ (.inl q3)
            rw [zip3_len, l3]
            exact Nat.le_trans (Nat.min_le_right _ _) hv
        · rw [if_neg c] at w; exact w.elim
end
end Iv

/-! Iv M: comprehensions. -/
namespace Iv
open PySem PySem.Spec L2
open PyProof.Rows hiding St

abbrev W0 : WC := fun _ _ _ => False
def tC (cf : Cf) (K : PySem.W.Frag) (cs : List E) : TT := fun σ H Q => ∃ fm ρ, SR cf K fm ρ σ H ∧ match evC cf cs ρ with
  | .ok b => ∀ H', Same H H' → Q b H'
  | _ => False
theorem _root_.L2.PTs.mono' {X : Cx} {e : List Expr} {t t' : TT} (h : PTs X e t) (q : ∀ σ H Q, t' σ H Q → t σ H Q) : PTs X e t' := ⟨fun pins s σ H Q I w => h.run pins s σ H Q I (q σ H Q w)⟩
section
variable {cf : Cf} {X : Cx}
theorem sndC_nil : PTs X [] (tC cf X.K []) := pts_nil.mono' fun σ H Q ⟨fm, ρ, sr, w⟩ => w H Same.refl
theorem sndC_one {c : E} {ec : Expr} (h : PT X ec (tT cf X.K W0 c)) : PTs X [ec] (tC cf X.K [c]) := (pts_one h).mono' fun σ H Q ⟨fm, ρ, sr, w⟩ => by
  have w : match (ev cf c ρ).bind fun x => (asB x).bind fun b => if b = true then M.ok true else .ok false with
    | .ok b => ∀ H', Same H H' → Q b H'
    | _ => False := w
  refine ⟨fm, ρ, sr, ?_⟩
  cases e : ev cf c ρ with
  | bad => rw [e] at w; exact w
  | exc c => rw [e] at w; exact w.elim
  | ok x =>
    rw [e] at w
    simp only [M.bind_ok] at w ⊢
    cases e2 : asB x with
    | bad => rw [e2] at w; exact w
    | exc c => rw [e2] at w; exact w.elim
    | ok b =>
      rw [e2] at w
      simp only [M.bind_ok] at w
      cases b with
      | true => exact w
      | false => exact w
end
theorem wipe_get {σ : St} : ∀ {vs : List Nat} {i : Nat}, i ∉ vs → (wipe σ vs)[i]? = σ[i]?
  | [], _, _ => rfl
  | v :: vs, i, h => by
    rw [List.mem_cons, not_or] at h
    unfold wipe
    rw [List.getElem?_set_ne (Ne.symm h.1)]
    exact wipe_get h.2
theorem wipe_in {σ : St} : ∀ {vs : List Nat} {i : Nat}, i ∈ vs → i < σ.length → (wipe σ vs)[i]? = some none
  | v :: vs, i, h, hl => by
    unfold wipe
    by_cases e : v = i
    · subst e
      exact List.getElem?_set_self (by rw [wipe_length]; exact hl)
    · rw [List.getElem?_set_ne e]
      rcases List.mem_cons.mp h with z | z
      · exact absurd z.symm e
      · exact wipe_in z hl
theorem wipe_eq {σ σ' : St} {vs : List Nat} (hl : σ'.length = σ.length) (h : ∀ i, i ∉ vs → σ'[i]? = σ[i]?) : wipe σ' vs = wipe σ vs := by
  apply List.ext_getElem?
  intro i
  by_cases hi : i ∈ vs
  · by_cases hi' : i < σ.length
    · rw [wipe_in hi hi', wipe_in hi (by omega)]
    · rw [List.getElem?_eq_none (by rw [wipe_length]; omega), List.getElem?_eq_none (by rw [wipe_length]; omega)]
  · rw [wipe_get hi, wipe_get hi, h i hi]
theorem wipe_wipe {σ : St} {vs : List Nat} : wipe (wipe σ vs) vs = wipe σ vs := wipe_eq (wipe_length _ _) fun i hi => wipe_get hi
theorem wipeE_len {ρ : Env} : ∀ vs : List Nat, (wipeE ρ vs).length = ρ.length
  | [] => rfl
  | v :: vs => by unfold wipeE; rw [List.length_set, wipeE_len vs]
theorem wipeE_get {ρ : Env} : ∀ {vs : List Nat} {i : Nat} {d : D}, (wipeE ρ vs)[i]? = some (some d) → ρ[i]? = some (some d) ∧ i ∉ vs
  | [], i, d, h => ⟨h, by simp⟩
  | v :: vs, i, d, h => by
    unfold wipeE at h
    by_cases e : v = i
    · subst e
      by_cases hv : v < (wipeE ρ vs).length
      · rw [List.getElem?_set_self hv] at h; cases h
      · rw [List.getElem?_eq_none (by simpa using hv)] at h; cases h
    · rw [List.getElem?_set_ne e] at h
      obtain ⟨h1, h2⟩ := wipeE_get h
      exact ⟨h1, by rw [List.mem_cons, not_or]; exact ⟨fun z => e z.symm, h2⟩⟩
/-- D is banned besides -/
def Fm.ban1 (fm : Fm) (D : Addr) : Fm := { fm with ban := fun a => fm.ban a ∨ a = D }
section
variable {K : PySem.W.Frag} {cf : Cf} {fm : Fm} {ρ : Env} {σ : St} {H H1 H' : Hp} {D : Addr} {own : List Nat}
theorem SR.blk (sr : SR cf K fm ρ σ H1) (hD : H1 D = none) (s : Same H1 H') (hD' : H' D ≠ none) : SR cf K (fm.ban1 D) (wipeE ρ own) (wipe σ own) H' where
  len := by rw [wipeE_len, wipe_length]; exact sr.len
  vx := sr.vx
  at' := by
    have f := sr.at'.mono s
    exact ⟨f.same, f.disj, f.fresh, f.own, fun i a o z => by
      rcases z with z | z
      · exact f.ob i a o z
      · subst z; exact sr.at'.trk i a o hD, fun a z => by
      rcases z with z | z
      · exact f.bt a z
      · rw [z]; exact hD'⟩
  slot := fun i d e => by
    obtain ⟨e1, e2⟩ := wipeE_get e
    obtain ⟨v, h1, h2⟩ := sr.slot i d e1
    refine ⟨v, by rw [wipe_get e2]; exact h1, ?_⟩
    have nb : ∀ a, H1 a ≠ none → ¬ fm.ban a → ¬ (fm.ban1 D).ban a := fun a h n z => by
      rcases z with z | z
      · exact n z
      · rw [z] at h; exact h hD
    cases c : cf.cl i with
    | ex => rw [c] at h2; exact (show Rep K H1 (fm.O i) (fm.O i) d v from h2).same s
    | vw k =>
      rw [c] at h2
      exact Rep.weak (fun a z => ⟨z.1.1, z.1.2.1, nb a z.2 z.1.2.2⟩) (fun a z => ⟨z.1.1, z.1.2.1, nb a z.2 z.1.2.2⟩) ((Rep.trkR (show Rep K H1 (Pv k fm) (Pv k fm) d v from h2)).same s)
    | old =>
      rw [c] at h2
      exact Rep.weak (fun a z => ⟨z.1.1, z.1.2.1, nb a z.2 z.1.2.2⟩) (fun a z => ⟨z.1.1, z.1.2.1, nb a z.2 z.1.2.2⟩) ((Rep.trkR (show Rep K H1 (P2 fm) (P2 fm) d v from h2)).same s)
    | nw =>
      rw [c] at h2
      exact Rep.weak (fun a z => ⟨z.1.1, z.1.2.1, nb a z.2 z.1.2.2⟩) (fun a z => ⟨z.1.1, z.1.2.1, nb a z.2 z.1.2.2⟩) ((Rep.trkR (show Rep K H1 (P1 fm) (P1 fm) d v from h2)).same s)
    | own n =>
      rw [c] at h2
      have h2 := (Rep.trkR (show Rep K H1 (fm.O i) (if n = true then P1 fm else P2 fm) d v from h2)).same s
      refine Rep.weak (fun a z => z.1) (fun a z => ?_) h2
      cases n with
      | true => exact ⟨z.1.1, z.1.2.1, nb a z.2 z.1.2.2⟩
      | false => exact ⟨z.1.1, z.1.2.1, nb a z.2 z.1.2.2⟩
theorem VRt.ban {Hs : Hp} {x : DT} {v : V} (hD : H1 D = none) (r : VRt K fm Hs H1 H' x v) : VR K (fm.ban1 D) Hs H' x v :=
  Rep.weak (fun a z => ⟨z.1.1, z.1.2.1, z.1.2.2.1, z.1.2.2.2.1, fun w => by rcases w with w | w; exact z.1.2.2.2.2 w; rw [w] at z; exact z.2 hD⟩) (fun a z => ⟨z.1.1, z.1.2.1, z.1.2.2.1, z.1.2.2.2.1, fun w => by rcases w with w | w; exact z.1.2.2.2.2 w; rw [w] at z; exact z.2 hD⟩) r
/-- a thing that isn't at D -/
abbrev VRn (K : PySem.W.Frag) (fm : Fm) (D : Addr) (Hs H : Hp) (x : DT) (v : V) : Prop := Rep K H (fun a => NdR fm x.2 Hs a ∧ a ≠ D) (fun a => NdI fm x.2 Hs a ∧ a ≠ D) x.1 v
theorem VR.unban {Hs Hs' : Hp} {x : DT} {v : V} (s : Same Hs Hs') (r : VR K (fm.ban1 D) Hs' H' x v) : VRn K fm D Hs H' x v :=
  Rep.weak (fun a z => ⟨⟨fun e => s.none (z.1 e), z.2.1, z.2.2.1, z.2.2.2.1, fun w => z.2.2.2.2 (.inl w)⟩, fun w => z.2.2.2.2 (.inr w)⟩) (fun a z => ⟨⟨fun e => s.none (z.1 e), z.2.1, z.2.2.1, z.2.2.2.1, fun w => z.2.2.2.2 (.inl w)⟩, fun w => z.2.2.2.2 (.inr w)⟩) r
theorem VRn.write {Hs : Hp} {x : DT} {v : V} {vs ws : List V} (h : H' D = some (.lst vs)) (r : VRn K fm D Hs H' x v) : VRn K fm D Hs (upd H' D (.lst ws)) x v :=
  Rep.keep (ok := fun a => a ≠ D) (Keep.write h fun a z => z) (fun a z => ⟨z.2, z⟩) (fun a z => ⟨z.2, z⟩) r
theorem allImm_rdn {Hs : Hp} : ∀ {xs : List DT} {vs : List V} {is : List I}, Paired (VRn K fm D Hs H) xs vs → allImm (xs.map (·.1)) = some is → RepIs K H is vs
  | [], _, _, .nil, e => by cases e; exact .nil
  | (d, t) :: xs, _, is, .cons h r, e => by
    cases d with
    | imm i =>
      simp only [List.map_cons, allImm, Option.map_eq_some_iff] at e
      obtain ⟨js, e1, rfl⟩ := e
      exact .cons (rep_imm h) (allImm_rdn r e1)
    | _ => cases e
theorem tags_rdn {Hs : Hp} : ∀ {xs : List DT} {vs : List V}, Paired (VRn K fm D Hs H) xs vs → (xs.all fun x => !isScr x.1) = true → Reps K H (fun a => NdI fm (tagsOf xs).root Hs a ∧ a ≠ D) (xs.map (·.1)) vs
  | [], _, .nil, _ => .nil
  | (d, t) :: xs, _, .cons h r, e => by
    rw [List.all_cons, Bool.and_eq_true] at e
    have ih := tags_rdn r e.2
    have hs : isScr d = false := by simpa using e.1
    cases d with
    | imm i => exact .cons rfl (.imm (rep_imm h)) ih
    | scr i => cases hs
    | _ =>
      refine .cons hs (Rep.weak (fun a n => ⟨?_, n.2⟩) (fun a n => ⟨?_, n.2⟩) h) (ih.weak fun a n => ⟨?_, n.2⟩)
      · exact NdI.le (show t.root.le (t.join (tagsOf xs)).root from ⟨Nat.le_max_left _ _, fun j hj => by
          obtain ⟨p, hp, e⟩ := List.mem_map.mp hj
          exact List.mem_map.mpr ⟨p, List.mem_append_left _ hp, e⟩⟩) (NdI.ofR n.1)
      · exact NdI.le (show t.root.le (t.join (tagsOf xs)).root from ⟨Nat.le_max_left _ _, fun j hj => by
          obtain ⟨p, hp, e⟩ := List.mem_map.mp hj
          exact List.mem_map.mpr ⟨p, List.mem_append_left _ hp, e⟩⟩) (NdI.ofI n.1)
      · exact NdI.le (show (tagsOf xs).root.le (t.join (tagsOf xs)).root from ⟨Nat.le_max_right _ _, fun j hj => by
          obtain ⟨p, hp, e⟩ := List.mem_map.mp hj
          exact List.mem_map.mpr ⟨p, List.mem_append_right _ hp, e⟩⟩) n.1
theorem Wq.mkLn {W : String → Hp → Prop} {Hs H1 : Hp} {Q : VK} {xs : List DT} {vs : List V} (w : Wq K fm W Hs H (Iv.mkL xs) Q) (f : FmAt fm Hs) (s : Same Hs H1) (hD : H1 D = none) (s2 : Same H H') (hv : H' D = some (.lst vs)) (r : Paired (VRn K fm D Hs H') xs vs) : Q (.ref D) H' := by
  unfold Iv.mkL at w
  split at w
  · rename_i is e
    exact w _ _ s2 (.lsi (NdR.new f s hD) hv (allImm_rdn r e))
  · obtain ⟨c, w⟩ := Wq.ite w
    exact w _ _ s2 (.lsd (NdR.new f s hD) hv (tags_rdn r c))
end
theorem snd_lc {cf : Cf} {X : Cx} {W : WC} {elt : E} {tg : Tg} {src : Src} {cs : List E} {own : List (Str × Nat)} {eelt etg eiter : Expr} {ifs : List Expr} {scope : Scope} {pos : Pos} (hc : X.calm = true) (hN : X.N.Nodup) (ok : BlkOk X.N X.env.scope scope own)
    (ht : ∀ i ∈ tgS tg, i ∈ own.map (·.2)) (tk : TakesA X (WX' X.mg W)) (stk : ∃ e0 r0 L, X.stack = e0 :: r0 ∧ e0.frame = some L ∧ X.env.frame = some L) (hi : PI X etg eiter (tI cf X.K W src))
    (bp : BlkP X (WX' X.mg W) etg eelt ifs scope (tG cf X.K tg) (tC cf X.K cs) (fun σ0 => tD cf X.K (fun c _ H' => W c σ0 H') elt)) (hs : ∀ x, foldedSetIterable eiter X.env x = pure x) :
    (∀ σ H Q, tD cf X.K W (.lc elt tg src cs (own.map (·.2))) σ H Q → tLcX (tI cf X.K W src) (tG cf X.K tg) (tC cf X.K cs) (fun σ0 => tD cf X.K (fun c _ H' => W c σ0 H') elt) (own.map (·.2)) σ H Q) ∧
    PE X (.ListComp eelt [⟨etg, eiter, ifs, 0⟩] scope pos) (tD cf X.K W (.lc elt tg src cs (own.map (·.2)))) := by
  have key : ∀ σ H Q, tD cf X.K W (.lc elt tg src cs (own.map (·.2))) σ H Q → tLcX (tI cf X.K W src) (tG cf X.K tg) (tC cf X.K cs) (fun σ0 => tD cf X.K (fun c _ H' => W c σ0 H') elt) (own.map (·.2)) σ H Q := by
    rintro σ H Q ⟨fm, ρ, sr, w⟩
    generalize hvs : own.map (·.2) = vs at w ht
    have w : Wq X.K fm (fun c H' => W c σ H') H H ((evSrc cf src ρ).bind fun its =>
        (lcGo (fun x => match asgTg cf tg x (wipeE ρ vs) with
          | none => .bad
          | some ρ' => (evC cf cs ρ').calm.bind fun b => if b = true then (ev cf elt ρ').bind fun y => .ok (some y) else .ok none) its.1).bind fun ys => mkL ys) Q := w
    refine ⟨fm, ρ, sr, ?_⟩
    cases e0 : evSrc cf src ρ with
    | bad => rw [e0] at w; exact w
    | exc c => rw [e0] at w; exact w
    | ok its =>
      rw [e0] at w
      simp only [M.bind_ok] at w
      intro J H1 s io ln D hD
      generalize hf : (fun x => match asgTg cf tg x (wipeE ρ vs) with
          | none => M.bad
          | some ρ' => (evC cf cs ρ').calm.bind fun b => if b = true then (ev cf elt ρ').bind fun y => .ok (some y) else .ok none) = f at w
      obtain ⟨R0, hR0⟩ : ∃ R0, R0 = ((lcGo f its.1).bind fun ys => mkL ys) := ⟨_, rfl⟩
      rw [← hR0] at w
      have IO := io [] fun _ _ => List.not_mem_nil
      have kp0 : ∀ {H' : Hp}, Same H1 H' → Kp [] fm.O H1 H' := fun s' b o e _ => s' b o e
      refine ⟨fun i m H' => m = its.1.length - i ∧ i ≤ its.1.length ∧ Same H1 H' ∧ ∃ dn us, H' D = some (.lst us) ∧ Paired (VRn X.K fm D H H') dn us ∧ ((lcGo f (its.1.drop i)).bind fun rest => mkL (dn ++ rest)) = R0 ∧ dn.length ≤ i,
        ⟨_, rfl, Nat.zero_le _, Same.new hD, [], [], upd_same, .nil, hR0.symm, Nat.le_refl _⟩, ?_⟩
      rintro i m H' ⟨rfl, hi', s1, dn, us, hu, hdn, hl, hle⟩
      by_cases hlt : i < its.1.length
      · refine .inr ⟨IO.go i H' (kp0 s1) hlt, fun H'' => (its.1.length - (i + 1)) = its.1.length - (i + 1) ∧ i + 1 ≤ its.1.length ∧ Same H1 H'' ∧ ∃ dn us, H'' D = some (.lst us) ∧ Paired (VRn X.K fm D H H'') dn us ∧ ((lcGo f (its.1.drop (i + 1))).bind fun rest => mkL (dn ++ rest)) = R0 ∧ dn.length ≤ i + 1, fun H'' h => ⟨_, by omega, h⟩, fun v H'' y => ?_⟩
        obtain ⟨s2, yv⟩ := IO.yld i H' v H'' (kp0 s1) y
        have hx : its.1[i]? = some its.1[i] := by simp [hlt]
        have rv := yv _ hx
        have hdr : its.1.drop i = its.1[i] :: its.1.drop (i + 1) := List.drop_eq_getElem_cons hlt
        rw [hdr] at hl
        have hl : (((f its.1[i]).bind fun o => match o with
          | none => lcGo f (its.1.drop (i + 1))
          | some y => (lcGo f (its.1.drop (i + 1))).bind fun ys => .ok (y :: ys)).bind fun rest => mkL (dn ++ rest)) = R0 := by
          rw [← hl]; rfl
        have hfe : f its.1[i] = (match asgTg cf tg its.1[i] (wipeE ρ vs) with
          | none => M.bad
          | some ρ' => (evC cf cs ρ').calm.bind fun b => if b = true then (ev cf elt ρ').bind fun y => .ok (some y) else .ok none) := by rw [← hf]
        rw [hfe] at hl
        cases e4 : asgTg cf tg its.1[i] (wipeE ρ vs) with
        | none =>
          rw [e4] at hl
          have hl : M.bad = R0 := hl
          rw [← hl] at w
          exact w.elim
        | some ρ' =>
          rw [e4] at hl
          have hl : ((((evC cf cs ρ').calm.bind fun b => if b = true then (ev cf elt ρ').bind fun y => M.ok (some y) else M.ok none).bind fun o => match o with
            | none => lcGo f (its.1.drop (i + 1))
            | some y => (lcGo f (its.1.drop (i + 1))).bind fun ys => .ok (y :: ys)).bind fun rest => mkL (dn ++ rest)) = R0 := hl
          have hDs : H'' D ≠ none := fun z => by rw [s2 _ _ hu] at z; cases z
          have srb := SR.blk (own := vs) (sr.same s) hD (s1.trans s2) hDs
          refine ⟨fm.ban1 D, _, H, its.1[i], ρ', srb, rv.ban hD, e4, fun σ2 sr2 ch => ⟨?_, fm.ban1 D, ρ', sr2, ?_⟩⟩
          · rw [wipe_eq ch.1 fun j hj => ch.2 j fun z => hj (ht j z), wipe_wipe]
          · cases e5 : evC cf cs ρ' with
            | bad =>
              rw [e5] at hl
              have hl : M.bad = R0 := hl
              rw [← hl] at w
              exact w.elim
            | exc c =>
              rw [e5] at hl
              have hl : M.bad = R0 := hl
              rw [← hl] at w
              exact w.elim
            | ok b =>
              rw [e5] at hl
              intro H3 s3
              have up3 : Same H1 H3 := (s1.trans s2).trans s3
              refine ⟨fun eb => ?_, fun eb => ?_⟩
              · subst eb
                have hl : ((((ev cf elt ρ').bind fun y => M.ok (some y)).bind fun o => match o with
                  | none => lcGo f (its.1.drop (i + 1))
                  | some y => (lcGo f (its.1.drop (i + 1))).bind fun ys => .ok (y :: ys)).bind fun rest => mkL (dn ++ rest)) = R0 := hl
                refine ⟨fm.ban1 D, ρ', sr2.same s3, ?_⟩
                cases e7 : ev cf elt ρ' with
                | bad =>
                  rw [e7] at hl
                  have hl : M.bad = R0 := hl
                  rw [← hl] at w
                  exact w.elim
                | exc c =>
                  rw [e7] at hl
                  have hl : M.exc c = R0 := hl
                  rw [← hl] at w
                  exact fun H4 s4 => w H4 (s.trans (up3.trans s4))
                | ok y =>
                  rw [e7] at hl
                  have hl : (((lcGo f (its.1.drop (i + 1))).bind fun ys => M.ok (y :: ys)).bind fun rest => mkL (dn ++ rest)) = R0 := hl
                  have hl2 : ((lcGo f (its.1.drop (i + 1))).bind fun rest => mkL ((dn ++ [y]) ++ rest)) = R0 := by
                    rw [← hl]
                    cases lcGo f (its.1.drop (i + 1)) with
                    | ok ys => show mkL ((dn ++ [y]) ++ ys) = mkL (dn ++ y :: ys); rw [List.append_assoc]; rfl
                    | exc c => rfl
                    | bad => rfl
                  intro u H4 s4 ru
                  have hu4 : H4 D = some (.lst us) := s4 _ _ (s3 _ _ (s2 _ _ hu))
                  refine ⟨us, hu4, ?_, rfl, hlt, ?_, dn ++ [y], us ++ [u], upd_same, ?_, hl2, by rw [List.length_append]; simp; omega⟩
                  · rw [← Paired.length hdn]; omega
                  · intro c oc ec
                    rw [upd_ne (ne_of_none ec hD)]
                    exact s4 _ _ (up3 _ _ ec)
                  · have h1 : Paired (VRn X.K fm D H (upd H4 D (.lst (us ++ [u])))) dn us := Paired.mapP hdn fun a b z => VRn.write hu4 (Rep.same ((s2.trans s3).trans s4) z)
                    have h2 : VRn X.K fm D H (upd H4 D (.lst (us ++ [u]))) y u := VRn.write hu4 (VR.unban (s.trans up3) ru)
                    have app : ∀ {xs : List DT} {vs : List V}, Paired (VRn X.K fm D H (upd H4 D (.lst (us ++ [u])))) xs vs → Paired (VRn X.K fm D H (upd H4 D (.lst (us ++ [u])))) (xs ++ [y]) (vs ++ [u]) := fun h => by
                      induction h with
                      | nil => exact .cons h2 .nil
                      | cons a _ ih => exact .cons a ih
                    exact app h1
              · subst eb
                exact ⟨rfl, hlt, up3, dn, us, s3 _ _ (s2 _ _ hu), Paired.mapP hdn fun a b z => Rep.same (s2.trans s3) z, hl, by omega⟩
      · have hei : i = its.1.length := by omega
        subst hei
        refine .inl ⟨IO.stop _ H' (kp0 s1) rfl, ?_⟩
        rw [List.drop_length] at hl
        have hl : mkL (dn ++ []) = R0 := hl
        rw [List.append_nil] at hl
        rw [← hl] at w
        exact Wq.mkLn w sr.at' s hD (s.trans s1) hu hdn
  obtain ⟨e0, r0, L0, q1, q2, q3⟩ := stk
  exact ⟨key, (pe_lcX hc hN tk q1 q2 q3 hi ok bp hs).mono' key⟩
end Iv

/-! Iv N: the checker, and expressions as a whole. -/
namespace Iv
open PySem PySem.Spec L2
open PyProof.Rows hiding St

def notSet : Expr → Bool
  | .Set .. => false
  | _ => true
def plainB : Expr → Bool
  | .Name .. => true | .Constant .. => true | .BinOp .. => true | .Call .. => true | .Subscript .. => true | .UnaryOp .. => true | .Attribute .. => true
  | _ => false
theorem plain_ix {e : Expr} (h : plainB e = true) : PlainIx e := by
  cases e <;> first | exact fun _ _ => rfl | cases h
theorem notSet_fold {e : Expr} {env : PySem.Env} (h : notSet e = true) : ∀ x, foldedSetIterable e env x = pure x := by
  intro x
  cases e <;> first | rfl | cases h
theorem notSet_mark {e : Expr} {op : CmpOp} (h : notSet e = true) : behindInMarks op e = false := by
  cases e <;> first | rfl | cases h
def notCall0 : Expr → Bool
  | .Call _ [] _ _ => false
  | _ => true
theorem base_plain {o : Expr} {attr : Str} {env : PySem.Env} {whole : Sem Value} (h : notCall0 o = true) : attributeBase o attr env whole = whole := by
  cases o with
  | Call f as kw p => cases as with
    | nil => cases h
    | cons a r => cases f <;> rfl
  | _ => rfl
def tstOk : Expr → Bool
  | .IfExp .. => false
  | _ => true
def ownP (N : List Str) (own : List Nat) : List (Str × Nat) := own.map fun i => (N.getD i default, i)
theorem ownP_snd {N : List Str} {own : List Nat} : (ownP N own).map (·.2) = own := by unfold ownP; rw [List.map_map]; exact List.map_id own
def mthN : Mt → String
  | .join => "join" | .split => "split" | _ => ""

def visB (sc : Scope) (x : Str) : Bool := match sc.names.lookup x with | some .local => true | some .cell => true | some .free => true | _ => false
theorem visB_ok {sc : Scope} {x : Str} (h : visB sc x = true) : Vis sc x := by
  unfold visB at h
  split at h
  · exact .inl (by assumption)
  · exact .inr (.inl (by assumption))
  · exact .inr (.inr (by assumption))
  · cases h
def nonE {α : Type} : List α → Bool
  | [] => false
  | _ :: _ => true
def glB (sc : Scope) (x : Str) : Bool := sc.names.lookup x == some .globalImplicit
theorem glB_ok {sc : Scope} {x : Str} (h : glB sc x = true) : sc.names.lookup x = some .globalImplicit := eq_of_beq h
mutual
def chk (g : Gs) (N : List Str) (sc : Scope) (cl : Str → Bool) : E → Expr → Bool
  | .var i, ex => match ex with
    | .Name x _ => decide (N[i]? = some x) && visB sc x && !(x == ("__debug__" : Str)) && !(x == ("__classdict__" : Str))
    | _ => false
  | .lit c, ex => match ex with
    | .Constant c' _ _ => decide (c = c') && constB c
    | _ => false
  | .glob x c, ex => match ex with
    | .Name y _ => decide (y = (x : Str)) && g.consts.contains (x, c) && glB sc y && !(y == ("__debug__" : Str))
    | _ => false
  | .bin op a b, ex => match ex with
    | .BinOp ea op' eb _ => decide (op = op') && chk g N sc cl a ea && chk g N sc cl b eb
    | _ => false
  | .neg a, ex => match ex with
    | .UnaryOp .USub ea _ => chk g N sc cl a ea
    | _ => false
  | .not a, ex => match ex with
    | .UnaryOp .Not ea _ => chk g N sc cl a ea && tstOk ea
    | _ => false
  | .and a b, ex => match ex with
    | .BoolOp .And [ea, eb] _ => chk g N sc cl a ea && tstOk ea && chk g N sc cl b eb && tstOk eb
    | .BoolOp .And (ea :: eb :: ec :: r) p => chk g N sc cl a ea && tstOk ea && chk g N sc cl b (.BoolOp .And (eb :: ec :: r) p)
    | _ => false
  | .or a b, ex => match ex with
    | .BoolOp .Or [ea, eb] _ => chk g N sc cl a ea && tstOk ea && chk g N sc cl b eb && tstOk eb
    | .BoolOp .Or (ea :: eb :: ec :: r) p => chk g N sc cl a ea && tstOk ea && chk g N sc cl b (.BoolOp .Or (eb :: ec :: r) p)
    | _ => false
  | .cmp op a b, ex => match ex with
    | .Compare ea [op'] [eb] _ => decide (op = op') && chk g N sc cl a ea && chk g N sc cl b eb && notSet eb
    | _ => false
  | .chain o1 o2 a b c, ex => match ex with
    | .Compare ea [o1', o2'] [eb, ec] _ => decide (o1 = o1') && decide (o2 = o2') && chk g N sc cl a ea && chk g N sc cl b eb && chk g N sc cl c ec && notSet ec
    | _ => false
  | .ife c a b, ex => match ex with
    | .IfExp ec ea eb _ => chk g N sc cl c ec && tstOk ec && chk g N sc cl a ea && chk g N sc cl b eb
    | _ => false
  | .call f es, ex => match ex with
    | .Call (.Name x _) xs [] _ => g.calm && decide (x = (f : Str)) && g.funs.contains (f, es.length) && glB sc x && !(x == ("__debug__" : Str)) && chks g N sc cl es xs
    | _ => false
  | .blt b es, ex => match b, es with
    | .isi ts, [a] => match ex with
      | .Call (.Name x _) [ea, .Name y _] [] _ => decide (x = ("isinstance" : Str)) && (match ts with | [t] => decide (y = (t : Str)) | _ => false) && glB sc x && tysG sc ts && chk g N sc cl a ea && noStar ea
      | .Call (.Name x _) [ea, .Tuple es _ _] [] _ => decide (x = ("isinstance" : Str)) && clsNames ts es && decide (ts.length ≤ 100) && glB sc x && tysG sc ts && chk g N sc cl a ea && noStar ea
      | _ => false
    | .ise ts, [a] => match ex with
      | .Call (.Name x _) [ea, .Name y _] [] _ => decide (x = ("isinstance" : Str)) && (match ts with | [t] => decide (y = (t : Str)) | _ => false) && glB sc x && xtsG g sc ts && chk g N sc cl a ea && noStar ea
      | .Call (.Name x _) [ea, .Tuple es _ _] [] _ => decide (x = ("isinstance" : Str)) && clsNames ts es && decide (ts.length ≤ 100) && glB sc x && !g.ts.isEmpty && xtsG g sc ts && chk g N sc cl a ea && noStar ea
      | _ => false
    | .lrg, [a] => match ex with
      | .Call (.Name x _) [.Call (.Name y _) [ea] [] _] [] _ => g.calm && decide (x = ("list" : Str)) && decide (y = ("range" : Str)) && glB sc x && glB sc y && chk g N sc cl a ea && noStar ea
      | _ => false
    | .sortedset, [a] => match ex with
      | .Call (.Name x _) [.Call (.Name y _) [ea] [] _] [] _ => g.calm && decide (x = ("sorted" : Str)) && decide (y = ("set" : Str)) && glB sc x && glB sc y && chk g N sc cl a ea && noStar ea
      | _ => false
    | .lenset, [a] => match ex with
      | .Call (.Name x _) [.Call (.Name y _) [ea] [] _] [] _ => g.calm && decide (x = ("len" : Str)) && decide (y = ("set" : Str)) && glB sc x && glB sc y && chk g N sc cl a ea && noStar ea
      | _ => false
    | .trg, [a] => match ex with
      | .Call (.Name x _) [.Call (.Name y _) [ea] [] _] [] _ => g.calm && decide (x = ("tuple" : Str)) && decide (y = ("range" : Str)) && glB sc x && glB sc y && chk g N sc cl a ea && noStar ea
      | _ => false
    | .lrg, [a, b] => match ex with
      | .Call (.Name x _) [.Call (.Name y _) [ea, eb] [] _] [] _ => g.calm && decide (x = ("list" : Str)) && decide (y = ("range" : Str)) && glB sc x && glB sc y && chk g N sc cl a ea && chk g N sc cl b eb && noStar ea && noStar eb
      | _ => false
    | .trg, [a, b] => match ex with
      | .Call (.Name x _) [.Call (.Name y _) [ea, eb] [] _] [] _ => g.calm && decide (x = ("tuple" : Str)) && decide (y = ("range" : Str)) && glB sc x && glB sc y && chk g N sc cl a ea && chk g N sc cl b eb && noStar ea && noStar eb
      | _ => false
    | .lzip, [a, b] => match ex with
      | .Call (.Name x _) [.Call (.Name y _) [ea, eb] [] _] [] _ => g.calm && decide (x = ("list" : Str)) && decide (y = ("zip" : Str)) && glB sc x && glB sc y && chk g N sc cl a ea && chk g N sc cl b eb && noStar ea && noStar eb
      | _ => false
    | b, es => match ex with
      | .Call (.Name x _) xs [] _ => (g.calm || bltC b) && !(bltN b == "") && !(bltN b == "isinstance") && decide (x = (bltN b : Str)) && glB sc x && decide (x ≠ ("__name__" : Str)) && !(x == ("__debug__" : Str)) && nonE xs && chks g N sc cl es xs
      | _ => false
  | .mth m a es, ex => match ex with
    | .Call (.Attribute o x ap) xs [] pc => decide (x = (mtN m : Str)) && objOk o && (ap.endLine == pc.line) && decide (xs.length ≤ 3) && nonE xs && chk g N sc cl a o && chks g N sc cl es xs
    | _ => false
  | .slc a lo hi, ex => match ex with
    | .Subscript ea (.Slice (some el) (some eh) none _) _ => chk g N sc cl a ea && chk g N sc cl lo el && chk g N sc cl hi eh
    | _ => false
  | .slcL a lo, ex => match ex with
    | .Subscript ea (.Slice (some el) none none _) _ => chk g N sc cl a ea && chk g N sc cl lo el
    | _ => false
  | .slcH a hi, ex => match ex with
    | .Subscript ea (.Slice none (some eh) none _) _ => chk g N sc cl a ea && chk g N sc cl hi eh
    | _ => false
  | .slcN a, ex => match ex with
    | .Subscript ea (.Slice none none none _) _ => chk g N sc cl a ea
    | _ => false
  | .rev a, ex => match ex with
    | .Subscript ea (.Slice none none (some (.UnaryOp .USub (.Constant c _ _) _)) _) _ => decide (c = .int 1) && chk g N sc cl a ea
    | _ => false
  | .idx a i, ex => match ex with
    | .Subscript ea ei _ => chk g N sc cl a ea && chk g N sc cl i ei && plainB ei
    | _ => false
  | .dgk a i, ex => match ex with
    | .Subscript ea ei _ => chk g N sc cl a ea && chk g N sc cl i ei && plainB ei
    | _ => false
  | .dgt a i, ex => match ex with
    | .Subscript ea (.Call (.Name x _) [ei] [] _) _ => decide (x = ("tuple" : Str)) && glB sc x && chk g N sc cl a ea && chk g N sc cl i ei && noStar ei
    | _ => false
  | .fcall f a, ex => match ex with
    | .Call (.Name x _) [ea, .List [.Constant c1 _ _, .Constant c2 _ _] _, .Constant c3 _ _] [] _ => g.calm && decide (x = (f : Str)) && g.mf.contains f && glB sc x && !(x == ("__debug__" : Str)) && decide (c1 = .int 0) && decide (c2 = .int 0) && decide (c3 = .int 0) && chk g N sc cl a ea && noStar ea
    | _ => false
  | .dct, ex => match ex with
    | .Dict [] [] _ => true
    | _ => false
  | .lst es, ex => match ex with
    | .List xs _ => chks g N sc cl es xs
    | _ => false
  | .tup es, ex => match ex with
    | .Tuple xs _ _ => chks g N sc cl es xs
    | _ => false
  | .lc elt tg src cs own, ex => match ex with
    | .ListComp eelt [⟨etg, eiter, ifs, 0⟩] scope _ =>
      g.calm && blkC N sc scope (ownP N own) && (tgS tg).all (fun i => own.contains i) && chkSrc g N sc cl src etg eiter && notSet eiter
        && chkTg N (relS scope sc) (fun x => scope.names.lookup x == some .cell) tg etg
        && chkCs g N (relS scope sc) (fun x => scope.names.lookup x == some .cell) cs ifs
        && chk g N (relS scope sc) (fun x => scope.names.lookup x == some .cell) elt eelt
    | _ => false
def chks (g : Gs) (N : List Str) (sc : Scope) (cl : Str → Bool) : List E → List Expr → Bool
  | [], xs => match xs with
    | [] => true
    | _ => false
  | e :: es, xs => match xs with
    | x :: xs => chk g N sc cl e x && noStar x && chks g N sc cl es xs
    | _ => false
/-- tests of a comprehension: at most one -/
def chkCs (g : Gs) (N : List Str) (sc : Scope) (cl : Str → Bool) : List E → List Expr → Bool
  | [], xs => match xs with
    | [] => true
    | _ => false
  | e :: es, xs => match es, xs with
    | [], [x] => chk g N sc cl e x && tstOk x
    | _, _ => false
def chkSrc (g : Gs) (N : List Str) (sc : Scope) (cl : Str → Bool) : Src → Expr → Expr → Bool
  | .r1 a, _, ex => match ex with
    | .Call (.Name x _) [ea] [] _ => decide (x = ("range" : Str)) && glB sc x && chk g N sc cl a ea && noStar ea
    | _ => false
  | .r2 a b, _, ex => match ex with
    | .Call (.Name x _) [ea, eb] [] _ => decide (x = ("range" : Str)) && glB sc x && chk g N sc cl a ea && chk g N sc cl b eb && noStar ea && noStar eb
    | _ => false
  | .zip3 a b c, tg, ex => match tg, ex with
    | .Tuple _ _ _, .Call (.Name x _) [ea, eb, ec] [] _ => decide (x = ("zip" : Str)) && glB sc x && chk g N sc cl a ea && chk g N sc cl b eb && chk g N sc cl c ec && noStar ea && noStar eb && noStar ec
    | _, _ => false
  | .zip a b, tg, ex => match tg, ex with
    | .Tuple _ _ _, .Call (.Name x _) [ea, eb] [] _ => decide (x = ("zip" : Str)) && glB sc x && chk g N sc cl a ea && chk g N sc cl b eb && noStar ea && noStar eb
    | _, _ => false
  | .enm a, tg, ex => match tg, ex with
    | .Tuple _ _ _, .Call (.Name x _) [ea] [] _ => decide (x = ("enumerate" : Str)) && glB sc x && chk g N sc cl a ea && noStar ea
    | _, _ => false
  | .rv a, _, ex => match ex with
    | .Call (.Name x _) [ea] [] _ => decide (x = ("reversed" : Str)) && glB sc x && chk g N sc cl a ea && noStar ea
    | _ => false
  | .ex e, _, ex => chk g N sc cl e ex
end
end Iv

set_option maxHeartbeats 4000000
/-! Iv Jk: len(set(..)) of numbers, some of them alike. -/
namespace Iv
open PySem PySem.Spec L2
open PyProof.Rows hiding St
theorem boot_len : bootBuiltins ("len" : Str) = some (.builtin "len") := by decide +kernel
theorem len_same : ∀ {xs ys : List Int}, xs.Nodup → ys.Nodup → (∀ k, k ∈ xs ↔ k ∈ ys) → xs.length = ys.length := fun hx hy h =>
  ((List.perm_ext_iff_of_nodup hx hy).mpr h).length_eq
section
variable {X : Cx}
def tLenSetD (K : PySem.W.Frag) (ta : TE) : TE := fun σ H Q => ta σ H fun x H1 => ∃ (l : Addr) (ns : List Int), x = .ref l ∧ SqL K H1 l (ns.map V.int) ∧ ns.length < 64 ∧ Q (.int ((dedup ns).length : Nat)) H1
theorem pe_lenSetD {a : Expr} {ta : TE} {p p2 q pos : Pos} (hc : X.calm = true) (hg : Gl X "len") (hm : X.mg "len" = none) (hg2 : Gl X "set") (hm2 : X.mg "set" = none) (ha : PE X a ta)
    (na : starEach [a] X.env = (false, eval a X.env) :: starEach [] X.env) : PE X (.Call (.Name "len" p) [.Call (.Name "set" p2) [a] [] q] [] pos) (tLenSetD X.K ta) := by
  refine ⟨fun pins s σ H Q I h => ?_⟩
  refine Call_ (ld_blt I hg hm boot_len ?_)
  refine PyProof.Rows.callWith_builtin1 (PyProof.Rows.args_cons ?_ rfl) rfl rfl
  refine Call_ (ld_blt I hg2 hm2 PyProof.Rows.boot_set ?_)
  refine PyProof.Rows.callWith_type1 (PyProof.Rows.args_cons (thn (ha.run pins s σ H _ I h) fun v s1 ⟨x, H1, I1, r1, q1⟩ => PyProof.Rows.args_nil ?_) na) na rfl
  obtain ⟨l, ns, rfl, hq, h64, q1⟩ := q1
  cases r1
  obtain ⟨its, r, pl, hz⟩ := I1.list hq
  refine call_setL ns (I1.ok.hd hc) pl.isList (by simpa using r.ints) (by unfold scanBound; omega) fun s2 ⟨h', tk, c, e2, hS, hcn, hk⟩ => ?_
  refine PyProof.Rows.args_nil ?_
  have I2 : Inv X pins σ H1 s2 := by rw [e2]; exact I1.kept hk
  obtain ⟨o, es, ep, t, g1, g2, g3, g4, g5, g6, g7, g8, g9, g10, g11⟩ : SetR X.w s2.heap s1.heap.objs.size (fun j => decide (j ∈ ns)) c := by rw [e2]; exact hS
  have hl : es.size = (dedup ns).length := by
    have := len_same g5 nodup_dedup fun k => by rw [← g6 k, decide_eq_true_iff]; exact mem_dedup.symm
    rw [List.length_map] at this
    simpa using this
  refine call_len_set g1 g2 g3 g8 (by rw [g9]; omega) ?_
  have J : Inv X pins σ H1 { s2 with heap := s2.heap, toks := s2.toks + 1 + 1 } := I2.kept fun b o h => h
  refine ⟨_, _, J, ?_, q1⟩
  rw [hl]
  exact ⟨_, rfl⟩
end
end Iv

set_option maxHeartbeats 4000000
/-! Iv Jl: len(set(..)) in the language. -/
namespace Iv
open PySem PySem.Spec L2
open PyProof.Rows hiding St
section
variable {g : Gs} {cf : Cf} {k : Nat} {X : Cx} {sc : Scope} {cl : Str → Bool} {W : WC} {a : E} {ea : Expr} {p p2 pos pos2 : Pos}
theorem snd_lenset {x y : Str} (G : Gd g cf k X sc cl W) (hcm : g.calm = true) (hx : x = ("len" : Str)) (hy : y = ("set" : Str)) (hg : sc.names.lookup x = some .globalImplicit) (hg2 : sc.names.lookup y = some .globalImplicit) (ha : PE X ea (tD cf X.K W a)) (hs : noStar ea = true) :
    PE X (.Call (.Name x p) [.Call (.Name y p2) [ea] [] pos2] [] pos) (tD cf X.K W (.blt .lenset [a])) := by
  subst hx hy
  refine (pe_lenSetD (G.calm hcm) (show X.env.scope.names.lookup _ = _ by rw [G.sc]; exact hg) (G.bl "len" (by decide)) (show X.env.scope.names.lookup _ = _ by rw [G.sc]; exact hg2) (G.bl "set" (by decide)) ha (star_cons hs)).mono' fun σ H Q ⟨fm, ρ, sr, w⟩ => ?_
  have w : Wq X.K fm (fun c H' => W c σ H') H H ((evs cf [a] ρ).bind fun xs => bltD .lenset xs) Q := w
  rw [evs_one, M.bind_bind] at w
  refine tD.bind sr Same.refl w fun v H1 x s1 sr1 r1 w1 => ?_
  obtain ⟨d, t⟩ := x
  cases r1 with
  | imm r => exact w1.elim
  | lsd h e r => exact w1.elim
  | tpd h r => exact w1.elim
  | scr h r => exact w1.elim
  | scrK h => exact w1.elim
  | lsi h e r =>
    rename_i l vs xs
    have w1 : Wq X.K fm (fun c H' => W c σ H') H H1 (match asInts xs with | some ns => if ns.length < 64 then M.ok (pim (.int ((dedup ns).length : Nat))) else .bad | none => .bad) Q := w1
    cases e2 : asInts xs with
    | none => rw [e2] at w1; exact w1.elim
    | some ns =>
      rw [e2] at w1
      obtain ⟨c, w2⟩ := Wq.ite w1
      have ev := RepIs.ints r e2
      subst ev
      exact ⟨l, ns, rfl, .inl (.inl e), c, Wq.imm w2 (.int _)⟩
end
end Iv

set_option maxHeartbeats 4000000
/-! Iv Jm: list(zip(..)). -/
namespace PySem
open Sem (wp)
theorem zip_no_len : typeLookup (.type "zip") "__len__" = pure none := am_miss_of_fast (by decide +kernel)
theorem zip_no_hint : typeLookup (.type "zip") "__length_hint__" = pure none := am_miss_of_fast (by decide +kernel)
section
variable {prog : Program} {w : World} {A : Around} {s : Shared} {R : Result → Shared → Prop} {J : Nat → Shared → Prop} {Rf : Shared → Prop} {I S : Addr} {n : Nat} {res : Value}
/-- one turn of list.extend's loop -/
def StepJ (prog : Program) (w : World) (A : Around) (J : Nat → Shared → Prop) (I S : Addr) (i : Nat) : Prop := ∀ (s : Shared) (E : Value → Shared → Prop) (Q : Option Value → Shared → Prop), J i s →
  (∀ v s' acc c, s'.heap.get? S = some { cls := .type "list", dict := none, data := .seq acc c, slots := #[] } → acc.size < sizeLine → J (i + 1) { s' with heap := s'.heap.update S (Obj.mapSeq (·.push v)) } → Q (some v) s') →
  wpAny (model prog w) A (pyNext (.ref I)) Q E s
theorem extend_loopJ (item : ∀ i, i < n → StepJ prog w A.in1 J I S i) (fin : ∀ (s : Shared) (E : Value → Shared → Prop) (Q : Option Value → Shared → Prop), J n s → (∀ s', Rf s' → Q none s') → wpAny (model prog w) A.in1 (pyNext (.ref I)) Q E s) (hR : ∀ s', Rf s' → R (.ok (.ret res)) s') :
    ∀ (k i : Nat) (s : Shared), n - i = k → i ≤ n → J i s → codeAny (model prog w) A (.builtin "list.extend.loop" ⟨[.ref S, .ref I, res], []⟩) R s := by
  intro k
  induction k with
  | zero =>
    intro i s hk hi hst
    have hin : i = n := by omega
    subst hin
    refine codeAny_builtin F.entry_extend_loop ?_
    rw [Around.under_plainId F.plain_extend_loop _]
    show wpAny _ A.in1 (pyNext (.ref I) >>= _) _ _ s
    refine wpAny_bind (fin s _ _ hst fun s' hm => ?_)
    exact wpAny_pure (hR s' hm)
  | succ k ih =>
    intro i s hk hi hst
    have hlt : i < n := by omega
    refine codeAny_builtin F.entry_extend_loop ?_
    rw [Around.under_plainId F.plain_extend_loop _]
    show wpAny _ A.in1 (pyNext (.ref I) >>= _) _ _ s
    refine wpAny_bind (item i hlt s _ _ hst fun v s' acc c hS' hz hJ => ?_)
    show wpAny _ A.in1 (updateSeq S (·.push v) >>= _) _ _ _
    refine wpAny_bind ?_
    exact wpAny_updateSeq hS' rfl (wpAny_pure ⟨plainId_quiet F.plain_extend_loop _, ih (i + 1) _ (by omega) hlt hJ⟩)
      (by omega) (by show (acc.push v).size ≤ sizeLine + 1; rw [Array.size_push]; omega)
theorem extend_zipJ {z TI TO : Addr} (hz : IsZip s.heap z TI TO .none) (hSz : S ≠ z) (c₀ : Nat)
    (hS : s.heap.get? S = some { cls := .type "list", data := .seq #[] c₀ })
    (item : ∀ i, i < n → StepJ prog w A.in1 J z S i) (fin : ∀ (s : Shared) (E : Value → Shared → Prop) (Q : Option Value → Shared → Prop), J n s → (∀ s', Rf s' → Q none s') → wpAny (model prog w) A.in1 (pyNext (.ref z)) Q E s) (hR : ∀ s', Rf s' → R (.ok (.ret res)) s')
    (h0 : ∀ h', (∃ c, h'.get? S = some { cls := .type "list", dict := none, data := .seq #[] c, slots := #[] }) → (∀ b o, b ≠ S → s.heap.get? b = some o → h'.get? b = some o) → J 0 { s with heap := h' }) :
    wpAny (model prog w) A.in1 (Builtin.List.listExtendWith (.ref S) (.ref z) res)
      (fun fin s' => match fin with | .done f => R (.ok f) s' | .again c' => c'.quiet = true ∧ codeAny (model prog w) A c' R s') (fun e s' => R (.error e) s') s := by
  have hT : s.TypeIs (.ref z) "zip" := ⟨_, hz, rfl⟩
  unfold Builtin.List.listExtendWith
  refine wpAny_bind (wpAny_typeOf hT ?_)
  have h1 : Builtin.List.listSameRef (.ref S) (.ref z) = false := by simp [Builtin.List.listSameRef, hSz]
  have h2 : (Value.type "zip" == Value.type "list") = false := by decide
  have h3 : (Value.type "zip" == Value.type "tuple") = false := by decide
  simp only [h1, h2, h3, Bool.or_false, Bool.false_eq_true, if_false]
  refine wpAny_bind (wpAny_pyIter_zip hz ?_)
  refine wpAny_bind (wpAny_holding ?_)
  unfold Builtin.List.listLengthHint
  refine wpAny_bind (wpAny_specialOf hT zip_no_len ?_)
  show wpAny _ A.in1 (specialOf (Value.ref z) (Str.ofString "__length_hint__") >>= _) _ _ _
  refine wpAny_bind (wpAny_specialOf hT zip_no_hint ?_)
  refine wpAny_pure ?_
  show wpAny _ A.in1 (rule "list.extend.makes-room" >>= fun _ => Builtin.List.listTouch (.ref S) >>= fun _ =>
    again (.builtin "list.extend.loop" ⟨[.ref S, .ref z, res], []⟩)) _ _ _
  refine wpAny_bind (wpAny_rule ?_)
  refine wpAny_bind ?_
  show wpAny _ A.in1 (updateSeq S (·.push .none) >>= fun _ => updateSeq S (·.pop)) _ _ _
  refine wpAny_bind (wpAny_updateSeq hS rfl ?_)
  have hS₂ := Heap.get?_update_self (Obj.mapSeq (·.push Value.none)) hS rfl
  refine wpAny_updateSeq (hz := by seq_fits) hS₂ rfl ?_
  have hS₃ := Heap.get?_update_self (Obj.mapSeq (·.pop)) hS₂ rfl
  have oth : ∀ b o, b ≠ S → s.heap.get? b = some o → ((s.heap.update S (Obj.mapSeq (·.push Value.none))).update S (Obj.mapSeq (·.pop))).get? b = some o :=
    fun b o hb e => (Heap.get?_update_other _ _ (Ne.symm hb)).trans ((Heap.get?_update_other _ _ (Ne.symm hb)).trans e)
  exact wpAny_pure ⟨plainId_quiet F.plain_extend_loop _, extend_loopJ item fin hR n 0 _ rfl (Nat.zero_le _) (h0 _ ⟨_, hS₃⟩ oth)⟩
theorem list_init_zipJ {z TI TO : Addr} (hz : IsZip s.heap z TI TO .none) (hSz : S ≠ z)
    (hS : s.heap.get? S = some { cls := .type "list", data := .seq #[] })
    (item : ∀ i, i < n → StepJ prog w A.in1 J z S i) (fin : ∀ (s : Shared) (E : Value → Shared → Prop) (Q : Option Value → Shared → Prop), J n s → (∀ s', Rf s' → Q none s') → wpAny (model prog w) A.in1 (pyNext (.ref z)) Q E s) (hR : ∀ s', Rf s' → R (.ok (.ret .none)) s')
    (h0 : ∀ h', (∃ c, h'.get? S = some { cls := .type "list", dict := none, data := .seq #[] c, slots := #[] }) → (∀ b o, b ≠ S → s.heap.get? b = some o → h'.get? b = some o) → J 0 { s with heap := h' }) :
    wpAny (model prog w) A.in1 (Builtin.«list.__init__» ⟨[.ref S, .ref z], []⟩)
      (fun fin s' => match fin with | .done f => R (.ok f) s' | .again c' => c'.quiet = true ∧ codeAny (model prog w) A c' R s') (fun e s' => R (.error e) s') s := by
  show wpAny _ A.in1 (do let old ← Builtin.List.listItems (.ref S); Builtin.List.listUpdate (.ref S) (fun _ => #[]); letGo old.toList.reverse; Builtin.List.listExtendWith (.ref S) (.ref z) .none) _ _ s
  refine wpAny_bind ?_
  unfold Builtin.List.listItems
  refine wpAny_bind (wpAny_seqItems hS rfl (wpAny_pure ?_))
  show wpAny _ A.in1 (updateSeq S (fun _ => #[]) >>= fun _ => letGo (#[] : Array Value).toList.reverse >>= fun _ => Builtin.List.listExtendWith (.ref S) (.ref z) .none) _ _ s
  refine wpAny_bind (wpAny_updateSeq hS rfl ?_)
  have hS₂ := Heap.get?_update_self (Obj.mapSeq (fun _ => (#[] : Array Value))) hS rfl
  have oth : ∀ b o, b ≠ S → s.heap.get? b = some o → (s.heap.update S (Obj.mapSeq (fun _ => (#[] : Array Value)))).get? b = some o :=
    fun b o hb e => (Heap.get?_update_other _ _ (Ne.symm hb)).trans e
  refine wpAny_bind (wpAny_letGo ?_)
  exact extend_zipJ (s := { s with heap := s.heap.update S (Obj.mapSeq (fun _ => (#[] : Array Value))) }) (oth _ _ hSz.symm hz) hSz _ hS₂ item fin hR fun h' hc hk => h0 h' hc fun b o hb e => hk b o hb (oth b o hb e)
end
section
variable {prog : Program} {w : World} {A : Around} {E : Value → Shared → Prop} {s : Shared} {J : Nat → Shared → Prop} {Rf : Shared → Prop} {n : Nat}
theorem call_list_zipJ {Q : Value → Shared → Prop} {z TI TO : Addr} (hz : IsZip s.heap z TI TO .none)
    (item : ∀ i, i < n → StepJ prog w A.in1.in1 J z s.heap.objs.size i) (fin : ∀ (s' : Shared) (E : Value → Shared → Prop) (Q : Option Value → Shared → Prop), J n s' → (∀ s', Rf s' → Q none s') → wpAny (model prog w) A.in1.in1 (pyNext (.ref z)) Q E s') (hR : ∀ s', Rf s' → Q (.ref s.heap.objs.size) s')
    (h0 : ∀ h', (∃ c, h'.get? s.heap.objs.size = some { cls := .type "list", dict := none, data := .seq #[] c, slots := #[] }) → (∀ b o, s.heap.get? b = some o → h'.get? b = some o) → J 0 { s with heap := h' }) :
    wpAny (model prog w) A (call (.type "list") [.ref z]) Q E s := by
  have hSz : s.heap.objs.size ≠ z := fun e => Nat.lt_irrefl _ (e ▸ Heap.lt_size hz)
  refine callType_codes (Q₁ := fun obj s₁ => obj = .ref s.heap.objs.size ∧ s₁ = { s with heap := s.heap.push { cls := .type "list", data := .seq #[] } }) F.called_list (F.typeCall_list_1 _) F.entry_list_init
    (code_list_new _ ⟨rfl, rfl⟩) fun obj s₁ h₁ => ?_
  obtain ⟨rfl, rfl⟩ := h₁
  have hS : (s.heap.push { cls := .type "list", data := .seq #[] }).get? s.heap.objs.size = some { cls := .type "list", data := .seq #[] } := Heap.get?_push_size _ rfl
  refine ⟨⟨_, hS, rfl⟩, F.args_list_init_2 _ _, list_init_zipJ (s := { s with heap := s.heap.push { cls := .type "list", data := .seq #[] } }) (Heap.get?_push_of_some _ hz) hSz hS item fin (fun s' hs => ⟨rfl, hR s' hs⟩) fun h' hc hk => h0 h' hc fun b o e => hk b o (fun eb => ?_) (Heap.get?_push_of_some _ e)⟩
  exact Nat.lt_irrefl _ (eb ▸ Heap.lt_size e)
end
end PySem

set_option maxHeartbeats 4000000
/-! Iv Jn: list(zip(..)) by hand. -/
namespace Iv
open PySem PySem.Spec L2
open PyProof.Rows hiding St
/-- the list of pairs as it grows -/
structure ZJ (X : Cx) (pins : List (Addr × Obj)) (σ : St) (H1 : Hp) (S : Addr) (xs ys : List V) (i : Nat) (Hc : Hp) (ts : List Addr) (st : Shared) : Prop where
  inv : Inv X pins σ Hc st
  same : Same H1 Hc
  s1 : H1 S = none
  len : ts.length = i
  lst : Hc S = some (.lst (ts.map V.ref))
  tup : ∀ (k : Nat) (T : Addr), ts[k]? = some T → ∃ x y, xs[k]? = some x ∧ ys[k]? = some y ∧ Hc T = some (.tup [x, y])
structure ZR (X : Cx) (pins : List (Addr × Obj)) (a b z TI TO i1 i2 S : Addr) (i : Nat) (Hc : Hp) (h : Heap) : Prop where
  zip : (IsZip h z TI TO .none) ∨ ∃ T f oT, IsZipHeld h z TI TO T f ∧ h.get? T = some oT
  ti : IsPair h TI (.ref i1) (.ref i2)
  to : ∃ u v, IsPair h TO u v
  h1 : h.IsListIter i1 a i
  h2 : h.IsListIter i2 b i
  fp : ∀ c ∈ [z, TI, TO, i1, i2], FpOk X pins Hc c
  sS : S ∉ [z, TI, TO, i1, i2]
section
variable {X : Cx} {pins : List (Addr × Obj)} {σ : St} {H1 : Hp} {S a b z TI TO i1 i2 : Addr} {xs ys : List V} {i : Nat}
def JZ (X : Cx) (pins : List (Addr × Obj)) (σ : St) (H1 : Hp) (S a b z TI TO i1 i2 : Addr) (xs ys : List V) (i : Nat) (st : Shared) : Prop := ∃ Hc ts, ZJ X pins σ H1 S xs ys i Hc ts st ∧ ZR X pins a b z TI TO i1 i2 S i Hc st.heap
theorem fpOk_upd {H : Hp} {c T : Addr} {o : HO} (h : FpOk X pins H c) (hT : c ≠ T) : FpOk X pins (L2.upd H T o) c := ⟨by rw [upd_ne hT]; exact h.1, h.2⟩
theorem ZR.lt {Hc : Hp} {h : Heap} (B : ZR X pins a b z TI TO i1 i2 S i Hc h) : ∀ c ∈ [z, TI, TO, i1, i2], c < h.objs.size := by
  intro c hc
  have hc : c = z ∨ c = TI ∨ c = TO ∨ c = i1 ∨ c = i2 := by simpa using hc
  rcases hc with rfl | rfl | rfl | rfl | rfl
  · rcases B.zip with h | ⟨T, f, oT, h, _⟩
    · exact Heap.lt_size h
    · exact Heap.lt_size h
  · exact Heap.lt_size B.ti
  · obtain ⟨u, v, h⟩ := B.to
    exact Heap.lt_size h
  · obtain ⟨o, h, _⟩ := B.h1
    exact Heap.lt_size h
  · obtain ⟨o, h, _⟩ := B.h2
    exact Heap.lt_size h
/-- a pair more -/
theorem zj_next {Hc : Hp} {ts : List Addr} {st : Shared} {h' : Heap} {x y : V} {vx vy : Value} (A : ZJ X pins σ H1 S xs ys i Hc ts st) (B : ZR X pins a b z TI TO i1 i2 S i Hc st.heap) (hx : xs[i]? = some x) (hy : ys[i]? = some y) (rx : RelV x vx) (ry : RelV y vy)
    (zip : ∃ T f oT, IsZipHeld h' z TI TO T f ∧ h'.get? T = some oT) (ti : IsPair h' TI (.ref i1) (.ref i2)) (to : ∃ u v, IsPair h' TO u v) (h1 : h'.IsListIter i1 a (i + 1)) (h2 : h'.IsListIter i2 b (i + 1)) (hT : IsPair h' st.heap.objs.size vx vy)
    (k : ∀ c o, c ∉ [z, TI, TO, i1, i2] → st.heap.get? c = some o → h'.get? c = some o) (hi : i + 1 < sizeLine) :
    ∃ acc c, h'.get? S = some { cls := .type "list", dict := none, data := .seq acc c, slots := #[] } ∧ acc.size < sizeLine ∧ JZ X pins σ H1 S a b z TI TO i1 i2 xs ys (i + 1) { st with heap := h'.update S (Obj.mapSeq (·.push (.ref st.heap.objs.size))) } := by
  have hTn : Hc st.heap.objs.size = none := A.inv.hok.fresh (Nat.le_refl _)
  have hST : S ≠ st.heap.objs.size := fun e => by have := A.lst; rw [e, hTn] at this; cases this
  have I1 : Inv X pins σ (upd Hc st.heap.objs.size (.tup [x, y])) { st with heap := h', toks := st.toks } := A.inv.turnedNew (ch := [z, TI, TO, i1, i2]) (fun b o hb e => k b o hb e) (fun b hb => B.fp b hb) (Nat.le_refl _)
    ⟨by show 2 ≤ sizeLine; decide, [vx, vy], .cons rx (.cons ry .nil), ⟨_, hT, rfl, _, rfl⟩⟩
  have hS1 : (upd Hc st.heap.objs.size (.tup [x, y])) S = some (.lst (ts.map V.ref)) := by rw [upd_ne hST]; exact A.lst
  obtain ⟨hz, its, n, r, hl, e⟩ := I1.lstM hS1
  have hli : its.length = i := by rw [← hl, List.length_map, A.len]
  have upo : ∀ c o, c ≠ S → h'.get? c = some o → (h'.update S (Obj.mapSeq (·.push (.ref st.heap.objs.size)))).get? c = some o := fun c o hc e => (Heap.get?_update_other _ _ (Ne.symm hc)).trans e
  have ups := Heap.get?_update_self (Obj.mapSeq (·.push (Value.ref st.heap.objs.size))) e rfl
  have nS : ∀ c ∈ [z, TI, TO, i1, i2], c ≠ S := fun c hc e => B.sS (e ▸ hc)
  have mz : z ∈ [z, TI, TO, i1, i2] := by simp
  have mTI : TI ∈ [z, TI, TO, i1, i2] := by simp
  have mTO : TO ∈ [z, TI, TO, i1, i2] := by simp
  have m1 : i1 ∈ [z, TI, TO, i1, i2] := by simp
  have m2 : i2 ∈ [z, TI, TO, i1, i2] := by simp
  refine ⟨its.toArray, n, e, by rw [List.size_toArray]; omega, upd (upd Hc st.heap.objs.size (.tup [x, y])) S (.lst ((ts ++ [st.heap.objs.size]).map V.ref)), ts ++ [st.heap.objs.size], ⟨?_, ?_, A.s1, ?_, upd_same, ?_⟩, ⟨.inr ?_, ?_, ?_, ?_, ?_, ?_, B.sS⟩⟩
  · refine I1.lset (its := its) (its' := its ++ [.ref st.heap.objs.size]) (f := (·.push (.ref st.heap.objs.size))) (t' := st.toks) hS1 e (by simp) ?_ ?_
    · rw [List.map_append]
      exact r.append (.cons rfl .nil)
    · rw [List.length_map, List.length_append, A.len]
      simp
      omega
  · intro c o ec
    have h2 := A.same c o ec
    rw [upd_ne (fun z => by rw [z, A.s1] at ec; cases ec), upd_ne (fun z => by rw [z, hTn] at h2; cases h2)]
    exact h2
  · rw [List.length_append, A.len]
    rfl
  · intro k' T' hk
    by_cases hlt : k' < ts.length
    · rw [List.getElem?_append_left hlt] at hk
      obtain ⟨x', y', e1, e2, e3⟩ := A.tup k' T' hk
      refine ⟨x', y', e1, e2, ?_⟩
      rw [upd_ne (fun z => by rw [z, A.lst] at e3; cases e3), upd_ne (fun z => by rw [z, hTn] at e3; cases e3)]
      exact e3
    · have hk' : k' = ts.length := by
        have := (List.getElem?_eq_some_iff.mp hk).1
        rw [List.length_append] at this
        simp at this
        omega
      subst hk'
      rw [List.getElem?_append_right (Nat.le_refl _)] at hk
      have hk : some st.heap.objs.size = some T' := by simpa using hk
      cases hk
      rw [A.len]
      refine ⟨x, y, hx, hy, ?_⟩
      rw [upd_ne hST.symm, upd_same]
  · obtain ⟨T0, f, oT, g1, g2⟩ := zip
    refine ⟨T0, f, ?_⟩
    by_cases hTS : T0 = S
    · exact ⟨_, upo _ _ (nS _ mz) g1, by rw [hTS]; exact ups⟩
    · exact ⟨_, upo _ _ (nS _ mz) g1, upo _ _ hTS g2⟩
  · exact upo _ _ (nS _ mTI) ti
  · obtain ⟨u, v, g⟩ := to
    exact ⟨u, v, upo _ _ (nS _ mTO) g⟩
  · exact h1.at fun o e => upo _ _ (nS _ m1) e
  · exact h2.at fun o e => upo _ _ (nS _ m2) e
  · intro c hc
    exact fpOk_upd (fpOk_upd (B.fp c hc) (Nat.ne_of_lt (B.lt c hc))) (nS c hc)
theorem step_zip {A : Around} (D : ZipApart z TI TO i1 i2 a b) (qa : SqL X.K H1 a xs) (qb : SqL X.K H1 b ys) (hn : i < min xs.length ys.length) (h1000 : min xs.length ys.length ≤ 1000) : StepJ X.prog X.w A (JZ X pins σ H1 S a b z TI TO i1 i2 xs ys) z S i := by
  intro s E Q hJ hQ
  obtain ⟨Hc, ts, Aj, B⟩ := hJ
  obtain ⟨its, r1, p1, _⟩ := Aj.inv.list (Aj.same.sqL qa)
  obtain ⟨its2, r2, p2, _⟩ := Aj.inv.list (Aj.same.sqL qb)
  have hx : xs[i]? = some xs[i] := List.getElem?_eq_getElem (by omega)
  have hy : ys[i]? = some ys[i] := List.getElem?_eq_getElem (by omega)
  obtain ⟨vx, ex, rx⟩ := r1.get hx
  obtain ⟨vy, ey, ry⟩ := r2.get hy
  have ex' : its.toArray[i]? = some vx := by simpa using ex
  have ey' : its2.toArray[i]? = some vy := by simpa using ey
  have mem : ∀ c, c ∉ [z, TI, TO, i1, i2] → c ≠ z ∧ c ≠ TI ∧ c ≠ TO ∧ c ≠ i1 ∧ c ≠ i2 := fun c hc => by simpa using hc
  have hT0 : TI < s.heap.objs.size := B.lt _ (by simp)
  have szl : i + 1 < sizeLine := Nat.lt_of_le_of_lt (show i + 1 ≤ 1000 by omega) (by decide)
  rcases B.zip with hz | ⟨T, f, oT, hz, hT⟩
  · obtain ⟨u, v, hTO⟩ := B.to
    refine wpAny_pyNext_zip_item D hz B.ti hTO B.h1 B.h2 p1.isList p2.isList ex' ey' fun h' g1 g2 g3 g4 g5 g6 g7 => ?_
    obtain ⟨acc, c, e1, e2, e3⟩ := zj_next (h' := h') Aj B hx hy rx ry ⟨_, _, _, g1, g5⟩ (g7 _ _ D.TIz D.TITO D.TIi1 D.TIi2 B.ti) ⟨_, _, g2⟩ g3 g4 g5 (fun c o hc e => by
      obtain ⟨n1, n2, n3, n4, n5⟩ := mem c hc
      exact g7 c o n1 n3 n4 n5 e) szl
    exact hQ _ _ acc c e1 e2 e3
  · refine wpAny_pyNext_zip_item_held D hz hT B.ti B.h1 B.h2 p1.isList p2.isList ex' ey' fun h' g1 g3 g4 g5 g6 g7 => ?_
    obtain ⟨u, v, hTO⟩ := B.to
    have hTn : (∃ o, h'.get? T = some o) := by
      by_cases n1 : T = z
      · exact ⟨_, by rw [n1]; exact g1⟩
      · by_cases n2 : T = i1
        · obtain ⟨o, e, _⟩ := g3
          exact ⟨o, by rw [n2]; exact e⟩
        · by_cases n3 : T = i2
          · obtain ⟨o, e, _⟩ := g4
            exact ⟨o, by rw [n3]; exact e⟩
          · exact ⟨_, g7 _ _ n1 n2 n3 hT⟩
    obtain ⟨oT', hT'⟩ := hTn
    obtain ⟨acc, c, e1, e2, e3⟩ := zj_next (h' := h') Aj B hx hy rx ry ⟨_, _, _, g1, hT'⟩ (g7 _ _ D.TIz D.TIi1 D.TIi2 B.ti) ⟨_, _, g7 _ _ D.TOz D.TOi1 D.TOi2 hTO⟩ g3 g4 g5 (fun c o hc e => by
      obtain ⟨n1, n2, n3, n4, n5⟩ := mem c hc
      exact g7 c o n1 n4 n5 e) szl
    exact hQ _ _ acc c e1 e2 e3
theorem fin_zip {A : Around} (hh : A.handled = none) (D : ZipApart z TI TO i1 i2 a b) (qa : SqL X.K H1 a xs) (qb : SqL X.K H1 b ys) (s : Shared) (E : Value → Shared → Prop) (Q : Option Value → Shared → Prop) (hJ : JZ X pins σ H1 S a b z TI TO i1 i2 xs ys (min xs.length ys.length) s)
    (hQ : ∀ s', (∃ Hc ts, ZJ X pins σ H1 S xs ys (min xs.length ys.length) Hc ts s') → Q none s') : wpAny (model X.prog X.w) A (pyNext (.ref z)) Q E s := by
  obtain ⟨Hc, ts, Aj, B⟩ := hJ
  obtain ⟨its, r1, p1, _⟩ := Aj.inv.list (Aj.same.sqL qa)
  obtain ⟨its2, r2, p2, _⟩ := Aj.inv.list (Aj.same.sqL qb)
  have hend : its.toArray[min xs.length ys.length]? = none ∨ its2.toArray[min xs.length ys.length]? = none := by
    have l1 := r1.length
    have l2 := r2.length
    rcases Nat.le_total xs.length ys.length with h | h
    · left; simp; omega
    · right; simp; omega
  have tn : ∀ h', (∀ c o, c ∉ [z, TI, TO, i1, i2] → s.heap.get? c = some o → h'.get? c = some o) → Q none { s with heap := h' } := fun h' k =>
    hQ _ ⟨Hc, ts, Aj.inv.turnedL (ch := [z, TI, TO, i1, i2]) (t' := s.toks) (fun b o hb e => k b o hb e) (fun b hb => B.fp b hb), Aj.same, Aj.s1, Aj.len, Aj.lst, Aj.tup⟩
  have mem : ∀ c, c ∉ [z, TI, TO, i1, i2] → c ≠ z ∧ c ≠ TI ∧ c ≠ TO ∧ c ≠ i1 ∧ c ≠ i2 := fun c hc => by simpa using hc
  rcases B.zip with hz | ⟨T, f, oT, hz, hT⟩
  · obtain ⟨u, v, hTO⟩ := B.to
    exact wpAny_pyNext_zip_end hh D hz B.ti hTO B.h1 B.h2 p1.isList p2.isList hend fun h' g => tn h' fun c o hc e => by
      obtain ⟨n1, n2, n3, n4, n5⟩ := mem c hc
      exact g c o n1 n3 n4 n5 e
  · exact wpAny_pyNext_zip_end_held hh D hz hT B.ti B.h1 B.h2 p1.isList p2.isList hend fun h' g => tn h' fun c o hc e => by
      obtain ⟨n1, n2, n3, n4, n5⟩ := mem c hc
      exact g c o n1 n4 n5 e
end
section
variable {X : Cx}
/-- list(zip(..)) of two lists -/
def tLzip (K : PySem.W.Frag) (ta : TA) : TE := fun σ H Q => ta σ H fun vs H1 => ∃ (a b : Addr) (xs ys : List V), vs = [.ref a, .ref b] ∧ SqL K H1 a xs ∧ SqL K H1 b ys ∧ min xs.length ys.length ≤ 1000 ∧
  ∀ (H' : Hp) (S : Addr) (ts : List Addr), Same H1 H' → H1 S = none → H' S = some (.lst (ts.map V.ref)) → ts.length = min xs.length ys.length →
    (∀ (k : Nat) (T : Addr), ts[k]? = some T → ∃ x y, xs[k]? = some x ∧ ys[k]? = some y ∧ H' T = some (.tup [x, y])) → Q (.ref S) H'
theorem pe_lzip {ea eb : Expr} {ta : TA} {p p2 q pos : Pos} (hc : X.calm = true) (hg : Gl X "list") (hm : X.mg "list" = none) (hg2 : Gl X "zip") (hm2 : X.mg "zip" = none) (ha : PA X [ea, eb] ta)
    (hs : starEach [ea, eb] X.env = (false, eval ea X.env) :: starEach [eb] X.env) (hpl : (backTo q (starEach [eb] X.env)).any (·.1) = false) : PE X (.Call (.Name "list" p) [.Call (.Name "zip" p2) [ea, eb] [] q] [] pos) (tLzip X.K ta) := by
  refine ⟨fun pins s σ H Q I h => ?_⟩
  refine Call_ (ld_blt I hg hm PyProof.Rows.boot_list ?_)
  refine PyProof.Rows.callWith_type1 (PyProof.Rows.args_cons ?_ rfl) rfl rfl
  refine Call_ (ld_blt I hg2 hm2 PyProof.Rows.boot_zip (PyProof.Rows.callWith_type1 (thn (ha.run q pins s σ H _ I h) fun us s1 ⟨vs, H1, I1, r1, q1⟩ => ?_) hs hpl))
  obtain ⟨a, b, xs, ys, rfl, qa, qb, hn, qf⟩ := q1
  cases r1 with
  | cons r rr =>
    cases rr with
    | cons r' rr =>
      cases rr
      cases r
      cases r'
      obtain ⟨its, rv, p1, _⟩ := I1.list qa
      obtain ⟨its2, rv2, p2, _⟩ := I1.list qb
      have la : a < s1.heap.objs.size := p1.lt
      have lb : b < s1.heap.objs.size := p2.lt
      refine call_zip_2 p1.isList p2.isList fun h' hz hTI hTO h1 h2 hsz hk => PyProof.Rows.args_nil ?_
      have I2 : Inv X pins σ H1 { s1 with heap := h' } := I1.kept (t' := s1.toks) hk
      have D := PySem.W.ktu_apart s1.heap.objs.size a b la lb
      have hS1 : H1 h'.objs.size = none := I2.hok.fresh (Nat.le_refl _)
      have fresh5 : ∀ c ∈ [s1.heap.objs.size + 4, s1.heap.objs.size + 2, s1.heap.objs.size + 3, s1.heap.objs.size, s1.heap.objs.size + 1], FpOk X pins H1 c ∧ c ≠ h'.objs.size := fun c hcm => by
        have e' : c = s1.heap.objs.size + 4 ∨ c = s1.heap.objs.size + 2 ∨ c = s1.heap.objs.size + 3 ∨ c = s1.heap.objs.size ∨ c = s1.heap.objs.size + 1 := by simpa using hcm
        have hle : s1.heap.objs.size ≤ c := by
          rcases e' with z | z | z | z | z
          · rw [z]; exact Nat.le_add_right _ _
          · rw [z]; exact Nat.le_add_right _ _
          · rw [z]; exact Nat.le_add_right _ _
          · rw [z]; exact Nat.le_refl _
          · rw [z]; exact Nat.le_add_right _ _
        refine ⟨I1.fpOk hle (I1.hok.fresh hle), Nat.ne_of_lt ?_⟩
        show (c : Nat) < h'.objs.size
        rcases e' with z | z | z | z | z <;> (rw [z, hsz]; show (_ : Nat) < _; omega)
      refine call_list_zipJ (s := { s1 with heap := h' }) (J := JZ X pins σ H1 h'.objs.size a b (s1.heap.objs.size + 4) (s1.heap.objs.size + 2) (s1.heap.objs.size + 3) s1.heap.objs.size (s1.heap.objs.size + 1) xs ys) (n := min xs.length ys.length) hz
        (fun i hi => step_zip D qa qb hi hn) (Rf := fun s' => ∃ Hc ts, ZJ X pins σ H1 h'.objs.size xs ys (min xs.length ys.length) Hc ts s') (fin_zip (I1.ok.hd hc) D qa qb) (fun s' ⟨Hc, ts, A⟩ => ⟨.ref h'.objs.size, Hc, A.inv, rfl, qf Hc _ ts A.same A.s1 A.lst A.len A.tup⟩)
        (fun h'' hc'' hk'' => ?_)
      obtain ⟨c, hc''⟩ := hc''
      refine ⟨upd H1 h'.objs.size (.lst []), [], ⟨I2.laid (h' := h'') (t' := s1.toks) hk'' (Nat.le_refl _) ⟨by decide, [], c, .nil, hc''⟩, Same.new hS1, hS1, rfl, upd_same, fun k T e => by simp at e⟩,
        ⟨.inl (hk'' _ _ hz), hk'' _ _ hTI, ⟨_, _, hk'' _ _ hTO⟩, h1.at fun o e => hk'' _ _ e, h2.at fun o e => hk'' _ _ e, fun c hcm => fpOk_upd (fresh5 c hcm).1 (fresh5 c hcm).2, fun hm => (fresh5 _ hm).2 rfl⟩⟩
end
end Iv

set_option maxHeartbeats 4000000
/-! Iv Jo: list(zip(..)) in the language. -/
namespace Iv
open PySem PySem.Spec L2
open PyProof.Rows hiding St
theorem zip_reps {K : PySem.W.Frag} {H : Hp} : ∀ {xs ys : List I} {vs us : List V} {ts : List Addr}, RepIs K H xs vs → RepIs K H ys us → ts.length = min vs.length us.length → (∀ (k : Nat) (T : Addr), ts[k]? = some T → ∃ x y, vs[k]? = some x ∧ us[k]? = some y ∧ H T = some (.tup [x, y])) →
    RepIs K H ((xs.zip ys).map fun p => I.tup [p.1, p.2]) (ts.map V.ref)
  | [], _, _, _, ts, .nil, _, hl, _ => by
    have : ts = [] := List.eq_nil_of_length_eq_zero (by simpa using hl)
    subst this
    exact .nil
  | _ :: _, [], _, _, ts, .cons _ _, .nil, hl, _ => by
    have : ts = [] := List.eq_nil_of_length_eq_zero (by simpa using hl)
    subst this
    exact .nil
  | x :: xs, y :: ys, v :: vs, u :: us, [], .cons r rs, .cons q qs, hl, ht => by
    simp at hl
  | x :: xs, y :: ys, v :: vs, u :: us, T :: ts, .cons r rs, .cons q qs, hl, ht => by
    obtain ⟨x', y', e1, e2, e3⟩ := ht 0 T rfl
    cases e1
    cases e2
    refine .cons (.tup (.inl (.inl e3)) (.cons r (.cons q .nil))) (zip_reps rs qs ?_ fun k T' e => ht (k + 1) T' e)
    simp at hl
    omega
section
variable {g : Gs} {cf : Cf} {k : Nat} {X : Cx} {sc : Scope} {cl : Str → Bool} {W : WC} {a b : E} {ea eb : Expr} {p p2 pos pos2 : Pos}
theorem snd_lzip {x y : Str} (G : Gd g cf k X sc cl W) (hcm : g.calm = true) (hx : x = ("list" : Str)) (hy : y = ("zip" : Str)) (hg : sc.names.lookup x = some .globalImplicit) (hg2 : sc.names.lookup y = some .globalImplicit) (ha : PA X [ea, eb] (tDs cf X.K W [a, b])) (hs : noStar ea = true) (hs2 : noStar eb = true) :
    PE X (.Call (.Name x p) [.Call (.Name y p2) [ea, eb] [] pos2] [] pos) (tD cf X.K W (.blt .lzip [a, b])) := by
  subst hx hy
  refine (pe_lzip (G.calm hcm) (show X.env.scope.names.lookup _ = _ by rw [G.sc]; exact hg) (G.bl "list" (by decide)) (show X.env.scope.names.lookup _ = _ by rw [G.sc]; exact hg2) (G.bl "zip" (by decide)) ha (star_cons hs) (by rw [star_cons hs2]; rfl)).mono' fun σ H Q ⟨fm, ρ, sr, w⟩ => ?_
  have w : Wq X.K fm (fun c H' => W c σ H') H H ((evs cf [a, b] ρ).bind fun xs => bltD .lzip xs) Q := w
  refine tDs.bind sr Same.refl w fun vs H1 zs s1 sr1 r1 w1 => ?_
  match zs, r1, w1 with
  | [], _, w1 => exact w1.elim
  | [_], _, w1 => exact w1.elim
  | _ :: _ :: _ :: _, _, w1 => exact w1.elim
  | [z1, z2], r1, w1 =>
    obtain ⟨v, u, rfl, g1, g2⟩ := vrs2 r1
    obtain ⟨d1, t1⟩ := z1
    obtain ⟨d2, t2⟩ := z2
    cases g1 with
    | imm r => exact w1.elim
    | lsd h e r => exact w1.elim
    | tpd h r => exact w1.elim
    | scr h r => exact w1.elim
    | scrK h => exact w1.elim
    | lsi h e r =>
      rename_i l vs xs _
      cases g2 with
      | imm r => exact w1.elim
      | lsd h e r => exact w1.elim
      | tpd h r => exact w1.elim
      | scr h r => exact w1.elim
      | scrK h => exact w1.elim
      | lsi h' e' r' =>
        rename_i l' us ys _
        have w1 : Wq X.K fm (fun c H' => W c σ H') H H1 (if xs.length ≤ 1000 ∧ ys.length ≤ 1000 then M.ok (D.lsi ((xs.zip ys).map fun p => .tup [p.1, p.2]), T0) else .bad) Q := w1
        obtain ⟨c, w2⟩ := Wq.ite w1
        exact ⟨l, l', vs, us, rfl, .inl (.inl e), .inl (.inl e'), by rw [← RepIs.len r]; omega, fun H' S ts s2 hS hl hlen ht => w2 _ _ s2 (.lsi (NdR.new sr.at' s1 hS) hl (zip_reps (r.same s2) (r'.same s2) hlen ht))⟩
end
end Iv

/-! Iv O: expressions as a whole. -/
namespace Iv
open PySem PySem.Spec L2
open PyProof.Rows hiding St

structure Snd (X : Cx) (cf : Cf) (W : WC) (e : E) (ex : Expr) : Prop where
  d : PE X ex (tD cf X.K W e)
  t : tstOk ex = true → PT X ex (tT cf X.K W e)
  w : ∀ op es p, ex = .BoolOp op es p → PW X ex (tT cf X.K W e)
section
variable {g : Gs} {cf : Cf} {k : Nat} {X : Cx} {sc : Scope} {cl : Str → Bool} {W : WC} {e : E} {ex : Expr}
theorem Snd.plain (h : PE X ex (tD cf X.K W e)) (he : ∀ whole, isTrue ex X.env whole = (do let v ← whole; standAt ex.pos; holding [v] (truthy v))) (hb : ∀ op es p, ex ≠ .BoolOp op es p) : Snd X cf W e ex :=
  ⟨h, fun _ => pt_of h he, fun op es p z => absurd z (hb op es p)⟩
theorem Gd.blk (G : Gd g cf k X sc cl W) (s : Shared) (H : Hp) (scope : Scope) (C : Addr) (cs : List (Str × Addr)) (fp : List Addr) :
    Gd g cf k (X.blk s H scope (compEnvC scope cs C X.env) fp) (relS scope sc) (fun x => scope.names.lookup x == some .cell) W0 where
  sc := by rw [← G.sc]; rfl
  nd := G.nd
  room := G.room
  un := G.un
  calm := G.calm
  fnc := fun x h => h
  tk := takesA_no fun c d σ H h => by obtain ⟨_, _, _, _, _, h⟩ := h; exact h
  stk := G.stk
  fn := G.fn
  bl := G.bl
  cs := G.cs
  xa := G.xa
  fm := G.fm
theorem Gd.blkx (G : Gd g cf k X sc cl W) (s : Shared) (H : Hp) (scope : Scope) (C : Addr) (cs : List (Str × Addr)) (fp : List Addr) (xe : Value → Shared → Prop) {W' : WC} (tk : TakesA (blkX X s H scope (compEnvC scope cs C X.env) fp xe) (WX' X.mg W')) :
    Gd g cf k (blkX X s H scope (compEnvC scope cs C X.env) fp xe) (relS scope sc) (fun x => scope.names.lookup x == some .cell) W' where
  sc := by rw [← G.sc]; rfl
  nd := G.nd
  room := G.room
  un := G.un
  calm := G.calm
  fnc := fun x h => h
  tk := tk
  stk := G.stk
  fn := G.fn
  bl := G.bl
  cs := G.cs
  xa := G.xa
  fm := G.fm
theorem Gd.blk0 (G : Gd g cf k X sc cl W) (s : Shared) (H : Hp) (scope : Scope) (C : Addr) (cs : List (Str × Addr)) (fp : List Addr) (xe : Value → Shared → Prop) :
    Gd g cf k (blkX X s H scope (compEnvC scope cs C X.env) fp xe) (relS scope sc) (fun x => scope.names.lookup x == some .cell) W0 := G.blkx s H scope C cs fp xe (takesA_no fun c d σ H h => by obtain ⟨_, _, _, _, _, h⟩ := h; exact h)
theorem chks_star {N : List Str} : ∀ {es : List E} {xs : List Expr}, chks g N sc cl es xs = true → xs.all noStar = true
  | [], xs, h => by
    unfold chks at h
    split at h
    · rfl
    · cases h
  | e :: es, xs, h => by
    unfold chks at h
    split at h
    · rw [Bool.and_eq_true, Bool.and_eq_true] at h
      rw [List.all_cons, h.1.2, chks_star h.2]
      rfl
    · cases h
end
mutual
theorem snd_e (g : Gs) (cf : Cf) (k : Nat) : (e : E) → ∀ {X : Cx} {sc : Scope} {cl : Str → Bool} {W : WC} {ex : Expr}, chk g X.N sc cl e ex = true → Gd g cf k X sc cl W → Snd X cf W e ex
  | .var i, X, sc, cl, W, ex, h, G => by
    unfold chk at h
    split at h
    · rw [Bool.and_eq_true, Bool.and_eq_true, Bool.and_eq_true, Bool.not_eq_true', Bool.not_eq_true'] at h
      exact .plain (snd_var (of_decide_eq_true h.1.1.1) (by rw [G.sc]; exact visB_ok h.1.1.2) h.1.2 h.2) (fun _ => rfl) nofun
    · cases h
  | .lit c, X, sc, cl, W, ex, h, G => by
    unfold chk at h
    split at h
    · rw [Bool.and_eq_true, decide_eq_true_eq] at h
      obtain ⟨rfl, h⟩ := h
      exact .plain (snd_lit h) (fun _ => rfl) nofun
    · cases h
  | .glob x c, X, sc, cl, W, ex, h, G => by
    unfold chk at h
    split at h
    · rw [Bool.and_eq_true, Bool.and_eq_true, Bool.and_eq_true, Bool.not_eq_true', decide_eq_true_eq, List.contains_iff_mem] at h
      exact .plain (snd_glob G h.1.1.1 h.1.1.2 (glB_ok h.1.2) h.2) (fun _ => rfl) nofun
    · cases h
  | .bin op a b, X, sc, cl, W, ex, h, G => by
    unfold chk at h
    split at h
    · rw [Bool.and_eq_true, Bool.and_eq_true, decide_eq_true_eq] at h
      obtain ⟨⟨rfl, h1⟩, h2⟩ := h
      exact .plain (snd_bin (snd_e g cf k a h1 G).d (snd_e g cf k b h2 G).d) (fun _ => rfl) nofun
    · cases h
  | .neg a, X, sc, cl, W, ex, h, G => by
    unfold chk at h
    split at h
    · exact .plain (snd_neg (snd_e g cf k a h G).d) (fun _ => rfl) nofun
    · cases h
  | .not a, X, sc, cl, W, ex, h, G => by
    unfold chk at h
    split at h
    · rw [Bool.and_eq_true] at h
      have s := snd_e g cf k a h.1 G
      exact ⟨snd_not s.d, fun _ => sndT_not (s.t h.2), nofun⟩
    · cases h
  | .and a b, X, sc, cl, W, ex, h, G => by
    unfold chk at h
    split at h
    · rw [Bool.and_eq_true, Bool.and_eq_true, Bool.and_eq_true] at h
      have s1 := snd_e g cf k a h.1.1.1 G
      have s2 := snd_e g cf k b h.1.2 G
      have pw := sndT_and (pos := by assumption) (s1.t h.1.1.2) (pw_and1 (s2.t h.2))
      exact ⟨snd_and s1.d (pe_one s2.d), fun _ => pw.pt, fun _ _ _ _ => pw⟩
    · rw [Bool.and_eq_true, Bool.and_eq_true] at h
      have s1 := snd_e g cf k a h.1.1 G
      have s2 := snd_e g cf k b h.2 G
      have pw := sndT_and (s1.t h.1.2) (s2.w _ _ _ rfl)
      exact ⟨snd_and s1.d s2.d, fun _ => pw.pt, fun _ _ _ _ => pw⟩
    · cases h
  | .or a b, X, sc, cl, W, ex, h, G => by
    unfold chk at h
    split at h
    · rw [Bool.and_eq_true, Bool.and_eq_true, Bool.and_eq_true] at h
      have s1 := snd_e g cf k a h.1.1.1 G
      have s2 := snd_e g cf k b h.1.2 G
      have pw := sndT_or (pos := by assumption) (s1.t h.1.1.2) (pw_or1 (s2.t h.2))
      exact ⟨snd_or s1.d (pe_one s2.d), fun _ => pw.pt, fun _ _ _ _ => pw⟩
    · rw [Bool.and_eq_true, Bool.and_eq_true] at h
      have s1 := snd_e g cf k a h.1.1 G
      have s2 := snd_e g cf k b h.2 G
      have pw := sndT_or (s1.t h.1.2) (s2.w _ _ _ rfl)
      exact ⟨snd_or s1.d s2.d, fun _ => pw.pt, fun _ _ _ _ => pw⟩
    · cases h
  | .cmp op a b, X, sc, cl, W, ex, h, G => by
    unfold chk at h
    split at h
    · rw [Bool.and_eq_true, Bool.and_eq_true, Bool.and_eq_true, decide_eq_true_eq] at h
      obtain ⟨⟨⟨rfl, h1⟩, h2⟩, h3⟩ := h
      have s1 := snd_e g cf k a h1 G
      have s2 := snd_e g cf k b h2 G
      exact ⟨snd_cmp G.un s1.d s2.d (notSet_mark h3), fun _ => sndT_cmp G.un s1.d s2.d (notSet_mark h3), nofun⟩
    · cases h
  | .chain o1 o2 a b c, X, sc, cl, W, ex, h, G => by
    unfold chk at h
    split at h
    · rw [Bool.and_eq_true, Bool.and_eq_true, Bool.and_eq_true, Bool.and_eq_true, Bool.and_eq_true, decide_eq_true_eq, decide_eq_true_eq] at h
      obtain ⟨⟨⟨⟨⟨rfl, rfl⟩, h1⟩, h2⟩, h3⟩, h4⟩ := h
      have s1 := snd_e g cf k a h1 G
      have s2 := snd_e g cf k b h2 G
      have s3 := snd_e g cf k c h3 G
      exact ⟨snd_chain G.un s1.d s2.d s3.d (notSet_mark h4), fun _ => sndT_chain G.un s1.d s2.d s3.d (notSet_mark h4), nofun⟩
    · cases h
  | .ife c a b, X, sc, cl, W, ex, h, G => by
    unfold chk at h
    split at h
    · rw [Bool.and_eq_true, Bool.and_eq_true, Bool.and_eq_true] at h
      have s1 := snd_e g cf k c h.1.1.1 G
      have s2 := snd_e g cf k a h.1.2 G
      have s3 := snd_e g cf k b h.2 G
      exact ⟨snd_ife (s1.t h.1.1.2) s2.d s3.d, nofun, nofun⟩
    · cases h
  | .call f es, X, sc, cl, W, ex, h, G => by
    unfold chk at h
    split at h
    · rename_i x p xs pos
      rw [Bool.and_eq_true, Bool.and_eq_true, Bool.and_eq_true, Bool.and_eq_true, Bool.and_eq_true, Bool.not_eq_true', decide_eq_true_eq, List.contains_iff_mem] at h
      obtain ⟨⟨⟨⟨⟨h0, h1⟩, h2⟩, h3⟩, h4⟩, h5⟩ := h
      have s := snd_es g cf k es h5 G
      have st := chks_star h5
      cases xs with
      | nil =>
        cases es with
        | nil => exact .plain (snd_call0 G h0 h2 h1 (glB_ok h3) h4) (fun _ => rfl) nofun
        | cons a r => unfold chks at h5; cases h5
      | cons ea xs => exact .plain (snd_call G h0 h2 h1 (glB_ok h3) h4 rfl s st) (fun _ => rfl) nofun
    · cases h
  | .blt b es, X, sc, cl, W, ex, h, G => by
    have gen : ∀ {b : Blt} {x : Str} {p pos : Pos} {xs : List Expr}, ((g.calm || bltC b) && !(bltN b == "") && !(bltN b == "isinstance") && decide (x = (bltN b : Str)) && glB sc x && decide (x ≠ ("__name__" : Str)) && !(x == ("__debug__" : Str)) && nonE xs && chks g X.N sc cl es xs) = true → Snd X cf W (.blt b es) (.Call (.Name x p) xs [] pos) := by
      intro b x p pos xs h
      rw [Bool.and_eq_true, Bool.and_eq_true, Bool.and_eq_true, Bool.and_eq_true, Bool.and_eq_true, Bool.and_eq_true, Bool.and_eq_true, Bool.and_eq_true, Bool.not_eq_true', Bool.not_eq_true', Bool.not_eq_true', decide_eq_true_eq, decide_eq_true_eq] at h
      obtain ⟨⟨⟨⟨⟨⟨⟨⟨h0, h1⟩, h2⟩, h3⟩, h4⟩, h5⟩, h6⟩, h7⟩, h8⟩ := h
      have s := snd_es g cf k es h8 G
      have st := chks_star h8
      cases xs with
      | nil => cases h7
      | cons ea xs => exact .plain (snd_blt G h0 (by simpa using h1) (by simpa using h2) h3 (glB_ok h4) h5 h6 s st) (fun _ => rfl) nofun
    unfold chk at h
    split at h
    · rename_i ts a
      split at h
      · rw [Bool.and_eq_true, Bool.and_eq_true, Bool.and_eq_true, Bool.and_eq_true, Bool.and_eq_true, decide_eq_true_eq] at h
        obtain ⟨⟨⟨⟨⟨h1, h2⟩, h3⟩, h4⟩, h5⟩, h6⟩ := h
        split at h2
        · exact .plain (snd_isi1 G h1 (of_decide_eq_true h2) (glB_ok h3) h4 (snd_e g cf k a h5 G).d h6) (fun _ => rfl) nofun
        · cases h2
      · rw [Bool.and_eq_true, Bool.and_eq_true, Bool.and_eq_true, Bool.and_eq_true, Bool.and_eq_true, Bool.and_eq_true, decide_eq_true_eq, decide_eq_true_eq] at h
        obtain ⟨⟨⟨⟨⟨⟨h1, h2⟩, h3⟩, h4⟩, h5⟩, h6⟩, h7⟩ := h
        exact .plain (snd_isiT G h1 h2 h3 (glB_ok h4) h5 (snd_e g cf k a h6 G).d h7) (fun _ => rfl) nofun
      · cases h
    · rename_i ts a
      split at h
      · rw [Bool.and_eq_true, Bool.and_eq_true, Bool.and_eq_true, Bool.and_eq_true, Bool.and_eq_true, decide_eq_true_eq] at h
        obtain ⟨⟨⟨⟨⟨h1, h2⟩, h3⟩, h4⟩, h5⟩, h6⟩ := h
        split at h2
        · exact .plain (snd_ise1 G h1 (of_decide_eq_true h2) (glB_ok h3) h4 (snd_e g cf k a h5 G).d h6) (fun _ => rfl) nofun
        · cases h2
      · rw [Bool.and_eq_true, Bool.and_eq_true, Bool.and_eq_true, Bool.and_eq_true, Bool.and_eq_true, Bool.and_eq_true, Bool.and_eq_true, decide_eq_true_eq, decide_eq_true_eq, Bool.not_eq_true'] at h
        obtain ⟨⟨⟨⟨⟨⟨⟨h1, h2⟩, h3⟩, h4⟩, h0⟩, h5⟩, h6⟩, h7⟩ := h
        exact .plain (snd_iseT G h1 h2 h3 (glB_ok h4) h0 h5 (snd_e g cf k a h6 G).d h7) (fun _ => rfl) nofun
      · cases h
    · split at h
      · rw [Bool.and_eq_true, Bool.and_eq_true, Bool.and_eq_true, Bool.and_eq_true, Bool.and_eq_true, Bool.and_eq_true, decide_eq_true_eq, decide_eq_true_eq] at h
        obtain ⟨⟨⟨⟨⟨⟨h0, h1⟩, h2⟩, h3⟩, h4⟩, h5⟩, h6⟩ := h
        exact .plain (snd_lrg1 G h0 h1 h2 (glB_ok h3) (glB_ok h4) (snd_e g cf k _ h5 G).d h6) (fun _ => rfl) nofun
      · cases h
    · split at h
      · rw [Bool.and_eq_true, Bool.and_eq_true, Bool.and_eq_true, Bool.and_eq_true, Bool.and_eq_true, Bool.and_eq_true, decide_eq_true_eq, decide_eq_true_eq] at h
        obtain ⟨⟨⟨⟨⟨⟨h0, h1⟩, h2⟩, h3⟩, h4⟩, h5⟩, h6⟩ := h
        exact .plain (snd_srtset G h0 h1 h2 (glB_ok h3) (glB_ok h4) (snd_e g cf k _ h5 G).d h6) (fun _ => rfl) nofun
      · cases h
    · split at h
      · rw [Bool.and_eq_true, Bool.and_eq_true, Bool.and_eq_true, Bool.and_eq_true, Bool.and_eq_true, Bool.and_eq_true, decide_eq_true_eq, decide_eq_true_eq] at h
        obtain ⟨⟨⟨⟨⟨⟨h0, h1⟩, h2⟩, h3⟩, h4⟩, h5⟩, h6⟩ := h
        exact .plain (snd_lenset G h0 h1 h2 (glB_ok h3) (glB_ok h4) (snd_e g cf k _ h5 G).d h6) (fun _ => rfl) nofun
      · cases h
    · split at h
      · rw [Bool.and_eq_true, Bool.and_eq_true, Bool.and_eq_true, Bool.and_eq_true, Bool.and_eq_true, Bool.and_eq_true, decide_eq_true_eq, decide_eq_true_eq] at h
        obtain ⟨⟨⟨⟨⟨⟨h0, h1⟩, h2⟩, h3⟩, h4⟩, h5⟩, h6⟩ := h
        exact .plain (snd_trg1 G h0 h1 h2 (glB_ok h3) (glB_ok h4) (snd_e g cf k _ h5 G).d h6) (fun _ => rfl) nofun
      · cases h
    · split at h
      · rw [Bool.and_eq_true, Bool.and_eq_true, Bool.and_eq_true, Bool.and_eq_true, Bool.and_eq_true, Bool.and_eq_true, Bool.and_eq_true, Bool.and_eq_true, decide_eq_true_eq, decide_eq_true_eq] at h
        obtain ⟨⟨⟨⟨⟨⟨⟨⟨h0, h1⟩, h2⟩, h3⟩, h4⟩, h5⟩, h6⟩, h7⟩, h8⟩ := h
        exact .plain (snd_lrg2 G h0 h1 h2 (glB_ok h3) (glB_ok h4) (snd_e g cf k _ h5 G).d (snd_e g cf k _ h6 G).d h7 h8) (fun _ => rfl) nofun
      · cases h
    · split at h
      · rw [Bool.and_eq_true, Bool.and_eq_true, Bool.and_eq_true, Bool.and_eq_true, Bool.and_eq_true, Bool.and_eq_true, Bool.and_eq_true, Bool.and_eq_true, decide_eq_true_eq, decide_eq_true_eq] at h
        obtain ⟨⟨⟨⟨⟨⟨⟨⟨h0, h1⟩, h2⟩, h3⟩, h4⟩, h5⟩, h6⟩, h7⟩, h8⟩ := h
        exact .plain (snd_trg2 G h0 h1 h2 (glB_ok h3) (glB_ok h4) (snd_e g cf k _ h5 G).d (snd_e g cf k _ h6 G).d h7 h8) (fun _ => rfl) nofun
      · cases h
    · split at h
      · rw [Bool.and_eq_true, Bool.and_eq_true, Bool.and_eq_true, Bool.and_eq_true, Bool.and_eq_true, Bool.and_eq_true, Bool.and_eq_true, Bool.and_eq_true, decide_eq_true_eq, decide_eq_true_eq] at h
        obtain ⟨⟨⟨⟨⟨⟨⟨⟨h0, h1⟩, h2⟩, h3⟩, h4⟩, h5⟩, h6⟩, h7⟩, h8⟩ := h
        exact .plain (snd_lzip G h0 h1 h2 (glB_ok h3) (glB_ok h4) (snd_cons (snd_e g cf k _ h5 G).d (snd_cons (snd_e g cf k _ h6 G).d snd_nil (star_cons h8)) (star_cons h7)) h7 h8) (fun _ => rfl) nofun
      · cases h
    · split at h
      · exact gen h
      · cases h
  | .mth m a es, X, sc, cl, W, ex, h, G => by
    unfold chk at h
    split at h
    · rw [Bool.and_eq_true, Bool.and_eq_true, Bool.and_eq_true, Bool.and_eq_true, Bool.and_eq_true, Bool.and_eq_true, decide_eq_true_eq, decide_eq_true_eq] at h
      obtain ⟨⟨⟨⟨⟨⟨h1, h2⟩, h3⟩, h4⟩, h5⟩, h6⟩, h7⟩ := h
      rename_i o x ap xs pc
      have s := snd_es g cf k es h7 G
      have st := chks_star h7
      have so := (snd_e g cf k a h6 G).d
      cases xs with
      | nil => cases h5
      | cons ea xs => exact .plain (snd_mth h1 h2 h3 (by simpa using h4) so s st) (fun _ => rfl) nofun
    · cases h
  | .slc a lo hi, X, sc, cl, W, ex, h, G => by
    unfold chk at h
    split at h
    · rw [Bool.and_eq_true, Bool.and_eq_true] at h
      exact .plain (snd_slc (snd_e g cf k a h.1.1 G).d (snd_e g cf k lo h.1.2 G).d (snd_e g cf k hi h.2 G).d) (fun _ => rfl) nofun
    · cases h
  | .slcL a lo, X, sc, cl, W, ex, h, G => by
    unfold chk at h
    split at h
    · rw [Bool.and_eq_true] at h
      exact .plain (snd_slcL (snd_e g cf k a h.1 G).d (snd_e g cf k lo h.2 G).d) (fun _ => rfl) nofun
    · cases h
  | .slcH a lo, X, sc, cl, W, ex, h, G => by
    unfold chk at h
    split at h
    · rw [Bool.and_eq_true] at h
      exact .plain (snd_slcH (snd_e g cf k a h.1 G).d (snd_e g cf k lo h.2 G).d) (fun _ => rfl) nofun
    · cases h
  | .slcN a, X, sc, cl, W, ex, h, G => by
    unfold chk at h
    split at h
    · exact .plain (snd_slcN (snd_e g cf k a h G).d) (fun _ => rfl) nofun
    · cases h
  | .rev a, X, sc, cl, W, ex, h, G => by
    unfold chk at h
    split at h
    · rw [Bool.and_eq_true, decide_eq_true_eq] at h
      obtain ⟨rfl, h⟩ := h
      exact .plain (snd_rev (snd_e g cf k a h G).d) (fun _ => rfl) nofun
    · cases h
  | .idx a i, X, sc, cl, W, ex, h, G => by
    unfold chk at h
    split at h
    · rw [Bool.and_eq_true, Bool.and_eq_true] at h
      exact .plain (snd_idx (snd_e g cf k a h.1.1 G).d (snd_e g cf k i h.1.2 G).d (plain_ix h.2)) (fun _ => rfl) nofun
    · cases h
  | .dgk a i, X, sc, cl, W, ex, h, G => by
    unfold chk at h
    split at h
    · rw [Bool.and_eq_true, Bool.and_eq_true] at h
      exact .plain (snd_dgk G.un (snd_e g cf k a h.1.1 G).d (snd_e g cf k i h.1.2 G).d (plain_ix h.2)) (fun _ => rfl) nofun
    · cases h
  | .dgt a i, X, sc, cl, W, ex, h, G => by
    unfold chk at h
    split at h
    · rw [Bool.and_eq_true, Bool.and_eq_true, Bool.and_eq_true, Bool.and_eq_true, decide_eq_true_eq] at h
      obtain ⟨⟨⟨⟨rfl, h2⟩, h3⟩, h4⟩, h5⟩ := h
      exact .plain (snd_dgt G (glB_ok h2) (snd_e g cf k a h3 G).d (snd_e g cf k i h4 G).d h5) (fun _ => rfl) nofun
    · cases h
  | .fcall f a, X, sc, cl, W, ex, h, G => by
    unfold chk at h
    split at h
    · rw [Bool.and_eq_true, Bool.and_eq_true, Bool.and_eq_true, Bool.and_eq_true, Bool.and_eq_true, Bool.and_eq_true, Bool.and_eq_true, Bool.and_eq_true, Bool.and_eq_true, decide_eq_true_eq, decide_eq_true_eq, decide_eq_true_eq, decide_eq_true_eq, Bool.not_eq_true'] at h
      obtain ⟨⟨⟨⟨⟨⟨⟨⟨⟨h0, rfl⟩, h2⟩, h3⟩, h4⟩, rfl⟩, rfl⟩, rfl⟩, h8⟩, h9⟩ := h
      exact .plain (snd_fcall G h0 (List.contains_iff_mem.mp h2) rfl (glB_ok h3) h4 (snd_e g cf k a h8 G).d h9) (fun _ => rfl) nofun
    · cases h
  | .dct, X, sc, cl, W, ex, h, G => by
    unfold chk at h
    split at h
    · exact .plain (pe_dnewK.mono' fun σ H Q ⟨fm, ρ, sr, w⟩ => fun p hp => (show Wq X.K fm (fun c H' => W c σ H') H H (.ok (pim .dic)) Q from w) _ _ (Same.new hp) (.imm (.dic upd_same))) (fun _ => rfl) nofun
    · cases h
  | .lst es, X, sc, cl, W, ex, h, G => by
    unfold chk at h
    split at h
    · exact .plain (snd_lst (snd_es g cf k es h G)) (fun _ => rfl) nofun
    · cases h
  | .tup es, X, sc, cl, W, ex, h, G => by
    unfold chk at h
    split at h
    · exact .plain (snd_tup (snd_es g cf k es h G)) (fun _ => rfl) nofun
    · cases h
  | .lc elt tg src cs own, X, sc, cl, W, ex, h, G => by
    unfold chk at h
    split at h
    · rename_i eelt etg eiter ifs scope pos
      rw [Bool.and_eq_true, Bool.and_eq_true, Bool.and_eq_true, Bool.and_eq_true, Bool.and_eq_true, Bool.and_eq_true, Bool.and_eq_true] at h
      obtain ⟨⟨⟨⟨⟨⟨⟨h0, h1⟩, h2⟩, h3⟩, h4⟩, h5⟩, h6⟩, h7⟩ := h
      have hb := blkOk_by h1
      have q := (snd_lc (cf := cf) (W := W) (elt := elt) (tg := tg) (src := src) (cs := cs) (own := ownP X.N own) (eelt := eelt) (etg := etg) (eiter := eiter) (ifs := ifs) (scope := scope) (pos := pos) (G.calm h0) G.nd (by rw [G.sc]; exact hb)
        (fun i hi => by
          rw [ownP_snd]
          have z := List.all_eq_true.mp h2 i hi
          rw [List.contains_iff_mem] at z
          exact z)
        G.tk G.stk (snd_s g cf k src h3 G)
        ⟨fun s H C cs fp xe => snd_tg cf (G.blk0 s H scope C cs fp xe).sc G.nd (G.calm h0) (fun x z => z) h5,
        fun s H C cs' fp xe => snd_cs g cf k cs h6 (G.blk0 s H scope C cs' fp xe),
        fun σ0 s H C cs fp xe tk => (snd_e (X := blkX X s H scope (compEnvC scope cs C X.env) fp xe) g cf k elt h7 (G.blkx (W' := fun c _ H' => W c σ0 H') s H scope C cs fp xe tk)).d⟩ (notSet_fold h4)).2
      rw [ownP_snd] at q
      exact .plain q (fun _ => rfl) nofun
    · cases h
theorem snd_es (g : Gs) (cf : Cf) (k : Nat) : (es : List E) → ∀ {X : Cx} {sc : Scope} {cl : Str → Bool} {W : WC} {xs : List Expr}, chks g X.N sc cl es xs = true → Gd g cf k X sc cl W → PA X xs (tDs cf X.K W es)
  | [], X, sc, cl, W, xs, h, G => by
    unfold chks at h
    split at h
    · exact snd_nil
    · cases h
  | e :: es, X, sc, cl, W, xs, h, G => by
    unfold chks at h
    split at h
    · rw [Bool.and_eq_true, Bool.and_eq_true] at h
      exact snd_cons (snd_e g cf k e h.1.1 G).d (snd_es g cf k es h.2 G) (star_cons h.1.2)
    · cases h
theorem snd_cs (g : Gs) (cf : Cf) (k : Nat) : (es : List E) → ∀ {X : Cx} {sc : Scope} {cl : Str → Bool} {xs : List Expr}, chkCs g X.N sc cl es xs = true → Gd g cf k X sc cl W0 → PTs X xs (tC cf X.K es)
  | [], X, sc, cl, xs, h, G => by
    unfold chkCs at h
    split at h
    · exact sndC_nil
    · cases h
  | e :: es, X, sc, cl, xs, h, G => by
    unfold chkCs at h
    split at h
    · rw [Bool.and_eq_true] at h
      exact sndC_one ((snd_e g cf k e h.1 G).t h.2)
    · cases h
theorem snd_s (g : Gs) (cf : Cf) (k : Nat) : (s : Src) → ∀ {X : Cx} {sc : Scope} {cl : Str → Bool} {W : WC} {tg ex : Expr}, chkSrc g X.N sc cl s tg ex = true → Gd g cf k X sc cl W → PI X tg ex (tI cf X.K W s)
  | .ex e, X, sc, cl, W, tg, ex, h, G => by
    unfold chkSrc at h
    exact snd_ex (snd_e g cf k e h G).d
  | .r1 a, X, sc, cl, W, tg, ex, h, G => by
    unfold chkSrc at h
    split at h
    · rw [Bool.and_eq_true, Bool.and_eq_true, Bool.and_eq_true, decide_eq_true_eq] at h
      exact snd_r1 G h.1.1.1 (glB_ok h.1.1.2) (snd_e g cf k a h.1.2 G).d h.2
    · cases h
  | .r2 a b, X, sc, cl, W, tg, ex, h, G => by
    unfold chkSrc at h
    split at h
    · rw [Bool.and_eq_true, Bool.and_eq_true, Bool.and_eq_true, Bool.and_eq_true, Bool.and_eq_true, decide_eq_true_eq] at h
      obtain ⟨⟨⟨⟨⟨h1, h2⟩, h3⟩, h4⟩, h5⟩, h6⟩ := h
      exact snd_r2 G h1 (glB_ok h2) (snd_e g cf k a h3 G).d (snd_e g cf k b h4 G).d h5 h6
    · cases h
  | .zip3 a b c, X, sc, cl, W, tg, ex, h, G => by
    unfold chkSrc at h
    split at h
    · rw [Bool.and_eq_true, Bool.and_eq_true, Bool.and_eq_true, Bool.and_eq_true, Bool.and_eq_true, Bool.and_eq_true, Bool.and_eq_true, decide_eq_true_eq] at h
      obtain ⟨⟨⟨⟨⟨⟨⟨h1, h2⟩, h3⟩, h4⟩, h5⟩, h6⟩, h7⟩, h8⟩ := h
      exact snd_zip3 G h1 (glB_ok h2) (snd_e g cf k a h3 G).d (snd_e g cf k b h4 G).d (snd_e g cf k c h5 G).d h6 h7 h8
    · cases h
  | .zip a b, X, sc, cl, W, tg, ex, h, G => by
    unfold chkSrc at h
    split at h
    · rw [Bool.and_eq_true, Bool.and_eq_true, Bool.and_eq_true, Bool.and_eq_true, Bool.and_eq_true, decide_eq_true_eq] at h
      obtain ⟨⟨⟨⟨⟨h1, h2⟩, h3⟩, h4⟩, h5⟩, h6⟩ := h
      exact snd_zip G h1 (glB_ok h2) (snd_e g cf k a h3 G).d (snd_e g cf k b h4 G).d h5 h6
    · cases h
  | .enm a, X, sc, cl, W, tg, ex, h, G => by
    unfold chkSrc at h
    split at h
    · rw [Bool.and_eq_true, Bool.and_eq_true, Bool.and_eq_true, decide_eq_true_eq] at h
      exact snd_enm G h.1.1.1 (glB_ok h.1.1.2) (snd_e g cf k a h.1.2 G).d h.2
    · cases h
  | .rv a, X, sc, cl, W, tg, ex, h, G => by
    unfold chkSrc at h
    split at h
    · rw [Bool.and_eq_true, Bool.and_eq_true, Bool.and_eq_true, decide_eq_true_eq] at h
      exact snd_rv G h.1.1.1 (glB_ok h.1.1.2) (snd_e g cf k a h.1.2 G).d h.2
    · cases h
end
end Iv

/-! Iv P: the state's changes by statements. -/
namespace Iv
open PySem PySem.Spec L2
open PyProof.Rows hiding St

/-- how the frame goes on: what is tracked stays but for the lists of the slots in m -/
structure Pg (m : List Nat) (fm : Fm) (H : Hp) (fm' : Fm) (H' : Hp) : Prop where
  h0 : fm'.H0 = fm.H0
  ok : fm'.ok0 = fm.ok0
  ban : fm'.ban = fm.ban
  kp : Kp m fm.O H H'
  tr : ∀ a, H' a = none → H a = none
  own : ∀ i a, fm'.O i a → fm.O i a ∨ H a = none
theorem Pg.same {m : List Nat} {fm : Fm} {H H' : Hp} (s : Same H H') : Pg m fm H fm H' := ⟨rfl, rfl, rfl, fun b o e _ => s b o e, fun a z => s.none z, fun _ _ => .inl⟩
theorem Pg.trans {m : List Nat} {fm fm1 fm2 : Fm} {H H1 H2 : Hp} (p : Pg m fm H fm1 H1) (q : Pg m fm1 H1 fm2 H2) : Pg m fm H fm2 H2 where
  h0 := q.h0.trans p.h0
  ok := q.ok.trans p.ok
  ban := q.ban.trans p.ban
  kp := fun b o e h => q.kp b o (p.kp b o e h) fun j hj o' => by
    rcases p.own j b o' with z | z
    · exact h j hj z
    · rw [e] at z; cases z
  tr := fun a z => p.tr a (q.tr a z)
  own := fun i a o => by
    rcases q.own i a o with z | z
    · exact p.own i a z
    · exact .inr (p.tr a z)
theorem Pg.more {m m' : List Nat} {fm fm' : Fm} {H H' : Hp} (h : ∀ j ∈ m, j ∈ m') (p : Pg m fm H fm' H') : Pg m' fm H fm' H' := ⟨p.h0, p.ok, p.ban, fun b o e z => p.kp b o e fun j hj => z j (h j hj), p.tr, p.own⟩
/-! what is wanted of a statement -/
def StW (cf : Cf) (K : PySem.W.Frag) (W : WC) (m : List Nat) (fm : Fm) (H : Hp) (D : Ends) : O → Prop
  | .next ρ' => ∀ fm' σ' H', SR cf K fm' ρ' σ' H' → Pg m fm H fm' H' → D.nx σ' H'
  | .ret x => ∀ fm' Hs v H', FmAt fm' Hs → Same Hs H' → VR K fm' Hs H' x v → Pg m fm H fm' Hs → D.rt v H'
  | .brk ρ' => ∀ fm' σ' H', SR cf K fm' ρ' σ' H' → Pg m fm H fm' H' → D.bk σ' H'
  | .cnt ρ' => ∀ fm' σ' H', SR cf K fm' ρ' σ' H' → Pg m fm H fm' H' → D.ct σ' H'
  | .exc c ρ' => ∀ fm' σ' H', SR cf K fm' ρ' σ' H' → Pg m fm H fm' H' → W c σ' H'
  | .bad => False
section
variable {cf : Cf} {K : PySem.W.Frag} {W : WC} {m m' : List Nat} {fm fm' : Fm} {H H' : Hp} {D : Ends} {o : O}
theorem StW.later (w : StW cf K W m fm H D o) (p : Pg m fm H fm' H') : StW cf K W m fm' H' D o := by
  cases o with
  | next ρ => exact fun f s h sr q => w f s h sr (p.trans q)
  | ret x => exact fun f Hs v h a b c q => w f Hs v h a b c (p.trans q)
  | brk ρ => exact fun f s h sr q => w f s h sr (p.trans q)
  | cnt ρ => exact fun f s h sr q => w f s h sr (p.trans q)
  | exc c ρ => exact fun f s h sr q => w f s h sr (p.trans q)
  | bad => exact w
theorem StW.less (h : ∀ j ∈ m', j ∈ m) (w : StW cf K W m fm H D o) : StW cf K W m' fm H D o := by
  cases o with
  | next ρ => exact fun f s h' sr q => w f s h' sr (q.more h)
  | ret x => exact fun f Hs v h' a b c q => w f Hs v h' a b c (q.more h)
  | brk ρ => exact fun f s h' sr q => w f s h' sr (q.more h)
  | cnt ρ => exact fun f s h' sr q => w f s h' sr (q.more h)
  | exc c ρ => exact fun f s h' sr q => w f s h' sr (q.more h)
  | bad => exact w
end
def tS (cf : Cf) (K : PySem.W.Frag) (W : WC) (m : List Nat) (s : S) : TS := fun D σ H => ∃ fm ρ, SR cf K fm ρ σ H ∧ StW cf K W m fm H D (run cf s ρ)
def tSs (cf : Cf) (K : PySem.W.Frag) (W : WC) (m : List Nat) (s : List S) : TS := fun D σ H => ∃ fm ρ, SR cf K fm ρ σ H ∧ StW cf K W m fm H D (runs cf s ρ)
theorem _root_.L2.PS.mono' {X : Cx} {e : Stmt} {t t' : TS} (h : PS X e t) (q : ∀ D σ H, t' D σ H → t D σ H) : PS X e t' := ⟨fun pins s σ H D I w => h.run pins s σ H D I (q D σ H w)⟩
theorem _root_.L2.PSs.mono' {X : Cx} {e : List Stmt} {t t' : TS} (h : PSs X e t) (q : ∀ D σ H, t' D σ H → t D σ H) : PSs X e t' := ⟨fun pins s σ H D I w => h.run pins s σ H D I (q D σ H w)⟩
/-- an expression's reckoning ahead of a statement's end -/
theorem stW_D {cf : Cf} {K : PySem.W.Frag} {W : WC} {m : List Nat} {fm : Fm} {ρ : Env} {σ : St} {H : Hp} {D : Ends} {e : E} {f : DT → O} {Q : VK} (sr : SR cf K fm ρ σ H) (w : StW cf K W m fm H D ((ev cf e ρ).st ρ f))
    (q : ∀ x v H', Same H H' → SR cf K fm ρ σ H' → VR K fm H H' x v → StW cf K W m fm H D (f x) → Q v H') : tD cf K W e σ H Q := by
  refine ⟨fm, ρ, sr, ?_⟩
  cases h : ev cf e ρ with
  | bad => rw [h] at w; exact w
  | exc c => rw [h] at w; exact fun H' s => w fm σ H' (sr.same s) (Pg.same s)
  | ok x => rw [h] at w; exact fun v H' s r => q x v H' s (sr.same s) r w
theorem stW_T {cf : Cf} {K : PySem.W.Frag} {W : WC} {m : List Nat} {fm : Fm} {ρ : Env} {σ : St} {H : Hp} {D : Ends} {e : E} {f : Bool → O} {Q : Bool → Hp → Prop} (sr : SR cf K fm ρ σ H) (w : StW cf K W m fm H D (((ev cf e ρ).bind asB).st ρ f))
    (q : ∀ b H', Same H H' → SR cf K fm ρ σ H' → StW cf K W m fm H D (f b) → Q b H') : tT cf K W e σ H Q := by
  refine ⟨fm, ρ, sr, ?_⟩
  cases h : (ev cf e ρ).bind asB with
  | bad => rw [h] at w; exact w
  | exc c => rw [h] at w; exact fun H' s => w fm σ H' (sr.same s) (Pg.same s)
  | ok x => rw [h] at w; exact fun H' s => q x H' s (sr.same s) w
/-! ### slots set -/
section
variable {cf : Cf} {K : PySem.W.Frag} {fm : Fm} {ρ ρ' : Env} {σ : St} {H H1 Hs : Hp} {i : Nat} {x : DT} {v : V} {m : List Nat}
/-- a new list's own slot -/
def Fm.own1 (fm : Fm) (i : Nat) (a : Addr) : Fm := { fm with O := fun j b => if j = i then b = a else fm.O j b }
theorem SR.setOwn {n : Bool} (sr0 : SR cf K fm ρ σ H) (s : Same H H1) (r : VR K fm H H1 x v) (hc : cf.cl i = .own n) (ho : okSt (.own n) x = true) (hi : i < ρ.length) (hx : isL x.1 = true) :
    ∃ fm', SR cf K fm' (ρ.set i (some x.1)) (σ.set i (some v)) H1 ∧ Pg m fm H fm' H1 := by
  obtain ⟨d, t⟩ := x
  have f := sr0.at'
  have hoo : isL d = true ∧ (t.fr || t.lv == 0) = true ∧ t.bw.isEmpty = true ∧ ((!n || decide (t.lv ≤ 1)) = true) := by
    cases d with
    | imm i => cases hx
    | tpd i => cases hx
    | scr i => cases hx
    | _ =>
      have ho : (isL _ && (t.fr || t.lv == 0) && t.bw.isEmpty && (!n || decide (t.lv ≤ 1))) = true := ho
      rw [Bool.and_eq_true, Bool.and_eq_true, Bool.and_eq_true] at ho
      exact ⟨ho.1.1.1, ho.1.1.2, ho.1.2, ho.2⟩
  obtain ⟨-, h1, h2, h3⟩ := hoo
  have hbw : t.bw = [] := List.isEmpty_iff.mp h2
  have frt : t.fr = true ∨ t.lv = 0 := by
    rw [Bool.or_eq_true] at h1
    rcases h1 with z | z
    · exact .inl z
    · exact .inr (eq_of_beq z)
  -- the root
  have root : ∃ a, v = .ref a ∧ NdR fm t H a ∧ (∃ vs, H1 a = some (.lst vs)) ∧ ∀ fm' : Fm, fm'.O i a → (∀ b, NdI fm t H b → b ≠ a → (if n = true then P1 fm' else P2 fm') b) → SlotOk K fm' H1 i (.own n) d v := by
    cases r with
    | imm r => cases hx
    | tpd h r => cases hx
    | scr h r => cases hx
    | scrK h => cases hx
    | lsi h e r => exact ⟨_, rfl, h, ⟨_, e⟩, fun fm' o _ => .lsi o e r⟩
    | lsd h e r => exact ⟨_, rfl, h, ⟨_, e⟩, fun fm' o z => .lsd o e (r.weak fun b y => ⟨z b y.1 y.2, y.2⟩)⟩
  obtain ⟨a, rfl, na, ha, mk⟩ := root
  have hHa : H a = none := na.1 frt
  have nO : ∀ j, ¬ fm.O j a := fun j o => f.trk j a o hHa
  have no : ∀ b, NdI fm t H b → ∀ j, ¬ fm.O j b := fun b nb j o => by
    have z := nb.2.2.2.1 j o
    rw [hbw] at z; cases z
  have old : ∀ {j : Nat} {d : D} {v : V}, j ≠ i → SlotOk K fm H j (cf.cl j) d v → SlotOk K (fm.own1 i a) H1 j (cf.cl j) d v := fun {j d v} hj h => by
    have p : ∀ b, H b ≠ none → (∀ j, ¬ fm.O j b) → ∀ j, ¬ (fm.own1 i a).O j b := fun b hb h j o => by
      by_cases e : j = i
      · have o : (if j = i then b = a else fm.O j b) := o
        rw [if_pos e] at o
        rw [o] at hb
        exact hb hHa
      · have o : (if j = i then b = a else fm.O j b) := o
        rw [if_neg e] at o
        exact h j o
    cases c : cf.cl j with
    | ex =>
      rw [c] at h
      exact Rep.weak (fun b z => by show (if j = i then b = a else fm.O j b); rw [if_neg hj]; exact z.1) (fun b z => by show (if j = i then b = a else fm.O j b); rw [if_neg hj]; exact z.1) ((Rep.trkR (show Rep K H (fm.O j) (fm.O j) d v from h)).same s)
    | vw k =>
      rw [c] at h
      have p' : ∀ b, H b ≠ none → (∀ j, fm.O j b → j = k) → ∀ j, (fm.own1 i a).O j b → j = k := fun b hb h j o => by
        by_cases e : j = i
        · have o : (if j = i then b = a else fm.O j b) := o
          rw [if_pos e] at o
          rw [o] at hb
          exact absurd hHa hb
        · have o : (if j = i then b = a else fm.O j b) := o
          rw [if_neg e] at o
          exact h j o
      exact Rep.weak (fun b z => ⟨z.1.1, p' b z.2 z.1.2.1, z.1.2.2⟩) (fun b z => ⟨z.1.1, p' b z.2 z.1.2.1, z.1.2.2⟩) ((Rep.trkR (show Rep K H (Pv k fm) (Pv k fm) d v from h)).same s)
    | old =>
      rw [c] at h
      exact Rep.weak (fun b z => ⟨z.1.1, p b z.2 z.1.2.1, z.1.2.2⟩) (fun b z => ⟨z.1.1, p b z.2 z.1.2.1, z.1.2.2⟩) ((Rep.trkR (show Rep K H (P2 fm) (P2 fm) d v from h)).same s)
    | nw =>
      rw [c] at h
      exact Rep.weak (fun b z => ⟨z.1.1, p b z.2 z.1.2.1, z.1.2.2⟩) (fun b z => ⟨z.1.1, p b z.2 z.1.2.1, z.1.2.2⟩) ((Rep.trkR (show Rep K H (P1 fm) (P1 fm) d v from h)).same s)
    | own n' =>
      rw [c] at h
      have h := (Rep.trkR (show Rep K H (fm.O j) (if n' = true then P1 fm else P2 fm) d v from h)).same s
      refine Rep.weak (fun b z => ?_) (fun b z => ?_) h
      · show (if j = i then b = a else fm.O j b)
        rw [if_neg hj]; exact z.1
      · cases n' with
        | true => exact ⟨z.1.1, p b z.2 z.1.2.1, z.1.2.2⟩
        | false => exact ⟨z.1.1, p b z.2 z.1.2.1, z.1.2.2⟩
  refine ⟨fm.own1 i a, ⟨by simp [sr0.len], ?_, fun j d' e => ?_, sr0.vx⟩, ⟨rfl, rfl, rfl, fun b o e _ => s b o e, fun b z => s.none z, fun j b o => ?_⟩⟩
  · refine ⟨f.same.trans s, fun p q b o1 o2 => ?_, fun p b o => ?_, fun p b o => ?_, fun p b o => ?_, fun b z => fun e => f.bt b z (s.none e)⟩
    · have o1 : (if p = i then b = a else fm.O p b) := o1
      have o2 : (if q = i then b = a else fm.O q b) := o2
      by_cases e1 : p = i
      · by_cases e2 : q = i
        · rw [e1, e2]
        · rw [if_pos e1] at o1; rw [if_neg e2, o1] at o2; exact absurd o2 (nO q)
      · by_cases e2 : q = i
        · rw [if_pos e2] at o2; rw [if_neg e1, o2] at o1; exact absurd o1 (nO p)
        · rw [if_neg e1] at o1; rw [if_neg e2] at o2; exact f.disj p q b o1 o2
    · have o : (if p = i then b = a else fm.O p b) := o
      by_cases e1 : p = i
      · rw [if_pos e1] at o; rw [o]; exact f.same.none hHa
      · rw [if_neg e1] at o; exact f.fresh p b o
    · have o : (if p = i then b = a else fm.O p b) := o
      by_cases e1 : p = i
      · rw [if_pos e1] at o; rw [o]; exact ha
      · rw [if_neg e1] at o
        obtain ⟨vs, e⟩ := f.own p b o
        exact ⟨vs, s _ _ e⟩
    · have o : (if p = i then b = a else fm.O p b) := o
      by_cases e1 : p = i
      · rw [if_pos e1] at o; rw [o]; exact na.2.2.2.2
      · rw [if_neg e1] at o; exact f.ob p b o
  · by_cases hj : i = j
    · subst hj
      rw [List.getElem?_set_self hi] at e
      cases e
      refine ⟨.ref a, List.getElem?_set_self (by rw [← sr0.len]; exact hi), ?_⟩
      rw [hc]
      refine mk _ (show (if i = i then a = a else fm.O i a) by rw [if_pos rfl]) fun b nb hne => ?_
      have nO' : ∀ j, ¬ (fm.own1 i a).O j b := fun j o => by
        have o : (if j = i then b = a else fm.O j b) := o
        by_cases e1 : j = i
        · rw [if_pos e1] at o; exact hne o
        · rw [if_neg e1] at o; exact no b nb j o
      cases n with
      | true =>
        rw [if_pos rfl]
        exact ⟨nb.2.1 (of_decide_eq_true (by simpa using h3)), nO', nb.2.2.2.2⟩
      | false =>
        rw [if_neg Bool.false_ne_true]
        exact ⟨nb.2.2.1, nO', nb.2.2.2.2⟩
    · rw [List.getElem?_set_ne hj] at e
      obtain ⟨u, h1, h2⟩ := sr0.slot j d' e
      exact ⟨u, by rw [List.getElem?_set_ne hj]; exact h1, old (fun z => hj z.symm) h2⟩
  · have o : (if j = i then b = a else fm.O j b) := o
    by_cases e1 : j = i
    · rw [if_pos e1] at o; rw [o]; exact .inr hHa
    · rw [if_neg e1] at o; exact .inl o
/-! a slot that owns all that its thing holds -/
def Fm.ownA (fm : Fm) (i : Nat) (H H1 : Hp) : Fm := { fm with O := fun j b => fm.O j b ∨ (j = i ∧ H b = none ∧ ∃ vs, H1 b = some (.lst vs)) }
mutual
theorem Rep.lsts {K : PySem.W.Frag} {H : Hp} : ∀ {x : D} {v : V} {p q : AP'}, isScr x = false → Rep K H p q x v → Rep K H (fun a => p a ∧ ∃ vs, H a = some (.lst vs)) (fun a => q a ∧ ∃ vs, H a = some (.lst vs)) x v
  | _, _, _, _, _, .imm r => .imm r
  | _, _, _, _, _, .lsi h e r => .lsi ⟨h, _, e⟩ e r
  | _, _, _, _, _, .lsd h e r => .lsd ⟨h, _, e⟩ e ((Reps.lsts r).weak fun a z => ⟨⟨z.1.1, z.2⟩, z.1.2⟩)
  | _, _, _, _, _, .tpd h r => .tpd h (Reps.lsts r)
  | _, _, _, _, z, .scr h r => nomatch z
  | _, _, _, _, z, .scrK h => nomatch z
theorem Reps.lsts {K : PySem.W.Frag} {H : Hp} : ∀ {x : List D} {v : List V} {q : AP'}, Reps K H q x v → Reps K H (fun a => q a ∧ ∃ vs, H a = some (.lst vs)) x v
  | _, _, _, .nil => .nil
  | _, _, _, .cons z h r => .cons z (Rep.lsts z h) (Reps.lsts r)
end
theorem SR.setEx (sr0 : SR cf K fm ρ σ H) (s : Same H H1) (r : VR K fm H H1 x v) (hc : cf.cl i = .ex) (ho : okSt .ex x = true) (hi : i < ρ.length) :
    ∃ fm', SR cf K fm' (ρ.set i (some x.1)) (σ.set i (some v)) H1 ∧ Pg m fm H fm' H1 := by
  have f := sr0.at'
  have nw : ∀ j b, (fm.ownA i H H1).O j b → H b ≠ none → fm.O j b := fun j b o hb => by
    rcases o with o | o
    · exact o
    · exact absurd o.2.1 hb
  have old : ∀ {j : Nat} {d : D} {v : V}, SlotOk K fm H j (cf.cl j) d v → SlotOk K (fm.ownA i H H1) H1 j (cf.cl j) d v := fun {j d v} h => by
    cases c : cf.cl j with
    | ex =>
      rw [c] at h
      exact Rep.weak (fun b z => .inl z) (fun b z => .inl z) ((show Rep K H (fm.O j) (fm.O j) d v from h).same s)
    | vw k =>
      rw [c] at h
      exact Rep.weak (fun b z => ⟨z.1.1, fun j o => z.1.2.1 j (nw j b o z.2), z.1.2.2⟩) (fun b z => ⟨z.1.1, fun j o => z.1.2.1 j (nw j b o z.2), z.1.2.2⟩) ((Rep.trkR (show Rep K H (Pv k fm) (Pv k fm) d v from h)).same s)
    | old =>
      rw [c] at h
      exact Rep.weak (fun b z => ⟨z.1.1, fun j o => z.1.2.1 j (nw j b o z.2), z.1.2.2⟩) (fun b z => ⟨z.1.1, fun j o => z.1.2.1 j (nw j b o z.2), z.1.2.2⟩) ((Rep.trkR (show Rep K H (P2 fm) (P2 fm) d v from h)).same s)
    | nw =>
      rw [c] at h
      exact Rep.weak (fun b z => ⟨z.1.1, fun j o => z.1.2.1 j (nw j b o z.2), z.1.2.2⟩) (fun b z => ⟨z.1.1, fun j o => z.1.2.1 j (nw j b o z.2), z.1.2.2⟩) ((Rep.trkR (show Rep K H (P1 fm) (P1 fm) d v from h)).same s)
    | own n =>
      rw [c] at h
      have h := (Rep.trkR (show Rep K H (fm.O j) (if n = true then P1 fm else P2 fm) d v from h)).same s
      refine Rep.weak (fun b z => .inl z.1) (fun b z => ?_) h
      cases n with
      | true => exact ⟨z.1.1, fun j o => z.1.2.1 j (nw j b o z.2), z.1.2.2⟩
      | false => exact ⟨z.1.1, fun j o => z.1.2.1 j (nw j b o z.2), z.1.2.2⟩
  have new : SlotOk K (fm.ownA i H H1) H1 i .ex x.1 v := by
    obtain ⟨d, t⟩ := x
    cases d with
    | imm j => exact .imm (rep_imm r)
    | scr ns =>
      have ho : (t.lv == 0 && t.bw.isEmpty && !true) = true := ho
      rw [Bool.not_true, Bool.and_false] at ho
      cases ho
    | _ =>
      have ho : (t.lv == 0 && t.bw.isEmpty && !false) = true := ho
      rw [Bool.not_false, Bool.and_true, Bool.and_eq_true] at ho
      have h0 : t.lv = 0 := eq_of_beq ho.1
      exact Rep.weak (fun b z => .inr ⟨rfl, z.1.1 (.inr h0), z.2⟩) (fun b z => .inr ⟨rfl, z.1.1 h0, z.2⟩) (Rep.lsts rfl r)
  refine ⟨fm.ownA i H H1, ⟨by simp [sr0.len], ?_, fun j d' e => ?_, sr0.vx⟩, ⟨rfl, rfl, rfl, fun b o e _ => s b o e, fun b z => s.none z, fun j b o => ?_⟩⟩
  · refine ⟨f.same.trans s, fun p q b o1 o2 => ?_, fun p b o => ?_, fun p b o => ?_, fun p b o => ?_, fun b z => fun e => f.bt b z (s.none e)⟩
    · rcases o1 with o1 | o1
      · rcases o2 with o2 | o2
        · exact f.disj p q b o1 o2
        · exact absurd o2.2.1 (f.trk p b o1)
      · rcases o2 with o2 | o2
        · exact absurd o1.2.1 (f.trk q b o2)
        · rw [o1.1, o2.1]
    · rcases o with o | o
      · exact f.fresh p b o
      · exact f.same.none o.2.1
    · rcases o with o | o
      · obtain ⟨vs, e⟩ := f.own p b o
        exact ⟨vs, s _ _ e⟩
      · exact o.2.2
    · rcases o with o | o
      · exact f.ob p b o
      · exact fun z => f.bt b z o.2.1
  · by_cases hj : i = j
    · subst hj
      rw [List.getElem?_set_self hi] at e
      cases e
      refine ⟨v, List.getElem?_set_self (by rw [← sr0.len]; exact hi), ?_⟩
      rw [hc]
      exact new
    · rw [List.getElem?_set_ne hj] at e
      obtain ⟨u, h1, h2⟩ := sr0.slot j d' e
      exact ⟨u, by rw [List.getElem?_set_ne hj]; exact h1, old h2⟩
  · rcases o with o | o
    · exact .inl o
    · exact .inr o.2.1
end
end Iv

/-! Iv Q: slots set, lists changed. -/
namespace Iv
open PySem PySem.Spec L2
open PyProof.Rows hiding St
section
variable {cf : Cf} {K : PySem.W.Frag} {fm : Fm} {ρ ρ' : Env} {σ : St} {H H1 Hs : Hp} {i : Nat} {x : DT} {v : V} {m : List Nat}
theorem SR.setSlot (sr0 : SR cf K fm ρ σ H) (s : Same H H1) (r : VR K fm H H1 x v) (e : setSlot cf i x ρ = some ρ') : ∃ fm', SR cf K fm' ρ' (σ.set i (some v)) H1 ∧ Pg m fm H fm' H1 := by
  unfold Iv.setSlot at e
  split at e
  · rename_i c
    cases e
    have gen : (cf.cl i = .old ∨ cf.cl i = .nw ∨ isVw (cf.cl i) = true) → ∃ fm', SR cf K fm' (ρ.set i (some x.1)) (σ.set i (some v)) H1 ∧ Pg m fm H fm' H1 := fun h =>
      ⟨fm, (sr0.same s).setFz r (by unfold Iv.setFz; rw [if_pos ⟨h, c⟩]), Pg.same s⟩
    cases hc : cf.cl i with
    | old => exact gen (.inl hc)
    | nw => exact gen (.inr (.inl hc))
    | vw k => exact gen (.inr (.inr (by rw [hc]; rfl)))
    | ex => exact sr0.setEx s r hc (hc ▸ c.1) c.2
    | own n =>
      rw [hc] at c
      obtain ⟨d, t⟩ := x
      cases d with
      | imm j =>
        refine ⟨fm, ⟨by simp [sr0.len], sr0.at'.mono s, fun k d' e => ?_, sr0.vx⟩, Pg.same s⟩
        by_cases hk : i = k
        · subst hk
          rw [List.getElem?_set_self c.2] at e
          cases e
          refine ⟨v, List.getElem?_set_self (by rw [← sr0.len]; exact c.2), ?_⟩
          rw [hc]
          exact Rep.imm (rep_imm r)
        · rw [List.getElem?_set_ne hk] at e
          obtain ⟨u, h1, h2⟩ := (sr0.same s).slot k d' e
          exact ⟨u, by rw [List.getElem?_set_ne hk]; exact h1, h2⟩
      | lsi xs => exact sr0.setOwn s r hc c.1 c.2 rfl
      | lsd xs => exact sr0.setOwn s r hc c.1 c.2 rfl
      | tpd xs => cases c.1
      | scr xs => cases c.1
  · cases e
/-- an own list read -/
theorem SR.ownL {n : Bool} {d : D} (sr : SR cf K fm ρ σ H) (hc : cf.cl i = .own n) (e : ρ[i]? = some (some d)) (hd : isL d = true) :
    ∃ a vs ds, σ[i]? = some (some (.ref a)) ∧ fm.O i a ∧ H a = some (.lst vs) ∧ lstItems d = some ds ∧ Reps K H (if n = true then P1 fm else P2 fm) ds vs := by
  obtain ⟨v, h1, h2⟩ := sr.slot i d e
  rw [hc] at h2
  have h2 : Rep K H (fm.O i) (if n = true then P1 fm else P2 fm) d v := h2
  cases h2 with
  | imm r => cases hd
  | tpd h r => cases hd
  | scr h r => cases hd
  | scrK h => cases hd
  | lsi h e' r => exact ⟨_, _, _, h1, h, e', rfl, Reps.imms r⟩
  | lsd h e' r => exact ⟨_, _, _, h1, h, e', rfl, r.weak fun b z => z.1⟩
theorem lst_back {d : D} {ds : List D} {p q : AP'} {a : Addr} {vs : List V} (e : lstItems d = some ds) (hp : p a) (ha : H a = some (.lst vs)) (r : Reps K H q ds vs) (hn : ∀ b, q b → b ≠ a) : Rep K H p q d (.ref a) := by
  cases d with
  | lsi xs => cases e; exact .lsi hp ha (Reps.ofImms r)
  | lsd xs => cases e; exact .lsd hp ha (r.weak fun b z => ⟨z, hn b z⟩)
  | _ => cases e
/-- an own list changed -/
theorem SR.mut {n : Bool} {d d' : D} {a : Addr} {vs ws : List V} {ds : List D} (sr : SR cf K fm ρ σ H) (hc : cf.cl i = .own n) (e : ρ[i]? = some (some d)) (hs : σ[i]? = some (some (.ref a))) (ho : fm.O i a) (ha : H a = some (.lst vs))
    (hd : lstItems d' = some ds) (r : Reps K H (if n = true then P1 fm else P2 fm) ds ws) : SR cf K fm (ρ.set i (some d')) σ (upd H a (.lst ws)) ∧ Pg [i] fm H fm (upd H a (.lst ws)) := by
  have f := sr.at'
  have hi : i < ρ.length := (List.getElem?_eq_some_iff.mp e).1
  have kp : Keep K (fun b => b ≠ a) H (upd H a (.lst ws)) := Keep.write ha fun _ z => z
  have nP : ∀ b, (if n = true then P1 fm else P2 fm) b → b ≠ a ∧ (if n = true then P1 fm else P2 fm) b := fun b z => ⟨fun e => by
    cases n with
    | true => rw [if_pos rfl] at z; rw [e] at z; exact z.2.1 i ho
    | false => rw [if_neg Bool.false_ne_true] at z; rw [e] at z; exact z.2.1 i ho, z⟩
  refine ⟨⟨by simp [sr.len], ?_, fun j d2 e2 => ?_, sr.vx⟩, ⟨rfl, rfl, rfl, fun b o eb hb => ?_, fun b z => ?_, fun _ _ => .inl⟩⟩
  · refine ⟨fun b o eb => ?_, f.disj, f.fresh, fun j b o => ?_, f.ob, fun b z => ?_⟩
    · have hne : b ≠ a := fun z => by
        have := f.fresh i a ho
        rw [← z, eb] at this; cases this
      rw [upd_ne hne]; exact f.same b o eb
    · by_cases z : b = a
      · subst z; exact ⟨ws, upd_same⟩
      · obtain ⟨us, h⟩ := f.own j b o
        exact ⟨us, by rw [upd_ne z]; exact h⟩
    · by_cases z' : b = a
      · subst z'; rw [upd_same]; exact nofun
      · rw [upd_ne z']; exact f.bt b z
  · by_cases hj : i = j
    · subst hj
      rw [List.getElem?_set_self hi] at e2
      cases e2
      refine ⟨.ref a, hs, ?_⟩
      rw [hc]
      exact lst_back hd ho upd_same (r.keep kp nP) fun b z => (nP b z).1
    · rw [List.getElem?_set_ne hj] at e2
      obtain ⟨u, h1, h2⟩ := sr.slot j d2 e2
      refine ⟨u, h1, ?_⟩
      have q2 : ∀ b, P2 fm b → b ≠ a ∧ P2 fm b := fun b z => ⟨fun e => by rw [e] at z; exact z.2.1 i ho, z⟩
      have q1 : ∀ b, P1 fm b → b ≠ a ∧ P1 fm b := fun b z => ⟨fun e => by rw [e] at z; exact z.2.1 i ho, z⟩
      cases c : cf.cl j with
      | ex =>
        rw [c] at h2
        exact Rep.keep kp (fun b z => ⟨fun e => hj (f.disj i j a ho (e ▸ z)), z⟩) (fun b z => ⟨fun e => hj (f.disj i j a ho (e ▸ z)), z⟩) (show Rep K H (fm.O j) (fm.O j) d2 u from h2)
      | vw k =>
        rw [c] at h2
        have hne : ¬ (k = i) := fun e => by have z := sr.vx j k c; rw [e, hc] at z; cases z
        exact Rep.keep kp (fun b z => ⟨fun e => hne (z.2.1 i (e ▸ ho)).symm, z⟩) (fun b z => ⟨fun e => hne (z.2.1 i (e ▸ ho)).symm, z⟩) (show Rep K H (Pv k fm) (Pv k fm) d2 u from h2)
      | old => rw [c] at h2; exact Rep.keep kp q2 q2 (show Rep K H (P2 fm) (P2 fm) d2 u from h2)
      | nw => rw [c] at h2; exact Rep.keep kp q1 q1 (show Rep K H (P1 fm) (P1 fm) d2 u from h2)
      | own n' =>
        rw [c] at h2
        have h2 : Rep K H (fm.O j) (if n' = true then P1 fm else P2 fm) d2 u := h2
        refine Rep.keep kp (fun b z => ⟨fun e => hj (f.disj i j a ho (e ▸ z)), z⟩) (fun b z => ?_) h2
        cases n' with
        | true => exact q1 b z
        | false => exact q2 b z
  · have hne : b ≠ a := fun z => hb i List.mem_cons_self (z ▸ ho)
    rw [upd_ne hne]; exact eb
  · by_cases z' : b = a
    · subst z'; rw [upd_same] at z; cases z
    · rw [upd_ne z'] at z; exact z
def Fm.less1 (fm : Fm) (j : Nat) : Fm := { fm with O := fun k b => k ≠ j ∧ fm.O k b }
theorem SR.rel {j : Nat} {d : D} (sr : SR cf K fm ρ σ H) (hi : cf.cl i = .nw) (hj : cf.cl j = .own true) (e : ρ[j]? = some (some d)) (hl : i < ρ.length) (hd : isL d = true) : ∃ v, σ[j]? = some (some v) ∧ ∃ fm', SR cf K fm' ((ρ.set i (some d)).set j none) (σ.set i (some v)) H ∧ Pg m fm H fm' H := by
  obtain ⟨v, h1, h2⟩ := sr.slot j d e
  have f := sr.at'
  refine ⟨v, h1, fm.less1 j, ⟨by simp [sr.len], ⟨f.same, fun p q a o1 o2 => f.disj p q a o1.2 o2.2, fun p a o => f.fresh p a o.2, fun p a o => f.own p a o.2, fun p a o => f.ob p a o.2, f.bt⟩, fun k d2 e2 => ?_, sr.vx⟩, ⟨rfl, rfl, rfl, fun b o e _ => e, fun _ z => z, fun _ _ o => .inl o.2⟩⟩
  have ij : i ≠ j := fun z => by rw [z, hj] at hi; cases hi
  by_cases hk : k = j
  · subst hk
    rw [List.getElem?_set_self (by rw [List.length_set]; exact (List.getElem?_eq_some_iff.mp e).1)] at e2
    cases e2
  · rw [List.getElem?_set_ne (fun z => hk z.symm)] at e2
    have q2 : ∀ b, P2 fm b → P2 (fm.less1 j) b := fun b z => ⟨z.1, fun p o => z.2.1 p o.2, z.2.2⟩
    have q1 : ∀ b, P1 fm b → P1 (fm.less1 j) b := fun b z => ⟨z.1, fun p o => z.2.1 p o.2, z.2.2⟩
    by_cases hki : i = k
    · subst hki
      rw [List.getElem?_set_self hl] at e2
      cases e2
      refine ⟨v, List.getElem?_set_self (by rw [← sr.len]; exact hl), ?_⟩
      rw [hi]
      rw [hj] at h2
      have h2 : Rep K H (fm.O j) (P1 fm) d v := h2
      refine Rep.weak (p' := P1 (fm.less1 j)) (q' := P1 (fm.less1 j)) (fun b z => ⟨f.fresh j b z, fun p o => o.1 (f.disj p j b o.2 z), f.ob j b z⟩) (fun b z => q1 b z) h2
    · rw [List.getElem?_set_ne hki] at e2
      obtain ⟨u, g1, g2⟩ := sr.slot k d2 e2
      refine ⟨u, by rw [List.getElem?_set_ne hki]; exact g1, ?_⟩
      cases c : cf.cl k with
      | ex => rw [c] at g2; exact Rep.weak (fun b z => ⟨hk, z⟩) (fun b z => ⟨hk, z⟩) (show Rep K H (fm.O k) (fm.O k) d2 u from g2)
      | vw k' => rw [c] at g2; exact Rep.weak (fun b z => ⟨z.1, fun p o => z.2.1 p o.2, z.2.2⟩) (fun b z => ⟨z.1, fun p o => z.2.1 p o.2, z.2.2⟩) (show Rep K H (Pv k' fm) (Pv k' fm) d2 u from g2)
      | old => rw [c] at g2; exact Rep.weak q2 q2 (show Rep K H (P2 fm) (P2 fm) d2 u from g2)
      | nw => rw [c] at g2; exact Rep.weak q1 q1 (show Rep K H (P1 fm) (P1 fm) d2 u from g2)
      | own n' =>
        rw [c] at g2
        have g2 : Rep K H (fm.O k) (if n' = true then P1 fm else P2 fm) d2 u := g2
        refine Rep.weak (fun b z => ⟨hk, z⟩) (fun b z => ?_) g2
        cases n' with
        | true => exact q1 b z
        | false => exact q2 b z
/-- a thing put into an own list -/
theorem okIn_rd {n : Bool} (ho : okIn (.own n) x = true) (r : VR K fm Hs H x v) : isScr x.1 = false ∧ Rep K H (if n = true then P1 fm else P2 fm) (if n = true then P1 fm else P2 fm) x.1 v := by
  obtain ⟨d, t⟩ := x
  have st : (∀ i, d ≠ .imm i) → isScr d = false → (t.bw.isEmpty && (!n || decide (t.lv ≤ 1))) = true → Rep K H (if n = true then P1 fm else P2 fm) (if n = true then P1 fm else P2 fm) d v := fun hni hsc h => by
    rw [Bool.and_eq_true] at h
    cases n with
    | true =>
      rw [if_pos rfl]
      have q := SlotOk.fz (i := 0) (c := .nw) (.inr (.inl rfl)) (show okSt .nw (d, t) = true by
        cases d with
        | imm i => rfl
        | _ => show (t.bw.isEmpty && decide (t.lv ≤ 1)) = true; rw [h.1]; simpa using h.2) r
      exact q
    | false =>
      rw [if_neg Bool.false_ne_true]
      have q := SlotOk.fz (i := 0) (c := .old) (.inl rfl) (show okSt .old (d, t) = true by
        cases d with
        | imm i => rfl
        | _ => exact h.1) r
      exact q
  cases d with
  | imm i => exact ⟨rfl, .imm (rep_imm r)⟩
  | scr ns => cases ho
  | _ => exact ⟨rfl, st (fun _ => nofun) rfl ho⟩
theorem appD_items {d d' : D} (h : appD d x = some d') : isL d = true ∧ ∀ ds, lstItems d = some ds → lstItems d' = some (ds ++ [x.1]) := by
  obtain ⟨y, t⟩ := x
  cases d with
  | lsi xs =>
    refine ⟨rfl, fun ds e => ?_⟩
    cases e
    cases y <;> (cases h; first | rfl | (show some _ = some _; simp))
  | lsd xs =>
    refine ⟨rfl, fun ds e => ?_⟩
    cases e
    cases y <;> (cases h; rfl)
  | _ => cases h
theorem setD_items {d d' : D} {k : Int} (h : setD d k x = some d') : isL d = true ∧ ∀ ds, lstItems d = some ds → ∃ j, L2.ixN ds.length k = some j ∧ lstItems d' = some (ds.set j x.1) := by
  obtain ⟨y, t⟩ := x
  cases d with
  | lsi xs =>
    refine ⟨rfl, fun ds e => ?_⟩
    cases e
    rw [List.length_map]
    cases y with
    | imm i =>
      have h : (L2.ixN xs.length k).map (fun j => D.lsi (xs.set j i)) = some d' := h
      rw [Option.map_eq_some_iff] at h
      obtain ⟨j, e, rfl⟩ := h
      exact ⟨j, e, by show some _ = some _; rw [List.map_set]⟩
    | _ =>
      have h : (L2.ixN xs.length k).map (fun j => D.lsd ((xs.map D.imm).set j _)) = some d' := h
      rw [Option.map_eq_some_iff] at h
      obtain ⟨j, e, rfl⟩ := h
      exact ⟨j, e, rfl⟩
  | lsd xs =>
    refine ⟨rfl, fun ds e => ?_⟩
    cases e
    have h : (L2.ixN xs.length k).map (fun j => D.lsd (xs.set j y)) = some d' := by cases y <;> exact h
    rw [Option.map_eq_some_iff] at h
    obtain ⟨j, e, rfl⟩ := h
    exact ⟨j, e, rfl⟩
  | _ => cases h
theorem cat_its {d d' y : D} (h : cat d y = some d') : isL d = true ∧ isL y = true ∧ ∀ ds es, lstItems d = some ds → lstItems y = some es → lstItems d' = some (ds ++ es) := by
  cases d with
  | lsi xs => cases y with
    | lsi ys => exact ⟨rfl, rfl, fun ds es e1 e2 => by cases e1; cases e2; cases h; show some _ = some _; rw [List.map_append]⟩
    | lsd ys => exact ⟨rfl, rfl, fun ds es e1 e2 => by cases e1; cases e2; cases h; rfl⟩
    | _ => cases h
  | lsd xs => cases y with
    | lsi ys => exact ⟨rfl, rfl, fun ds es e1 e2 => by cases e1; cases e2; cases h; rfl⟩
    | lsd ys => exact ⟨rfl, rfl, fun ds es e1 e2 => by cases e1; cases e2; cases h; rfl⟩
    | _ => cases h
  | _ => cases h
theorem dlen_items {d : D} {ds : List D} (e : lstItems d = some ds) : dlen d = ds.length := by
  cases d with
  | lsi xs => cases e; simp [dlen]
  | lsd xs => cases e; rfl
  | _ => cases e
end
end Iv

/-! Iv Qa: try with several clauses, of one class or of several, with a name or without. -/
namespace Iv
open PySem PySem.Spec L2
open PyProof.Rows hiding St
open PySem.W in
theorem exm_list {M : Model} {K : PySem.W.Frag} {cls : Value} {h : Heap} {e tp : Addr} {cs : List Value} {f : Value → Bool} (X : K.In h) (LT : Looks M h (typeOf (.ref e)) cls) (hp : h.get? tp = some { cls := .type "tuple", data := .seq cs.toArray })
    (hx : ∀ c ∈ cs, PySem.W.exmOne K cls c = some (f c)) : Looks M h (excMatches (.ref e) (.ref tp)) (cs.any f) := by
  intro A Q E s k₀ q
  obtain ⟨hh, g, d, tk, os⟩ := s
  have k : ∀ b o, h.get? b = some o → hh.get? b = some o := k₀
  have LT0 : Looks M h (isInstance (.ref tp) (.type "tuple")) true := ((Looks.ld hp).andThen .now).andThen (Looks.of_pure isSubtype_tuple_tuple)
  have L1 := LT.keeps k
  have L0 := LT0.keeps k
  have hp' := k _ _ hp
  have he : ∀ c ∈ cs, Looks M hh (isExcClass c) true ∧ Looks M hh (isSubtype cls c) (f c) := fun c m => by
    obtain ⟨a, b⟩ := exm_cls (M := M) X (hx c m)
    exact ⟨a.keeps k, b.keeps k⟩
  unfold excMatches
  refine wpAny_bind (L0.at ?_)
  dsimp only
  rw [if_pos rfl]
  refine wpAny_bind (wpAny_seqItems hp' rfl ?_)
  dsimp only [Option.getD_some, Option.getD]
  have go1 : ∀ (l : List Value) (Q' : PUnit → Shared → Prop), (∀ c ∈ l, c ∈ cs) → Q' PUnit.unit ⟨hh, g, d, tk, os⟩ → wpAny M A (forIn l PUnit.unit fun c _ => do
      let b ← isExcClass c
      if (!b) = true then do rule "try.except-non-exception-class"; raiseErrorWords "TypeError" "catching classes that do not inherit from BaseException is not allowed"; pure (ForInStep.yield PUnit.unit)
      else pure (ForInStep.yield PUnit.unit)) Q' E ⟨hh, g, d, tk, os⟩ := by
    intro l
    induction l with
    | nil => intro Q' _ hq; exact wpAny_pure hq
    | cons c l ih =>
      intro Q' hm hq
      rw [List.forIn_cons]
      refine wpAny_bind (wpAny_bind ((he c (hm c List.mem_cons_self)).1.at ?_))
      rw [Bool.not_true, if_neg Bool.false_ne_true]
      exact wpAny_pure (ih Q' (fun x m => hm x (List.mem_cons_of_mem _ m)) hq)
  have go2 : ∀ (l : List Value) (Q' : Option Bool × Unit → Shared → Prop), (∀ c ∈ l, c ∈ cs) → Q' (if l.any f = true then some true else none, ()) ⟨hh, g, d, tk, os⟩ → wpAny M A (forIn l ((none, ()) : Option Bool × Unit) fun c _ => do
      let b ← isSubtype cls c
      if b = true then pure (ForInStep.done (some true, ())) else pure (ForInStep.yield (none, ()))) Q' E ⟨hh, g, d, tk, os⟩ := by
    intro l
    induction l with
    | nil => intro Q' _ hq; exact wpAny_pure hq
    | cons c l ih =>
      intro Q' hm hq
      rw [List.forIn_cons]
      refine wpAny_bind (wpAny_bind ((he c (hm c List.mem_cons_self)).2.at ?_))
      rw [List.any_cons] at hq
      cases hb : f c with
      | true =>
        rw [hb, Bool.true_or, if_pos rfl] at hq
        rw [if_pos rfl]
        exact wpAny_pure (wpAny_pure hq)
      | false =>
        rw [hb, Bool.false_or] at hq
        rw [if_neg Bool.false_ne_true]
        exact wpAny_pure (ih Q' (fun x m => hm x (List.mem_cons_of_mem _ m)) hq)
  refine wpAny_bind (wpAny_pure ?_)
  refine wpAny_bind (go1 cs _ (fun _ m => m) ?_)
  refine wpAny_bind (L1.at ?_)
  refine wpAny_bind (go2 cs _ (fun _ m => m) ?_)
  cases h2 : cs.any f with
  | true => rw [h2] at q; exact wpAny_pure q
  | false => rw [h2] at q; exact wpAny_pure q

/-- the names of classes -/
inductive NmsX (X : Cx) : List Expr → List Value → Prop
  | nil : NmsX X [] []
  | cons {x : Str} {c : Value} {np : Pos} {es : List Expr} {cs : List Value} : Names X x c → NmsX X es cs → NmsX X (.Name x np :: es) (c :: cs)
inductive TstX (X : Cx) : Expr → List Value → Prop
  | one {x : Str} {c : Value} {np : Pos} : Names X x c → TstX X (.Name x np) [c]
  | tup {es : List Expr} {cs : List Value} {k : Nat} {p : Pos} : NmsX X es cs → cs.length ≤ 100 → TstX X (.Tuple es k p) cs
abbrev Clx := List Value × Nat × (Addr → TS)
def slotX (n : Nat) (a : Addr) (σ : St) : St := match n with
  | 0 => σ
  | i + 1 => σ.set i (some (.ref a))
def clrX (n : Nat) (σ : St) : St := match n with
  | 0 => σ
  | i + 1 => σ.set i none
def endsX (n : Nat) (D : Ends) : Ends := { nx := fun σ' H' => D.nx (clrX n σ') H', rt := D.rt, bk := fun σ' H' => D.bk (clrX n σ') H', ct := fun σ' H' => D.ct (clrX n σ') H' }
/-- what the clauses wish of an error of the class C, by its name c -/
def wClx (K : PySem.W.Frag) (c : String) (C : Addr) (D : Ends) (σ : St) (H : Hp) (out : Prop) : List Clx → Prop
  | [] => out
  | (cs, n, ts) :: r => ∃ f : Value → Bool, (∀ v ∈ cs, PySem.W.exmOne K (.ref C) v = some (f v)) ∧ (cs.any f = true → ∀ a, H a = none → ts a (endsX n D) (slotX n a σ) (upd H a (ExO K c a))) ∧ (cs.any f = false → wClx K c C D σ H out r)
def wTry (K : PySem.W.Frag) (Wout : WX) (D : Ends) (l : List Clx) : WX := fun cls d σ H => d = none ∧ ∃ (c : String) (C : Addr), cls = .ref C ∧ PySem.W.nsIn K mainGlobals (c : Str) = some (some (.ref C)) ∧ wClx K c C D σ H (Wout cls d σ H) l
inductive HdsX (X : Cx) : List ExceptHandler → List Clx → Prop
  | nil : HdsX X [] []
  | none {te : Expr} {cs : List Value} {ts : Addr → TS} {b : Stmt} {su : List Stmt} {p : Pos} {hds : List ExceptHandler} {l : List Clx} (ht : TstX X te cs) (hsu : ∀ (a : Addr) (pn : List (Addr × Obj)), PSs (X.suite a pn) (b :: su) (ts a)) (r : HdsX X hds l) :
      HdsX X (.ExceptHandler (some te) none (b :: su) p :: hds) ((cs, 0, ts) :: l)
  | name {te : Expr} {cs : List Value} {i : Nat} {n : Str} {ts : Addr → TS} {b : Stmt} {su : List Stmt} {p : Pos} {hds : List ExceptHandler} {l : List Clx} (hN : X.N.Nodup) (hi : X.N[i]? = some n) (hl : X.env.kindOf n = some .local) (ht : TstX X te cs)
      (hsu : ∀ (a : Addr) (pn : List (Addr × Obj)), PSs (X.suite a pn) (b :: su) (ts a)) (r : HdsX X hds l) : HdsX X (.ExceptHandler (some te) (some n) (b :: su) p :: hds) ((cs, i + 1, ts) :: l)
section
variable {X : Cx} {pins : List (Addr × Obj)} {σ : St} {H : Hp} {s : Shared}
/-- the caught error is tracked in the suite -/
theorem Inv.inSuite {a : Addr} {oe : Obj} {vs : Array Value} {c : String} {C : Addr} (I : Inv X pins σ H s) (h0 : a ∉ X.ex → X.s_0.heap.get? a = none) (hp : ∀ p ∈ X.pn ++ pins, p.1 ≠ a) (ha : s.heap.get? a = some oe) (hd : oe.data = .fields vs) (hz : Zc (.ref C) none oe) (hc : PySem.W.nsIn X.K mainGlobals (c : Str) = some (some (.ref C)))
    (na : H a = none) (nL : a ≠ X.env.locals) : Inv (X.suite a (X.pn ++ pins)) [] σ (upd H a (ExO X.K c a)) s := by
  refine ⟨I.ok.suite _ _, I.os, I.bare, ?_, I.loc, I.cell, ?_, fun x e he => ?_, fun p m => ?_, ?_, I.len⟩
  · refine ⟨I.base.keep, I.base.slot, fun b o q n x => ?_, I.base.there, fun b xs q => ?_, fun b o xs q => ?_, fun b ps q => ?_⟩
    · rw [upd_ne (fun z => by rw [z, h0 (z ▸ x)] at q; cases q)]; exact I.base.free b o q n x
    · have z := I.base.tups b xs q
      rw [upd_ne (ne_of_none z na)]; exact z
    · have z := I.base.frzs b o xs q
      rw [upd_ne (ne_of_none z na)]; exact z
    · obtain ⟨m, z⟩ := I.base.tbls b ps q
      exact ⟨m, by rw [upd_ne (ne_of_none z na)]; exact z⟩
  · rw [upd_ne (fun z => nL z.symm)]; exact I.free
  · obtain ⟨v, o, ho, hv⟩ := I.cell x e he
    have ne : e ≠ a := fun z => by rw [z, ha] at ho; cases ho; rw [hd] at hv; cases hv
    rw [upd_ne ne]; exact I.freeC x e he
  · have m : p ∈ X.pn ++ pins := by rw [List.append_nil] at m; exact m
    obtain ⟨z1, z2, z3⟩ := I.pin p m
    exact ⟨z1, by rw [upd_ne (hp p m)]; exact z2, z3⟩
  · have ext : ∀ b o, H b = some o → upd H a (ExO X.K c a) b = some o := fun b o q => by rw [upd_ne (ne_of_none q na)]; exact q
    intro b o e
    by_cases hb : b = a
    · subst hb
      rw [upd_same] at e
      cases e
      exact ⟨⟨C, oe, hc, ha, hz, vs, hd⟩, ⟨oe, ha⟩, fun h1 h2 ⟨C', o', q1, q2, q3, q4⟩ k => ⟨C', o', q1, k o' q2, q3, q4⟩⟩
    · rw [upd_ne hb] at e
      exact (I.hok b o e).stay (fun _ _ _ q => q) (fun _ q => ext _ _ q) fun _ _ q => ext _ _ q
theorem Inv.outSuite {a : Addr} {pn' : List (Addr × Obj)} (I : Inv (X.suite a (X.pn ++ pins)) pn' σ H s) (ok : X.Ok) : Inv X pins σ H s :=
  ⟨ok, I.os, I.bare, I.base, I.loc, I.cell, I.free, I.freeC, fun p hp => I.pin p (List.mem_append_left _ hp), I.hok, I.len⟩
theorem NmsX.sui {a : Addr} {pn : List (Addr × Obj)} : ∀ {es : List Expr} {cs : List Value}, NmsX X es cs → NmsX (X.suite a pn) es cs
  | _, _, .nil => .nil
  | _, _, .cons h r => .cons h (NmsX.sui r)
theorem TstX.sui {a : Addr} {pn : List (Addr × Obj)} {te : Expr} {cs : List Value} (h : TstX X te cs) : TstX (X.suite a pn) te cs := by
  cases h with
  | one h => exact .one h
  | tup h q => exact .tup h.sui q
theorem nms_run (hk : Inv X pins σ H s) {E : Value → Shared → Prop} {pos : Pos} : ∀ {es : List Expr} {cs : List Value} {Q : List Value → Shared → Prop}, NmsX X es cs → Q cs s → wpAny (model X.prog X.w) X.A (spliced (backTo pos (starEach es X.env))) Q E s
  | _, _, _, .nil, q => wpAny_items_nil q
  | _, _, Q, .cons (c := c) hc r, q => by
    refine wpAny_items_cons ?_
    have go := nms_run hk (E := E) (pos := pos) (Q := fun vs s' => Q (c :: vs) s') r q
    obtain ⟨hg, hdbg, hm | ⟨hm, hv, hnn⟩⟩ := hc
    · refine ld_glob hk hg hm ?_ hdbg
      exact go
    · refine ld_blt hk hg hm hv ?_ hnn hdbg
      exact go
theorem flyingZ_keeps {B h h' : Heap} {l : List PySem.Env} {a : Addr} {Z : Obj → Prop} (R : HandSPX.FlyingZ B l a Z h) (k : ∀ b o, h.get? b = some o → h'.get? b = some o) : HandSPX.FlyingZ B l a Z h' := by
  obtain ⟨f1, f2, f3, oe, vs, T, oT, ts, q1, q2, q3, q4, q5, q6, q7, q8, q9⟩ := R
  exact ⟨fun b o q => k b o (f1 b o q), f2, f3.of_keeps (fun b o q _ => ⟨o, k b o q, rfl⟩), oe, vs, T, oT, ts, k _ _ q1, q2, q3, q4, q5, q6, k _ _ q7, q8, q9⟩
/-- a clause's test -/
theorem tst_run (I : Inv X pins σ H s) {E : Value → Shared → Prop} {te : Expr} {cs : List Value} {a : Addr} {cls : Value} {oe : Obj} {f : Value → Bool} {Q : Bool → Shared → Prop} (ht : TstX X te cs) (ho : s.heap.get? a = some oe) (hc : oe.cls = cls) (hf : ∀ v ∈ cs, PySem.W.exmOne X.K cls v = some (f v))
    (q : ∀ h', (∀ b o, s.heap.get? b = some o → h'.get? b = some o) → Q (cs.any f) { s with heap := h' }) : wpAny (model X.prog X.w) X.A (eval te X.env) (fun c s₁ => wpAny (model X.prog X.w) X.A (excMatches (.ref a) c) Q E s₁) E s := by
  have LT : PySem.W.Looks (model X.prog X.w) s.heap (typeOf (.ref a)) cls := fun A Q E s k q => wpAny_typeOf_ref (k _ _ ho) (by rw [hc]; exact q)
  cases ht with
  | @one x c np hn =>
    have fin : wpAny (model X.prog X.w) X.A (excMatches (.ref a) c) Q E s := by
      have e := hf c List.mem_cons_self
      have z := q s.heap fun _ _ z => z
      rw [List.any_cons, List.any_nil, Bool.or_false] at z
      exact (PySem.W.exm_one (M := model X.prog X.w) I.kIn LT e).here z
    obtain ⟨hg, hdbg, hm | ⟨hm, hv, hnn⟩⟩ := hn
    · refine ld_glob I hg hm ?_ hdbg
      exact fin
    · refine ld_blt I hg hm hv ?_ hnn hdbg
      exact fin
  | @tup es cs k p hn hl =>
    refine wpAny_Tuple (nms_run I hn ⟨by rw [sizeLine_eq]; omega, ?_⟩)
    have kp : ∀ b o, s.heap.get? b = some o → (s.heap.push { cls := .type "tuple", data := .seq cs.toArray }).get? b = some o := fun _ _ z => Heap.get?_push_of_some _ z
    exact (exm_list (M := model X.prog X.w) (I.kIn.keeps kp) (LT.keeps kp) (Heap.get?_push_size s.heap rfl) hf).here (q _ kp)
end
section
variable {X : Cx} {body : List Stmt} {hd : ExceptHandler} {hds : List ExceptHandler} {l : List Clx} {pos : Pos} {tb : WX → TS} {Wout : WX}
theorem ps_tryX (hst : X.stack = X.env :: X.outer) (hfr : X.env.frame = some X.env.locals) (tk : TakesA X Wout)
    (hb : ∀ (W : WX) (pn : List (Addr × Obj)) (xe : Value → Shared → Prop), TakesA (X.tr pn xe) W → PassesOwn (model X.prog X.w) X.A X.env xe → PSs (X.tr pn xe) body (tb W))
    (hh : HdsX X (hd :: hds) l) : PS X (.Try body (hd :: hds) [] [] pos) (fun D σ H => tb (wTry X.K Wout D l) D σ H) := by
  refine ⟨fun pins s0 σ0 H0 D I0 h0 => ?_⟩
  have okX := I0.ok
  have hAf : X.A.frames = some (X.env :: X.outer) := by rw [okX.frames, hst]
  refine wpAny_Try_except (wpAny_mono ((hb (wTry X.K Wout D l) (X.pn ++ pins) (fun e s₁ => wpAny (model X.prog X.w) X.A (noteFrame e X.env) (fun _ s₂ => wpAny (model X.prog X.w) X.A (setFlight e none) (fun _ s₃ => wpAny (model X.prog X.w) X.A (handleBy e X.env (hd :: hds)) (SP X pins D) X.xe s₃) X.xe s₂) X.xe s₁) (fun u s' xx => ?_) PassesOwn.looking).run [] s0 σ0 H0 D (I0.toTry _) h0) (fun f s1 hsp => ?_) (fun _ _ z => z))
  · obtain ⟨a, B, sI, pins', σ', H', cls, dd, rfl, JT, nb, up, sky0, na, os, ag, hdn, c, C, hcls, hcC, w⟩ := xx
    subst hdn hcls
    have J : Inv X pins σ' H' sI := JT.ofTry okX
    have sky1 : SkyA B (X.env :: X.outer) a (Zc (.ref C) none) s'.heap := by rw [← hst]; exact sky0
    show wpAny (model X.prog X.w) X.A (noteFrame (.ref a) X.env) _ _ _
    refine SkyA.land Zc.steady hAf hfr sky1 fun h3 fl3 up3 => ?_
    have nfr : ∀ {h : Heap}, HandSPX.FlyingZ B (X.env :: X.outer) a (Zc (.ref C) none) h → a ∉ frs (X.env :: X.outer) := fun {h} fl hm => by
      obtain ⟨oe, vs, e, _, q⟩ := fl.there
      obtain ⟨_, o', e', hnf⟩ := fl.2.2.1.mem hm
      rw [e] at e'; cases e'
      exact hnf _ q
    have nfa := nfr fl3
    have nL : a ≠ X.env.locals := fun z => nfa (List.mem_filterMap.mpr ⟨X.env, List.mem_cons_self, by rw [hfr, z]⟩)
    have nF : a ∉ X.fs := fun hx => by
      obtain ⟨e, he, q⟩ := List.mem_filterMap.mp hx
      exact nfa (List.mem_filterMap.mpr ⟨e, List.mem_cons_of_mem _ he, q⟩)
    have hBa : B.get? a = none := fl3.2.1
    have noI : sI.heap.get? a = none := by
      cases q : sI.heap.get? a with
      | none => rfl
      | some o =>
        have z := nb a o q (by rw [hst]; exact nfa)
        rw [hBa] at z; cases z
    have no0 : a ∉ X.ex → X.s_0.heap.get? a = none := fun hx => by
      cases q : X.s_0.heap.get? a with
      | none => rfl
      | some o =>
        obtain ⟨o', z⟩ := J.base.there a o q hx
        rw [noI] at z; cases z
    have npin : ∀ p ∈ X.pn ++ pins, p.1 ≠ a := fun p m z => by
      have q := (J.pin p m).1
      rw [z, noI] at q; cases q
    have go : ∀ {hs : List ExceptHandler} {l' : List Clx}, HdsX X hs l' → wClx X.K c C D σ' H' (Wout (.ref C) none σ' H') l' → ∀ h4, HandSPX.FlyingZ B (X.env :: X.outer) a (Zc (.ref C) none) h4 → sI.heap.UpToSlots h4 →
        wpAny (model X.prog X.w) X.A (handleBy (.ref a) X.env hs) (SP X pins D) X.xe { s' with heap := h4 } := by
      intro hs l' hk
      induction hk with
      | nil =>
        intro w h4 fl4 up4
        refine wpAny_handleBy_nil ?_
        have J4 : Inv X pins σ' H' { s' with heap := h4 } := J.landed nb fl4.1 up4 os ag
        obtain ⟨k1, k2, k3, oe, vs, T, oT, ts', he, hz, hd, h1, hr⟩ := id fl4
        unfold PySem.passOn
        refine wpAny_bind (wpAny_field he hd h1 ?_)
        rw [if_neg (show ¬ ((Value.ref T == Value.none) = true) from by simp)]
        have fin : wpAny (model X.prog X.w) X.A (setFlight (.ref a) X.env.frame) (fun _ s4 => wpAny (model X.prog X.w) X.A (throw (.ref a) : Sem Flow) (SP X pins D) X.xe s4) X.xe { s' with heap := h4 } := by
          rw [hfr]
          exact HandSPX.setFlight_upZ fl4 fun h5 hh5 up5 => wpAny_throw (tk _ _ ⟨a, B, sI, pins, σ', H', .ref C, none, rfl, J, nb, up4.trans up5, .inr (by rw [hst]; exact ⟨hh5.1, hh5.2.1, hh5.2.2.1, _, hh5.2.2.2⟩), na, os, ag, w⟩)
        first
          | exact wpAny_bind (wpAny_pure (wpAny_bind fin))
          | exact wpAny_bind fin
      | @none te cs ts b su p hds2 l2 ht hsu r ih =>
        intro w h4 fl4 up4
        obtain ⟨f, hf, hy, hn⟩ := w
        have J4 : Inv X pins σ' H' { s' with heap := h4 } := J.landed nb fl4.1 up4 os ag
        obtain ⟨oe4, vs4, he4, hz4, hd4⟩ := fl4.there
        refine wpAny_handleBy_cons (codeAny_handlers_test (tst_run (X := X.suite a ((a, oe4) :: (X.pn ++ pins))) (L2.Inv.suite J4 he4 hd4 na nL nF) ht.sui he4 hz4.1 hf fun h5 k5 => ?_)) (by intro q; cases q)
        have fl5 := flyingZ_keeps fl4 k5
        have up5 : sI.heap.UpToSlots h5 := up4.trans (Heap.UpToSlots.of_keeps k5)
        cases hb : cs.any f with
        | true =>
          refine codeAny_handlers_suite (HandSPX.lands_againZ fl5 fun h6 fl6 up6 => ?_)
          have J6 : Inv X pins σ' H' { s' with heap := h6 } := J.landed nb fl6.1 (up5.trans up6) os ag
          obtain ⟨oe6, vs6, he6, hz6, hd6⟩ := fl6.there
          have S6 := Inv.inSuite J6 no0 npin he6 hd6 hz6 hcC na nL
          refine wpAny_mono ((hsu a (X.pn ++ pins)).run [] _ _ _ _ S6 (hy hb a na)) (fun f s6 hsp => ?_) (fun _ _ z => False.elim z)
          cases f with
          | ret u =>
            obtain ⟨v6, σ6, H6, S7, r6, q6⟩ := hsp
            exact ⟨_, _, _, Inv.outSuite S7 okX, r6, q6⟩
          | _ =>
            obtain ⟨σ6, H6, S7, q6⟩ := hsp
            exact ⟨_, _, Inv.outSuite S7 okX, q6⟩
        | false => exact ih (hn hb) h5 fl5 up5
      | @name te cs i n ts b su p hds2 l2 hN hi hl ht hsu r ih =>
        intro w h4 fl4 up4
        obtain ⟨f, hf, hy, hn⟩ := w
        have J4 : Inv X pins σ' H' { s' with heap := h4 } := J.landed nb fl4.1 up4 os ag
        obtain ⟨oe4, vs4, he4, hz4, hd4⟩ := fl4.there
        refine wpAny_handleBy_cons (codeAny_handlers_test (tst_run (X := X.suite a ((a, oe4) :: (X.pn ++ pins))) (L2.Inv.suite J4 he4 hd4 na nL nF) ht.sui he4 hz4.1 hf fun h5 k5 => ?_)) (by intro q; cases q)
        have fl5 := flyingZ_keeps fl4 k5
        have up5 : sI.heap.UpToSlots h5 := up4.trans (Heap.UpToSlots.of_keeps k5)
        cases hb : cs.any f with
        | true =>
          refine codeAny_handlers_suite_as (HandSPX.lands_againZ fl5 fun h6 fl6 up6 => ?_)
          have J6 : Inv X pins σ' H' { s' with heap := h6 } := J.landed nb fl6.1 (up5.trans up6) os ag
          obtain ⟨oe6, vs6, he6, hz6, hd6⟩ := fl6.there
          have S6 := Inv.inSuite J6 no0 npin he6 hd6 hz6 hcC na nL
          refine store_ok (X := X.suite a (X.pn ++ pins)) (v := .ref a) S6 hN hi (.inl hl) rfl (fun s7 S7 => ?_) (.inr hl)
          refine wpAny_mono ((hsu a (X.pn ++ pins)).run [] s7 _ _ _ S7 (hy hb a na)) (fun f s8 hsp => ?_) (fun _ _ z => False.elim z)
          cases f with
          | ret u =>
            obtain ⟨v8, σ8, H8, S8, r8, q8⟩ := hsp
            exact gone_ok (Inv.outSuite S8 okX) hN hi hl fun s9 J9 => ⟨_, _, _, J9, r8, q8⟩
          | _ =>
            obtain ⟨σ8, H8, S8, q8⟩ := hsp
            exact gone_ok (Inv.outSuite S8 okX) hN hi hl fun s9 J9 => ⟨_, _, J9, q8⟩
        | false => exact ih (hn hb) h5 fl5 up5
    exact go hh w h3 fl3 (up.trans up3)
  · cases f with
    | ret u =>
      obtain ⟨v, σ', H', J', r, q⟩ := hsp
      exact ⟨v, σ', H', J'.ofTry okX, r, q⟩
    | next =>
      obtain ⟨σ', H', J', q⟩ := hsp
      exact wpAny_execs_nil ⟨σ', H', J'.ofTry okX, q⟩
    | _ =>
      obtain ⟨σ', H', J', q⟩ := hsp
      exact ⟨σ', H', J'.ofTry okX, q⟩
end
end Iv

/-! Iv Qb: [x.pop(v % len(x)) for v in ..]. -/
namespace Iv
open PySem PySem.Spec L2
open PyProof.Rows hiding St
def nmB (N : List Str) (sc : Scope) (i : Nat) (x : Str) : Bool := decide (N[i]? = some x) && visB sc x && !(x == ("__debug__" : Str)) && !(x == ("__classdict__" : Str))
theorem nmB_ok {N : List Str} {sc : Scope} {i : Nat} {x : Str} (h : nmB N sc i x = true) : N[i]? = some x ∧ Vis sc x ∧ (x == ("__debug__" : Str)) = false ∧ (x == ("__classdict__" : Str)) = false := by
  unfold nmB at h
  rw [Bool.and_eq_true, Bool.and_eq_true, Bool.and_eq_true, Bool.not_eq_true', Bool.not_eq_true'] at h
  exact ⟨of_decide_eq_true h.1.1.1, visB_ok h.1.1.2, h.1.2, h.2⟩
def popE (i v : Nat) : E := .bin .Mod (.var v) (.blt .len [.var i])
def popsB (g : Gs) (N : List Str) (sc : Scope) (cl : Str → Bool) (i v : Nat) (src : Src) : Expr → Bool
  | .ListComp (.Call (.Attribute (.Name x _) nm ap) [ie] [] pc) [⟨etg, eiter, [], 0⟩] scope _ =>
    g.calm && blkC N sc scope (ownP N [v]) && chkSrc g N sc cl src etg eiter && notSet eiter
      && chkTg N (relS scope sc) (fun x => scope.names.lookup x == some .cell) (.nm v) etg
      && nmB N (relS scope sc) i x && decide (nm = ("pop" : Str)) && (ap.endLine == pc.line)
      && chk g N (relS scope sc) (fun x => scope.names.lookup x == some .cell) (popE i v) ie && noStar ie
  | _ => false
theorem dInts_get : ∀ {xs : List DT} {ns : List Int}, dInts xs = some ns → xs.length = ns.length ∧ ∀ (i : Nat) (x : DT), xs[i]? = some x → ∃ (n : Int) (t : Tag), ns[i]? = some n ∧ x = (D.imm (.int n), t)
  | [], ns, h => by
    have h : some [] = some ns := h
    cases h
    exact ⟨rfl, fun _ _ e => by simp at e⟩
  | y :: r, ns, h => by
    have k : ∃ n t, y = (D.imm (.int n), t) := by
      obtain ⟨d, t⟩ := y
      cases d with
      | imm i =>
        cases i with
        | int n => exact ⟨n, t, rfl⟩
        | _ => cases h
      | _ => cases h
    obtain ⟨n, t, rfl⟩ := k
    have h : (dInts r).map (n :: ·) = some ns := h
    cases e : dInts r with
    | none => rw [e] at h; cases h
    | some ms =>
      rw [e] at h
      cases h
      obtain ⟨h1, h2⟩ := dInts_get e
      refine ⟨by rw [List.length_cons, List.length_cons, h1], fun i x hx => ?_⟩
      cases i with
      | zero => cases hx; exact ⟨n, t, rfl, rfl⟩
      | succ i => exact h2 i x hx
theorem asInts_eq : ∀ {xs : List I} {ns : List Int}, asInts xs = some ns → xs = ns.map .int
  | [], _, h => by cases h; rfl
  | .int n :: r, ns, h => by
    have h : (asInts r).map (n :: ·) = some ns := h
    cases e : asInts r with
    | none => rw [e] at h; cases h
    | some ms => rw [e] at h; cases h; rw [asInts_eq e]; rfl
  | .non :: _, _, h => by cases h
  | .bl _ :: _, _, h => by cases h
  | .str _ :: _, _, h => by cases h
  | .tup _ :: _, _, h => by cases h
  | .dic :: _, _, h => by cases h
  | .exc _ :: _, _, h => by cases h
  | .dk _ :: _, _, h => by cases h
  | .dt _ :: _, _, h => by cases h
theorem popsD_some {cf : Cf} {i v : Nat} {its : List DT × List Nat} {ρ : Env} {q : List Int × List Int} (h : popsD cf i v its ρ = some q) :
    ∃ ns zs n, dInts its.1 = some ns ∧ ρ[i]? = some (some (.lsi (zs.map .int))) ∧ i ∉ its.2 ∧ cf.cl i = .own n ∧ cf.cl v = .old ∧ v < ρ.length ∧ v ≠ i ∧ zs.length ≤ 1000 ∧ popsGo zs ns = some q := by
  unfold popsD at h
  split at h
  · rename_i ns xs e1 e2
    split at h
    · rename_i zs e3
      split at h
      · rename_i c
        rw [Bool.and_eq_true, Bool.and_eq_true, decide_eq_true_iff, Bool.not_eq_true'] at c
        obtain ⟨⟨c1, c2⟩, c3, c4, c5, c6⟩ := c
        have hn : ∃ n, cf.cl i = .own n := by
          cases hc : cf.cl i with
          | own n => exact ⟨n, rfl⟩
          | _ => rw [hc] at c2; cases c2
        obtain ⟨n, hn⟩ := hn
        rw [asInts_eq e3] at e2
        exact ⟨ns, zs, n, e1, e2, (fun z => by rw [List.contains_iff_mem.mpr z] at c1; cases c1), hn, c3, c4, c5, c6, h⟩
      · cases h
    · cases h
  · cases h
theorem popsGo_cons {zs : List Int} {n : Int} {ns : List Int} {q : List Int × List Int} (h : popsGo zs (n :: ns) = some q) :
    0 < zs.length ∧ ∃ z q', zs[(n % (zs.length : Int)).toNat]? = some z ∧ popsGo (zs.eraseIdx (n % (zs.length : Int)).toNat) ns = some q' ∧ q = (z :: q'.1, q'.2) := by
  unfold popsGo at h
  split at h
  · cases h
  · rename_i c
    split at h
    · rename_i z e
      cases e2 : popsGo (zs.eraseIdx (n % (zs.length : Int)).toNat) ns with
      | none => rw [e2] at h; cases h
      | some q' => rw [e2] at h; cases h; exact ⟨by omega, z, q', e, rfl, rfl⟩
    · cases h
theorem asI_map : ∀ zs : List Int, asInts (zs.map .int) = some zs
  | [] => rfl
  | z :: r => by
    show (asInts (r.map .int)).map (z :: ·) = _
    rw [asI_map r]
    rfl
theorem RepIs.ofIntsM {K : PySem.W.Frag} {H : Hp} {q : AP'} (zs : List Int) : Reps K H q ((zs.map I.int).map .imm) (zs.map V.int) := Reps.imms (RepIs.ofInts zs)
/-- what taking from a list of one's own wants -/
def tPops (cf : Cf) (K : PySem.W.Frag) (W : WC) (i v : Nat) (src : Src) : TE := fun σ H Q => ∃ fm ρ, SR cf K fm ρ σ H ∧ match evSrc cf src ρ with
  | .ok its => ∃ q, popsD cf i v its ρ = some q ∧ ∀ G H' D, SR cf K fm (ρ.set i (some (.lsi (q.2.map .int)))) σ G → Pg [i] fm H fm G → Same G H' → G D = none → H' D = some (.lst (q.1.map V.int)) → Q (.ref D) H'
  | .exc c => ∀ H', Same H H' → W c σ H'
  | .bad => False
theorem erase_map {α β : Type} (f : α → β) : ∀ (l : List α) (k : Nat), (l.map f).eraseIdx k = (l.eraseIdx k).map f
  | [], _ => rfl
  | _ :: _, 0 => rfl
  | x :: l, k + 1 => by
    show f x :: (l.map f).eraseIdx k = f x :: (l.eraseIdx k).map f
    rw [erase_map f l k]
theorem seq_ix {i : Int} {n : Nat} (h0 : 0 ≤ i) (h1 : i < (n : Int)) : seqIndex? i n = some i.toNat := by
  unfold seqIndex?
  simp [h0, h1, Int.not_lt.mpr h0]
theorem popE_ev {cf : Cf} {i v : Nat} {ρ : Env} {n : Int} {zs : List Int} (h1 : ρ[v]? = some (some (.imm (.int n)))) (h2 : ρ[i]? = some (some (.lsi (zs.map .int)))) (h3 : 0 < zs.length) : ev cf (popE i v) ρ = .ok (pim (.int (n % (zs.length : Int)))) := by
  have a1 : ev cf (.var v) ρ = .ok (pim (.int n)) := by
    show (match ρ[v]? with | some (some d) => M.ok (norm d (rdTag v (cf.cl v))) | _ => .bad) = _
    rw [h1]
    rfl
  have a2 : ev cf (.var i) ρ = .ok (norm (.lsi (zs.map .int)) (rdTag i (cf.cl i))) := by
    show (match ρ[i]? with | some (some d) => M.ok (norm d (rdTag i (cf.cl i))) | _ => .bad) = _
    rw [h2]
  have a3 : ev cf (.blt .len [.var i]) ρ = .ok (pim (.int (zs.length : Int))) := by
    show (evs cf [.var i] ρ).bind (fun xs => bltD .len xs) = _
    show (((ev cf (.var i) ρ).bind fun x => (evs cf [] ρ).bind fun xs => .ok (x :: xs)).bind fun xs => bltD .len xs) = _
    rw [a2]
    show M.ok (pim (.int ((zs.map I.int).length : Int))) = _
    rw [List.length_map]
  show (ev cf (.var v) ρ).bind (fun x => (ev cf (.blt .len [.var i]) ρ).bind fun y => binD .Mod x y) = _
  rw [a1]
  show (ev cf (.blt .len [.var i]) ρ).bind (fun y => binD .Mod (pim (.int n)) y) = _
  rw [a3]
  show ((intOp .Mod n (zs.length : Int)).bind fun z => .ok (pim z)) = _
  show ((if 0 < (zs.length : Int) then M.ok (I.int (n % (zs.length : Int))) else .bad).bind fun z => .ok (pim z)) = _
  rw [if_pos (by omega)]
  rfl
theorem pops_elt (g : Gs) (cf : Cf) (k : Nat) {X : Cx} {sc : Scope} {cl : Str → Bool} {W : WC} {i v : Nat} {x : Str} {p ap pc : Pos} {ie : Expr} {scope : Scope} (G : Gd g cf k X sc cl W)
    (h6 : nmB X.N (relS scope sc) i x = true) (h7 : (ap.endLine == pc.line) = true)
    (h8 : chk g X.N (relS scope sc) (fun x => scope.names.lookup x == some .cell) (popE i v) ie = true) (h9 : noStar ie = true) (s : Shared) (H : Hp) (scope' : Scope) (C : Addr) (cs : List (Str × Addr)) (fp : List Addr) (hsc : scope' = scope := by rfl) :
    PE (X.blk s H scope' (compEnvC scope' cs C X.env) fp) (.Call (.Attribute (.Name x p) ("pop" : Str) ap) [ie] [] pc) (tBM X.K "list" rPopAt (tVar i) (tDs cf X.K W0 [popE i v])) := by
  subst hsc
  obtain ⟨q1, q2, q3, q4⟩ := nmB_ok h6
  have hes : chks g X.N (relS scope' sc) (fun x => scope'.names.lookup x == some .cell) [popE i v] [ie] = true := by
    show (chk g X.N (relS scope' sc) (fun x => scope'.names.lookup x == some .cell) (popE i v) ie && noStar ie && true) = true
    rw [h8, h9]
    rfl
  exact pe_bm PySem.F.plainAttrs_list PySem.F.slot_list_pop PySem.F.type_list_pop mt_popAt (pe_var (pos := p) q1 (by rw [(G.blk s H scope' C cs fp).sc]; exact q2) q3 q4) (snd_es g cf k [popE i v] hes (G.blk s H scope' C cs fp)) rfl (by rw [star_cons h9]; rfl) h7 (star_cons h9) rfl
theorem snd_pops (g : Gs) (cf : Cf) (k : Nat) {X : Cx} {sc : Scope} {cl : Str → Bool} {W : WC} {i v : Nat} {src : Src} {x : Str} {p ap pc pos : Pos} {ie etg eiter : Expr} {scope : Scope} (G : Gd g cf k X sc cl W)
    (h0 : g.calm = true) (h1 : blkC X.N sc scope (ownP X.N [v]) = true) (h3 : chkSrc g X.N sc cl src etg eiter = true) (h4 : notSet eiter = true)
    (h5 : chkTg X.N (relS scope sc) (fun x => scope.names.lookup x == some .cell) (.nm v) etg = true) (h6 : nmB X.N (relS scope sc) i x = true) (h7 : (ap.endLine == pc.line) = true)
    (h8 : chk g X.N (relS scope sc) (fun x => scope.names.lookup x == some .cell) (popE i v) ie = true) (h9 : noStar ie = true) :
    (∀ σ H Q, tPops cf X.K W i v src σ H Q → tLc (tI cf X.K W src) (tG cf X.K (.nm v)) (tC cf X.K []) (tBM X.K "list" rPopAt (tVar i) (tDs cf X.K W0 [popE i v])) [v] σ H Q) ∧
    PE X (.ListComp (.Call (.Attribute (.Name x p) ("pop" : Str) ap) [ie] [] pc) [⟨etg, eiter, [], 0⟩] scope pos) (tPops cf X.K W i v src) := by
  have key : ∀ σ H Q, tPops cf X.K W i v src σ H Q → tLc (tI cf X.K W src) (tG cf X.K (.nm v)) (tC cf X.K []) (tBM X.K "list" rPopAt (tVar i) (tDs cf X.K W0 [popE i v])) [v] σ H Q := by
    rintro σ H Q ⟨fm, ρ, sr, w⟩
    refine ⟨fm, ρ, sr, ?_⟩
    cases e0 : evSrc cf src ρ with
    | bad => rw [e0] at w; exact w
    | exc c => rw [e0] at w; exact w
    | ok its =>
      rw [e0] at w
      intro J H1 s io ln D hD
      obtain ⟨⟨out, rest⟩, hp, fin⟩ := w
      obtain ⟨ns, zs, n0, hds, hri, hni, hci, hcv, hvl, hvi, hzl, hgo⟩ := popsD_some hp
      obtain ⟨hln, hgt⟩ := dInts_get hds
      have IO := io [i] fun j hj z => hni (by rw [List.mem_singleton.mp z] at hj; exact hj)
      have sr1 := sr.same s
      obtain ⟨l, vs, ds, hσ, ho, hl, hds', rr⟩ := sr1.ownL hci hri rfl
      have hDl : l ≠ D := fun z => by rw [z, hD] at hl; cases hl
      have mt : ∀ zk : List Int, SR cf X.K fm (ρ.set i (some (.lsi (zk.map .int)))) σ (upd H1 l (.lst (zk.map V.int))) ∧ Pg [i] fm H1 fm (upd H1 l (.lst (zk.map V.int))) := fun zk =>
        sr1.mut (d' := .lsi (zk.map .int)) hci hri hσ ho hl rfl (RepIs.ofIntsM zk)
      have gkb : ∀ (zk : List Int) b o, H1 b = some o → b ≠ l → (upd H1 l (.lst (zk.map V.int))) b = some o := fun zk b o e n => by rw [upd_ne n]; exact e
      have gD : ∀ zk : List Int, (upd H1 l (.lst (zk.map V.int))) D = none := fun zk => by rw [upd_ne hDl.symm]; exact hD
      refine ⟨fun k m H' => m = its.1.length - k ∧ k ≤ its.1.length ∧ ∃ zk oc ok, popsGo zk (ns.drop k) = some (oc, rest) ∧ ok ++ oc = out ∧ ok.length = k ∧ zk.length ≤ 1000 ∧ Same (upd H1 l (.lst (zk.map V.int))) H' ∧ H' D = some (.lst (ok.map V.int)),
        ⟨_, rfl, Nat.zero_le _, zs, out, [], hgo, rfl, rfl, hzl, fun b o e => ?_, upd_same⟩, ?_⟩
      · have hb : b ≠ D := fun z => by rw [z, gD] at e; cases e
        rw [upd_ne hb]
        by_cases hbl : b = l
        · subst hbl
          rw [upd_same] at e
          cases e
          have ri : RepIs X.K H1 (zs.map .int) vs := by
            cases hds'
            exact Reps.ofImms rr
          have ev : vs = zs.map V.int := RepIs.ints ri (asI_map zs)
          rw [hl, ev]
        · rw [upd_ne hbl] at e
          exact e
      · rintro k m H' ⟨rfl, hk, zk, oc, ok, hgk, hout, hokl, hzk, sk, hD'⟩
        have kp : Kp [i] fm.O H1 H' := fun b o e z => sk b o (gkb zk b o e fun y => z i List.mem_cons_self (y ▸ ho))
        by_cases hlt : k < its.1.length
        · refine .inr ⟨IO.go k H' kp hlt, fun H'' => (its.1.length - (k + 1)) = its.1.length - (k + 1) ∧ k + 1 ≤ its.1.length ∧ ∃ zk oc ok, popsGo zk (ns.drop (k + 1)) = some (oc, rest) ∧ ok ++ oc = out ∧ ok.length = k + 1 ∧ zk.length ≤ 1000 ∧ Same (upd H1 l (.lst (zk.map V.int))) H'' ∧ H'' D = some (.lst (ok.map V.int)), fun H'' h => ⟨_, by omega, h⟩, fun y H'' yl => ?_⟩
          obtain ⟨s2, yv⟩ := IO.yld k H' y H'' kp yl
          have hx : its.1[k]? = some its.1[k] := by simp [hlt]
          have rv := yv _ hx
          obtain ⟨n, t, hnk, hxe⟩ := hgt k _ hx
          have hkn : k < ns.length := by omega
          have hdr : ns.drop k = n :: ns.drop (k + 1) := by
            rw [List.drop_eq_getElem_cons hkn]
            rw [List.getElem?_eq_getElem hkn] at hnk
            rw [Option.some.inj hnk]
          rw [hdr] at hgk
          obtain ⟨hz0, z, ⟨oc', rest'⟩, hzg, hgk', hq⟩ := popsGo_cons hgk
          cases hq
          obtain ⟨srk, pgk⟩ := mt zk
          have hDs : H'' D ≠ none := fun e => by rw [s2 _ _ hD'] at e; cases e
          have srb := SR.blk (own := [v]) srk (gD zk) (sk.trans s2) hDs
          have hwl : (wipeE (ρ.set i (some (.lsi (zk.map .int)))) [v]).length = ρ.length := by rw [wipeE_len, List.length_set]
          have e4 : asgTg cf (.nm v) its.1[k] (wipeE (ρ.set i (some (.lsi (zk.map .int)))) [v]) = some ((wipeE (ρ.set i (some (.lsi (zk.map .int)))) [v]).set v (some (.imm (.int n)))) := by
            rw [hxe]
            show (if (cf.cl v = .old ∨ cf.cl v = .nw ∨ isVw (cf.cl v) = true) ∧ okSt (cf.cl v) (Iv.D.imm (.int n), t) = true ∧ v < _ then some _ else none) = _
            rw [if_pos ⟨.inl hcv, by rw [hcv]; rfl, by rw [hwl]; exact hvl⟩]
          refine ⟨fm.ban1 D, _, H, its.1[k], _, srb, rv.ban hD, e4, fun σ2 sr2 ch => ⟨?_, fm.ban1 D, _, sr2, ?_⟩⟩
          · exact (wipe_eq (vs := [v]) ch.1 fun j hj => ch.2 j fun z => hj z).trans wipe_wipe
          · show ∀ H3, Same H'' H3 → _
            intro H3 s3
            rw [if_pos rfl]
            have ev2 : ((wipeE (ρ.set i (some (.lsi (zk.map .int)))) [v]).set v (some (.imm (.int n))))[v]? = some (some (.imm (.int n))) := List.getElem?_set_self (by rw [hwl]; exact hvl)
            have ei2 : ((wipeE (ρ.set i (some (.lsi (zk.map .int)))) [v]).set v (some (.imm (.int n))))[i]? = some (some (.lsi (zk.map .int))) := by
              rw [List.getElem?_set_ne hvi]
              show ((ρ.set i (some (Iv.D.lsi (zk.map .int)))).set v none)[i]? = _
              rw [List.getElem?_set_ne hvi, List.getElem?_set_self (List.getElem?_eq_some_iff.mp hri).1]
            have hσ2 : σ2[i]? = some (some (.ref l)) := by
              rw [ch.2 i (by show i ∉ [v]; simp; exact hvi.symm), wipe_get (by simp; exact hvi.symm)]
              exact hσ
            have hl3 : H3 l = some (.lst (zk.map V.int)) := s3 _ _ (s2 _ _ (sk _ _ upd_same))
            have mo0 : 0 ≤ n % (zk.length : Int) := Int.emod_nonneg _ (by omega)
            have mo1 : n % (zk.length : Int) < zk.length := Int.emod_lt_of_pos _ (by omega)
            refine ⟨.ref l, hσ2, .inl ⟨rfl, _, .inl (.inl hl3)⟩, fm.ban1 D, _, sr2.same s3, ?_⟩
            have ees : evs cf [popE i v] ((wipeE (ρ.set i (some (.lsi (zk.map .int)))) [v]).set v (some (.imm (.int n)))) = .ok [pim (.int (n % (zk.length : Int)))] := by
              show ((ev cf (popE i v) _).bind fun x => (evs cf [] _).bind fun xs => .ok (x :: xs)) = _
              rw [popE_ev ev2 ei2 hz0]
              rfl
            rw [ees]
            intro us H4 s4 ru
            obtain ⟨u, hu, ru'⟩ := vrs1 ru
            have eu : u = .int (n % (zk.length : Int)) := RepI.int_iff.mp (rep_imm ru')
            subst hu
            subst eu
            have hl4 : H4 l = some (.lst (zk.map V.int)) := s4 _ _ hl3
            have hD4 : H4 D = some (.lst (ok.map V.int)) := s4 _ _ (s3 _ _ (s2 _ _ hD'))
            refine ⟨l, zk.map V.int, n % (zk.length : Int), (n % (zk.length : Int)).toNat, .int z, rfl, rfl, hl4, by omega, by omega, ?_, ?_, ok.map V.int, ?_, ?_, rfl, hlt, zk.eraseIdx (n % (zk.length : Int)).toNat, oc', ok ++ [z], hgk', ?_, ?_, ?_, ?_, ?_⟩
            · rw [List.length_map]
              exact seq_ix mo0 mo1
            · rw [List.getElem?_map, hzg]
              rfl
            · rw [upd_ne hDl.symm]
              exact hD4
            · rw [List.length_map]
              omega
            · rw [List.append_assoc]
              exact hout
            · rw [List.length_append]
              simp
              exact hokl
            · exact Nat.le_trans (List.length_eraseIdx_le ..) hzk
            · intro b o e
              have hb : b ≠ D := fun z => by rw [z, gD] at e; cases e
              rw [upd_ne hb]
              by_cases hbl : b = l
              · subst hbl
                rw [upd_same] at e ⊢
                rw [← e, erase_map]
              · rw [upd_ne hbl] at e ⊢
                exact s4 _ _ (s3 _ _ (s2 _ _ (sk _ _ (gkb zk b o e hbl))))
            · rw [upd_same, List.map_append]
              rfl
        · have hke : k = its.1.length := by omega
          subst hke
          refine .inl ⟨IO.stop _ H' kp rfl, ?_⟩
          rw [hln, List.drop_length] at hgk
          cases hgk
          rw [List.append_nil] at hout
          subst hout
          obtain ⟨srk, pgk⟩ := mt rest
          exact fin _ H' D srk ((Pg.same s).trans pgk) sk (gD rest) hD'
  refine ⟨key, ?_⟩
  have hb := blkOk_by h1
  have own1 : (ownP X.N [v]).map (·.2) = [v] := ownP_snd ..
  have pl := pe_lc (X := X) (elt := .Call (.Attribute (.Name x p) ("pop" : Str) ap) [ie] [] pc) (tg := etg) (iter := eiter) (ifs := []) (scope := scope) (own := ownP X.N [v]) (pos := pos) (wi := tI cf X.K W src) (g := tG cf X.K (.nm v)) (tt := tC cf X.K []) (te := tBM X.K "list" rPopAt (tVar i) (tDs cf X.K W0 [popE i v]))
    (G.calm h0) G.nd (snd_s g cf k src h3 G) (by rw [G.sc]; exact hb)
    (fun s H C cs fp => snd_tg cf (G.blk s H scope C cs fp).sc G.nd (G.calm h0) (fun x z => z) h5)
    (fun s H C cs fp => sndC_nil)
    (fun s H C cs fp => pops_elt g cf k G h6 h7 h8 h9 s H scope C cs fp)
    (notSet_fold h4)
  rw [own1] at pl
  exact pl.mono' key
end Iv

/-! Iv R: statements as a whole. -/
namespace Iv
open PySem PySem.Spec L2
open PyProof.Rows hiding St

def notLc : Expr → Bool
  | .ListComp .. => false
  | .SetComp .. => false
  | .DictComp .. => false
  | _ => true
theorem notLc_sw {e : Expr} (h : notLc e = true) {t : Option Expr} {l : Nat} {env : PySem.Env} : swapsWith e t l env = pure false := by
  cases e <;> first | rfl | cases h
def notTup : Expr → Bool
  | .Tuple .. => false
  | _ => true
theorem notTup_st {e t : Expr} (h : notTup e = true) {env : PySem.Env} : swappedStores [t] e env = pure none := by
  cases e <;> first | (cases t <;> rfl) | cases h
def locB (sc : Scope) (cl : Str → Bool) (x : Str) : Bool := (sc.names.lookup x == some .local) || (sc.names.lookup x == some .cell && cl x)
/-- where a list reckoned on the name's own line swaps with it -/
def lcSw (scope : Scope) (t : Str) (p vp : Pos) : Bool := (p.line == vp.line) && !(scope.names.any fun (n, k) => n == t && (k == .local || k == .cell))
theorem sw_cell {elt : Expr} {gs : List Comprehension} {scope : Scope} {pos py : Pos} {y : Str} {l : Nat} {env : PySem.Env} (hy : env.scope.names.lookup y = some .cell) :
    swapsWith (.ListComp elt gs scope pos) (some (.Name y py)) l env = pure false := by
  have ky : env.kindOf y = some .cell := hy
  unfold swapsWith
  simp only [ky, Expr.pos]
  have e : (some NameKind.cell == some NameKind.local) = false := rfl
  rw [e, Bool.and_false, Bool.false_and, Bool.false_and]
theorem sw_eq {elt : Expr} {gs : List Comprehension} {scope : Scope} {pos py : Pos} {y : Str} {l : Nat} {env : PySem.Env} (hk : env.scope.kind = .function) (hy : env.scope.names.lookup y = some .local) :
    swapsWith (.ListComp elt gs scope pos) (some (.Name y py)) l env = pure (lcSw scope y py pos) := by
  have ky : env.kindOf y = some .local := hy
  have hb : env.blockKind = .function := by unfold Env.blockKind; rw [hk]; rfl
  unfold swapsWith lcSw
  simp only [hb, ky, Expr.pos]
  rfl
def asgV (sc : Scope) (x : Str) : Expr → Bool
  | .ListComp _ _ _ _ => sc.kind == .function
  | v => notLc v
/-- a clause's classes -/
def tstB (g : Gs) (sc : Scope) (ts : List String) : Expr → Bool
  | .Name x _ => (match ts with | [t] => decide (x = (t : Str)) | _ => false) && !g.ts.isEmpty && xtsG g sc ts
  | .Tuple es _ _ => clsNames ts es && decide (ts.length ≤ 100) && !g.ts.isEmpty && xtsG g sc ts
  | _ => false
def nameB (N : List Str) (sc : Scope) (n : Nat) (nm : Option Str) : Bool := match n, nm with
  | 0, none => true
  | i + 1, some x => decide (N[i]? = some x) && (sc.names.lookup x == some .local)
  | _, _ => false
def kap1B (g : Gs) (N : List Str) (sc : Scope) (cl : Str → Bool) (i : Nat) (j : Int) : Option E → Stmt → Bool
  | some e, st => match st with
    | .Expr (.Call (.Attribute (.Subscript (.Name x _) ej _) nm ap) [ea] [] p) _ => nmB N sc i x && decide (nm = ("append" : Str)) && (ap.endLine == p.line) && chk g N sc cl (.lit (.int j)) ej && plainB ej && chk g N sc cl e ea && noStar ea
    | _ => false
  | none, st => match st with
    | .Expr (.Call (.Attribute (.Subscript (.Name x _) ej _) nm ap) [] [] p) _ => nmB N sc i x && decide (nm = ("clear" : Str)) && (ap.endLine == p.line) && chk g N sc cl (.lit (.int j)) ej && plainB ej
    | _ => false
def kapsB (g : Gs) (N : List Str) (sc : Scope) (cl : Str → Bool) (i : Nat) : List (Int × Option E) → List Stmt → Bool
  | [], _ => true
  | q :: l, st :: xs => kap1B g N sc cl i q.1 q.2 st && kapsB g N sc cl i l xs
  | _ :: _, [] => false
mutual
def chkS (g : Gs) (ex : List String) (N : List Str) (sc : Scope) (cl : Str → Bool) : S → Stmt → Bool
  | .asg i e, st => match st with
    | .Assign [.Name x p] v pos => decide (N[i]? = some x) && locB sc cl x && chk g N sc cl e v && asgV sc x v
    | _ => false
  | .unp tg e, st => match st with
    | .Assign [t] v pos => g.calm && chkTg N sc cl tg t && chk g N sc cl e v && notLc v && notTup v
    | _ => false
  | .seti i k v, st => match st with
    | .Assign [.Subscript (.Name x _) ek _] ev _ => nmB N sc i x && chk g N sc cl k ek && plainB ek && chk g N sc cl v ev && notLc ev
    | _ => false
  | .app i e, st => match st with
    | .Expr (.Call (.Attribute (.Name x _) nm ap) [ea] [] p) _ => nmB N sc i x && decide (nm = ("append" : Str)) && (ap.endLine == p.line) && chk g N sc cl e ea && noStar ea
    | _ => false
  | .exs e, st => match st with
    | .Expr ea _ => chk g N sc cl e ea && notLc ea
    | _ => false
  | .apx e v, st => match st with
    | .Expr (.Call (.Attribute (.Call f (a0 :: as) kw q) nm ap) [ea] [] p) _ => decide (nm = ("append" : Str)) && (ap.endLine == p.line) && chk g N sc cl e (.Call f (a0 :: as) kw q) && chk g N sc cl v ea && noStar ea
    | _ => false
  | .ifs c a b, st => match st with
    | .If ec ea eb _ => chk g N sc cl c ec && tstOk ec && chkSs g ex N sc cl a ea && chkSs g ex N sc cl b eb
    | _ => false
  | .for tg src body, st => match st with
    | .For t it b [] _ => g.calm && chkTg N sc cl tg t && chkSrc g N sc cl src t it && notSet it && chkSs g ex N sc cl body b
    | _ => false
  | .whl c body, st => match st with
    | .While ec b [] _ => chk g N sc cl c ec && tstOk ec && chkSs g ex N sc cl body b
    | _ => false
  | .ret e, st => match st with
    | .Return (some v) _ => chk g N sc cl e v
    | _ => false
  | .retn, st => match st with
    | .Return none _ => true
    | _ => false
  | .rse c, st => match st with
    | .Raise (some (.Call (.Name x _) [.Constant (.str m) _ _] [] _)) none _ => decide (x = (c : Str)) && ex.contains c && glB sc x
    | _ => false
  | .pas, st => match st with
    | .Pass _ => true
    | .Expr (.Constant (.str _) _ _) _ => true
    | _ => false
  | .brk, st => match st with
    | .Break _ => true
    | _ => false
  | .cnt, st => match st with
    | .Continue _ => true
    | _ => false
  | .ext i e, st => match st with
    | .Expr (.Call (.Attribute (.Name x _) nm ap) [ea] [] p) _ => nmB N sc i x && decide (nm = ("extend" : Str)) && (ap.endLine == p.line) && chk g N sc cl e ea && noStar ea
    | _ => false
  | .clr i, st => match st with
    | .Expr (.Call (.Attribute (.Name x _) nm ap) [] [] p) _ => nmB N sc i x && decide (nm = ("clear" : Str)) && (ap.endLine == p.line)
    | _ => false
  | .kapp i j e, st => match st with
    | .Expr (.Call (.Attribute (.Subscript (.Name x _) ej _) nm ap) [ea] [] p) _ => nmB N sc i x && decide (nm = ("append" : Str)) && (ap.endLine == p.line) && chk g N sc cl j ej && plainB ej && chk g N sc cl e ea && noStar ea
    | _ => false
  | .kself i e, st => match st with
    | .Expr (.Call (.Attribute (.Name x _) nm ap) [ea] [] p) _ => nmB N sc i x && decide (nm = ("append" : Str)) && (ap.endLine == p.line) && chk g N sc cl e ea && noStar ea
    | _ => false
  | .rel i j, st => match st with
    | .Assign [.Name x _] (.Name y _) _ => decide (N[i]? = some x) && locB sc cl x && nmB N sc j y
    | _ => false
  | .kclr i j, st => match st with
    | .Expr (.Call (.Attribute (.Subscript (.Name x _) ej _) nm ap) [] [] p) _ => nmB N sc i x && decide (nm = ("clear" : Str)) && (ap.endLine == p.line) && chk g N sc cl j ej && plainB ej
    | _ => false
  | .kaps _ _, _ => false
  | .pops t i v src, st => match t, st with
    | none, .Return (some e) _ => popsB g N sc cl i v src e
    | some j, .Assign [.Name y _] e _ => decide (N[j]? = some y) && locB sc cl y && popsB g N sc cl i v src e && (sc.kind == .function)
    | _, _ => false
  | .try b hs, st => match st with
    | .Try body (hd :: hds) [] [] _ => chkSs g [] N sc cl b body && chkHs g N sc cl hs (hd :: hds)
    | _ => false
def chkSs (g : Gs) (ex : List String) (N : List Str) (sc : Scope) (cl : Str → Bool) : List S → List Stmt → Bool
  | .kaps i l :: r, xs => kapsB g N sc cl i l xs && chkSs g ex N sc cl r (xs.drop l.length)
  | [], xs => match xs with
    | [] => true
    | _ => false
  | s :: r, xs => match xs with
    | x :: xs => chkS g ex N sc cl s x && chkSs g ex N sc cl r xs
    | _ => false
/-- the clauses -/
def chkHs (g : Gs) (N : List Str) (sc : Scope) (cl : Str → Bool) : List (List String × Nat × List S) → List ExceptHandler → Bool
  | [], xs => match xs with
    | [] => true
    | _ => false
  | (ts, n, s) :: r, xs => match xs with
    | .ExceptHandler (some te) nm (b :: su) _ :: hds => tstB g sc ts te && nameB N sc n nm && chkSs { g with calm := false } [] N sc cl s (b :: su) && chkHs g N sc cl r hds
    | _ => false
end
structure ExOk (K : PySem.W.Frag) (mg : Str → Option Value) (c : String) : Prop where
  ex : ∃ C B newId initId bmB, ExcBaseFacts B newId initId bmB ∧ PySem.W.excIn K C bmB newId = true ∧ mg (c : Str) = some (.ref C) ∧ PySem.W.keepIn K (.ref C) = true ∧ PySem.W.subIn K (.ref C) (.type "BaseException") = some true ∧ PySem.W.typeIn K (.ref C) = some (.type "type")
  nd : ((c : Str) == ("__debug__" : Str)) = false
structure Gx (g : Gs) (ex : List String) (cf : Cf) (k : Nat) (X : Cx) (sc : Scope) (cl : Str → Bool) (W : WC) : Prop where
  gd : Gd g cf k X sc cl W
  own : PassesOwn (model X.prog X.w) X.A X.env X.xe
  exo : ∀ c ∈ ex, ExOk X.K X.mg c
  cm : ex ≠ [] → g.calm = true
  st : X.stack = X.env :: X.outer
  fr : X.env.frame = some X.env.locals
section
variable {cf : Cf} {K : PySem.W.Frag} {fm : Fm} {ρ ρ' : Env} {σ : St} {H H1 Hs : Hp} {i : Nat} {x : DT} {v : V} {m : List Nat} {W : WC} {De : Ends} {X : Cx} {g : Gs} {ex : List String} {k : Nat} {sc : Scope} {cl : Str → Bool}
theorem SR.anyL (sr : SR cf K fm ρ σ H) (h : hasL ρ i = true) : ∃ a vs, σ[i]? = some (some (.ref a)) ∧ H a = some (.lst vs) := by
  unfold hasL at h
  split at h
  · rename_i d e
    obtain ⟨v, h1, h2⟩ := sr.slot i d e
    have gen : ∀ {p q : AP'}, Rep K H p q d v → ∃ a vs, σ[i]? = some (some (.ref a)) ∧ H a = some (.lst vs) := fun r => by
      cases r with
      | imm r => cases h
      | tpd h' r => cases h
      | scr h' r => cases h
      | scrK h' => cases h
      | lsi _ e' r => exact ⟨_, _, h1, e'⟩
      | lsd _ e' r => exact ⟨_, _, h1, e'⟩
    cases c : cf.cl i with
    | _ => rw [c] at h2; exact gen h2
  · cases h
theorem onOwn_case {f : D → Option D} (w : StW cf K W m fm H De (onOwn cf i x ρ f)) : ∃ n d d', cf.cl i = .own n ∧ okIn (.own n) x = true ∧ ρ[i]? = some (some d) ∧ f d = some d' ∧ dlen d' ≤ sizeLine ∧ StW cf K W m fm H De (.next (ρ.set i (some d'))) := by
  unfold onOwn at w
  split at w
  · rename_i c
    split at w
    · rename_i d e
      split at w
      · rename_i d' e2
        split at w
        · rename_i hz
          cases hc : cf.cl i with
          | own n => rw [hc] at c; exact ⟨n, d, d', rfl, c, e, e2, hz, w⟩
          | _ => rw [hc] at c; cases c
        · exact w.elim
      · exact w.elim
    · exact w.elim
  · exact w.elim
theorem locB_ok {x : Str} (h : locB sc cl x = true) : Loc sc x ∧ (cl x = true ∨ sc.names.lookup x = some .local) := by
  unfold locB at h
  rw [Bool.or_eq_true, Bool.and_eq_true] at h
  rcases h with z | z
  · exact ⟨.inl (eq_of_beq z), .inr (eq_of_beq z)⟩
  · exact ⟨.inr (eq_of_beq z.1), .inl z.2⟩
/-- name = value, read -/
theorem asg_rd {e : E} {σ : St} {H : Hp} {D : Ends} (t : tS cf K W m (.asg i e) D σ H) : tD cf K W e σ H fun v H1 => gName i v σ H1 D.nx := by
  obtain ⟨fm, ρ, sr, w⟩ := t
  refine stW_D sr (show StW cf K W m fm H D ((ev cf e ρ).st ρ fun x => match setSlot cf i x ρ with | some ρ' => .next ρ' | none => .bad) from w) fun x v H1 s sr1 r w1 => ?_
  split at w1
  · rename_i ρ' e'
    obtain ⟨fm', sr2, p⟩ := sr.setSlot (m := m) s r e'
    exact w1 fm' _ H1 sr2 p
  · exact w1.elim
theorem snd_asgD {e : E} {x : Str} {p pos : Pos} {v : Expr} (G : Gx g ex cf k X sc cl W) (hN : X.N[i]? = some x) (hl : locB sc cl x = true) (he : chk g X.N sc cl e v = true) (hv : asgV sc x v = true) :
    PS X (.Assign [.Name x p] v pos) (tAsg (tD cf X.K W e) (gName i)) := by
  have pe := (snd_e g cf k e he G.gd).d
  obtain ⟨l1, l2⟩ := locB_ok hl
  have gen : (∀ t l env, swapsWith v t l env = pure false) → PS X (.Assign [.Name x p] v pos) (tAsg (tD cf X.K W e) (gName i)) := fun hs =>
    (ps_set (te := tD cf X.K W e) G.gd.nd hN (by rw [G.gd.sc]; exact l1) pe (hs _ _ _) (by rcases l2 with z | z; exact .inl (G.gd.fnc x z); exact .inr (by rw [G.gd.sc]; exact z)))
  cases v with
  | ListComp eelt gens scope vp =>
    have hv : (sc.kind == .function) = true := hv
    have hknd : sc.kind = .function := by
      cases h : sc.kind <;> first | rfl | (have z := hv; rw [h] at z; cases z)
    by_cases hcell : sc.names.lookup x = some .cell
    · exact (ps_set (te := tD cf X.K W e) G.gd.nd hN (by rw [G.gd.sc]; exact l1) pe (sw_cell (by rw [G.gd.sc]; exact hcell)) (by rcases l2 with z | z; exact .inl (G.gd.fnc x z); exact .inr (by rw [G.gd.sc]; exact z)))
    have hloc : sc.names.lookup x = some .local := by
      rcases l1 with z | z
      · exact z
      · exact absurd z hcell
    cases e with
    | lc elt tg src cs own =>
      unfold chk at he
      split at he
      · rename_i eelt' etg eiter ifs scope' vp' heq
        cases heq
        rw [Bool.and_eq_true, Bool.and_eq_true, Bool.and_eq_true, Bool.and_eq_true, Bool.and_eq_true, Bool.and_eq_true, Bool.and_eq_true] at he
        obtain ⟨⟨⟨⟨⟨⟨⟨h0, h1⟩, h2⟩, h3⟩, h4⟩, h5⟩, h6⟩, h7⟩ := he
        have hb := blkOk_by h1
        have G := G.gd
        have hb' : BlkOk X.N X.env.scope scope (ownP X.N own) := by rw [G.sc]; exact hb
        have bp : BlkP X (WX' X.mg W) etg eelt ifs scope (tG cf X.K tg) (tC cf X.K cs) (fun σ0 => tD cf X.K (fun c _ H' => W c σ0 H') elt) := ⟨fun s H C cs fp xe => snd_tg cf (X := blkX X s H scope (compEnvC scope cs C X.env) fp xe) (G.blk0 s H scope C cs fp xe).sc G.nd (G.calm h0) (fun x z => z) h5,
          fun s H C cs' fp xe => snd_cs (X := blkX X s H scope (compEnvC scope cs' C X.env) fp xe) g cf k cs h6 (G.blk0 s H scope C cs' fp xe),
          fun σ0 s H C cs fp xe tk => (snd_e (X := blkX X s H scope (compEnvC scope cs C X.env) fp xe) g cf k elt h7 (G.blkx (W' := fun c _ H' => W c σ0 H') s H scope C cs fp xe tk)).d⟩
        have key := (snd_lc (cf := cf) (W := W) (elt := elt) (tg := tg) (src := src) (cs := cs) (own := ownP X.N own) (pos := vp) (G.calm h0) G.nd hb'
          (fun i hi => by
            rw [ownP_snd]
            have z := List.all_eq_true.mp h2 i hi
            rw [List.contains_iff_mem] at z
            exact z)
          G.tk G.stk (snd_s g cf k src h3 G) bp (notSet_fold h4)).1
        rw [ownP_snd] at key
        cases sw : lcSw scope x p vp with
        | true =>
          have hsw : swapsWith (.ListComp eelt [⟨etg, eiter, ifs, 0⟩] scope vp) (some (.Name x p)) pos.line X.env = pure true := by
            rw [← sw]
            exact sw_eq (by rw [G.sc]; exact hknd) (by rw [G.sc]; exact hloc)
          obtain ⟨e0, r0, L0, q1, q2, q3⟩ := G.stk
          refine (ps_setLcX (own := ownP X.N own) (py := p) (G.calm h0) G.nd G.tk q1 q2 q3 hN (by rw [G.sc]; exact hloc) hsw (snd_s g cf k src h3 G) hb' bp (notSet_fold h4)).mono' fun D σ H t => ?_
          have z := key σ H _ t
          rw [ownP_snd]
          exact z
        | false =>
          have hsw : swapsWith (.ListComp eelt [⟨etg, eiter, ifs, 0⟩] scope vp) (some (.Name x p)) pos.line X.env = pure false := by
            rw [← sw]
            exact sw_eq (by rw [G.sc]; exact hknd) (by rw [G.sc]; exact hloc)
          exact (ps_set (te := tD cf X.K W _) G.nd hN (by rw [G.sc]; exact l1) pe hsw (.inr (by rw [G.sc]; exact hloc)))
      · cases he
    | blt b es =>
      unfold chk at he
      split at he <;> cases he
    | _ => unfold chk at he; cases he
  | _ => exact gen fun _ _ _ => by (apply notLc_sw; exact hv)
theorem snd_asg {e : E} {x : Str} {p pos : Pos} {v : Expr} (G : Gx g ex cf k X sc cl W) (hN : X.N[i]? = some x) (hl : locB sc cl x = true) (he : chk g X.N sc cl e v = true) (hv : asgV sc x v = true) :
    PS X (.Assign [.Name x p] v pos) (tS cf X.K W m (.asg i e)) := (snd_asgD G hN hl he hv).mono' fun D σ H t => asg_rd t
theorem snd_rel {j : Nat} {x y : Str} {p q pos : Pos} (G : Gx g ex cf k X sc cl W) (hN : X.N[i]? = some x) (hl : locB sc cl x = true) (h0 : nmB X.N sc j y = true) :
    PS X (.Assign [.Name x p] (.Name y q) pos) (tS cf X.K W m (.rel i j)) := by
  obtain ⟨l1, l2⟩ := locB_ok hl
  obtain ⟨n1, n2, n3, n4⟩ := nmB_ok h0
  refine (ps_set (te := tVar j) G.gd.nd hN (by rw [G.gd.sc]; exact l1) (pe_var (pos := q) n1 (by rw [G.gd.sc]; exact n2) n3 n4) (notLc_sw rfl) (by rcases l2 with z | z; exact .inl (G.gd.fnc x z); exact .inr (by rw [G.gd.sc]; exact z))).mono' fun D σ H ⟨fm, ρ, sr, w⟩ => ?_
  have w : StW cf X.K W m fm H D (if cf.cl i = .nw ∧ cf.cl j = .own true ∧ hasL ρ j = true ∧ i < ρ.length then match ρ[j]? with
    | some (some d) => .next ((ρ.set i (some d)).set j none)
    | _ => .bad
    else .bad) := w
  by_cases c : cf.cl i = .nw ∧ cf.cl j = .own true ∧ hasL ρ j = true ∧ i < ρ.length
  · rw [if_pos c] at w
    obtain ⟨c1, c2, c3, c4⟩ := c
    unfold hasL at c3
    cases e : ρ[j]? with
    | none => rw [e] at c3; cases c3
    | some o =>
      cases o with
      | none => rw [e] at c3; cases c3
      | some d =>
        rw [e] at c3 w
        obtain ⟨v, h1, fm', sr', pg⟩ := sr.rel (m := m) c1 c2 e c4 c3
        exact ⟨v, h1, w fm' _ H sr' pg⟩
  · rw [if_neg c] at w; exact w.elim
theorem snd_unp {tg : Tg} {e : E} {t v : Expr} {pos : Pos} (G : Gx g ex cf k X sc cl W) (h0 : g.calm = true) (h1 : chkTg X.N sc cl tg t = true) (h2 : chk g X.N sc cl e v = true) (h3 : notLc v = true) (h4 : notTup v = true) : PS X (.Assign [t] v pos) (tS cf X.K W m (.unp tg e)) :=
  (ps_asg (snd_e g cf k e h2 G.gd).d (snd_tg cf G.gd.sc G.gd.nd (G.gd.calm h0) G.gd.fnc h1) (show swapsWith v (some t) pos.line X.env = pure false from notLc_sw h3) (notTup_st h4) (by rw [each_cons (chkTg_star h1)]; rfl)).mono' fun D σ H ⟨fm, ρ, sr, w⟩ => by
    refine stW_D sr (show StW cf X.K W m fm H D ((ev cf e ρ).st ρ fun x => match asgTg cf tg x ρ with | some ρ' => .next ρ' | none => .bad) from w) fun x v H1 s sr1 r w1 => ?_
    split at w1
    · rename_i ρ' e'
      exact ⟨fm, ρ, H, x, ρ', sr1, r, e', fun σ' sr2 _ => w1 fm σ' H1 sr2 (Pg.same s)⟩
    · exact w1.elim
theorem snd_app {e : E} {x : Str} {ea : Expr} {p ap pc pos : Pos} (him : i ∈ m) (G : Gx g ex cf k X sc cl W) (h0 : nmB X.N sc i x = true) (hl : (ap.endLine == pc.line) = true) (h2 : chk g X.N sc cl e ea = true) (h3 : noStar ea = true) :
    PS X (.Expr (.Call (.Attribute (.Name x p) ("append" : Str) ap) [ea] [] pc) pos) (tS cf X.K W m (.app i e)) := by
  obtain ⟨n1, n2, n3, n4⟩ := nmB_ok h0
  refine (ps_expr (pe_bm PySem.F.plainAttrs_list PySem.F.slot_list_append PySem.F.type_list_append mt_append (pe_var (pos := p) n1 (by rw [G.gd.sc]; exact n2) n3 n4) (pa_cons (snd_e g cf k e h2 G.gd).d pa_nil (star_cons h3)) rfl (by rw [star_cons h3]; rfl) hl (star_cons h3) rfl) rfl).mono' fun D σ H ⟨fm, ρ, sr, w⟩ => ?_
  have w : StW cf X.K W m fm H D (if hasL ρ i = true then (ev cf e ρ).st ρ fun x => onOwn cf i x ρ fun d => appD d x else .bad) := w
  by_cases c : hasL ρ i = true
  · rw [if_pos c] at w
    obtain ⟨a, vs, hσ, ha⟩ := sr.anyL c
    refine ⟨.ref a, hσ, .inl ⟨rfl, _, .inl (.inl ha)⟩, ?_⟩
    refine stW_D sr w fun y v H1 s sr1 r w1 => ?_
    obtain ⟨n, d, d', hc, hin, hd, hf, hz, w2⟩ := onOwn_case w1
    obtain ⟨hL, hit⟩ := appD_items hf
    obtain ⟨a', vs', ds, hσ', ho, ha', hds, rr⟩ := sr1.ownL hc hd hL
    rw [hσ] at hσ'
    cases hσ'
    obtain ⟨ns, ry⟩ := okIn_rd hin r
    have hit := hit ds hds
    obtain ⟨sr2, pg⟩ := sr1.mut hc hd hσ ho ha' hit (rr.append (.cons ns ry .nil))
    refine ⟨a, vs', v, rfl, rfl, ha', ?_, w2 fm σ _ sr2 ((Pg.same s).trans (pg.more fun j hj => by rw [List.mem_singleton.mp hj]; exact him))⟩
    rw [dlen_items hit, List.length_append] at hz
    rw [← Reps.len rr]
    exact hz
  · rw [if_neg c] at w; exact w.elim
/-- a new list, made by a call, gets an item more and is dropped -/
theorem snd_apx {e v : E} {f a0 : Expr} {as : List Expr} {kw : List Keyword} {ea : Expr} {q ap pc pos : Pos} (G : Gx g ex cf k X sc cl W) (hl : (ap.endLine == pc.line) = true) (h1 : chk g X.N sc cl e (.Call f (a0 :: as) kw q) = true) (h2 : chk g X.N sc cl v ea = true) (h3 : noStar ea = true) :
    PS X (.Expr (.Call (.Attribute (.Call f (a0 :: as) kw q) ("append" : Str) ap) [ea] [] pc) pos) (tS cf X.K W m (.apx e v)) := by
  refine (ps_expr (pe_bm PySem.F.plainAttrs_list PySem.F.slot_list_append PySem.F.type_list_append mt_append (snd_e g cf k e h1 G.gd).d (pa_cons (snd_e g cf k v h2 G.gd).d pa_nil (star_cons h3)) (by cases f <;> rfl) (by rw [star_cons h3]; rfl) hl (star_cons h3) rfl) rfl).mono' fun D σ H ⟨fm, ρ, sr, w⟩ => ?_
  have w : StW cf X.K W m fm H D ((ev cf e ρ).st ρ fun x => if isL x.1 = true ∧ x.2.fr = true ∧ dlen x.1 < sizeLine then (ev cf v ρ).st ρ fun _ => .next ρ else .bad) := w
  refine stW_D sr w fun x y H1 s sr1 r w1 => ?_
  by_cases c : isL x.1 = true ∧ x.2.fr = true ∧ dlen x.1 < sizeLine
  · rw [if_pos c] at w1
    obtain ⟨c1, c2, c3⟩ := c
    obtain ⟨a, vs, rfl, na, ha, lv⟩ : ∃ a vs, y = V.ref a ∧ H a = none ∧ H1 a = some (.lst vs) ∧ vs.length = dlen x.1 := by
      obtain ⟨d, t⟩ := x
      cases r with
      | lsi hp ha ra => exact ⟨_, _, rfl, hp.1 (.inl c2), ha, (RepIs.len ra).symm⟩
      | lsd hp ha ra => exact ⟨_, _, rfl, hp.1 (.inl c2), ha, (Reps.len ra).symm⟩
      | _ => cases c1
    refine ⟨.inl ⟨rfl, _, .inl (.inl ha)⟩, fm, ρ, sr1, ?_⟩
    cases e1 : ev cf v ρ with
    | bad => rw [e1] at w1; exact w1
    | exc c => rw [e1] at w1; exact fun H' s' => w1 fm σ H' (sr1.same s') (Pg.same (s.trans s'))
    | ok z =>
      rw [e1] at w1
      intro u H2 s2 r2
      have sm : Same H (upd H2 a (.lst (vs ++ [u]))) := fun b o e => by
        rw [upd_ne (fun z => by rw [z, na] at e; cases e)]
        exact s2 _ _ (s _ _ e)
      exact ⟨a, vs, u, rfl, rfl, s2 _ _ ha, by omega, w1 fm σ _ (sr.same sm) (Pg.same sm)⟩
  · rw [if_neg c] at w1; exact w1.elim
theorem snd_seti {ke ve : E} {x : Str} {ek ev : Expr} {p tp pos : Pos} (him : i ∈ m) (G : Gx g ex cf k X sc cl W) (h0 : nmB X.N sc i x = true) (hk : chk g X.N sc cl ke ek = true) (hp : plainB ek = true) (hv : chk g X.N sc cl ve ev = true) (hnl : notLc ev = true) :
    PS X (.Assign [.Subscript (.Name x p) ek tp] ev pos) (tS cf X.K W m (.seti i ke ve)) := by
  obtain ⟨n1, n2, n3, n4⟩ := nmB_ok h0
  refine (ps_asg (snd_e g cf k ve hv G.gd).d (pg_sub (pe_var (pos := p) n1 (by rw [G.gd.sc]; exact n2) n3 n4) (snd_e g cf k ke hk G.gd).d set_list (by cases ek <;> first | (intro _; rfl) | cases hp)) (show swapsWith ev (some (.Subscript (.Name x p) ek tp)) pos.line X.env = pure false from notLc_sw hnl) (by cases ev <;> rfl) rfl).mono' fun D σ H ⟨fm, ρ, sr, w⟩ => ?_
  have w : StW cf X.K W m fm H D (if hasL ρ i = true then (Iv.ev cf ve ρ).st ρ fun x => (Iv.ev cf ke ρ).st ρ fun y => (asI y).st ρ fun j => onOwn cf i x ρ fun d => setD d j x else .bad) := w
  by_cases c : hasL ρ i = true
  · rw [if_pos c] at w
    refine stW_D sr w fun y v H1 s sr1 r w1 => ?_
    obtain ⟨a, vs, hσ, ha⟩ := sr1.anyL c
    refine ⟨.ref a, hσ, ?_⟩
    refine stW_D sr1 (w1.later (Pg.same s)) fun z u H2 s2 sr2 r2 w2 => ?_
    rcases asI_cases z with ⟨j, e1, e2⟩ | e2
    · rw [e2] at w2
      have w2 : StW cf X.K W m fm H1 D (onOwn cf i y ρ fun d => setD d j y) := w2
      obtain ⟨zd, zt⟩ := z
      cases e1
      obtain ⟨n, d, d', hc, hin, hd, hf, hz, w3⟩ := onOwn_case w2
      obtain ⟨hL, hit⟩ := setD_items hf
      obtain ⟨a', vs', ds, hσ', ho, ha', hds, rr⟩ := sr2.ownL hc hd hL
      rw [hσ] at hσ'
      cases hσ'
      obtain ⟨ns, ry⟩ := okIn_rd hin (r.same s2)
      obtain ⟨q, hq, hit⟩ := hit ds hds
      obtain ⟨sr3, pg⟩ := sr2.mut hc hd hσ ho ha' hit (rr.set q ns ry)
      refine ⟨a, vs', j, q, rfl, repI_int (rep_imm r2), ha', by rw [← Reps.len rr]; exact hq, w3 fm σ _ sr3 ((Pg.same s2).trans (pg.more fun j hj => by rw [List.mem_singleton.mp hj]; exact him))⟩
    · rw [e2] at w2; exact w2.elim
  · rw [if_neg c] at w; exact w.elim
theorem Gx.rs (G : Gx g ex cf k X sc cl W) {c : String} (hc : c ∈ ex) (hg : sc.names.lookup (c : Str) = some .globalImplicit) {ms : Str} {j : Nat} {p p2 p3 pos : Pos} : PS X (.Raise (some (.Call (.Name (c : Str) p) [.Constant (.str ms) j p2] [] p3)) none pos) (fun _ σ H => W c σ H) := by
  obtain ⟨⟨C, B, newId, initId, bmB, hF, h1, h2, h3, h4, h5⟩, nd⟩ := G.exo c hc
  have cm := G.gd.calm (G.cm (fun z => by rw [z] at hc; cases hc))
  refine (ps_raise cm G.gd.tk.t (pmk_own hF h1 h2 h3 (raises_own h4 h5) (show X.env.scope.names.lookup _ = _ by rw [G.gd.sc]; exact hg) nd)).mono' fun D σ H' hw => ?_
  exact ⟨rfl, c, C, rfl, h2, hw⟩
theorem snd_ext {e : E} {x : Str} {ea : Expr} {p ap pc pos : Pos} (him : i ∈ m) (G : Gx g ex cf k X sc cl W) (h0 : nmB X.N sc i x = true) (hl : (ap.endLine == pc.line) = true) (h2 : chk g X.N sc cl e ea = true) (h3 : noStar ea = true) :
    PS X (.Expr (.Call (.Attribute (.Name x p) ("extend" : Str) ap) [ea] [] pc) pos) (tS cf X.K W m (.ext i e)) := by
  obtain ⟨n1, n2, n3, n4⟩ := nmB_ok h0
  refine (ps_expr (pe_bm PySem.F.plainAttrs_list PySem.F.slot_list_extend PySem.F.type_list_extend mt_extend (pe_var (pos := p) n1 (by rw [G.gd.sc]; exact n2) n3 n4) (pa_cons (snd_e g cf k e h2 G.gd).d pa_nil (star_cons h3)) rfl (by rw [star_cons h3]; rfl) hl (star_cons h3) rfl) rfl).mono' fun D σ H ⟨fm, ρ, sr, w⟩ => ?_
  have w : StW cf X.K W m fm H D (if hasL ρ i = true then (ev cf e ρ).st ρ fun x => onOwn cf i (x.1, x.2.child) ρ fun d => cat d x.1 else .bad) := w
  by_cases c : hasL ρ i = true
  · rw [if_pos c] at w
    obtain ⟨a, vs, hσ, ha⟩ := sr.anyL c
    refine ⟨.ref a, hσ, .inl ⟨rfl, _, .inl (.inl ha)⟩, ?_⟩
    refine stW_D sr w fun y v H1 s sr1 r w1 => ?_
    obtain ⟨n, d, d', hc, hin, hd, hf, hz, w2⟩ := onOwn_case w1
    obtain ⟨hL, hLy, hit⟩ := cat_its hf
    obtain ⟨a', vs', ds, hσ', ho, ha', hds, rr⟩ := sr1.ownL hc hd hL
    rw [hσ] at hσ'
    cases hσ'
    have sub : ∀ a0 : Addr, NdI fm y.2 H a0 → (if n = true then P1 fm else P2 fm) a0 := fun a0 z => by
      have hb : (y.2.child.bw.isEmpty && (!n || decide (y.2.child.lv ≤ 1))) = true := by
        obtain ⟨yd, yt⟩ := y
        cases yd with
        | lsi _ => exact hin
        | lsd _ => exact hin
        | _ => cases hLy
      rw [Bool.and_eq_true] at hb
      have z' := NdI.child z
      have no : ∀ j, ¬ fm.O j a0 := fun j o => by
        have q := z'.2.2.2.1 j o
        rw [List.isEmpty_iff.mp hb.1] at q; cases q
      cases n with
      | true => rw [if_pos rfl]; exact ⟨z'.2.1 (of_decide_eq_true (by simpa using hb.2)), no, z'.2.2.2.2⟩
      | false => rw [if_neg Bool.false_ne_true]; exact ⟨z'.2.2.1, no, z'.2.2.2.2⟩
    obtain ⟨b, ws, es, rfl, hb, hes, rw'⟩ : ∃ b ws es, v = .ref b ∧ H1 b = some (.lst ws) ∧ lstItems y.1 = some es ∧ Reps X.K H1 (if n = true then P1 fm else P2 fm) es ws := by
      obtain ⟨yd, yt⟩ := y
      cases r with
      | lsi hp e r => exact ⟨_, _, _, rfl, e, rfl, Reps.imms r⟩
      | lsd hp e r => exact ⟨_, _, _, rfl, e, rfl, r.weak fun b z => sub b z.1⟩
      | _ => cases hLy
    have hit := hit ds es hds hes
    obtain ⟨sr2, pg⟩ := sr1.mut hc hd hσ ho ha' hit (rr.append rw')
    refine ⟨a, b, vs', ws, rfl, rfl, ha', hb, ?_, w2 fm σ _ sr2 ((Pg.same s).trans (pg.more fun j hj => by rw [List.mem_singleton.mp hj]; exact him))⟩
    rw [dlen_items hit, List.length_append] at hz
    rw [← Reps.len rr, ← Reps.len rw']
    exact hz
  · rw [if_neg c] at w; exact w.elim
theorem snd_clr {x : Str} {p ap pc pos : Pos} (him : i ∈ m) (G : Gx g ex cf k X sc cl W) (h0 : nmB X.N sc i x = true) (hl : (ap.endLine == pc.line) = true) :
    PS X (.Expr (.Call (.Attribute (.Name x p) ("clear" : Str) ap) [] [] pc) pos) (tS cf X.K W m (.clr i)) := by
  obtain ⟨n1, n2, n3, n4⟩ := nmB_ok h0
  refine (ps_expr (pe_bm0 PySem.F.plainAttrs_list PySem.F.slot_list_clear PySem.F.type_list_clear mt_clear (pe_var (pos := p) n1 (by rw [G.gd.sc]; exact n2) n3 n4) rfl hl) rfl).mono' fun D σ H ⟨fm, ρ, sr, w⟩ => ?_
  have w : StW cf X.K W m fm H D (if hasL ρ i = true then onOwn cf i (pim .non) ρ fun _ => some (.lsi []) else .bad) := w
  by_cases c : hasL ρ i = true
  · rw [if_pos c] at w
    obtain ⟨n, d, d', hc, hin, hd, hf, hz, w2⟩ := onOwn_case w
    obtain ⟨a, vs, hσ, ha⟩ := sr.anyL c
    have hL : isL d = true := by
      unfold hasL at c
      rw [hd] at c
      exact c
    obtain ⟨a', vs', ds, hσ', ho, ha', hds, rr⟩ := sr.ownL hc hd hL
    rw [hσ] at hσ'
    cases hσ'
    cases hf
    obtain ⟨sr2, pg⟩ := sr.mut (d' := .lsi []) (ds := []) (ws := []) hc hd hσ ho ha' rfl .nil
    exact ⟨.ref a, hσ, .inl ⟨rfl, _, .inl (.inl ha)⟩, a, vs', rfl, rfl, ha', w2 fm σ _ sr2 (pg.more fun j hj => by rw [List.mem_singleton.mp hj]; exact him)⟩
  · rw [if_neg c] at w; exact w.elim
theorem popsB_some {g : Gs} {N : List Str} {v : Nat} {src : Src} {e : Expr} (h : popsB g N sc cl i v src e = true) : ∃ x p ap pc ie etg eiter scope pos, e = .ListComp (.Call (.Attribute (.Name x p) ("pop" : Str) ap) [ie] [] pc) [⟨etg, eiter, [], 0⟩] scope pos ∧
    g.calm = true ∧ blkC N sc scope (ownP N [v]) = true ∧ chkSrc g N sc cl src etg eiter = true ∧ notSet eiter = true ∧ chkTg N (relS scope sc) (fun x => scope.names.lookup x == some .cell) (.nm v) etg = true ∧ nmB N (relS scope sc) i x = true ∧ (ap.endLine == pc.line) = true ∧
    chk g N (relS scope sc) (fun x => scope.names.lookup x == some .cell) (popE i v) ie = true ∧ noStar ie = true := by
  unfold popsB at h
  split at h
  · rw [Bool.and_eq_true, Bool.and_eq_true, Bool.and_eq_true, Bool.and_eq_true, Bool.and_eq_true, Bool.and_eq_true, Bool.and_eq_true, Bool.and_eq_true, Bool.and_eq_true, decide_eq_true_eq] at h
    obtain ⟨⟨⟨⟨⟨⟨⟨⟨⟨h0, h1⟩, h2⟩, h3⟩, h4⟩, h5⟩, rfl⟩, h7⟩, h8⟩, h9⟩ := h
    exact ⟨_, _, _, _, _, _, _, _, _, rfl, h0, h1, h2, h3, h4, h5, h7, h8, h9⟩
  · cases h
theorem pops_rd {t : Option Nat} {v : Nat} {src : Src} {σ : St} {H : Hp} {D : Ends} (him : i ∈ m) (z : tS cf K W m (.pops t i v src) D σ H) : tPops cf K W i v src σ H fun u H1 => match t with
    | none => D.rt u H1
    | some j => gName j u σ H1 D.nx := by
  obtain ⟨fm, ρ, sr, w⟩ := z
  have w : StW cf K W m fm H D ((evSrc cf src ρ).st ρ fun its => popsO cf t i ρ (popsD cf i v its ρ)) := w
  refine ⟨fm, ρ, sr, ?_⟩
  cases e : evSrc cf src ρ with
  | bad => rw [e] at w; exact w
  | exc c => rw [e] at w; exact fun H' s => w fm σ H' (sr.same s) (Pg.same s)
  | ok its =>
    rw [e] at w
    have w : StW cf K W m fm H D (popsO cf t i ρ (popsD cf i v its ρ)) := w
    cases hp : popsD cf i v its ρ with
    | none => rw [hp] at w; exact w.elim
    | some q =>
      rw [hp] at w
      refine ⟨q, hp, fun G H' D' srG pg s hG hD => ?_⟩
      have pg' : Pg m fm H fm G := pg.more fun j hj => by rw [List.mem_singleton.mp hj]; exact him
      have vr : VR K fm G H' (.lsi (q.1.map .int), T0) (.ref D') := .lsi (NdR.new srG.at' Same.refl hG) hD (RepIs.ofInts _)
      cases t with
      | none => exact w fm G (.ref D') H' srG.at' s vr pg'
      | some j =>
        have w : StW cf K W m fm H D (match setSlot cf j (.lsi (q.1.map .int), T0) (ρ.set i (some (.lsi (q.2.map .int)))) with | some ρ' => .next ρ' | none => .bad) := w
        cases e' : setSlot cf j (.lsi (q.1.map .int), T0) (ρ.set i (some (.lsi (q.2.map .int)))) with
        | none => rw [e'] at w; exact w.elim
        | some ρ' =>
          rw [e'] at w
          obtain ⟨fm', sr2, p⟩ := srG.setSlot (m := m) s vr e'
          exact w fm' _ H' sr2 (pg'.trans p)
theorem snd_popr {v : Nat} {src : Src} {e : Expr} {pos : Pos} (him : i ∈ m) (G : Gx g ex cf k X sc cl W) (h : popsB g X.N sc cl i v src e = true) : PS X (.Return (some e) pos) (tS cf X.K W m (.pops none i v src)) := by
  obtain ⟨x, p, ap, pc, ie, etg, eiter, scope, pos', rfl, h0, h1, h3, h4, h5, h6, h7, h8, h9⟩ := popsB_some h
  exact (ps_ret (snd_pops g cf k (pos := pos') G.gd h0 h1 h3 h4 h5 h6 h7 h8 h9).2).mono' fun D σ H z => pops_rd him z
theorem snd_popa {v j : Nat} {src : Src} {e : Expr} {y : Str} {p0 pos : Pos} (him : i ∈ m) (G : Gx g ex cf k X sc cl W) (hN : X.N[j]? = some y) (hl : locB sc cl y = true) (h : popsB g X.N sc cl i v src e = true) (hk : (sc.kind == .function) = true) : PS X (.Assign [.Name y p0] e pos) (tS cf X.K W m (.pops (some j) i v src)) := by
  obtain ⟨x, p, ap, pc, ie, etg, eiter, scope, pos', rfl, h0, h1, h3, h4, h5, h6, h7, h8, h9⟩ := popsB_some h
  have pe := (snd_pops g cf k (pos := pos') (p := p) G.gd h0 h1 h3 h4 h5 h6 h7 h8 h9).2
  have key := (snd_pops g cf k (pos := pos') (p := p) G.gd h0 h1 h3 h4 h5 h6 h7 h8 h9).1
  obtain ⟨l1, l2⟩ := locB_ok hl
  have hknd : sc.kind = .function := by
    cases h : sc.kind <;> first | rfl | (have z := hk; rw [h] at z; cases z)
  have gen : (∀ t l env, swapsWith (.ListComp (.Call (.Attribute (.Name x p) ("pop" : Str) ap) [ie] [] pc) [⟨etg, eiter, [], 0⟩] scope pos') t l env = pure false) ∨ swapsWith (.ListComp (.Call (.Attribute (.Name x p) ("pop" : Str) ap) [ie] [] pc) [⟨etg, eiter, [], 0⟩] scope pos') (some (.Name y p0)) pos.line X.env = pure false → PS X (.Assign [.Name y p0] (.ListComp (.Call (.Attribute (.Name x p) ("pop" : Str) ap) [ie] [] pc) [⟨etg, eiter, [], 0⟩] scope pos') pos) (tS cf X.K W m (.pops (some j) i v src)) := fun hs =>
    (ps_set (te := tPops cf X.K W i v src) G.gd.nd hN (by rw [G.gd.sc]; exact l1) pe (hs.elim (fun h => h _ _ _) id) (by rcases l2 with z | z; exact .inl (G.gd.fnc y z); exact .inr (by rw [G.gd.sc]; exact z))).mono' fun D σ H t => pops_rd him t
  by_cases hcell : sc.names.lookup y = some .cell
  · exact gen (.inr (sw_cell (by rw [G.gd.sc]; exact hcell)))
  have hloc : sc.names.lookup y = some .local := by
    rcases l1 with z | z
    · exact z
    · exact absurd z hcell
  have hb := blkOk_by h1
  have own1 : (ownP X.N [v]).map (·.2) = [v] := ownP_snd ..
  cases sw : lcSw scope y p0 pos' with
  | true =>
    have hsw : swapsWith (.ListComp (.Call (.Attribute (.Name x p) ("pop" : Str) ap) [ie] [] pc) [⟨etg, eiter, [], 0⟩] scope pos') (some (.Name y p0)) pos.line X.env = pure true := by
      rw [← sw]
      exact sw_eq (by rw [G.gd.sc]; exact hknd) (by rw [G.gd.sc]; exact hloc)
    refine (ps_setLc (own := ownP X.N [v]) (py := p0) (wi := tI cf X.K W src) (g := tG cf X.K (.nm v)) (tt := tC cf X.K []) (te := tBM X.K "list" rPopAt (tVar i) (tDs cf X.K W0 [popE i v])) (G.gd.calm h0) G.gd.nd hN (by rw [G.gd.sc]; exact hloc) hsw (snd_s g cf k src h3 G.gd) (by rw [G.gd.sc]; exact hb)
      (fun s H C cs fp => snd_tg cf (G.gd.blk s H scope C cs fp).sc G.gd.nd (G.gd.calm h0) (fun x z => z) h5) (fun s H C cs fp => sndC_nil) (fun s H C cs fp => pops_elt g cf k G.gd h6 h7 h8 h9 s H scope C cs fp) (notSet_fold h4)).mono' fun D σ H t => ?_
    have z := key σ H _ (pops_rd him t)
    rw [own1]
    exact z
  | false =>
    have hsw : swapsWith (.ListComp (.Call (.Attribute (.Name x p) ("pop" : Str) ap) [ie] [] pc) [⟨etg, eiter, [], 0⟩] scope pos') (some (.Name y p0)) pos.line X.env = pure false := by
      rw [← sw]
      exact sw_eq (by rw [G.gd.sc]; exact hknd) (by rw [G.gd.sc]; exact hloc)
    exact gen (.inr hsw)
end
end Iv

/-! Iv Ra: lists within a slot's own thing changed; try. -/
namespace Iv
open PySem PySem.Spec L2
open PyProof.Rows hiding St
section
variable {cf : Cf} {K : PySem.W.Frag} {fm : Fm} {ρ ρ' : Env} {σ : St} {H H1 Hs : Hp} {i : Nat} {x : DT} {v : V} {m : List Nat} {W : WC} {De : Ends} {X : Cx} {g : Gs} {ex : List String} {k : Nat} {sc : Scope} {cl : Str → Bool}
theorem wipeV_get {j : Nat} {d : D} (e : (wipeV cf i ρ)[j]? = some (some d)) : ρ[j]? = some (some d) ∧ j ≠ i ∧ cf.cl j ≠ .vw i := by
  unfold wipeV at e
  rw [List.getElem?_mapIdx] at e
  cases h : ρ[j]? with
  | none => rw [h] at e; cases e
  | some y =>
    rw [h] at e
    have e : some (if j = i ∨ cf.cl j = .vw i then none else y) = some (some d) := e
    by_cases c : j = i ∨ cf.cl j = .vw i
    · rw [if_pos c] at e; cases e
    · rw [if_neg c] at e; cases e
      exact ⟨rfl, fun z => c (.inl z), fun z => c (.inr z)⟩
/-- a list that slot i owns is changed: what hung on it is forgotten -/
theorem SR.killed {b : Addr} {vs ws : List V} (sr : SR cf K fm ρ σ H) (hc : cf.cl i = .ex) (hb : fm.O i b) (hl : H b = some (.lst vs)) : SR cf K fm (wipeV cf i ρ) σ (upd H b (.lst ws)) ∧ Pg [i] fm H fm (upd H b (.lst ws)) := by
  have f := sr.at'
  have kp : Keep K (fun a => a ≠ b) H (upd H b (.lst ws)) := Keep.write hl fun _ z => z
  refine ⟨⟨by unfold wipeV; rw [List.length_mapIdx]; exact sr.len, ?_, fun j d e => ?_, sr.vx⟩, ⟨rfl, rfl, rfl, fun a o ea ha => ?_, fun a z => ?_, fun _ _ => .inl⟩⟩
  · refine ⟨fun a o ea => ?_, f.disj, f.fresh, fun j a o => ?_, f.ob, fun a z => ?_⟩
    · have hne : a ≠ b := fun z => by
        have := f.fresh i b hb
        rw [← z, ea] at this; cases this
      rw [upd_ne hne]
      exact f.same a o ea
    · by_cases z : a = b
      · subst z; exact ⟨ws, upd_same⟩
      · rw [upd_ne z]; exact f.own j a o
    · by_cases z' : a = b
      · subst z'; rw [upd_same]; intro q; cases q
      · rw [upd_ne z']; exact f.bt a z
  · obtain ⟨e1, n1, n2⟩ := wipeV_get e
    obtain ⟨u, h1, h2⟩ := sr.slot j d e1
    refine ⟨u, h1, ?_⟩
    have no : ∀ a, (∀ p, ¬ fm.O p a) → a ≠ b := fun a h z => h i (z ▸ hb)
    cases c : cf.cl j with
    | old => rw [c] at h2; exact Rep.keep kp (fun a z => ⟨no a z.2.1, z⟩) (fun a z => ⟨no a z.2.1, z⟩) (show Rep K H (P2 fm) (P2 fm) d u from h2)
    | nw => rw [c] at h2; exact Rep.keep kp (fun a z => ⟨no a z.2.1, z⟩) (fun a z => ⟨no a z.2.1, z⟩) (show Rep K H (P1 fm) (P1 fm) d u from h2)
    | ex => rw [c] at h2; exact Rep.keep kp (fun a z => ⟨fun q => n1 (f.disj j i a z (q ▸ hb)), z⟩) (fun a z => ⟨fun q => n1 (f.disj j i a z (q ▸ hb)), z⟩) (show Rep K H (fm.O j) (fm.O j) d u from h2)
    | vw p =>
      rw [c] at h2 n2
      have hne : ∀ a, Pv p fm a → a ≠ b := fun a z q => n2 (by rw [z.2.1 i (q ▸ hb)])
      exact Rep.keep kp (fun a z => ⟨hne a z, z⟩) (fun a z => ⟨hne a z, z⟩) (show Rep K H (Pv p fm) (Pv p fm) d u from h2)
    | own n =>
      rw [c] at h2
      have h2 : Rep K H (fm.O j) (if n = true then P1 fm else P2 fm) d u := h2
      refine Rep.keep kp (fun a z => ⟨fun q => n1 (f.disj j i a z (q ▸ hb)), z⟩) (fun a z => ?_) h2
      cases n with
      | true => exact ⟨no a z.2.1, z⟩
      | false => exact ⟨no a z.2.1, z⟩
  · have hne : a ≠ b := fun z => ha i List.mem_cons_self (z ▸ hb)
    rw [upd_ne hne]; exact ea
  · by_cases z' : a = b
    · subst z'; rw [upd_same] at z; cases z
    · rw [upd_ne z'] at z; exact z
theorem M.st_bind {α β : Type} {ma : M α} {h : α → M β} {f : β → O} : (ma.bind h).st ρ f = ma.st ρ fun a => (h a).st ρ f := by cases ma <;> rfl
theorem own_items {d : D} {k : Int} {y : DT} {t : Tag} (hd : Rep K H (fm.O i) (fm.O i) d v) (hx : idxD (norm d t) k = .ok y) (hl : isL y.1 = true) :
    ∃ b vs, dlen y.1 = vs.length ∧ fm.O i b ∧ H b = some (.lst vs) ∧ ∀ Q : VK, Q (.ref b) H → rIx K v (.int k) H Q := by
  have fin : ∀ {ds : List D} {vs : List V} {q : AP'} {z : D} {u : Tag}, Reps K H q ds vs → (∀ a, q a → fm.O i a) → L2.atI ds k = some z → norm z u = y → ∃ b ws w, dlen y.1 = ws.length ∧ fm.O i b ∧ H b = some (.lst ws) ∧ L2.atI vs k = some w ∧ w = .ref b := by
    intro ds vs q z u r hq e hy
    obtain ⟨w, e2, _, rz⟩ := atI_rel (Reps.len r) (fun j x h => Reps.get r h) e
    subst hy
    cases rz with
    | imm _ => cases hl
    | lsi g1 g2 g3 => exact ⟨_, _, _, RepIs.len g3, hq _ g1, g2, e2, rfl⟩
    | lsd g1 g2 g3 => exact ⟨_, _, _, Reps.len g3, hq _ g1, g2, e2, rfl⟩
    | tpd h r => cases hl
    | scr h r => cases hl
    | scrK h => cases hl
  cases hd with
  | imm hi =>
    rename_i jj
    cases jj with
    | tup xs =>
      have hx : (match L2.atI xs k with | some y => M.ok (pim y) | none => .bad) = M.ok y := hx
      cases h : L2.atI xs k with
      | none => rw [h] at hx; cases hx
      | some y' => rw [h] at hx; cases hx; cases hl
    | str s =>
      have hx : (if s.length ≤ sizeLine then (match L2.atI s.cps.toList k with | some c => M.ok (pim (.str ⟨#[c]⟩)) | none => .bad) else .bad) = M.ok y := hx
      split at hx
      · cases h : L2.atI s.cps.toList k with
        | none => rw [h] at hx; cases hx
        | some y' => rw [h] at hx; cases hx; cases hl
      · cases hx
    | _ => cases hx
  | lsi p e r =>
    rename_i xs
    have hx : (match L2.atI xs k with | some y => M.ok (pim y) | none => .bad) = M.ok y := hx
    cases h : L2.atI xs k with
    | none => rw [h] at hx; cases hx
    | some y' => rw [h] at hx; cases hx; cases hl
  | lsd p e r =>
    rename_i a vs ds
    have hx : (match L2.atI ds k with | some y => M.ok (norm y t.child) | none => .bad) = M.ok y := hx
    cases h : L2.atI ds k with
    | none => rw [h] at hx; cases hx
    | some y' =>
      rw [h] at hx
      obtain ⟨b, ws, w, h1, h2, h3, h4, rfl⟩ := fin r (fun a z => z.1) h (M.ok_inj hx)
      exact ⟨b, ws, h1, h2, h3, fun Q q => .inl ⟨a, vs, k, _, rfl, rfl, .inl (.inl e), h4, q⟩⟩
  | tpd p r =>
    rename_i a vs ds
    have hx : (match L2.atI ds k with | some y => M.ok (norm y t.child) | none => .bad) = M.ok y := hx
    cases h : L2.atI ds k with
    | none => rw [h] at hx; cases hx
    | some y' =>
      rw [h] at hx
      obtain ⟨b, ws, w, h1, h2, h3, h4, rfl⟩ := fin r (fun a z => z) h (M.ok_inj hx)
      exact ⟨b, ws, h1, h2, h3, fun Q q => .inr (.inl ⟨a, vs, k, _, rfl, rfl, p, h4, q⟩)⟩
  | scr p r =>
    rename_i xs
    have hx : (match L2.atI xs k with | some y => M.ok (pim (.int y)) | none => .bad) = M.ok y := hx
    cases h : L2.atI xs k with
    | none => rw [h] at hx; cases hx
    | some y' => rw [h] at hx; cases hx; cases hl
  | scrK p =>
    rename_i xs
    have hx : (match L2.atI xs k with | some y => M.ok (pim (.int y)) | none => .bad) = M.ok y := hx
    cases h : L2.atI xs k with
    | none => rw [h] at hx; cases hx
    | some y' => rw [h] at hx; cases hx; cases hl
theorem idx_nex {x : DT} {k : Int} {c : String} : idxD x k ≠ .exc c := by
  intro h
  unfold idxD at h
  split at h <;> first | cases h | (split at h <;> first | cases h | (split at h <;> cases h))
/-- x[j] of a slot that owns all: the list there is the slot's own -/
theorem ix_own {j : E} {f : DT → O} {Q : VK} (hcl : cf.cl i = .ex) (sr : SR cf K fm ρ σ H) (w : StW cf K W m fm H De ((ev cf (.idx (.var i) j) ρ).st ρ f))
    (hf : ∀ y, isL y.1 = false → f y = .bad) (q : ∀ y b vs H', Same H H' → SR cf K fm ρ σ H' → fm.O i b → H' b = some (.lst vs) → dlen y.1 = vs.length → StW cf K W m fm H' De (f y) → Q (.ref b) H') :
    ∃ v, σ[i]? = some (some v) ∧ tD cf K W j σ H fun u H2 => rIx K v u H2 Q := by
  have w : StW cf K W m fm H De ((((match ρ[i]? with | some (some d) => M.ok (norm d (rdTag i (cf.cl i))) | _ => .bad) : M DT).bind fun x => (ev cf j ρ).bind fun y => (asI y).bind fun k => idxD x k).st ρ f) := w
  rw [M.st_bind] at w
  split at w
  · rename_i d e
    obtain ⟨v, h1, h2⟩ := sr.slot i d e
    rw [hcl] at h2
    have w : StW cf K W m fm H De (((ev cf j ρ).bind fun y => (asI y).bind fun k => idxD (norm d (rdTag i (cf.cl i))) k).st ρ f) := w
    rw [M.st_bind] at w
    refine ⟨v, h1, stW_D sr w fun z u H2 s2 sr2 r2 w2 => ?_⟩
    rw [M.st_bind, hcl] at w2
    rcases asI_cases z with ⟨k, e1, e2⟩ | e2
    · rw [e2] at w2
      have w2 : StW cf K W m fm H De ((idxD (norm d (rdTag i .ex)) k).st ρ f) := w2
      obtain ⟨zd, zt⟩ := z
      cases e1
      cases repI_int (rep_imm r2)
      cases hx : idxD (norm d (rdTag i .ex)) k with
      | bad => rw [hx] at w2; exact w2.elim
      | exc c => exact absurd hx idx_nex
      | ok y =>
        rw [hx] at w2
        have w2 : StW cf K W m fm H De (f y) := w2
        cases hl : isL y.1 with
        | false => rw [hf y hl] at w2; exact w2.elim
        | true =>
          obtain ⟨b, vs, g1, g2, g3, g4⟩ := own_items ((show Rep K H (fm.O i) (fm.O i) d v from h2).same s2) hx hl
          exact g4 Q (q y b vs H2 s2 sr2 g2 g3 g1 (w2.later (Pg.same s2)))
    · rw [e2] at w2; exact w2.elim
  · exact w.elim
theorem snd_kapp {j e : E} {x : Str} {ej ea : Expr} {p ps ap pc pos : Pos} (him : i ∈ m) (G : Gx g ex cf k X sc cl W) (h0 : nmB X.N sc i x = true) (hl : (ap.endLine == pc.line) = true) (h1 : chk g X.N sc cl j ej = true) (hp : plainB ej = true) (h2 : chk g X.N sc cl e ea = true) (h3 : noStar ea = true) :
    PS X (.Expr (.Call (.Attribute (.Subscript (.Name x p) ej ps) ("append" : Str) ap) [ea] [] pc) pos) (tS cf X.K W m (.kapp i j e)) := by
  obtain ⟨n1, n2, n3, n4⟩ := nmB_ok h0
  refine (ps_expr (pe_bm PySem.F.plainAttrs_list PySem.F.slot_list_append PySem.F.type_list_append mt_append (pe_ix ix_seq (pe_var (pos := p) n1 (by rw [G.gd.sc]; exact n2) n3 n4) (snd_e g cf k j h1 G.gd).d (plain_ix hp)) (pa_cons (snd_e g cf k e h2 G.gd).d pa_nil (star_cons h3)) rfl (by rw [star_cons h3]; rfl) hl (star_cons h3) rfl) rfl).mono' fun D σ H ⟨fm, ρ, sr, w⟩ => ?_
  have w : StW cf X.K W m fm H D (if cf.cl i = .ex then (ev cf (.idx (.var i) j) ρ).st ρ fun y => if isL y.1 = true ∧ dlen y.1 < sizeLine then (ev cf e ρ).st ρ fun _ => .next (wipeV cf i ρ) else .bad else .bad) := w
  by_cases hcl : cf.cl i = .ex
  · rw [if_pos hcl] at w
    refine ix_own hcl sr w (fun y hy => by rw [if_neg]; intro z; rw [hy] at z; cases z.1) fun y b vs H1 s1 sr1 o hb hlen w1 => ?_
    refine ⟨.inl ⟨rfl, _, .inl (.inl hb)⟩, ?_⟩
    by_cases c : isL y.1 = true ∧ dlen y.1 < sizeLine
    · rw [if_pos c] at w1
      refine stW_D sr1 w1 fun z u H2 s2 sr2 r2 w2 => ?_
      obtain ⟨sr3, pg⟩ := sr2.killed (ws := vs ++ [u]) hcl o (s2 _ _ hb)
      exact ⟨b, vs, u, rfl, rfl, s2 _ _ hb, by rw [← hlen]; exact c.2, w2 fm σ _ sr3 ((Pg.same s2).trans (pg.more fun j hj => by rw [List.mem_singleton.mp hj]; exact him))⟩
    · rw [if_neg c] at w1; exact w1.elim
  · rw [if_neg hcl] at w; exact w.elim
theorem snd_kclr {j : E} {x : Str} {ej : Expr} {p ps ap pc pos : Pos} (him : i ∈ m) (G : Gx g ex cf k X sc cl W) (h0 : nmB X.N sc i x = true) (hl : (ap.endLine == pc.line) = true) (h1 : chk g X.N sc cl j ej = true) (hp : plainB ej = true) :
    PS X (.Expr (.Call (.Attribute (.Subscript (.Name x p) ej ps) ("clear" : Str) ap) [] [] pc) pos) (tS cf X.K W m (.kclr i j)) := by
  obtain ⟨n1, n2, n3, n4⟩ := nmB_ok h0
  refine (ps_expr (pe_bm0 PySem.F.plainAttrs_list PySem.F.slot_list_clear PySem.F.type_list_clear mt_clear (pe_ix ix_seq (pe_var (pos := p) n1 (by rw [G.gd.sc]; exact n2) n3 n4) (snd_e g cf k j h1 G.gd).d (plain_ix hp)) rfl hl) rfl).mono' fun D σ H ⟨fm, ρ, sr, w⟩ => ?_
  have w : StW cf X.K W m fm H D (if cf.cl i = .ex then (ev cf (.idx (.var i) j) ρ).st ρ fun y => if isL y.1 = true then .next (wipeV cf i ρ) else .bad else .bad) := w
  by_cases hcl : cf.cl i = .ex
  · rw [if_pos hcl] at w
    refine ix_own hcl sr w (fun y hy => by rw [if_neg]; intro z; rw [hy] at z; cases z) fun y b vs H1 s1 sr1 o hb hlen w1 => ?_
    refine ⟨.inl ⟨rfl, _, .inl (.inl hb)⟩, ?_⟩
    by_cases c : isL y.1 = true
    · rw [if_pos c] at w1
      obtain ⟨sr3, pg⟩ := sr1.killed (ws := []) hcl o hb
      exact ⟨b, vs, rfl, rfl, hb, w1 fm σ _ sr3 (pg.more fun j hj => by rw [List.mem_singleton.mp hj]; exact him)⟩
    · rw [if_neg c] at w1; exact w1.elim
  · rw [if_neg hcl] at w; exact w.elim
theorem snd_kself {e : E} {x : Str} {ea : Expr} {p ap pc pos : Pos} (him : i ∈ m) (G : Gx g ex cf k X sc cl W) (h0 : nmB X.N sc i x = true) (hl : (ap.endLine == pc.line) = true) (h2 : chk g X.N sc cl e ea = true) (h3 : noStar ea = true) :
    PS X (.Expr (.Call (.Attribute (.Name x p) ("append" : Str) ap) [ea] [] pc) pos) (tS cf X.K W m (.kself i e)) := by
  obtain ⟨n1, n2, n3, n4⟩ := nmB_ok h0
  refine (ps_expr (pe_bm PySem.F.plainAttrs_list PySem.F.slot_list_append PySem.F.type_list_append mt_append (pe_var (pos := p) n1 (by rw [G.gd.sc]; exact n2) n3 n4) (pa_cons (snd_e g cf k e h2 G.gd).d pa_nil (star_cons h3)) rfl (by rw [star_cons h3]; rfl) hl (star_cons h3) rfl) rfl).mono' fun D σ H ⟨fm, ρ, sr, w⟩ => ?_
  have w : StW cf X.K W m fm H D (if cf.cl i = .ex then ((match ρ[i]? with | some (some d) => M.ok (norm d (rdTag i (cf.cl i))) | _ => .bad) : M DT).st ρ fun y => if isL y.1 = true ∧ dlen y.1 < sizeLine then (ev cf e ρ).st ρ fun _ => .next (wipeV cf i ρ) else .bad else .bad) := w
  by_cases hcl : cf.cl i = .ex
  · rw [if_pos hcl] at w
    split at w
    · rename_i d e1
      obtain ⟨v, g1, g2⟩ := sr.slot i d e1
      rw [hcl] at g2
      have w : StW cf X.K W m fm H D (if isL (norm d (rdTag i (cf.cl i))).1 = true ∧ dlen (norm d (rdTag i (cf.cl i))).1 < sizeLine then (ev cf e ρ).st ρ fun _ => .next (wipeV cf i ρ) else .bad) := w
      have hd : (norm d (rdTag i (cf.cl i))).1 = d := by cases d <;> rfl
      rw [hd] at w
      by_cases c : isL d = true ∧ dlen d < sizeLine
      · rw [if_pos c] at w
        have own : ∃ b vs, v = .ref b ∧ fm.O i b ∧ H b = some (.lst vs) ∧ dlen d = vs.length := by
          have g2 : Rep X.K H (fm.O i) (fm.O i) d v := g2
          cases g2 with
          | imm _ => cases c.1
          | lsi q1 q2 q3 => exact ⟨_, _, rfl, q1, q2, RepIs.len q3⟩
          | lsd q1 q2 q3 => exact ⟨_, _, rfl, q1, q2, Reps.len q3⟩
          | tpd h r => cases c.1
          | scr h r => cases c.1
          | scrK h => cases c.1
        obtain ⟨b, vs, rfl, o, hb, hlen⟩ := own
        refine ⟨.ref b, g1, .inl ⟨rfl, _, .inl (.inl hb)⟩, ?_⟩
        refine stW_D sr w fun z u H2 s2 sr2 r2 w2 => ?_
        obtain ⟨sr3, pg⟩ := sr2.killed (ws := vs ++ [u]) hcl o (s2 _ _ hb)
        exact ⟨b, vs, u, rfl, rfl, s2 _ _ hb, by rw [← hlen]; exact c.2, w2 fm σ _ sr3 ((Pg.same s2).trans (pg.more fun j hj => by rw [List.mem_singleton.mp hj]; exact him))⟩
      · rw [if_neg c] at w; exact w.elim
    · exact w.elim
  · rw [if_neg hcl] at w; exact w.elim
/-! ### try -/
theorem SR.setI {n : Nat} {j : I} (sr : SR cf K fm ρ σ H) (r : RepI K H j v) : SR cf K fm (ρ.set n (some (.imm j))) (σ.set n (some v)) H := by
  refine ⟨by simp [sr.len], sr.at', fun p d e => ?_, sr.vx⟩
  by_cases hp : n = p
  · subst hp
    have hn : n < ρ.length := by
      have := (List.getElem?_eq_some_iff.mp e).1
      simpa using this
    rw [List.getElem?_set_self hn] at e
    cases e
    refine ⟨v, List.getElem?_set_self (by rw [← sr.len]; exact hn), ?_⟩
    cases cf.cl n <;> exact Rep.imm r
  · rw [List.getElem?_set_ne hp] at e
    obtain ⟨u, h1, h2⟩ := sr.slot p d e
    exact ⟨u, by rw [List.getElem?_set_ne hp]; exact h1, h2⟩
theorem SR.clrI {n : Nat} (sr : SR cf K fm ρ σ H) : SR cf K fm (ρ.set n none) (σ.set n none) H := by
  refine ⟨by simp [sr.len], sr.at', fun p d e => ?_, sr.vx⟩
  by_cases hp : n = p
  · subst hp
    by_cases hn : n < ρ.length
    · rw [List.getElem?_set_self hn] at e; cases e
    · rw [List.getElem?_eq_none (by simpa using hn)] at e; cases e
  · rw [List.getElem?_set_ne hp] at e
    obtain ⟨u, h1, h2⟩ := sr.slot p d e
    exact ⟨u, by rw [List.getElem?_set_ne hp]; exact h1, h2⟩
theorem SR.clrX {n : Nat} (sr : SR cf K fm ρ σ H) : SR cf K fm (match n with | 0 => ρ | i + 1 => ρ.set i none) (Iv.clrX n σ) H := by
  cases n with
  | zero => exact sr
  | succ i => exact sr.clrI
/-- a suite's end -/
theorem StW.endH {n : Nat} {o : O} (w : StW cf K W m fm H De (endH n o)) : StW cf K W0 m fm H (endsX n De) o := by
  cases n with
  | zero =>
    cases o with
    | exc c ρ => exact w.elim
    | next ρ => exact fun fm' σ' H' sr p => w fm' _ H' sr p
    | brk ρ => exact fun fm' σ' H' sr p => w fm' _ H' sr p
    | cnt ρ => exact fun fm' σ' H' sr p => w fm' _ H' sr p
    | ret x => exact w
    | bad => exact w
  | succ i =>
    cases o with
    | exc c ρ => exact w.elim
    | next ρ => exact fun fm' σ' H' sr p => w fm' _ H' sr.clrI p
    | brk ρ => exact fun fm' σ' H' sr p => w fm' _ H' sr.clrI p
    | cnt ρ => exact fun fm' σ' H' sr p => w fm' _ H' sr.clrI p
    | ret x => exact w
    | bad => exact w
/-- a clause, read -/
def clxOf (cf : Cf) (K : PySem.W.Frag) (mg : Str → Option Value) (m : List Nat) (h : List String × Nat × List S) : Clx := (h.1.map (clsV mg), h.2.1, fun _ => tSs cf K W0 m h.2.2)
theorem any_cls {mg : Str → Option Value} {ts0 : List String} {c : String} {C : Addr} (F : XFacts K mg ts0 c C) : ∀ {ts : List String}, (∀ t ∈ ts, t ∈ ts0) → (∀ v ∈ ts.map (clsV mg), PySem.W.exmOne K (.ref C) v = some ((PySem.W.exmOne K (.ref C) v).getD false)) ∧ (ts.map (clsV mg)).any (fun v => (PySem.W.exmOne K (.ref C) v).getD false) = ts.any (excSub c)
  | [], _ => ⟨fun _ h => (nomatch h), rfl⟩
  | t :: ts, h => by
    obtain ⟨h1, h2⟩ := any_cls F (ts := ts) fun t m => h t (List.mem_cons_of_mem _ m)
    have e := F.em t (h t List.mem_cons_self)
    refine ⟨fun v hv => ?_, ?_⟩
    · rw [List.map_cons] at hv
      rcases List.mem_cons.mp hv with rfl | hv
      · rw [e]; rfl
      · exact h1 v hv
    · rw [List.map_cons, List.any_cons, List.any_cons, h2, e]; rfl
theorem clx_rd {mg : Str → Option Value} {ts0 : List String} {c : String} {C : Addr} (F : XFacts K mg ts0 c C) (he : PySem.W.nsIn K mainGlobals (c : Str) = some (some (.ref C))) {out : Prop} (sr : SR cf K fm ρ σ H) : ∀ {hs : List (List String × Nat × List S)}, (∀ h ∈ hs, ∀ t ∈ h.1, t ∈ ts0) → (W c σ H → out) →
    StW cf K W m fm H De (runh cf c hs ρ) → wClx K c C De σ H out (hs.map (clxOf cf K mg m))
  | [], _, hout, w => by
    have w : StW cf K W m fm H De (.exc c ρ) := w
    exact hout (w fm σ H sr (Pg.same Same.refl))
  | (ts, n, s) :: r, ht, hout, w => by
    have w : StW cf K W m fm H De (if ts.any (excSub c) = true then endH n (runs cf s (putH n c ρ)) else runh cf c r ρ) := w
    obtain ⟨h1, h2⟩ := any_cls F (ts := ts) (ht _ List.mem_cons_self)
    refine ⟨_, h1, fun q a ha => ?_, fun q => ?_⟩
    · rw [h2] at q
      rw [if_pos q] at w
      have s1 : Same H (upd H a (ExO K c a)) := Same.new ha
      have rx : RepI K (upd H a (ExO K c a)) (.exc c) (.ref a) := .exc upd_same
      refine ⟨fm, putH n c ρ, ?_, (w.later (Pg.same s1)).endH⟩
      cases n with
      | zero => exact sr.same s1
      | succ i => exact (sr.same s1).setI rx
    · rw [h2] at q
      rw [if_neg (by rw [q]; exact Bool.false_ne_true)] at w
      exact clx_rd F he sr (fun h m => ht h (List.mem_cons_of_mem _ m)) hout w
/-- the body's wish, out of the whole's -/
def Wtry (cf : Cf) (K : PySem.W.Frag) (W : WC) (m : List Nat) (D : Ends) (hs : List (List String × Nat × List S)) : WC := fun c σ H => c ∈ excAll ∧ ∃ fm ρ, SR cf K fm ρ σ H ∧ StW cf K W m fm H D (runh cf c hs ρ)
theorem try_rd {b : List S} {hs : List (List String × Nat × List S)} (w : StW cf K W m fm H De (run cf (.try b hs) ρ)) : StW cf K (Wtry cf K W m De hs) m fm H De (runs cf b ρ) := by
  have w : StW cf K W m fm H De (match runs cf b ρ with
    | .exc c ρ' => if excAll.contains c = true then runh cf c hs ρ' else .bad
    | o => o) := w
  cases e : runs cf b ρ with
  | exc c ρ' =>
    rw [e] at w
    have w : StW cf K W m fm H De (if excAll.contains c = true then runh cf c hs ρ' else .bad) := w
    by_cases hc : excAll.contains c = true
    · rw [if_pos hc] at w
      exact fun fm' σ' H' sr p => ⟨by simpa using hc, fm', ρ', sr, w.later p⟩
    · rw [if_neg hc] at w; exact w.elim
  | next ρ' => rw [e] at w; exact w
  | brk ρ' => rw [e] at w; exact w
  | cnt ρ' => rw [e] at w; exact w
  | ret x => rw [e] at w; exact w
  | bad => rw [e] at w; exact w
/-- the context of a suite -/
theorem Gd.sui (G : Gd g cf k X sc cl W) (a : Addr) (pn : List (Addr × Obj)) : Gd { g with calm := false } cf k (X.suite a pn) sc cl W0 :=
  ⟨G.sc, G.nd, (fun z => nomatch z), G.un, (fun z => nomatch z), G.fnc, takesA_no fun c d σ H h => by obtain ⟨_, _, _, _, _, h⟩ := h; exact h, G.stk, G.fn, G.bl, G.cs, G.xa, G.fm⟩
theorem Gx.sui (G : Gx g ex cf k X sc cl W) (a : Addr) (pn : List (Addr × Obj)) : Gx { g with calm := false } [] cf k (X.suite a pn) sc cl W0 :=
  ⟨G.gd.sui a pn, PassesOwn.never, fun _ h => (nomatch h), fun h => absurd rfl h, G.st, G.fr⟩
theorem tst_ok (G : Gd g cf k X sc cl W) {ts : List String} {te : Expr} (h : tstB g sc ts te = true) : (∀ t ∈ ts, t ∈ g.ts) ∧ g.ts ≠ [] ∧ TstX X te (ts.map (clsV X.mg)) := by
  have one : ∀ {t : String}, t ∈ g.ts → sc.names.lookup (t : Str) = some .globalImplicit → Names X (t : Str) (clsV X.mg t) := fun {t} ht hg => by
    have A := G.xa (fun z => by rw [z] at ht; cases ht)
    obtain ⟨h1, h2⟩ := A.xt t ht
    have hg' : Gl X (t : Str) := show X.env.scope.names.lookup _ = _ by rw [G.sc]; exact hg
    rcases h1 with ⟨C, e⟩ | ⟨rfl, e⟩
    · refine ⟨hg', h2, .inl ?_⟩
      unfold clsV; rw [e]
    · refine ⟨hg', h2, .inr ⟨e, ?_, by decide +kernel⟩⟩
      unfold clsV; rw [e]
      decide +kernel
  have all : ∀ {ts : List String} {es : List Expr}, clsNames ts es = true → (∀ t ∈ ts, t ∈ g.ts ∧ sc.names.lookup (t : Str) = some .globalImplicit) → NmsX X es (ts.map (clsV X.mg)) := by
    intro ts
    induction ts with
    | nil =>
      intro es h _
      cases es with
      | nil => exact .nil
      | cons e es => cases h
    | cons t ts ih =>
      intro es h ht
      cases es with
      | nil => cases h
      | cons e es =>
        cases e with
        | Name x pos =>
          have h : (x == (t : Str) && clsNames ts es) = true := h
          rw [Bool.and_eq_true] at h
          cases eq_of_beq h.1
          have h0 := ht t List.mem_cons_self
          exact .cons (one h0.1 h0.2) (ih h.2 fun t m => ht t (List.mem_cons_of_mem _ m))
        | _ => cases h
  unfold tstB at h
  split at h
  · rw [Bool.and_eq_true, Bool.and_eq_true, Bool.not_eq_true'] at h
    obtain ⟨⟨h1, h2⟩, h3⟩ := h
    split at h1
    · rename_i t
      cases of_decide_eq_true h1
      have h3 := xtsG_ok h3
      have h4 := h3 t List.mem_cons_self
      exact ⟨fun t m => (h3 t m).1, (fun z => by rw [z] at h2; cases h2), .one (one h4.1 h4.2)⟩
    · cases h1
  · rw [Bool.and_eq_true, Bool.and_eq_true, Bool.and_eq_true, Bool.not_eq_true', decide_eq_true_eq] at h
    obtain ⟨⟨⟨h1, h2⟩, h3⟩, h4⟩ := h
    have h4 := xtsG_ok h4
    exact ⟨fun t m => (h4 t m).1, (fun z => by rw [z] at h3; cases h3), .tup (all h1 h4) (by rw [List.length_map]; exact h2)⟩
  · cases h
end
end Iv

/-! Iv Rb: lists of a slot's own tuple changed, one after another. -/
namespace Iv
open PySem PySem.Spec L2
open PyProof.Rows hiding St
section
variable {cf : Cf} {K : PySem.W.Frag} {fm : Fm} {ρ ρ' : Env} {σ : St} {H H1 Hs : Hp} {i : Nat} {m : List Nat} {W : WC} {De : Ends} {X : Cx} {g : Gs} {ex : List String} {k : Nat} {sc : Scope} {cl : Str → Bool}
theorem SR.wiped (sr : SR cf K fm ρ σ H) : SR cf K fm (wipeV cf i ρ) σ H := ⟨by unfold wipeV; rw [List.length_mapIdx]; exact sr.len, sr.at', fun j d e => sr.slot j d (wipeV_get e).1, sr.vx⟩
theorem wipe_idem : wipeV cf i (wipeV cf i ρ) = wipeV cf i ρ := by
  unfold wipeV
  refine List.ext_getElem (by simp) fun j h1 h2 => ?_
  simp only [List.getElem_mapIdx]
  split <;> rfl
/-- what is known of the lists to be changed -/
def KI (K : PySem.W.Frag) (fm : Fm) (i : Nat) (l : List (Int × Option E)) (σ : St) (H : Hp) : Prop :=
  ∃ (T : Addr) (vs : List V), σ[i]? = some (some (.ref T)) ∧ SqT K H T vs ∧ ∀ q ∈ l, ∃ b ws, L2.atI vs q.1 = some (.ref b) ∧ fm.O i b ∧ H b = some (.lst ws) ∧ ws.length + l.length ≤ sizeLine
noncomputable def afterO (cf : Cf) (r : List S) : O → O
  | .next ρ' => runs cf r ρ'
  | o => o
def tKs (cf : Cf) (K : PySem.W.Frag) (W : WC) (m : List Nat) (i : Nat) (l : List (Int × Option E)) (r : List S) : TS := fun D σ H => ∃ fm ρ, SR cf K fm ρ σ H ∧ cf.cl i = .ex ∧ wipeV cf i ρ = ρ ∧ KI K fm i l σ H ∧ StW cf K W m fm H D (afterO cf r (kapR cf ρ l))
theorem KI.same {l : List (Int × Option E)} (s : Same H H1) (h : KI K fm i l σ H) : KI K fm i l σ H1 := by
  obtain ⟨T, vs, h1, h2, h3⟩ := h
  exact ⟨T, vs, h1, s.sqT h2, fun q hq => by obtain ⟨b, ws, a1, a2, a3, a4⟩ := h3 q hq; exact ⟨b, ws, a1, a2, s _ _ a3, a4⟩⟩
/-- one of them changed -/
theorem KI.step {l : List (Int × Option E)} {q : Int × Option E} {b : Addr} {ws ws' : List V} (h : KI K fm i (q :: l) σ H) (hb : H b = some (.lst ws)) (hl : ws'.length ≤ ws.length + 1) : KI K fm i l σ (upd H b (.lst ws')) := by
  obtain ⟨T, vs, h1, h2, h3⟩ := h
  have kp : Keep K (fun a => a ≠ b) H (upd H b (.lst ws')) := Keep.write hb fun _ z => z
  refine ⟨T, vs, h1, kp.t _ _ h2, fun q' hq => ?_⟩
  obtain ⟨b', ws1, a1, a2, a3, a4⟩ := h3 q' (List.mem_cons_of_mem _ hq)
  rw [List.length_cons] at a4
  by_cases e : b' = b
  · subst e
    rw [hb] at a3
    cases a3
    exact ⟨_, _, a1, a2, upd_same, by omega⟩
  · exact ⟨_, _, a1, a2, by rw [upd_ne e]; exact a3, by omega⟩
theorem snd_kaps1 (him : i ∈ m) (G : Gx g ex cf k X sc cl W) {r : List S} : ∀ (l : List (Int × Option E)) (xs : List Stmt), kapsB g X.N sc cl i l xs = true → PSs X (xs.drop l.length) (tSs cf X.K W m r) → PSs X xs (tKs cf X.K W m i l r)
  | [], xs, _, h => h.mono' fun D σ H ⟨fm, ρ, sr, _, _, _, w⟩ => ⟨fm, ρ, sr, w⟩
  | (j, some e) :: l, [], h, _ => by cases h
  | (j, none) :: l, [], h, _ => by cases h
  | (j, some e) :: l, st :: xs, h, hr => by
    unfold kapsB at h
    rw [Bool.and_eq_true] at h
    obtain ⟨h1, h2⟩ := h
    unfold kap1B at h1
    dsimp only at h1
    split at h1
    · rename_i x p1 ej ps nm ap ea pc pos
      rw [Bool.and_eq_true, Bool.and_eq_true, Bool.and_eq_true, Bool.and_eq_true, Bool.and_eq_true, Bool.and_eq_true, decide_eq_true_eq] at h1
      obtain ⟨⟨⟨⟨⟨⟨h0, rfl⟩, hl⟩, hj⟩, hp⟩, he⟩, hs⟩ := h1
      obtain ⟨n1, n2, n3, n4⟩ := nmB_ok h0
      refine (pss_cons (ps_expr (pe_bm PySem.F.plainAttrs_list PySem.F.slot_list_append PySem.F.type_list_append mt_append (pe_ix ix_seq (pe_var (pos := p1) n1 (by rw [G.gd.sc]; exact n2) n3 n4) (snd_e g cf k (.lit (.int j)) hj G.gd).d (plain_ix hp)) (pa_cons (snd_e g cf k e he G.gd).d pa_nil (star_cons hs)) rfl (by rw [star_cons hs]; rfl) hl (star_cons hs) rfl) rfl) (snd_kaps1 him G l xs h2 hr)).mono' fun D σ H ⟨fm, ρ, sr, hcl, hw, hK, w⟩ => ?_
      obtain ⟨T, vs, hT, hq, hKl⟩ := id hK
      obtain ⟨b, ws, a1, a2, a3, a4⟩ := hKl _ List.mem_cons_self
      rw [List.length_cons] at a4
      refine ⟨.ref T, hT, fm, ρ, sr, fun v H' s rv => ?_⟩
      have ev : v = .int j := RepI.int_iff.mp (rep_imm rv)
      subst ev
      refine .inr (.inl ⟨T, vs, j, _, rfl, rfl, s.sqT hq, a1, .inl ⟨rfl, _, .inl (.inl (s _ _ a3))⟩, ?_⟩)
      have w : StW cf X.K W m fm H D ((ev cf e ρ).st ρ fun _ => afterO cf r (kapR cf ρ l)) := by
        have e1 : afterO cf r (kapR cf ρ ((j, some e) :: l)) = (ev cf e ρ).st ρ fun _ => afterO cf r (kapR cf ρ l) := by
          show afterO cf r ((ev cf e ρ).st ρ fun _ => kapR cf ρ l) = _
          cases ev cf e ρ <;> rfl
        rw [← e1]; exact w
      refine stW_D (sr.same s) (w.later (Pg.same s)) fun z u H2 s2 sr2 r2 w2 => ?_
      obtain ⟨sr3, pg⟩ := sr2.killed (ws := ws ++ [u]) hcl a2 (s2 _ _ (s _ _ a3))
      rw [hw] at sr3
      have pg := pg.more (m' := m) fun j hj => by rw [List.mem_singleton.mp hj]; exact him
      exact ⟨b, ws, u, rfl, rfl, s2 _ _ (s _ _ a3), by omega, fm, ρ, sr3, hcl, hw, (hK.same (s.trans s2)).step (s2 _ _ (s _ _ a3)) (by rw [List.length_append]; exact Nat.le_refl _), w2.later ((Pg.same s2).trans pg)⟩
    · cases h1
  | (j, none) :: l, st :: xs, h, hr => by
    unfold kapsB at h
    rw [Bool.and_eq_true] at h
    obtain ⟨h1, h2⟩ := h
    unfold kap1B at h1
    dsimp only at h1
    split at h1
    · rename_i x p1 ej ps nm ap pc pos
      rw [Bool.and_eq_true, Bool.and_eq_true, Bool.and_eq_true, Bool.and_eq_true, decide_eq_true_eq] at h1
      obtain ⟨⟨⟨⟨h0, rfl⟩, hl⟩, hj⟩, hp⟩ := h1
      obtain ⟨n1, n2, n3, n4⟩ := nmB_ok h0
      refine (pss_cons (ps_expr (pe_bm0 PySem.F.plainAttrs_list PySem.F.slot_list_clear PySem.F.type_list_clear mt_clear (pe_ix ix_seq (pe_var (pos := p1) n1 (by rw [G.gd.sc]; exact n2) n3 n4) (snd_e g cf k (.lit (.int j)) hj G.gd).d (plain_ix hp)) rfl hl) rfl) (snd_kaps1 him G l xs h2 hr)).mono' fun D σ H ⟨fm, ρ, sr, hcl, hw, hK, w⟩ => ?_
      obtain ⟨T, vs, hT, hq, hKl⟩ := id hK
      obtain ⟨b, ws, a1, a2, a3, a4⟩ := hKl _ List.mem_cons_self
      rw [List.length_cons] at a4
      refine ⟨.ref T, hT, fm, ρ, sr, fun v H' s rv => ?_⟩
      have ev : v = .int j := RepI.int_iff.mp (rep_imm rv)
      subst ev
      refine .inr (.inl ⟨T, vs, j, _, rfl, rfl, s.sqT hq, a1, .inl ⟨rfl, _, .inl (.inl (s _ _ a3))⟩, ?_⟩)
      obtain ⟨sr3, pg⟩ := (sr.same s).killed (ws := []) hcl a2 (s _ _ a3)
      rw [hw] at sr3
      have pg := (Pg.same (m := m) s).trans (pg.more (m' := m) fun j hj => by rw [List.mem_singleton.mp hj]; exact him)
      have w : StW cf X.K W m fm H D (afterO cf r (kapR cf ρ l)) := w
      exact ⟨b, ws, rfl, rfl, s _ _ a3, fm, ρ, sr3, hcl, hw, (hK.same s).step (s _ _ a3) (Nat.zero_le _), w.later pg⟩
    · cases h1
theorem snd_kaps (him : i ∈ m) (G : Gx g ex cf k X sc cl W) {r : List S} {l : List (Int × Option E)} {xs : List Stmt} (h : kapsB g X.N sc cl i l xs = true) (hr : PSs X (xs.drop l.length) (tSs cf X.K W m r)) : PSs X xs (tSs cf X.K W m (.kaps i l :: r)) := by
  refine (snd_kaps1 him G l xs h hr).mono' fun D σ H ⟨fm, ρ, sr, w⟩ => ?_
  have w : StW cf X.K W m fm H D (afterO cf r (if cf.cl i = .ex ∧ kapOk ρ i l = true then kapR cf (wipeV cf i ρ) l else .bad)) := by
    have : (match run cf (.kaps i l) ρ with | .next ρ' => runs cf r ρ' | o => o) = afterO cf r (run cf (.kaps i l) ρ) := by cases run cf (.kaps i l) ρ <;> rfl
    have w : StW cf X.K W m fm H D (match run cf (.kaps i l) ρ with | .next ρ' => runs cf r ρ' | o => o) := w
    rw [this] at w
    exact w
  by_cases c : cf.cl i = .ex ∧ kapOk ρ i l = true
  · rw [if_pos c] at w
    refine ⟨fm, wipeV cf i ρ, sr.wiped, c.1, wipe_idem, ?_, w⟩
    have c2 := c.2
    unfold kapOk at c2
    split at c2
    · rename_i ds e
      obtain ⟨v, g1, g2⟩ := sr.slot i _ e
      rw [c.1] at g2
      have g2 : Rep X.K H (fm.O i) (fm.O i) (.tpd ds) v := g2
      cases g2 with
      | tpd ha ra =>
        refine ⟨_, _, g1, ha, fun q hq => ?_⟩
        have cq := List.all_eq_true.mp c2 q hq
        split at cq
        · rename_i d e2
          rw [Bool.and_eq_true, decide_eq_true_eq] at cq
          obtain ⟨w1, e3, _, rz⟩ := atI_rel (Reps.len ra) (fun j x h => Reps.get ra h) e2
          cases rz with
          | lsi g1 g2 g3 => exact ⟨_, _, e3, g1, g2, by rw [← RepIs.len g3]; exact Nat.le_of_lt cq.2⟩
          | lsd g1 g2 g3 => exact ⟨_, _, e3, g1, g2, by rw [← Reps.len g3]; exact Nat.le_of_lt cq.2⟩
          | imm _ => cases cq.1
          | tpd _ _ => cases cq.1
          | scr _ _ => cases cq.1
          | scrK _ => cases cq.1
        · cases cq
    · cases c2
  · rw [if_neg c] at w; exact w.elim
end
end Iv

/-! Iv S: blocks of statements. -/
namespace Iv
open PySem PySem.Spec L2
open PyProof.Rows hiding St
section
variable {cf : Cf} {K : PySem.W.Frag} {W : WC} {m m0 : List Nat} {X : Cx}
theorem snd_seq {s : S} {r : List S} {st : Stmt} {sts : List Stmt} (h1 : PS X st (tS cf X.K W m s)) (h2 : PSs X sts (tSs cf X.K W m r)) : PSs X (st :: sts) (tSs cf X.K W m (s :: r)) :=
  (pss_cons h1 h2).mono' fun D σ H ⟨fm, ρ, sr, w⟩ => by
    refine ⟨fm, ρ, sr, ?_⟩
    have w : StW cf X.K W m fm H D (match run cf s ρ with | .next ρ' => runs cf r ρ' | o => o) := w
    cases e : run cf s ρ with
    | next ρ' =>
      rw [e] at w
      exact fun fm' σ' H' sr' p => ⟨fm', ρ', sr', w.later p⟩
    | ret x => rw [e] at w; exact w
    | brk x => rw [e] at w; exact w
    | cnt x => rw [e] at w; exact w
    | exc c x => rw [e] at w; exact w
    | bad => rw [e] at w; exact w
theorem snd_ifs {c : E} {a b : List S} {ec : Expr} {ea eb : List Stmt} {pos : Pos} (hc : PT X ec (tT cf X.K W c)) (ha : PSs X ea (tSs cf X.K W m a)) (hb : PSs X eb (tSs cf X.K W m b)) : PS X (.If ec ea eb pos) (tS cf X.K W m (.ifs c a b)) :=
  (ps_if hc ha hb).mono' fun D σ H ⟨fm, ρ, sr, w⟩ => by
    refine stW_T sr (show StW cf X.K W m fm H D (((ev cf c ρ).bind asB).st ρ fun r => if r = true then runs cf a ρ else runs cf b ρ) from w) fun r H1 s sr1 w1 => ?_
    cases r with
    | true => rw [if_pos rfl] at w1 ⊢; exact ⟨fm, ρ, sr1, w1.later (Pg.same s)⟩
    | false => rw [if_neg Bool.false_ne_true] at w1 ⊢; exact ⟨fm, ρ, sr1, w1.later (Pg.same s)⟩
/-- what a walk hands out, later -/
theorem VRt.late {fm fm' : Fm} {Hs H1 H : Hp} {x : DT} {v : V} {m : List Nat} {H' : Hp} (p : Pg m fm H1 fm' H') (r : VRt K fm Hs H1 H x v) : VR K fm' Hs H x v := by
  have o : ∀ a, H1 a ≠ none → ∀ j, fm'.O j a → fm.O j a := fun a h j o => by
    rcases p.own j a o with z | z
    · exact z
    · exact absurd z h
  refine Rep.weak (fun a z => ?_) (fun a z => ?_) r
  · refine ⟨z.1.1, fun e => by rw [p.h0]; exact z.1.2.1 e, by rw [p.h0, p.ok]; exact z.1.2.2.1, fun j o' => z.1.2.2.2.1 j (o a z.2 j o'), by rw [p.ban]; exact z.1.2.2.2.2⟩
  · refine ⟨z.1.1, fun e => by rw [p.h0]; exact z.1.2.1 e, by rw [p.h0, p.ok]; exact z.1.2.2.1, fun j o' => z.1.2.2.2.1 j (o a z.2 j o'), by rw [p.ban]; exact z.1.2.2.2.2⟩
theorem snd_for {tg : Tg} {src : Src} {body : List S} {et it : Expr} {b : List Stmt} {pos : Pos} (hp : PassesOwn (model X.prog X.w) X.A X.env X.xe) (hc : X.calm = true) (hm : ∀ j ∈ mutss body, j ∈ m) (hi : PI X et it (tI cf X.K W src)) (hg : PG X et (tG cf X.K tg))
    (hb : PSs X b (tSs cf X.K W (mutss body) body)) (hs : notSet it = true) : PS X (.For et it b [] pos) (tS cf X.K W m (.for tg src body)) :=
  (ps_for hp hc hi hg hb (notSet_fold hs)).mono' fun D σ H ⟨fm, ρ, sr, w⟩ => by
    have w : StW cf X.K W m fm H D ((evSrc cf src ρ).st ρ fun its =>
      if (its.2.all fun j => !(mutss body).contains j) = true then forGo (fun x ρ => match asgTg cf tg x ρ with | some ρ' => runs cf body ρ' | none => .bad) its.1 ρ else .bad) := w
    refine ⟨fm, ρ, sr, ?_⟩
    cases e0 : evSrc cf src ρ with
    | bad => rw [e0] at w; exact w
    | exc c => rw [e0] at w; exact fun H' s => w fm σ H' (sr.same s) (Pg.same s)
    | ok its =>
      rw [e0] at w
      have w : StW cf X.K W m fm H D (if (its.2.all fun j => !(mutss body).contains j) = true then forGo (fun x ρ => match asgTg cf tg x ρ with | some ρ' => runs cf body ρ' | none => .bad) its.1 ρ else .bad) := w
      by_cases hh : (its.2.all fun j => !(mutss body).contains j) = true
      · rw [if_pos hh] at w
        generalize hf : (fun x ρ => match asgTg cf tg x ρ with | some ρ' => runs cf body ρ' | none => O.bad) = f at w
        intro J H1 s io ln
        have IO := io (mutss body) fun j hj hmem => by
          have z := List.all_eq_true.mp hh j hj
          rw [Bool.not_eq_true', ← Bool.not_eq_true, List.contains_iff_mem] at z
          exact z hmem
        have w := (w.less hm).later (Pg.same s)
        refine ⟨fun i n σ' H' => n = its.1.length - i ∧ i ≤ its.1.length ∧ ∃ fm' ρ', SR cf X.K fm' ρ' σ' H' ∧ Pg (mutss body) fm H1 fm' H' ∧ StW cf X.K W (mutss body) fm' H' D (forGo f (its.1.drop i) ρ'),
          ⟨_, rfl, Nat.zero_le _, fm, ρ, sr.same s, Pg.same Same.refl, w⟩, ?_⟩
        rintro i n σ' H' ⟨rfl, hi', fm', ρ', sr', pg, w'⟩
        by_cases hlt : i < its.1.length
        · refine .inr ⟨IO.go i H' pg.kp hlt, fun σ'' H'' => (its.1.length - (i + 1)) = its.1.length - (i + 1) ∧ i + 1 ≤ its.1.length ∧ ∃ fm' ρ', SR cf X.K fm' ρ' σ'' H'' ∧ Pg (mutss body) fm H1 fm' H'' ∧ StW cf X.K W (mutss body) fm' H'' D (forGo f (its.1.drop (i + 1)) ρ'),
            fun σ'' H'' h => ⟨_, by omega, h⟩, fun v H'' y => ?_⟩
          obtain ⟨s2, yv⟩ := IO.yld i H' v H'' pg.kp y
          have hx : its.1[i]? = some its.1[i] := by simp [hlt]
          have rv := yv _ hx
          have hdr : its.1.drop i = its.1[i] :: its.1.drop (i + 1) := List.drop_eq_getElem_cons hlt
          rw [hdr] at w'
          have w' : StW cf X.K W (mutss body) fm' H' D (match f its.1[i] ρ' with
            | .next ρ2 => forGo f (its.1.drop (i + 1)) ρ2
            | .cnt ρ2 => forGo f (its.1.drop (i + 1)) ρ2
            | .brk ρ2 => .next ρ2
            | o => o) := w'
          have w' := w'.later (Pg.same s2)
          have pg2 : Pg (mutss body) fm H1 fm' H'' := pg.trans (Pg.same s2)
          cases e4 : asgTg cf tg its.1[i] ρ' with
          | none =>
            have : f its.1[i] ρ' = .bad := by rw [← hf]; show (match asgTg cf tg its.1[i] ρ' with | some ρ' => runs cf body ρ' | none => O.bad) = _; rw [e4]
            rw [this] at w'
            exact w'.elim
          | some ρ2 =>
            have e5 : f its.1[i] ρ' = runs cf body ρ2 := by rw [← hf]; show (match asgTg cf tg its.1[i] ρ' with | some ρ' => runs cf body ρ' | none => O.bad) = _; rw [e4]
            rw [e5] at w'
            refine ⟨fm', ρ', H, its.1[i], ρ2, sr'.same s2, VRt.late pg rv, e4, fun σ2 sr2 _ => ⟨fm', ρ2, sr2, ?_⟩⟩
            cases e6 : runs cf body ρ2 with
            | next ρ3 =>
              rw [e6] at w'
              exact fun fm3 σ3 H3 sr3 p3 => ⟨rfl, hlt, fm3, ρ3, sr3, pg2.trans p3, w'.later p3⟩
            | cnt ρ3 =>
              rw [e6] at w'
              exact fun fm3 σ3 H3 sr3 p3 => ⟨rfl, hlt, fm3, ρ3, sr3, pg2.trans p3, w'.later p3⟩
            | brk ρ3 =>
              rw [e6] at w'
              exact fun fm3 σ3 H3 sr3 p3 => w' fm3 σ3 H3 sr3 p3
            | ret x => rw [e6] at w'; exact w'
            | exc c ρ3 => rw [e6] at w'; exact w'
            | bad => rw [e6] at w'; exact w'
        · have hei : i = its.1.length := by omega
          subst hei
          rw [List.drop_length] at w'
          exact .inl ⟨IO.stop _ H' pg.kp rfl, w' fm' σ' H' sr' (Pg.same Same.refl)⟩
      · rw [if_neg hh] at w; exact w.elim
theorem snd_whl {c : E} {body : List S} {ec : Expr} {b : List Stmt} {pos : Pos} (hp : PassesOwn (model X.prog X.w) X.A X.env X.xe) (hc : PT X ec (tT cf X.K W c)) (hb : PSs X b (tSs cf X.K W m body)) : PS X (.While ec b [] pos) (tS cf X.K W m (.whl c body)) :=
  (ps_while hp hc hb).mono' fun D σ H ⟨fm, ρ, sr, w⟩ => by
    have w : StW cf X.K W m fm H D (whlGo (fun ρ => (ev cf c ρ).bind asB) (fun ρ => runs cf body ρ) cf.fuel ρ) := w
    refine ⟨fun n σ' H' => ∃ fm' ρ', SR cf X.K fm' ρ' σ' H' ∧ StW cf X.K W m fm' H' D (whlGo (fun ρ => (ev cf c ρ).bind asB) (fun ρ => runs cf body ρ) n ρ'), ⟨_, fm, ρ, sr, w⟩, ?_⟩
    rintro n σ' H' ⟨fm', ρ', sr', w'⟩
    cases n with
    | zero => exact w'.elim
    | succ n =>
      refine stW_T sr' (show StW cf X.K W m fm' H' D (((ev cf c ρ').bind asB).st ρ' fun b => if b = true then match runs cf body ρ' with
        | .next ρ' => whlGo (fun ρ => (ev cf c ρ).bind asB) (fun ρ => runs cf body ρ) n ρ'
        | .cnt ρ' => whlGo (fun ρ => (ev cf c ρ).bind asB) (fun ρ => runs cf body ρ) n ρ'
        | .brk ρ' => .next ρ'
        | o => o
      else .next ρ') from w') fun r H1 s sr1 w1 => ?_
      cases r with
      | true =>
        rw [if_pos rfl] at w1 ⊢
        refine ⟨fun σ'' H'' => ∃ fm'' ρ'', SR cf X.K fm'' ρ'' σ'' H'' ∧ StW cf X.K W m fm'' H'' D (whlGo (fun ρ => (ev cf c ρ).bind asB) (fun ρ => runs cf body ρ) n ρ''), fun σ'' H'' h => ⟨n, Nat.lt_succ_self n, h⟩, fm', ρ', sr1, ?_⟩
        have w1 := w1.later (Pg.same s)
        cases e6 : runs cf body ρ' with
        | next ρ3 => rw [e6] at w1; exact fun fm3 σ3 H3 sr3 p3 => ⟨fm3, ρ3, sr3, w1.later p3⟩
        | cnt ρ3 => rw [e6] at w1; exact fun fm3 σ3 H3 sr3 p3 => ⟨fm3, ρ3, sr3, w1.later p3⟩
        | brk ρ3 => rw [e6] at w1; exact fun fm3 σ3 H3 sr3 p3 => w1 fm3 σ3 H3 sr3 p3
        | ret x => rw [e6] at w1; exact w1
        | exc c ρ3 => rw [e6] at w1; exact w1
        | bad => rw [e6] at w1; exact w1
      | false =>
        rw [if_neg Bool.false_ne_true] at w1 ⊢
        exact w1 fm' σ' H1 sr1 (Pg.same s)
end
mutual
theorem snd_st (g : Gs) (ex : List String) (cf : Cf) (k : Nat) : (s : S) → ∀ {X : Cx} {sc : Scope} {cl : Str → Bool} {W : WC} {m : List Nat} {st : Stmt}, chkS g ex X.N sc cl s st = true → (∀ j ∈ muts s, j ∈ m) → Gx g ex cf k X sc cl W → PS X st (tS cf X.K W m s)
  | .asg i e, X, sc, cl, W, m, st, h, hm, G => by
    unfold chkS at h
    split at h
    · rw [Bool.and_eq_true, Bool.and_eq_true, Bool.and_eq_true] at h
      exact snd_asg G (of_decide_eq_true h.1.1.1) h.1.1.2 h.1.2 h.2
    · cases h
  | .rel i j, X, sc, cl, W, m, st, h, hm, G => by
    unfold chkS at h
    split at h
    · rw [Bool.and_eq_true, Bool.and_eq_true] at h
      exact snd_rel G (of_decide_eq_true h.1.1) h.1.2 h.2
    · cases h
  | .unp tg e, X, sc, cl, W, m, st, h, hm, G => by
    unfold chkS at h
    split at h
    · rw [Bool.and_eq_true, Bool.and_eq_true, Bool.and_eq_true, Bool.and_eq_true] at h
      exact snd_unp G h.1.1.1.1 h.1.1.1.2 h.1.1.2 h.1.2 h.2
    · cases h
  | .seti i ke ve, X, sc, cl, W, m, st, h, hm, G => by
    unfold chkS at h
    split at h
    · rw [Bool.and_eq_true, Bool.and_eq_true, Bool.and_eq_true, Bool.and_eq_true] at h
      exact snd_seti (hm i (by unfold muts; exact List.mem_cons_self)) G h.1.1.1.1 h.1.1.1.2 h.1.1.2 h.1.2 h.2
    · cases h
  | .app i e, X, sc, cl, W, m, st, h, hm, G => by
    unfold chkS at h
    split at h
    · rw [Bool.and_eq_true, Bool.and_eq_true, Bool.and_eq_true, Bool.and_eq_true, decide_eq_true_eq] at h
      obtain ⟨⟨⟨⟨h1, rfl⟩, h3⟩, h4⟩, h5⟩ := h
      exact snd_app (hm i (by unfold muts; exact List.mem_cons_self)) G h1 h3 h4 h5
    · cases h
  | .exs e, X, sc, cl, W, m, st, h, hm, G => by
    unfold chkS at h
    split at h
    · rw [Bool.and_eq_true] at h
      refine (ps_expr (snd_e g cf k e h.1 G.gd).d (notLc_sw h.2)).mono' fun D σ H ⟨fm, ρ, sr, w⟩ => ?_
      exact stW_D sr (show StW cf X.K W m fm H D ((ev cf e ρ).st ρ fun _ => .next ρ) from w) fun x v H1 s sr1 r w1 => w1 fm σ H1 sr1 (Pg.same s)
    · cases h
  | .apx e v, X, sc, cl, W, m, st, h, hm, G => by
    unfold chkS at h
    split at h
    · rw [Bool.and_eq_true, Bool.and_eq_true, Bool.and_eq_true, Bool.and_eq_true, decide_eq_true_eq] at h
      obtain ⟨⟨⟨⟨rfl, h3⟩, h4⟩, h5⟩, h6⟩ := h
      exact snd_apx G h3 h4 h5 h6
    · cases h
  | .ifs c a b, X, sc, cl, W, m, st, h, hm, G => by
    unfold chkS at h
    split at h
    · rw [Bool.and_eq_true, Bool.and_eq_true, Bool.and_eq_true] at h
      have hm : ∀ j ∈ mutss a ++ mutss b, j ∈ m := fun j hj => hm j (by unfold muts; exact hj)
      exact snd_ifs ((snd_e g cf k c h.1.1.1 G.gd).t h.1.1.2) (snd_sts g ex cf k a h.1.2 (fun j hj => hm j (List.mem_append_left _ hj)) G) (snd_sts g ex cf k b h.2 (fun j hj => hm j (List.mem_append_right _ hj)) G)
    · cases h
  | .for tg src body, X, sc, cl, W, m, st, h, hm, G => by
    unfold chkS at h
    split at h
    · rw [Bool.and_eq_true, Bool.and_eq_true, Bool.and_eq_true, Bool.and_eq_true] at h
      obtain ⟨⟨⟨⟨h0, h1⟩, h2⟩, h3⟩, h4⟩ := h
      have h : ((True ∧ True) ∧ True) ∧ True := ⟨⟨⟨trivial, trivial⟩, trivial⟩, trivial⟩
      exact snd_for G.own (G.gd.calm h0) (fun j hj => hm j (by unfold muts; exact hj)) (snd_s g cf k src h2 G.gd) (snd_tg cf G.gd.sc G.gd.nd (G.gd.calm h0) G.gd.fnc h1) (snd_sts g ex cf k body h4 (fun j hj => hj) G) h3
    · cases h
  | .whl c body, X, sc, cl, W, m, st, h, hm, G => by
    unfold chkS at h
    split at h
    · rw [Bool.and_eq_true, Bool.and_eq_true] at h
      exact snd_whl G.own ((snd_e g cf k c h.1.1 G.gd).t h.1.2) (snd_sts g ex cf k body h.2 (fun j hj => hm j (by unfold muts; exact hj)) G)
    · cases h
  | .ret e, X, sc, cl, W, m, st, h, hm, G => by
    unfold chkS at h
    split at h
    · refine (ps_ret (snd_e g cf k e h G.gd).d).mono' fun D σ H ⟨fm, ρ, sr, w⟩ => ?_
      exact stW_D sr (show StW cf X.K W m fm H D ((ev cf e ρ).st ρ fun x => .ret x) from w) fun x v H1 s sr1 r w1 => w1 fm H v H1 sr.at' s r (Pg.same Same.refl)
    · cases h
  | .retn, X, sc, cl, W, m, st, h, hm, G => by
    unfold chkS at h
    split at h
    · exact ps_retN.mono' fun D σ H ⟨fm, ρ, sr, w⟩ => (show StW cf X.K W m fm H D (.ret (pim .non)) from w) fm H .non H sr.at' Same.refl (.imm .non) (Pg.same Same.refl)
    · cases h
  | .rse c, X, sc, cl, W, m, st, h, hm, G => by
    unfold chkS at h
    split at h
    · rw [Bool.and_eq_true, Bool.and_eq_true, decide_eq_true_eq, List.contains_iff_mem] at h
      obtain ⟨⟨rfl, h2⟩, h3⟩ := h
      exact (G.rs h2 (glB_ok h3)).mono' fun D σ H ⟨fm, ρ, sr, w⟩ => (show StW cf X.K W m fm H D (.exc c ρ) from w) fm σ H sr (Pg.same Same.refl)
    · cases h
  | .pas, X, sc, cl, W, m, st, h, hm, G => by
    unfold chkS at h
    split at h
    · exact ps_pass.mono' fun D σ H ⟨fm, ρ, sr, w⟩ => (show StW cf X.K W m fm H D (.next ρ) from w) fm σ H sr (Pg.same Same.refl)
    · exact ps_doc.mono' fun D σ H ⟨fm, ρ, sr, w⟩ => (show StW cf X.K W m fm H D (.next ρ) from w) fm σ H sr (Pg.same Same.refl)
    · cases h
  | .brk, X, sc, cl, W, m, st, h, hm, G => by
    unfold chkS at h
    split at h
    · exact ps_break.mono' fun D σ H ⟨fm, ρ, sr, w⟩ => (show StW cf X.K W m fm H D (.brk ρ) from w) fm σ H sr (Pg.same Same.refl)
    · cases h
  | .cnt, X, sc, cl, W, m, st, h, hm, G => by
    unfold chkS at h
    split at h
    · exact ps_continue.mono' fun D σ H ⟨fm, ρ, sr, w⟩ => (show StW cf X.K W m fm H D (.cnt ρ) from w) fm σ H sr (Pg.same Same.refl)
    · cases h
  | .ext i e, X, sc, cl, W, m, st, h, hm, G => by
    unfold chkS at h
    split at h
    · rw [Bool.and_eq_true, Bool.and_eq_true, Bool.and_eq_true, Bool.and_eq_true, decide_eq_true_eq] at h
      obtain ⟨⟨⟨⟨h1, rfl⟩, h3⟩, h4⟩, h5⟩ := h
      exact snd_ext (hm i (by unfold muts; exact List.mem_cons_self)) G h1 h3 h4 h5
    · cases h
  | .clr i, X, sc, cl, W, m, st, h, hm, G => by
    unfold chkS at h
    split at h
    · rw [Bool.and_eq_true, Bool.and_eq_true, decide_eq_true_eq] at h
      obtain ⟨⟨h1, rfl⟩, h3⟩ := h
      exact snd_clr (hm i (by unfold muts; exact List.mem_cons_self)) G h1 h3
    · cases h
  | .kapp i j e, X, sc, cl, W, m, st, h, hm, G => by
    unfold chkS at h
    split at h
    · rw [Bool.and_eq_true, Bool.and_eq_true, Bool.and_eq_true, Bool.and_eq_true, Bool.and_eq_true, Bool.and_eq_true, decide_eq_true_eq] at h
      obtain ⟨⟨⟨⟨⟨⟨h1, rfl⟩, h3⟩, h4⟩, h5⟩, h6⟩, h7⟩ := h
      exact snd_kapp (hm i (by unfold muts; exact List.mem_cons_self)) G h1 h3 h4 h5 h6 h7
    · cases h
  | .kself i e, X, sc, cl, W, m, st, h, hm, G => by
    unfold chkS at h
    split at h
    · rw [Bool.and_eq_true, Bool.and_eq_true, Bool.and_eq_true, Bool.and_eq_true, decide_eq_true_eq] at h
      obtain ⟨⟨⟨⟨h1, rfl⟩, h3⟩, h4⟩, h5⟩ := h
      exact snd_kself (hm i (by unfold muts; exact List.mem_cons_self)) G h1 h3 h4 h5
    · cases h
  | .kclr i j, X, sc, cl, W, m, st, h, hm, G => by
    unfold chkS at h
    split at h
    · rw [Bool.and_eq_true, Bool.and_eq_true, Bool.and_eq_true, Bool.and_eq_true, decide_eq_true_eq] at h
      obtain ⟨⟨⟨⟨h1, rfl⟩, h3⟩, h4⟩, h5⟩ := h
      exact snd_kclr (hm i (by unfold muts; exact List.mem_cons_self)) G h1 h3 h4 h5
    · cases h
  | .kaps _ _, X, sc, cl, W, m, st, h, hm, G => by
    unfold chkS at h
    cases h
  | .pops t i v src, X, sc, cl, W, m, st, h, hm, G => by
    have him := hm i (by unfold muts; exact List.mem_cons_self)
    cases t with
    | none =>
      cases st with
      | Return e pos =>
        cases e with
        | some e => exact snd_popr him G h
        | none => cases h
      | _ => cases h
    | some j =>
      cases st with
      | Assign ts e pos =>
        match ts, h with
        | [.Name y p0], h =>
          have h : (decide (X.N[j]? = some y) && locB sc cl y && popsB g X.N sc cl i v src e && (sc.kind == .function)) = true := h
          rw [Bool.and_eq_true, Bool.and_eq_true, Bool.and_eq_true, decide_eq_true_eq] at h
          obtain ⟨⟨⟨h1, h2⟩, h3⟩, h4⟩ := h
          exact snd_popa him G h1 h2 h3 h4
      | _ => cases h
  | .try b hs, X, sc, cl, W, m, st, h, hm, G => by
    unfold chkS at h
    split at h
    · rename_i body hd hds pos
      rw [Bool.and_eq_true] at h
      have hm : ∀ j ∈ mutss b ++ mutsh hs, j ∈ m := fun j hj => hm j (by unfold muts; exact hj)
      obtain ⟨k1, k2⟩ := snd_hs g ex cf k hs h.2 (fun j hj => hm j (List.mem_append_right _ hj)) G
      have k2 := k2 (by intro z; cases z)
      have A := G.gd.xa k2.1
      refine (ps_tryX (tb := fun W' D σ H => ∃ Wb : WC, (∀ cls d σ H, WX' X.mg Wb cls d σ H → W' cls d σ H) ∧ tSs cf X.K Wb m b D σ H) G.st G.fr G.gd.tk (fun W' pn xe tk' own' => ?_) k1).mono' fun D σ H ⟨fm, ρ, sr, w⟩ => ?_
      · refine ⟨fun pins s σ H D I ⟨Wb, q1, q2⟩ => ?_⟩
        have G' : Gx g [] cf k (X.tr pn xe) sc cl Wb := ⟨⟨G.gd.sc, G.gd.nd, G.gd.room, G.gd.un, G.gd.calm, G.gd.fnc, tk'.imp fun c d σ H h => q1 c d σ H h, G.gd.stk, G.gd.fn, G.gd.bl, G.gd.cs, G.gd.xa, G.gd.fm⟩, own', fun _ h => (nomatch h), fun h => absurd rfl h, G.st, G.fr⟩
        exact (snd_sts g [] cf k b (X := X.tr pn xe) h.1 (fun j hj => hm j (List.mem_append_left _ hj)) G').run pins s σ H D I q2
      · refine ⟨Wtry cf X.K W m D hs, ?_, fm, ρ, sr, try_rd w⟩
        rintro cls d σ' H' ⟨rfl, c, C, rfl, hmg, hc, fm', ρ', sr', w'⟩
        obtain ⟨e1, F⟩ := A.at' hc hmg
        exact ⟨rfl, c, C, rfl, e1, clx_rd F e1 sr' k2.2 (fun z => ⟨rfl, c, C, rfl, hmg, z⟩) w'⟩
    · cases h
theorem snd_sts (g : Gs) (ex : List String) (cf : Cf) (k : Nat) : (s : List S) → ∀ {X : Cx} {sc : Scope} {cl : Str → Bool} {W : WC} {m : List Nat} {st : List Stmt}, chkSs g ex X.N sc cl s st = true → (∀ j ∈ mutss s, j ∈ m) → Gx g ex cf k X sc cl W → PSs X st (tSs cf X.K W m s)
  | [], X, sc, cl, W, m, st, h, hm, G => by
    unfold chkSs at h
    split at h
    · exact pss_nil.mono' fun D σ H ⟨fm, ρ, sr, w⟩ => (show StW cf X.K W m fm H D (.next ρ) from w) fm σ H sr (Pg.same Same.refl)
    · cases h
  | s :: r, X, sc, cl, W, m, st, h, hm, G => by
    unfold chkSs at h
    have hm : ∀ j ∈ muts s ++ mutss r, j ∈ m := fun j hj => hm j (by unfold mutss; exact hj)
    split at h
    · rename_i i l r' e
      cases e
      rw [Bool.and_eq_true] at h
      exact snd_kaps (hm i (List.mem_append_left _ (by unfold muts; exact List.mem_cons_self))) G h.1 (snd_sts g ex cf k r h.2 (fun j hj => hm j (List.mem_append_right _ hj)) G)
    · rename_i e
      cases e
    · rename_i s' r' _ e
      cases e
      split at h
      · rw [Bool.and_eq_true] at h
        exact snd_seq (snd_st g ex cf k s h.1 (fun j hj => hm j (List.mem_append_left _ hj)) G) (snd_sts g ex cf k r h.2 (fun j hj => hm j (List.mem_append_right _ hj)) G)
      · cases h
theorem snd_hs (g : Gs) (ex : List String) (cf : Cf) (k : Nat) : (hs : List (List String × Nat × List S)) → ∀ {X : Cx} {sc : Scope} {cl : Str → Bool} {W : WC} {m : List Nat} {hds : List ExceptHandler}, chkHs g X.N sc cl hs hds = true → (∀ j ∈ mutsh hs, j ∈ m) → Gx g ex cf k X sc cl W →
    HdsX X hds (hs.map (clxOf cf X.K X.mg m)) ∧ (hds ≠ [] → g.ts ≠ [] ∧ ∀ h ∈ hs, ∀ t ∈ h.1, t ∈ g.ts)
  | [], X, sc, cl, W, m, hds, h, hm, G => by
    unfold chkHs at h
    split at h
    · exact ⟨.nil, fun z => absurd rfl z⟩
    · cases h
  | (ts, n, s) :: r, X, sc, cl, W, m, hds, h, hm, G => by
    unfold chkHs at h
    split at h
    · rename_i te nm b su pos hds'
      rw [Bool.and_eq_true, Bool.and_eq_true, Bool.and_eq_true] at h
      obtain ⟨⟨⟨h1, h2⟩, h3⟩, h4⟩ := h
      have hm : ∀ j ∈ mutss s ++ mutsh r, j ∈ m := fun j hj => hm j (by unfold mutsh; exact hj)
      obtain ⟨t1, t2, t3⟩ := tst_ok G.gd h1
      obtain ⟨r1, r2⟩ := snd_hs g ex cf k r h4 (fun j hj => hm j (List.mem_append_right _ hj)) G
      have su' : ∀ (a : Addr) (pn : List (Addr × Obj)), PSs (X.suite a pn) (b :: su) (tSs cf X.K W0 m s) := fun a pn => snd_sts { g with calm := false } [] cf k s (X := X.suite a pn) h3 (fun j hj => hm j (List.mem_append_left _ hj)) (G.sui a pn)
      refine ⟨?_, fun _ => ⟨t2, fun h hmem t ht => ?_⟩⟩
      · unfold nameB at h2
        split at h2
        · exact .none t3 su' r1
        · rename_i i x
          rw [Bool.and_eq_true, decide_eq_true_eq] at h2
          exact .name G.gd.nd h2.1 (show X.env.scope.names.lookup _ = _ by rw [G.gd.sc]; exact eq_of_beq h2.2) t3 su' r1
        · cases h2
      · rcases List.mem_cons.mp hmem with rfl | hmem
        · exact t1 t ht
        · cases hds' with
          | nil =>
            cases r with
            | nil => cases hmem
            | cons q r => unfold chkHs at h4; cases h4
          | cons q qs => exact (r2 (by intro z; cases z)).2 h hmem t ht
    · cases h
end
end Iv

/-! Iv T: defs, and all defs of a program. -/
namespace Iv
open PySem PySem.Spec L2
open PyProof.Rows hiding St

structure Df where
  name : String
  st : Stmt
  N : List Str
  ps : List Str
  cls : List Cls
  fuel : Nat
  body : List S
/-- what the defs compute, at a depth of calls -/
noncomputable def Fn (ds : List Df) (X : Nat → String → List D → M (D × Bool)) : Nat → String → List D → M (D × Bool)
  | 0, _, _ => .bad
  | k + 1, f, xs => match ds.find? (·.name == f) with
    | some d => callD ⟨Fn ds X k, d.cls, d.fuel⟩ d.N.length d.body xs
    | none => X (k + 1) f xs
def clsOk (cls : List Cls) : Bool := cls.all fun c => match c with | .vw k => decide (cls.getD k .old = .ex) | _ => true
theorem clsOk_vw {cls : List Cls} {F : String → List D → M (D × Bool)} {fuel : Nat} (h : clsOk cls = true) : Cf.vwOk ⟨F, cls, fuel⟩ := fun i k e => by
  have e : cls.getD i .old = .vw k := e
  by_cases hi : i < cls.length
  · have z := List.all_eq_true.mp h cls[i] (List.getElem_mem hi)
    rw [List.getD_eq_getElem?_getD, List.getElem?_eq_getElem hi] at e
    have e : cls[i] = .vw k := e
    rw [e] at z
    exact of_decide_eq_true z
  · rw [List.getD_eq_getElem?_getD, List.getElem?_eq_none (by omega)] at e
    cases e
section
variable {P : Program} {w : World} {K : PySem.W.Frag} {mg : Str → Option Value} {base : Heap}
def OkAt (P : Program) (w : World) (K : PySem.W.Frag) (mg : Str → Option Value) (base : Heap) (k : Nat) (f : String) (n : Nat) (φ : List D → M (D × Bool)) : Prop :=
  ∃ fa fd ps, mg (f : Str) = some (.ref fa) ∧ PySem.W.keepIn K (.ref fa) = true ∧ Binds K fd ps [] ∧ ps.length = n ∧ FnOk P w K mg base (L2.CX P w) k fa fd ps (spD K mg n φ)
def OkM (P : Program) (w : World) (K : PySem.W.Frag) (mg : Str → Option Value) (base : Heap) (k : Nat) (f : String) (φ : List D → M (D × Bool)) : Prop :=
  ∃ fa fd ps, mg (f : Str) = some (.ref fa) ∧ PySem.W.keepIn K (.ref fa) = true ∧ Binds K fd ps [] ∧ ps.length = 3 ∧ FnOk P w K mg base (L2.CX P w) k fa fd ps (spM K φ)
theorem start_get {ds : List D} {vs : List V} {n : Nat} {i : Nat} {d : D} {K : PySem.W.Frag} {H : Hp} {p q : AP'} (h : Paired (Rep K H p q) ds vs) (e : (ds.map some ++ List.replicate n (none : Option D))[i]? = some (some d)) : ∃ v, vs[i]? = some v ∧ Rep K H p q d v := by
  induction h generalizing i with
  | nil =>
    rw [List.map_nil, List.nil_append] at e
    obtain ⟨_, e⟩ := List.getElem?_eq_some_iff.mp e
    simp at e
  | @cons d' v' ds vs h r ih =>
    cases i with
    | zero => cases e; exact ⟨_, rfl, h⟩
    | succ i => exact ih e
def Cf.dflt (F : String → List D → M (D × Bool)) (cls : List Cls) (fuel : Nat) : Cf := ⟨F, cls, fuel⟩
/-- a def holds its promise -/
theorem fn_iv {x : Str} {st : Stmt} {f : Addr} {fd : FuncData} {N ps : List Str} {k n : Nat} {g : Gs} {ex : List String} {F : String → List D → M (D × Bool)} {cls : List Cls} {fuel : Nat} {body : List S}
    (FF : L2.Fun K x x st f fd) (S : FnScope N ps (defScope st)) (hn : ps.length = n) (hps : n ≤ N.length) (hcl : ∀ i < n, (Cf.dflt F cls fuel).cl i = .old)
    (hck : chkSs g ex N (defScope st) (fun _ => true) body (defBody st) = true)
    (hfn : ∀ f n, (f, n) ∈ g.funs → OkAt P w K mg base k f n (F f))
    (hmf : ∀ f, f ∈ g.mf → OkM P w K mg base k f (F f))
    (hbl : ∀ b ∈ bltAll, mg (b : Str) = none)
    (hcs : ∀ x c, (x, c) ∈ g.consts → ∃ u v i, mg (x : Str) = some u ∧ RelV v u ∧ ofConst c = some i ∧ ∀ H, RepI K H i v)
    (hex : ∀ c ∈ ex, ExOk K mg c) (hcm : g.calm = true) (hvw : clsOk cls = true) (hxa : g.ts ≠ [] → XAll K mg g.ts) :
    FnOk P w K mg base (L2.CX P w) (k + 1) f fd ps (spD K mg n (fun ds => callD (Cf.dflt F cls fuel) N.length body ds)) := by
  refine FF.okX S (fun vs H Q E h => h.len.trans hn.symm) (fun cdv A outer s H vs Q E hr h => ?_)
  obtain ⟨ok, ds, hp, hl, hφ⟩ := h
  let cf := Cf.dflt F cls fuel
  let W : WC := fun c _ H' => ∀ C, mg c = some (.ref C) → E (.ref C) none H'
  have tk : TakesA (cxOf (L2.CX P w) P w K mg base N (x : Str) (defScope st) f cdv A outer s H E) (fun cls d _ H => E cls d H) := takesA_of rfl rfl rfl rfl
  have G : Gx g ex cf k (cxOf (L2.CX P w) P w K mg base N (x : Str) (defScope st) f cdv A outer s H E) (defScope st) (fun _ => true) W := by
    refine ⟨⟨rfl, S.nd, fun _ => hr, room65 hr, fun _ => rfl, fun _ _ => rfl, tk.imp fun cls d σ H' h => ?_, ⟨_, _, _, rfl, rfl, rfl⟩, fun f n hm => ?_, hbl, hcs, hxa, fun f hm => ?_⟩, passes_of rfl, hex, fun _ => hcm, rfl, rfl⟩
    · obtain ⟨rfl, c, C, rfl, hC, hW⟩ := h
      exact hW C hC
    · obtain ⟨fa, fd, ps, h1, h2, h3, h4, h5⟩ := hfn f n hm
      exact ⟨fa, fd, ps, h1, h2, h3, h4, h5⟩
    · obtain ⟨fa, fd, ps, h1, h2, h3, h4, h5⟩ := hmf f hm
      exact ⟨fa, fd, ps, h1, h2, h3, h4, h5⟩
  have body_ok := snd_sts g ex cf k body (m := mutss body) hck (fun j hj => hj) G
  refine ⟨_, body_ok, ?_⟩
  let fm : Fm := ⟨H, ok, fun _ _ => False, fun _ => False⟩
  refine ⟨fm, ds.map some ++ List.replicate (N.length - ds.length) none, ?_, ?_⟩
  · have hlv : ds.length = vs.length := Paired.length hp
    refine ⟨?_, ⟨Same.refl, fun _ _ _ o _ => o.elim, fun _ _ o => o.elim, fun _ _ o => o.elim, fun _ _ o => o.elim, fun _ b => b.elim⟩, fun i d e => ?_, clsOk_vw hvw⟩
    · unfold L2.start
      simp [hlv]
    · obtain ⟨v, hv, r⟩ := start_get hp e
      have hi : i < n := by
        have := (List.getElem?_eq_some_iff.mp hv).1
        omega
      refine ⟨v, ?_, ?_⟩
      · unfold L2.start
        rw [List.getElem?_append_left (by rw [List.length_map]; exact (List.getElem?_eq_some_iff.mp hv).1), List.getElem?_map, hv]
        rfl
      · rw [hcl i hi]
        exact Rep.weak (fun a z => ⟨.inl z, fun _ o => o, fun o => o⟩) (fun a z => ⟨.inl z, fun _ o => o, fun o => o⟩) r
  · have hφ : (match callD cf N.length body ds with
      | .ok (d, nw) => ∀ v H', Same H H' → Rep K H' (fun a => (nw = false ∧ ok a) ∨ H a = none) (fun a => (nw = false ∧ ok a) ∨ H a = none) d v → Q v H'
      | .exc c => ∀ C H', mg c = some (.ref C) → Same H H' → E (.ref C) none H'
      | .bad => False) := hφ
    unfold callD at hφ
    show StW cf K W (mutss body) fm H _ (runs cf body (ds.map some ++ List.replicate (N.length - ds.length) none))
    cases e : runs cf body (ds.map some ++ List.replicate (N.length - ds.length) none) with
    | next ρ =>
      rw [e] at hφ
      exact fun fm' σ' H' sr p => hφ .non H' (by have := sr.at'.same; rw [p.h0] at this; exact this) (.imm .non)
    | ret y =>
      rw [e] at hφ
      intro fm' Hs v H' f s r p
      have sm : Same H H' := by have := f.same.trans s; rw [p.h0] at this; exact this
      refine hφ v H' sm ?_
      obtain ⟨d, t⟩ := y
      have cs : ∀ a, ((t.lv ≤ 1 → fm'.H0 a = none) ∧ (fm'.ok0 a ∨ fm'.H0 a = none)) → (decide (t.lv ≤ 1) = false ∧ ok a) ∨ H a = none := fun a z => by
        rw [p.h0, p.ok] at z
        by_cases h : t.lv ≤ 1
        · exact .inr (z.1 h)
        · rcases z.2 with z | z
          · exact .inl ⟨decide_eq_false h, z⟩
          · exact .inr z
      cases d with
      | imm i => exact .imm (rep_imm r)
      | _ => exact Rep.weak (fun a z => cs a ⟨z.2.1, z.2.2.1⟩) (fun a z => cs a ⟨z.2.1, z.2.2.1⟩) r
    | brk ρ => rw [e] at hφ; exact hφ.elim
    | cnt ρ => rw [e] at hφ; exact hφ.elim
    | exc c ρ =>
      rw [e] at hφ
      exact fun fm' σ' H' sr p C hC => hφ C H' hC (by have := sr.at'.same; rw [p.h0] at this; exact this)
    | bad => rw [e] at hφ; exact hφ.elim
/-- what is known of a def of the text -/
structure DfOk (K : PySem.W.Frag) (mg : Str → Option Value) (g : Gs) (ex : List String) (d : Df) : Prop where
  fn : ∃ (nm : Str) (fa : Addr) (fd : FuncData), L2.Fun K nm nm d.st fa fd ∧ mg (d.name : Str) = some (.ref fa) ∧ Binds K fd d.ps []
  sc : FnScope d.N d.ps (defScope d.st)
  ln : d.ps.length ≤ d.N.length
  old : ∀ i < d.ps.length, d.cls.getD i .old = .old
  ck : chkSs g ex d.N (defScope d.st) (fun _ => true) d.body (defBody d.st) = true
  vw : clsOk d.cls = true
theorem FnOk0 {f : Addr} {fd : FuncData} {ps : List Str} {n : Nat} (hl : ps.length = n) : FnOk P w K mg base (L2.CX P w) 0 f fd ps (spD K mg n fun _ => .bad) :=
  ⟨fun vs H Q E h => h.len.trans hl.symm, fun _ _ _ _ _ _ _ _ _ _ _ _ _ h => by obtain ⟨_, _, _, _, h⟩ := h; exact h.elim⟩
/-- a function that is proved apart: it holds at each depth where all others hold one less deep -/
def OutOk (P : Program) (w : World) (K : PySem.W.Frag) (mg : Str → Option Value) (base : Heap) (ds : List Df) (X : Nat → String → List D → M (D × Bool)) (g : Gs) (f : String) (n : Nat) : Prop :=
  ∃ fa fd ps, mg (f : Str) = some (.ref fa) ∧ PySem.W.keepIn K (.ref fa) = true ∧ Binds K fd ps [] ∧ ps.length = n ∧
    ∀ k, (∀ k', k' ≤ k → ∀ f' n', (f', n') ∈ g.funs → OkAt P w K mg base k' f' n' (Fn ds X k' f')) → FnOk P w K mg base (L2.CX P w) (k + 1) fa fd ps (spD K mg n (X (k + 1) f))
/-- a def that changes a list made for it, proved apart -/
def OutM (P : Program) (w : World) (K : PySem.W.Frag) (mg : Str → Option Value) (base : Heap) (ds : List Df) (X : Nat → String → List D → M (D × Bool)) (g : Gs) (f : String) : Prop :=
  ∃ fa fd ps, mg (f : Str) = some (.ref fa) ∧ PySem.W.keepIn K (.ref fa) = true ∧ Binds K fd ps [] ∧ ps.length = 3 ∧
    ∀ k, (∀ k', k' ≤ k → ∀ f' n', (f', n') ∈ g.funs → OkAt P w K mg base k' f' n' (Fn ds X k' f')) → FnOk P w K mg base (L2.CX P w) (k + 1) fa fd ps (spM K (X (k + 1) f))
theorem FnM0 {f : Addr} {fd : FuncData} {ps : List Str} (hl : ps.length = 3) : FnOk P w K mg base (L2.CX P w) 0 f fd ps (spM K fun _ => .bad) :=
  ⟨fun vs H Q E h => by obtain ⟨_, _, _, _, _, rfl, _⟩ := h; exact hl.symm, fun _ _ _ _ _ _ _ _ _ _ _ _ _ h => by obtain ⟨_, _, _, _, _, _, _, _, _, _, h⟩ := h; exact h.elim⟩
theorem outM_at {ds : List Df} {X : Nat → String → List D → M (D × Bool)} {g : Gs} {f : String} {k : Nat} (h0 : ds.find? (·.name == f) = none) (o : OutM P w K mg base ds X g f) (ih : ∀ k', k' < k → ∀ f' n', (f', n') ∈ g.funs → OkAt P w K mg base k' f' n' (Fn ds X k' f')) : OkM P w K mg base k f (Fn ds X k f) := by
  obtain ⟨fa, fd, ps, h1, h2, h3, h4, h5⟩ := o
  refine ⟨fa, fd, ps, h1, h2, h3, h4, ?_⟩
  cases k with
  | zero => exact FnM0 h4
  | succ k =>
    have e : Fn ds X (k + 1) f = X (k + 1) f := by
      funext xs
      show (match ds.find? (·.name == f) with | some d => callD ⟨Fn ds X k, d.cls, d.fuel⟩ d.N.length d.body xs | none => X (k + 1) f xs) = _
      rw [h0]
    rw [e]
    exact h5 k fun k' hk => ih k' (by omega)
theorem prog_ok {ds : List Df} {X : Nat → String → List D → M (D × Bool)} {g : Gs} {ex : List String} (hd : ∀ d ∈ ds, DfOk K mg g ex d) (hbl : ∀ b ∈ bltAll, mg (b : Str) = none)
    (hcs : ∀ x c, (x, c) ∈ g.consts → ∃ u v i, mg (x : Str) = some u ∧ RelV v u ∧ ofConst c = some i ∧ ∀ H, RepI K H i v) (hex : ∀ c ∈ ex, ExOk K mg c) (hcm : g.calm = true) (hxa : g.ts ≠ [] → XAll K mg g.ts)
    (hg : ∀ f n, (f, n) ∈ g.funs → (∃ d, ds.find? (·.name == f) = some d ∧ d.ps.length = n) ∨ (ds.find? (·.name == f) = none ∧ OutOk P w K mg base ds X g f n))
    (hmo : ∀ f, f ∈ g.mf → ds.find? (·.name == f) = none ∧ OutM P w K mg base ds X g f) : ∀ k f n, (f, n) ∈ g.funs → OkAt P w K mg base k f n (Fn ds X k f) := by
  intro k
  induction k using Nat.strongRecOn with
  | _ k ih0 =>
  cases k with
  | zero =>
    intro f n hm
    rcases hg f n hm with ⟨d, h1, h2⟩ | ⟨_, fa, fd, ps, h1, h2, h3, h4, _⟩
    · have hmem := List.mem_of_find?_eq_some h1
      have hnm := List.find?_some h1
      have hnm : (d.name == f) = true := hnm
      cases eq_of_beq hnm
      obtain ⟨nm, fa, fd, FF, hmg, hb⟩ := (hd d hmem).fn
      exact ⟨fa, fd, d.ps, hmg, FF.kp, hb, h2, FnOk0 h2⟩
    · exact ⟨fa, fd, ps, h1, h2, h3, h4, FnOk0 h4⟩
  | succ k =>
    have ih := ih0 k (Nat.lt_succ_self k)
    intro f n hm
    rcases hg f n hm with ⟨d, h1, h2⟩ | ⟨h0, fa, fd, ps, h1, h2, h3, h4, h5⟩
    · have hmem := List.mem_of_find?_eq_some h1
      have hnm := List.find?_some h1
      have hnm : (d.name == f) = true := hnm
      cases eq_of_beq hnm
      obtain ⟨⟨nm, fa, fd, FF, hmg, hb⟩, S, ln, hold, ck, vw⟩ := hd d hmem
      refine ⟨fa, fd, d.ps, hmg, FF.kp, hb, h2, ?_⟩
      have q := fn_iv (P := P) (w := w) (base := base) (k := k) (F := Fn ds X k) (cls := d.cls) (fuel := d.fuel) FF S h2 (h2 ▸ ln) (fun i hi => hold i (h2 ▸ hi)) ck ih (fun f hf => outM_at (hmo f hf).1 (hmo f hf).2 fun k' hk => ih0 k' (by omega)) hbl hcs hex hcm vw hxa
      have e : Fn ds X (k + 1) d.name = fun xs => callD (Cf.dflt (Fn ds X k) d.cls d.fuel) d.N.length d.body xs := by
        funext xs
        show (match ds.find? (·.name == d.name) with | some d => callD ⟨Fn ds X k, d.cls, d.fuel⟩ d.N.length d.body xs | none => X (k + 1) d.name xs) = _
        rw [h1]
        rfl
      rw [e]
      exact q
    · refine ⟨fa, fd, ps, h1, h2, h3, h4, ?_⟩
      have e : Fn ds X (k + 1) f = X (k + 1) f := by
        funext xs
        show (match ds.find? (·.name == f) with | some d => callD ⟨Fn ds X k, d.cls, d.fuel⟩ d.N.length d.body xs | none => X (k + 1) f xs) = _
        rw [h0]
      rw [e]
      exact h5 k fun k' hk => ih0 k' (by omega)
end
end Iv

/-! Iv U: a law's own end. -/
namespace Iv
open PySem PySem.Spec L2
open PyProof.Rows hiding St
section
variable {K : PySem.W.Frag} {mg : Str → Option Value} {t : String} {C T : Addr} {b : Bool}
theorem x_exm (hT : mg (t : Str) = some (.ref T)) (h1 : PySem.W.subIn K (.ref T) (.type "BaseException") = some true) (h2 : PySem.W.hasDictIn K T = true) (h3 : PySem.W.typeIn K (.ref T) = some (.type "type")) (h4 : PySem.W.subIn K (.ref C) (.ref T) = some b) : PySem.W.exmOne K (.ref C) (clsV mg t) = some b := by
  unfold clsV
  rw [hT]
  exact PySem.W.exm_ref h1 h2 h3 h4
theorem kitCls_of {c v : Value} (h : PySem.W.exmOne K c v = some b) : PySem.W.kitCls K c v = some b := by
  unfold PySem.W.exmOne at h
  split at h
  · exact h
  · cases h
theorem x_kit (hT : mg (t : Str) = some (.ref T)) (h1 : PySem.W.subIn K (.ref T) (.type "BaseException") = some true) (h2 : PySem.W.hasDictIn K T = true) (h3 : PySem.W.typeIn K (.ref T) = some (.type "type")) (h4 : PySem.W.subIn K (.ref C) (.ref T) = some b) (h5 : PySem.W.subIn K (.ref C) (.ref C) = some true) : PySem.W.kitOne K (.ref C) (clsV mg t) = some b := by
  have e := kitCls_of (x_exm (t := t) hT h1 h2 h3 h4)
  unfold PySem.W.kitOne
  split
  · rename_i q
    unfold clsV at q
    rw [hT] at q
    have q : C = T := Value.ref.inj (eq_of_beq q)
    subst q
    rw [h5] at h4
    exact h4
  · exact e
theorem x_exmV (hT : mg ("ValueError" : Str) = none) (h4 : PySem.W.subIn K (.ref C) (.type "ValueError") = some true) : PySem.W.exmOne K (.ref C) (clsV mg "ValueError") = some true := by
  have e : clsV mg "ValueError" = .type "ValueError" := by unfold clsV; rw [hT]
  rw [e]
  unfold PySem.W.exmOne
  have e1 : PySem.W.subIn K (.type "ValueError") (.type "BaseException") = (PySem.fastBuiltinMro "ValueError").map (·.contains (.type "BaseException")) := rfl
  rw [e1, if_pos (by decide +kernel)]
  unfold PySem.W.kitCls
  show (if PySem.W.kitMeta "ValueError" = true then PySem.W.subIn K (.ref C) (.type "ValueError") else none) = some true
  rw [if_pos (by decide +kernel)]
  exact h4
theorem x_kitV (hT : mg ("ValueError" : Str) = none) (h4 : PySem.W.subIn K (.ref C) (.type "ValueError") = some true) : PySem.W.kitOne K (.ref C) (clsV mg "ValueError") = some true := by
  have e := kitCls_of (x_exmV hT h4)
  unfold PySem.W.kitOne
  split
  · rfl
  · exact e
end
section
variable {P : Program} {w : World} {K : PySem.W.Frag} {mg : Str → Option Value} {base : Heap}
def spLaw (K : PySem.W.Frag) : Sp := fun vs H Q _ => ∃ (a : Addr) (ns : List Int), vs = [.ref a] ∧ SqL K H a (ns.map V.int) ∧ ns.length ≤ 63 ∧ (∀ z ∈ ns, Builtin.Int.intBits z ≤ 1048576) ∧ ∀ H', Q (.bl true) H'
theorem spLaw_D {φ : List D → M (D × Bool)} (hφ : ∀ ns : List Int, ns.length ≤ 63 → (∀ z ∈ ns, Builtin.Int.intBits z ≤ 1048576) → ∃ b, φ [.scr ns] = .ok (.imm (.bl true), b)) {vs : List V} {H : Hp} {Q : VK} {E : XK} (h : spLaw K vs H Q E) : spD K mg 1 φ vs H Q E := by
  obtain ⟨a, ns, rfl, hS, hl, hb, q⟩ := h
  have r : Rep K H (fun _ => True) (fun _ => True) (.scr ns) (.ref a) := by
    rcases hS with h | h
    · exact .scr trivial h
    · exact .scrK fun H' => .inr h
  obtain ⟨b, e⟩ := hφ ns hl hb
  refine ⟨fun _ => True, [.scr ns], .cons r .nil, rfl, ?_⟩
  rw [e]
  intro v H' _ rv
  have e : v = .bl true := repI_bl (rep_imm rv)
  subst e
  exact q H'
theorem law_fn {ds : List Df} {X : Nat → String → List D → M (D × Bool)} {g : Gs} {ex : List String} {k : Nat} {x : Str} {fa : Addr} {fd : FuncData} {d : Df}
    (hd : ∀ d ∈ ds, DfOk K mg g ex d) (hbl : ∀ b ∈ bltAll, mg (b : Str) = none)
    (hcs : ∀ x c, (x, c) ∈ g.consts → ∃ u v i, mg (x : Str) = some u ∧ RelV v u ∧ ofConst c = some i ∧ ∀ H, RepI K H i v) (hex : ∀ c ∈ ex, ExOk K mg c) (hcm : g.calm = true) (hxa : g.ts ≠ [] → XAll K mg g.ts)
    (hg : ∀ f n, (f, n) ∈ g.funs → (∃ d, ds.find? (·.name == f) = some d ∧ d.ps.length = n) ∨ (ds.find? (·.name == f) = none ∧ OutOk P w K mg base ds X g f n)) (hm : ∀ f, f ∈ g.mf → ds.find? (·.name == f) = none ∧ OutM P w K mg base ds X g f) (hdk : DfOk K mg g ex d) (FF : L2.Fun K (d.name : Str) (d.name : Str) d.st fa fd) (hps : d.ps = [x])
    (hφ : ∀ ns : List Int, ns.length ≤ 63 → (∀ z ∈ ns, Builtin.Int.intBits z ≤ 1048576) → ∃ b, callD (Cf.dflt (Fn ds X k) d.cls d.fuel) d.N.length d.body [.scr ns] = .ok (.imm (.bl true), b)) :
    FnOk P w K mg base (L2.CX P w) (k + 1) fa fd [x] (spLaw K) := by
  have hl : d.ps.length = 1 := by rw [hps]; rfl
  have q := fn_iv (P := P) (w := w) (base := base) (k := k) (n := 1) (F := Fn ds X k) (cls := d.cls) (fuel := d.fuel) FF hdk.sc hl (hl ▸ hdk.ln) (fun i hi => hdk.old i (hl ▸ hi)) hdk.ck (prog_ok hd hbl hcs hex hcm hxa hg hm k) (fun f hf => outM_at (hm f hf).1 (hm f hf).2 fun k' _ => prog_ok hd hbl hcs hex hcm hxa hg hm k') hbl hcs hex hcm hdk.vw hxa
  rw [hps] at q
  exact q.imp fun vs H Q E h => spLaw_D hφ h
end
end Iv

/-! Iv V: reckoning by rules. -/
namespace Iv
open PySem PySem.Spec L2

def M.sat {α : Type} (m : M α) (Ex : String → Prop) (Q : α → Prop) : Prop := match m with
  | .ok a => Q a
  | .exc c => Ex c
  | .bad => False
def O.sat (o : O) (Ex : String → Prop) (Q : O → Prop) : Prop := match o with
  | .bad => False
  | .exc c _ => Ex c
  | o => Q o
/-- nothing is raised -/
abbrev N0 : String → Prop := fun _ => False
variable {Ex : String → Prop}
section
variable {α β : Type} {m : M α} {Q : α → Prop}
theorem sat_ok {a : α} : (M.ok a).sat Ex Q = Q a := (rfl)
theorem sat_bad : (M.bad : M α).sat Ex Q = False := (rfl)
theorem sat_exc {c : String} : (M.exc c : M α).sat Ex Q = Ex c := (rfl)
theorem sat_bind {f : β → M α} {m : M β} : (m.bind f).sat Ex Q = m.sat Ex fun b => (f b).sat Ex Q := by cases m <;> rfl
theorem sat_ite {c : Prop} [Decidable c] {a b : M α} : (if c then a else b).sat Ex Q = if c then a.sat Ex Q else b.sat Ex Q := by split <;> rfl
theorem sat_iteb {c : Prop} [Decidable c] {a : M α} : (if c then a else M.bad).sat Ex Q ↔ c ∧ a.sat Ex Q := by
  split
  · exact ⟨fun h => ⟨by assumption, h⟩, fun h => h.2⟩
  · exact ⟨fun h => h.elim, fun h => absurd h.1 (by assumption)⟩
theorem sat_mono {Q' : α → Prop} (h : m.sat Ex Q) (q : ∀ a, Q a → Q' a) : m.sat Ex Q' := by
  cases m with
  | ok a => exact q a h
  | exc c => exact h
  | bad => exact h
theorem sat_calm {m : M α} : m.calm.sat Ex Q = m.sat N0 Q := by cases m <;> rfl
theorem sat_eq {a : α} (h : m.sat N0 (· = a)) : m = .ok a := by
  cases m with
  | ok b => exact congrArg M.ok h
  | exc c => exact h.elim
  | bad => exact h.elim
theorem sat_ex (h : m.sat N0 Q) : ∃ a, m = .ok a ∧ Q a := by
  cases m with
  | ok b => exact ⟨b, rfl, h⟩
  | exc c => exact h.elim
  | bad => exact h.elim
end
section
variable {Q : O → Prop} {o : O}
theorem osat_next {ρ : Env} : (O.next ρ).sat Ex Q = Q (.next ρ) := (rfl)
theorem osat_ret {x : DT} : (O.ret x).sat Ex Q = Q (.ret x) := (rfl)
theorem osat_brk {ρ : Env} : (O.brk ρ).sat Ex Q = Q (.brk ρ) := (rfl)
theorem osat_cnt {ρ : Env} : (O.cnt ρ).sat Ex Q = Q (.cnt ρ) := (rfl)
theorem osat_bad : (O.bad).sat Ex Q = False := (rfl)
theorem osat_exc {c : String} {ρ : Env} : (O.exc c ρ).sat Ex Q = Ex c := (rfl)
theorem osat_st {α : Type} {m : M α} {ρ : Env} {f : α → O} : (m.st ρ f).sat Ex Q = m.sat Ex fun a => (f a).sat Ex Q := by cases m <;> rfl
theorem osat_ite {c : Prop} [Decidable c] {a b : O} : (if c then a else b).sat Ex Q = if c then a.sat Ex Q else b.sat Ex Q := by split <;> rfl
theorem osat_iteb {c : Prop} [Decidable c] {a : O} : (if c then a else .bad).sat Ex Q ↔ c ∧ a.sat Ex Q := by
  split
  · exact ⟨fun h => ⟨by assumption, h⟩, fun h => h.2⟩
  · exact ⟨fun h => h.elim, fun h => absurd h.1 (by assumption)⟩
theorem osat_mono {Q' : O → Prop} (h : o.sat Ex Q) (q : ∀ a, Q a → Q' a) : o.sat Ex Q' := by
  cases o with
  | bad => exact h
  | exc c ρ => exact h
  | _ => exact q _ h
end
/-! expressions -/
section
variable {cf : Cf} {ρ : Env} {a b c lo hi i : E} {es : List E} {Q : DT → Prop}
theorem ev_lit {k : Const} : ev cf (.lit k) ρ = match ofConst k with | some c => .ok (pim c) | none => .bad := (rfl)
theorem ev_glob {x : String} {k : Const} : ev cf (.glob x k) ρ = match ofConst k with | some c => .ok (pim c) | none => .bad := (rfl)
theorem ev_var {i : Nat} : ev cf (.var i) ρ = match ρ[i]? with | some (some d) => .ok (norm d (rdTag i (cf.cl i))) | _ => .bad := (rfl)
theorem ev_bin {op : Operator} : ev cf (.bin op a b) ρ = (ev cf a ρ).bind fun x => (ev cf b ρ).bind fun y => binD op x y := (rfl)
theorem ev_neg : ev cf (.neg a) ρ = (ev cf a ρ).bind fun x => (asI x).bind fun i => .ok (pim (.int (-i))) := (rfl)
theorem ev_not : ev cf (.not a) ρ = (ev cf a ρ).bind fun x => (asB x).bind fun b => .ok (pim (.bl (!b))) := (rfl)
theorem ev_and : ev cf (.and a b) ρ = (ev cf a ρ).bind fun x => (asB x).bind fun c => if c = true then ev cf b ρ else .ok (pim (.bl false)) := (rfl)
theorem ev_or : ev cf (.or a b) ρ = (ev cf a ρ).bind fun x => (asB x).bind fun c => if c = true then .ok (pim (.bl true)) else ev cf b ρ := (rfl)
theorem ev_cmp {op : CmpOp} : ev cf (.cmp op a b) ρ = (ev cf a ρ).bind fun x => (ev cf b ρ).bind fun y => (cmpD op x.1 y.1).bind fun r => .ok (pim (.bl r)) := (rfl)
theorem ev_chain {op op' : CmpOp} : ev cf (.chain op op' a b c) ρ = (ev cf a ρ).bind fun x => (ev cf b ρ).bind fun y => (cmpD op x.1 y.1).bind fun r =>
      if r = true then (ev cf c ρ).bind fun z => (cmpD op' y.1 z.1).bind fun r' => .ok (pim (.bl r')) else .ok (pim (.bl false)) := (rfl)
theorem ev_ife : ev cf (.ife c a b) ρ = (ev cf c ρ).bind fun x => (asB x).bind fun r => if r = true then ev cf a ρ else ev cf b ρ := (rfl)
theorem ev_call {f : String} : ev cf (.call f es) ρ = (evs cf es ρ).bind fun xs => (cf.F f (xs.map (·.1))).bind fun r => .ok (norm r.1 (if r.2 = true then T0 else ⟨false, (tagsOf xs).lv, (tagsOf xs).root.bw⟩)) := (rfl)
theorem ev_blt {b : Blt} : ev cf (.blt b es) ρ = (evs cf es ρ).bind fun xs => bltD b xs := (rfl)
theorem ev_mth {m : Mt} : ev cf (.mth m a es) ρ = (ev cf a ρ).bind fun x => if mtOk m x.1 = true then (evs cf es ρ).bind fun xs => mthD m x xs else .bad := (rfl)
theorem ev_idx : ev cf (.idx a i) ρ = (ev cf a ρ).bind fun x => (ev cf i ρ).bind fun y => (asI y).bind fun k => idxD x k := (rfl)
theorem ev_slc : ev cf (.slc a lo hi) ρ = (ev cf a ρ).bind fun x => (ev cf lo ρ).bind fun y => (asI y).bind fun i => (ev cf hi ρ).bind fun z => (asI z).bind fun j => slcD x (some i) (some j) := (rfl)
theorem ev_slcL : ev cf (.slcL a lo) ρ = (ev cf a ρ).bind fun x => (ev cf lo ρ).bind fun y => (asI y).bind fun i => slcD x (some i) none := (rfl)
theorem ev_slcH : ev cf (.slcH a hi) ρ = (ev cf a ρ).bind fun x => (ev cf hi ρ).bind fun z => (asI z).bind fun j => slcD x none (some j) := (rfl)
theorem ev_slcN : ev cf (.slcN a) ρ = (ev cf a ρ).bind fun x => slcD x none none := (rfl)
theorem ev_rev : ev cf (.rev a) ρ = (ev cf a ρ).bind fun x => revD x := (rfl)
theorem ev_dgk {i : E} : ev cf (.dgk a i) ρ = (ev cf a ρ).bind fun x => (ev cf i ρ).bind fun y => dgK x.1 y.1 := (rfl)
theorem ev_dgt {i : E} : ev cf (.dgt a i) ρ = (ev cf a ρ).bind fun x => (ev cf i ρ).bind fun y => dgT x.1 y.1 := (rfl)
theorem ev_fcall {f : String} : ev cf (.fcall f a) ρ = (ev cf a ρ).bind fun x => immM (cf.F f [x.1, .lsi [.int 0, .int 0], .imm (.int 0)]) := (rfl)
theorem ev_lst : ev cf (.lst es) ρ = (evs cf es ρ).bind fun xs => if xs.length ≤ 1000 then mkL xs else .bad := (rfl)
theorem ev_tup : ev cf (.tup es) ρ = (evs cf es ρ).bind fun xs => if xs.length ≤ 1000 then mkT xs else .bad := (rfl)
theorem evs_nil : evs cf [] ρ = .ok [] := (rfl)
theorem evs_cons : evs cf (a :: es) ρ = (ev cf a ρ).bind fun x => (evs cf es ρ).bind fun xs => .ok (x :: xs) := (rfl)
theorem evC_nil : evC cf [] ρ = .ok true := (rfl)
theorem evC_cons : evC cf (a :: es) ρ = (ev cf a ρ).bind fun x => (asB x).bind fun b => if b = true then evC cf es ρ else .ok false := (rfl)
theorem src_ex : evSrc cf (.ex a) ρ = (ev cf a ρ).bind fun x => itemsT x := (rfl)
theorem src_r1 : evSrc cf (.r1 a) ρ = (ev cf a ρ).bind fun x => (asI x).bind fun j => if small62 j ∧ j.toNat ≤ sizeLine then .ok (rangeL 0 j, []) else .bad := (rfl)
theorem src_r2 : evSrc cf (.r2 a b) ρ = (ev cf a ρ).bind fun x => (asI x).bind fun i => (ev cf b ρ).bind fun y => (asI y).bind fun j => if small62 i ∧ small62 j ∧ (j - i).toNat ≤ sizeLine then .ok (rangeL i j, []) else .bad := (rfl)
theorem src_zip : evSrc cf (.zip a b) ρ = (ev cf a ρ).bind fun x => (ev cf b ρ).bind fun y => if sameK x.1 y.1 = true then (itemsT x).bind fun xs => (itemsT y).bind fun ys => .ok (zipD xs.1 ys.1, xs.2 ++ ys.2) else .bad := (rfl)
theorem src_zip3 : evSrc cf (.zip3 a b c) ρ = (ev cf a ρ).bind fun x => (ev cf b ρ).bind fun y => (ev cf c ρ).bind fun z => if (sameK x.1 y.1 && sameK y.1 z.1) = true then (itemsT x).bind fun xs => (itemsT y).bind fun ys => (itemsT z).bind fun zs => .ok (zipD3 xs.1 ys.1 zs.1, xs.2 ++ (ys.2 ++ zs.2)) else .bad := (rfl)
theorem src_enm : evSrc cf (.enm a) ρ = (ev cf a ρ).bind fun x => if (isL x.1 || isT x.1) = true then (itemsT x).bind fun xs => .ok (enmD 0 xs.1, xs.2) else .bad := (rfl)
theorem src_rv : evSrc cf (.rv a) ρ = (ev cf a ρ).bind fun x => if (isL x.1 || isT x.1) = true then (itemsT x).bind fun xs => .ok (xs.1.reverse, xs.2) else .bad := (rfl)
/-- one turn of a comprehension -/
noncomputable def lcTurn (cf : Cf) (elt : E) (tg : Tg) (cs : List E) (ρ : Env) (x : DT) : M (Option DT) := match asgTg cf tg x ρ with
  | none => .bad
  | some ρ' => (evC cf cs ρ').calm.bind fun b => if b = true then (ev cf elt ρ').bind fun y => .ok (some y) else .ok none
theorem lcGo_sat {f : DT → M (Option DT)} {h : DT → Option DT} : ∀ {its : List DT}, (∀ x ∈ its, f x = .ok (h x)) → lcGo f its = .ok (its.filterMap h)
  | [], _ => rfl
  | x :: r, hh => by
    have h1 := hh x List.mem_cons_self
    have ih := lcGo_sat (f := f) (h := h) (its := r) fun y hy => hh y (List.mem_cons_of_mem _ hy)
    show (f x).bind _ = _
    rw [h1]
    cases e : h x with
    | none => show lcGo f r = _; rw [ih, List.filterMap_cons, e]
    | some y => show (lcGo f r).bind _ = _; rw [ih, List.filterMap_cons, e]; rfl
theorem ev_lc {elt : E} {tg : Tg} {src : Src} {cs : List E} {own : List Nat} (H : (evSrc cf src ρ).sat Ex fun its => ∃ h : DT → Option DT, (∀ x ∈ its.1, (lcTurn cf elt tg cs (wipeE ρ own) x).sat N0 (· = h x)) ∧ (mkL (its.1.filterMap h)).sat Ex Q) : (ev cf (.lc elt tg src cs own) ρ).sat Ex Q := by
  show ((evSrc cf src ρ).bind fun its => (lcGo (fun x => lcTurn cf elt tg cs (wipeE ρ own) x) its.1).bind fun ys => mkL ys).sat Ex Q
  rw [sat_bind]
  refine sat_mono H fun its ⟨h, h1, h2⟩ => ?_
  rw [lcGo_sat fun x hx => sat_eq (h1 x hx)]
  exact h2
end
/-! statements -/
section
variable {cf : Cf} {ρ : Env} {e c : E} {r a b : List S} {Q : O → Prop} {i : Nat}
theorem runs_append : runs cf (a ++ r) ρ = match runs cf a ρ with | .next ρ' => runs cf r ρ' | o => o := by
  induction a generalizing ρ with
  | nil => rfl
  | cons s a ih =>
    show (match run cf s ρ with | .next ρ' => runs cf (a ++ r) ρ' | o => o) = match (match run cf s ρ with | .next ρ' => runs cf a ρ' | o => o) with | .next ρ' => runs cf r ρ' | o => o
    cases run cf s ρ with
    | next ρ' => exact ih
    | _ => rfl
theorem rs_nil : (runs cf [] ρ).sat Ex Q = Q (.next ρ) := (rfl)
theorem rs_asg : (runs cf (.asg i e :: r) ρ).sat Ex Q = (ev cf e ρ).sat Ex fun x => match setSlot cf i x ρ with | some ρ' => (runs cf r ρ').sat Ex Q | none => False := by
  show (match (ev cf e ρ).st ρ (fun x => match setSlot cf i x ρ with | some ρ' => O.next ρ' | none => .bad) with | .next ρ' => runs cf r ρ' | o => o).sat Ex Q = _
  cases ev cf e ρ with
  | ok x =>
    rw [M.st_ok, sat_ok]
    cases setSlot cf i x ρ <;> rfl
  | exc c => rfl
  | bad => rfl
theorem rs_unp {tg : Tg} : (runs cf (.unp tg e :: r) ρ).sat Ex Q = (ev cf e ρ).sat Ex fun x => match asgTg cf tg x ρ with | some ρ' => (runs cf r ρ').sat Ex Q | none => False := by
  show (match (ev cf e ρ).st ρ (fun x => match asgTg cf tg x ρ with | some ρ' => O.next ρ' | none => .bad) with | .next ρ' => runs cf r ρ' | o => o).sat Ex Q = _
  cases ev cf e ρ with
  | ok x =>
    rw [M.st_ok, sat_ok]
    cases asgTg cf tg x ρ <;> rfl
  | exc c => rfl
  | bad => rfl
theorem rs_ifs : (runs cf (.ifs c a b :: r) ρ).sat Ex Q = ((ev cf c ρ).bind asB).sat Ex fun t => if t = true then (runs cf (a ++ r) ρ).sat Ex Q else (runs cf (b ++ r) ρ).sat Ex Q := by
  show (match ((ev cf c ρ).bind asB).st ρ (fun t => if t = true then runs cf a ρ else runs cf b ρ) with | .next ρ' => runs cf r ρ' | o => o).sat Ex Q = _
  cases (ev cf c ρ).bind asB with
  | ok x =>
    rw [M.st_ok, sat_ok, runs_append, runs_append]
    cases x <;> rfl
  | exc c => rfl
  | bad => rfl
theorem rs_ret : (runs cf (.ret e :: r) ρ).sat Ex Q = (ev cf e ρ).sat Ex fun x => Q (.ret x) := by
  show (match (ev cf e ρ).st ρ (fun x => .ret x) with | .next ρ' => runs cf r ρ' | o => o).sat Ex Q = _
  cases ev cf e ρ <;> rfl
theorem rs_retn : (runs cf (.retn :: r) ρ).sat Ex Q = Q (.ret (pim .non)) := (rfl)
theorem rs_pas : (runs cf (.pas :: r) ρ).sat Ex Q = (runs cf r ρ).sat Ex Q := (rfl)
theorem rs_brk : (runs cf (.brk :: r) ρ).sat Ex Q = Q (.brk ρ) := (rfl)
theorem rs_cnt : (runs cf (.cnt :: r) ρ).sat Ex Q = Q (.cnt ρ) := (rfl)
/-- an end of a block, then the rest -/
def thenQ (Ex : String → Prop) (cf : Cf) (r : List S) (Q : O → Prop) : O → Prop
  | .next ρ' => (runs cf r ρ').sat Ex Q
  | o => o.sat Ex Q
theorem rs_one {s : S} : (runs cf (s :: r) ρ).sat Ex Q = (run cf s ρ).sat Ex (thenQ Ex cf r Q) := by
  show (match run cf s ρ with | .next ρ' => runs cf r ρ' | o => o).sat Ex Q = _
  cases run cf s ρ <;> rfl
theorem rs_app : (runs cf (.app i e :: r) ρ).sat Ex Q ↔ hasL ρ i = true ∧ (ev cf e ρ).sat Ex fun x => (onOwn cf i x ρ fun d => appD d x).sat Ex (thenQ Ex cf r Q) := by
  rw [rs_one]
  show (if hasL ρ i = true then (ev cf e ρ).st ρ fun x => onOwn cf i x ρ fun d => appD d x else O.bad).sat Ex _ ↔ _
  rw [osat_iteb, osat_st]
theorem rs_seti {k v : E} : (runs cf (.seti i k v :: r) ρ).sat Ex Q ↔ hasL ρ i = true ∧ (ev cf v ρ).sat Ex fun x => (ev cf k ρ).sat Ex fun y => (asI y).sat Ex fun j => (onOwn cf i x ρ fun d => setD d j x).sat Ex (thenQ Ex cf r Q) := by
  rw [rs_one]
  show (if hasL ρ i = true then (ev cf v ρ).st ρ fun x => (ev cf k ρ).st ρ fun y => (asI y).st ρ fun j => onOwn cf i x ρ fun d => setD d j x else O.bad).sat Ex _ ↔ _
  rw [osat_iteb, osat_st]
  simp only [osat_st]
noncomputable def forF (cf : Cf) (tg : Tg) (body : List S) : DT → Env → O := fun x ρ => match asgTg cf tg x ρ with | some ρ' => runs cf body ρ' | none => .bad
theorem rs_for {tg : Tg} {src : Src} {body : List S} : (runs cf (.for tg src body :: r) ρ).sat Ex Q ↔ (evSrc cf src ρ).sat Ex fun its => (its.2.all fun j => !(mutss body).contains j) = true ∧ (forGo (forF cf tg body) its.1 ρ).sat Ex (thenQ Ex cf r Q) := by
  rw [rs_one]
  show ((evSrc cf src ρ).st ρ fun its => if (its.2.all fun j => !(mutss body).contains j) = true then forGo (forF cf tg body) its.1 ρ else .bad).sat Ex _ ↔ _
  rw [osat_st]
  simp only [osat_iteb]
theorem rs_pops {t : Option Nat} {v : Nat} {src : Src} : (runs cf (.pops t i v src :: r) ρ).sat Ex Q ↔ (evSrc cf src ρ).sat Ex fun its => (popsO cf t i ρ (popsD cf i v its ρ)).sat Ex (thenQ Ex cf r Q) := by
  rw [rs_one]
  show ((evSrc cf src ρ).st ρ fun its => popsO cf t i ρ (popsD cf i v its ρ)).sat Ex _ ↔ _
  rw [osat_st]
theorem forGo_inv {f : DT → Env → O} {its : List DT} (I : Nat → Env → Prop) (h0 : I 0 ρ)
    (hs : ∀ i (h : i < its.length) ρ, I i ρ → (f its[i] ρ).sat Ex fun o => match o with | .next ρ' => I (i + 1) ρ' | .cnt ρ' => I (i + 1) ρ' | .brk ρ' => Q (.next ρ') | o => Q o)
    (hn : ∀ ρ, I its.length ρ → Q (.next ρ)) : (forGo f its ρ).sat Ex Q := by
  induction its generalizing ρ I with
  | nil => exact hn ρ h0
  | cons x its ih =>
    have s0 := hs 0 (by simp) ρ h0
    show (match f x ρ with | .next ρ' => forGo f its ρ' | .cnt ρ' => forGo f its ρ' | .brk ρ' => .next ρ' | o => o).sat Ex Q
    have go : ∀ ρ', I 1 ρ' → (forGo f its ρ').sat Ex Q := fun ρ' h => ih (fun i => I (i + 1)) h (fun i hi ρ hI => hs (i + 1) (by simp; exact hi) ρ hI) fun ρ hI => hn ρ hI
    have e : ((x :: its)[0]'(by simp)) = x := (rfl)
    rw [e] at s0
    cases h : f x ρ with
    | next ρ' => rw [h] at s0; exact go ρ' s0
    | cnt ρ' => rw [h] at s0; exact go ρ' s0
    | brk ρ' => rw [h] at s0; exact s0
    | ret y => rw [h] at s0; exact s0
    | exc c ρ' => rw [h] at s0; exact s0
    | bad => rw [h] at s0; exact s0.elim
theorem rangeL_len {i j : Int} : (rangeL i j).length = (j - i).toNat := by unfold rangeL; simp
theorem rangeL_get {i j : Int} {k : Nat} (h : k < (rangeL i j).length) : (rangeL i j)[k] = pim (.int (i + k)) := by
  have q : (rangeL i j)[k]? = some (pim (.int (i + k))) := by
    have h' : k < (j - i).toNat := by rw [rangeL_len] at h; exact h
    unfold rangeL
    rw [List.getElem?_map, List.getElem?_range h']
    rfl
  exact Option.some.inj ((List.getElem?_eq_getElem h).symm.trans q)
theorem callD_sat {n : Nat} {ds : List D} {Q : D × Bool → Prop} (h : (runs cf r (ds.map some ++ List.replicate (n - ds.length) none)).sat Ex fun o => match o with
    | .ret x => Q (x.1, match x.1 with | .imm _ => true | _ => decide (x.2.lv ≤ 1))
    | .next _ => Q (.imm .non, true)
    | _ => False) : (callD cf n r ds).sat Ex Q := by
  unfold callD
  generalize runs cf r (ds.map some ++ List.replicate (n - ds.length) none) = o at h ⊢
  cases o with
  | ret x => exact h
  | next ρ => exact h
  | exc c ρ => exact h
  | _ => exact h.elim
theorem rs_whl {c : E} {body : List S} : (runs cf (.whl c body :: r) ρ).sat Ex Q = (whlGo (fun ρ => (ev cf c ρ).bind asB) (fun ρ => runs cf body ρ) cf.fuel ρ).sat Ex (thenQ Ex cf r Q) := by
  rw [rs_one]
  rfl
theorem whlGo_inv {c : Env → M Bool} {f : Env → O} {n N : Nat} (I : Nat → Env → Prop) (hN : N < n) (h0 : I 0 ρ)
    (hs : ∀ k ρ, k ≤ N → I k ρ → (c ρ).sat Ex fun b => if b = true then k < N ∧ (f ρ).sat Ex (fun o => match o with | .next ρ' => I (k + 1) ρ' | .cnt ρ' => I (k + 1) ρ' | .brk ρ' => Q (.next ρ') | o => Q o) else Q (.next ρ)) : (whlGo c f n ρ).sat Ex Q := by
  have go : ∀ m k ρ, k + m = N → I k ρ → ∀ n, m < n → (whlGo c f n ρ).sat Ex Q := by
    intro m
    induction m with
    | zero =>
      intro k ρ hk hI n hn
      obtain ⟨n', rfl⟩ : ∃ n', n = n' + 1 := ⟨n - 1, by omega⟩
      have z := hs k ρ (by omega) hI
      show ((c ρ).st ρ fun b => if b = true then _ else _).sat Ex Q
      rw [osat_st]
      refine sat_mono z fun b hb => ?_
      cases b with
      | true => rw [if_pos rfl] at hb; exact absurd hb.1 (by omega)
      | false => rw [if_neg Bool.false_ne_true] at hb ⊢; exact hb
    | succ m ih =>
      intro k ρ hk hI n hn
      obtain ⟨n', rfl⟩ : ∃ n', n = n' + 1 := ⟨n - 1, by omega⟩
      have z := hs k ρ (by omega) hI
      show ((c ρ).st ρ fun b => if b = true then (match f ρ with
        | .next ρ' => whlGo c f n' ρ'
        | .cnt ρ' => whlGo c f n' ρ'
        | .brk ρ' => .next ρ'
        | o => o) else .next ρ).sat Ex Q
      rw [osat_st]
      refine sat_mono z fun b hb => ?_
      cases b with
      | false => rw [if_neg Bool.false_ne_true] at hb ⊢; exact hb
      | true =>
        rw [if_pos rfl] at hb ⊢
        have hb := hb.2
        cases e : f ρ with
        | next ρ' => rw [e] at hb; exact ih (k + 1) ρ' (by omega) hb n' (by omega)
        | cnt ρ' => rw [e] at hb; exact ih (k + 1) ρ' (by omega) hb n' (by omega)
        | brk ρ' => rw [e] at hb; exact hb
        | ret x => rw [e] at hb; exact hb
        | exc c ρ' => rw [e] at hb; exact hb
        | bad => rw [e] at hb; exact hb
  exact go N 0 ρ (by omega) h0 n hN
theorem rs_rse {c : String} : (runs cf (.rse c :: r) ρ).sat Ex Q = Ex c := (rfl)
theorem rs_ext : (runs cf (.ext i e :: r) ρ).sat Ex Q ↔ hasL ρ i = true ∧ (ev cf e ρ).sat Ex fun x => (onOwn cf i (x.1, x.2.child) ρ fun d => cat d x.1).sat Ex (thenQ Ex cf r Q) := by
  rw [rs_one]
  show (if hasL ρ i = true then (ev cf e ρ).st ρ fun x => onOwn cf i (x.1, x.2.child) ρ fun d => cat d x.1 else O.bad).sat Ex _ ↔ _
  rw [osat_iteb, osat_st]
theorem rs_clr : (runs cf (.clr i :: r) ρ).sat Ex Q ↔ hasL ρ i = true ∧ (onOwn cf i (pim .non) ρ fun _ => some (.lsi [])).sat Ex (thenQ Ex cf r Q) := by
  rw [rs_one]
  show (if hasL ρ i = true then onOwn cf i (pim .non) ρ fun _ => some (.lsi []) else O.bad).sat Ex _ ↔ _
  rw [osat_iteb]
theorem rs_kapp {j : E} : (runs cf (.kapp i j e :: r) ρ).sat Ex Q ↔ cf.cl i = .ex ∧ (ev cf (.idx (.var i) j) ρ).sat Ex fun y => (isL y.1 = true ∧ dlen y.1 < sizeLine) ∧ (ev cf e ρ).sat Ex fun _ => (runs cf r (wipeV cf i ρ)).sat Ex Q := by
  rw [rs_one]
  show (if cf.cl i = .ex then (ev cf (.idx (.var i) j) ρ).st ρ fun y => if isL y.1 = true ∧ dlen y.1 < sizeLine then (ev cf e ρ).st ρ fun _ => .next (wipeV cf i ρ) else .bad else O.bad).sat Ex _ ↔ _
  rw [osat_iteb, osat_st]
  simp only [osat_iteb, osat_st]
  rfl
theorem rs_kaps {l : List (Int × Option E)} : (runs cf (.kaps i l :: r) ρ).sat Ex Q ↔ (cf.cl i = .ex ∧ kapOk ρ i l = true) ∧ (kapR cf (wipeV cf i ρ) l).sat Ex (thenQ Ex cf r Q) := by
  rw [rs_one]
  show (if cf.cl i = .ex ∧ kapOk ρ i l = true then kapR cf (wipeV cf i ρ) l else .bad).sat Ex _ ↔ _
  rw [osat_iteb]
theorem rs_kself : (runs cf (.kself i e :: r) ρ).sat Ex Q ↔ cf.cl i = .ex ∧ (ev cf (.var i) ρ).sat Ex fun y => (isL y.1 = true ∧ dlen y.1 < sizeLine) ∧ (ev cf e ρ).sat Ex fun _ => (runs cf r (wipeV cf i ρ)).sat Ex Q := by
  rw [rs_one]
  show (if cf.cl i = .ex then (ev cf (.var i) ρ).st ρ fun y => if isL y.1 = true ∧ dlen y.1 < sizeLine then (ev cf e ρ).st ρ fun _ => .next (wipeV cf i ρ) else .bad else O.bad).sat Ex _ ↔ _
  rw [osat_iteb, osat_st]
  simp only [osat_iteb, osat_st]
  rfl
theorem rs_rel {j : Nat} : (runs cf (.rel i j :: r) ρ).sat Ex Q ↔ (cf.cl i = .nw ∧ cf.cl j = .own true ∧ hasL ρ j = true ∧ i < ρ.length) ∧ match ρ[j]? with
    | some (some d) => (runs cf r ((ρ.set i (some d)).set j none)).sat Ex Q
    | _ => False := by
  rw [rs_one]
  show ((if cf.cl i = .nw ∧ cf.cl j = .own true ∧ hasL ρ j = true ∧ i < ρ.length then match ρ[j]? with
    | some (some d) => .next ((ρ.set i (some d)).set j none)
    | _ => .bad
    else .bad : O)).sat Ex _ ↔ _
  rw [osat_iteb]
  refine and_congr Iff.rfl ?_
  cases ρ[j]? with
  | none => exact Iff.rfl
  | some o => cases o <;> exact Iff.rfl
theorem rs_kclr {j : E} : (runs cf (.kclr i j :: r) ρ).sat Ex Q ↔ cf.cl i = .ex ∧ (ev cf (.idx (.var i) j) ρ).sat Ex fun y => isL y.1 = true ∧ (runs cf r (wipeV cf i ρ)).sat Ex Q := by
  rw [rs_one]
  show (if cf.cl i = .ex then (ev cf (.idx (.var i) j) ρ).st ρ fun y => if isL y.1 = true then .next (wipeV cf i ρ) else .bad else O.bad).sat Ex _ ↔ _
  rw [osat_iteb, osat_st]
  simp only [osat_iteb]
  rfl
/-- a try whose body raises nothing; one whose body raises c -/
theorem try_ok {hs : List (List String × Nat × List S)} (h : (runs cf b ρ).sat N0 (thenQ Ex cf r Q)) : (runs cf (.try b hs :: r) ρ).sat Ex Q := by
  rw [rs_one]
  show (match runs cf b ρ with
    | .exc c ρ' => if excAll.contains c = true then runh cf c hs ρ' else .bad
    | o => o).sat Ex _
  cases e : runs cf b ρ with
  | exc c ρ' => rw [e] at h; exact h.elim
  | bad => rw [e] at h; exact h.elim
  | _ => rw [e] at h; exact h
theorem try_exc {hs : List (List String × Nat × List S)} {c : String} {ρ' : Env} (e : runs cf b ρ = .exc c ρ') (hc : excAll.contains c = true) (h : (runh cf c hs ρ').sat Ex (thenQ Ex cf r Q)) : (runs cf (.try b hs :: r) ρ).sat Ex Q := by
  rw [rs_one]
  show (match runs cf b ρ with
    | .exc c ρ' => if excAll.contains c = true then runh cf c hs ρ' else .bad
    | o => o).sat Ex _
  rw [e]
  show (if excAll.contains c = true then runh cf c hs ρ' else .bad).sat Ex _
  rw [if_pos hc]
  exact h
theorem runh_nil {c : String} : runh cf c [] ρ = .exc c ρ := (rfl)
theorem runh_cons {c : String} {ts : List String} {n : Nat} {s : List S} {hs : List (List String × Nat × List S)} : runh cf c ((ts, n, s) :: hs) ρ = if ts.any (excSub c) = true then endH n (runs cf s (putH n c ρ)) else runh cf c hs ρ := (rfl)
theorem endH_s {n : Nat} {o : O} : (endH n o).sat Ex Q = o.sat N0 fun o => (endH n o).sat Ex Q := by
  cases n <;> cases o <;> rfl
theorem endH_z {o : O} : o.sat N0 Q → (endH 0 o).sat Ex Q := by
  cases o <;> first | exact id | exact False.elim
theorem sat_exc' {α : Type} {m : M α} {c : String} (h : m.sat (· = c) fun _ => False) : m = .exc c := by
  cases m with
  | ok a => exact h.elim
  | exc d => exact congrArg M.exc h
  | bad => exact h.elim
end
end Iv

/-! Iv W: lists, places, slices. -/
namespace Iv
open PySem PySem.Spec L2
section
variable {α β : Type} {xs : List α} {i : Int}
theorem atI_ok (h0 : 0 ≤ i) (h : i < xs.length) : atI xs i = some (xs[i.toNat]'(by omega)) := by
  have e : i = ((i.toNat : Nat) : Int) := by omega
  have q : xs[i.toNat]? = some (xs[i.toNat]'(by omega)) := List.getElem?_eq_getElem _
  have z := atI_nat q
  rw [← e] at z
  exact z
theorem atI_map {f : α → β} : atI (xs.map f) i = (atI xs i).map f := by
  unfold atI
  rw [List.length_map]
  cases ixN xs.length i with
  | none => rfl
  | some j =>
    show (xs.map f)[j]? = (xs[j]?).map f
    rw [List.getElem?_map]
theorem idx_any {P : α → Prop} (h0 : 0 ≤ i) (h : i < xs.length) (hP : ∀ y ∈ xs, P y) : ∃ y, atI xs i = some y ∧ P y := ⟨_, atI_ok h0 h, hP _ (List.getElem_mem _)⟩
theorem atI_c0 {a : α} {l : List α} : atI (a :: l) 0 = some a := atI_nat (j := 0) (by simp)
theorem atI_c1 {a b : α} {l : List α} : atI (a :: b :: l) 1 = some b := atI_nat (j := 1) (by simp)
theorem atI_c2 {a b c : α} {l : List α} : atI (a :: b :: c :: l) 2 = some c := atI_nat (j := 2) (by simp)
theorem atI_none_nil : atI ([] : List α) i = none := by
  unfold atI
  cases ixN ([] : List α).length i <;> rfl
end
section
variable {xs : List I} {ds : List D} {ns : List Int} {t : Tag} {i : Int} {Q : DT → Prop}
theorem idx_lsi : (idxD (.lsi xs, t) i).sat Ex Q ↔ ∃ y, atI xs i = some y ∧ Q (pim y) := by
  show (match atI xs i with | some y => M.ok (pim y) | none => .bad).sat Ex Q ↔ _
  cases atI xs i with
  | none => exact ⟨fun h => h.elim, fun ⟨_, e, _⟩ => by cases e⟩
  | some y => exact ⟨fun h => ⟨y, rfl, h⟩, fun ⟨_, e, h⟩ => by cases e; exact h⟩
theorem idx_tup : (idxD (.imm (.tup xs), t) i).sat Ex Q ↔ ∃ y, atI xs i = some y ∧ Q (pim y) := by
  show (match atI xs i with | some y => M.ok (pim y) | none => .bad).sat Ex Q ↔ _
  cases atI xs i with
  | none => exact ⟨fun h => h.elim, fun ⟨_, e, _⟩ => by cases e⟩
  | some y => exact ⟨fun h => ⟨y, rfl, h⟩, fun ⟨_, e, h⟩ => by cases e; exact h⟩
theorem idx_scr : (idxD (.scr ns, t) i).sat Ex Q ↔ ∃ y, atI ns i = some y ∧ Q (pim (.int y)) := by
  show (match atI ns i with | some y => M.ok (pim (.int y)) | none => .bad).sat Ex Q ↔ _
  cases atI ns i with
  | none => exact ⟨fun h => h.elim, fun ⟨_, e, _⟩ => by cases e⟩
  | some y => exact ⟨fun h => ⟨y, rfl, h⟩, fun ⟨_, e, h⟩ => by cases e; exact h⟩
theorem idx_lsd : (idxD (.lsd ds, t) i).sat Ex Q ↔ ∃ y, atI ds i = some y ∧ Q (norm y t.child) := by
  show (match atI ds i with | some y => M.ok (norm y t.child) | none => .bad).sat Ex Q ↔ _
  cases atI ds i with
  | none => exact ⟨fun h => h.elim, fun ⟨_, e, _⟩ => by cases e⟩
  | some y => exact ⟨fun h => ⟨y, rfl, h⟩, fun ⟨_, e, h⟩ => by cases e; exact h⟩
theorem idx_tpd : (idxD (.tpd ds, t) i).sat Ex Q ↔ ∃ y, atI ds i = some y ∧ Q (norm y t.child) := by
  show (match atI ds i with | some y => M.ok (norm y t.child) | none => .bad).sat Ex Q ↔ _
  cases atI ds i with
  | none => exact ⟨fun h => h.elim, fun ⟨_, e, _⟩ => by cases e⟩
  | some y => exact ⟨fun h => ⟨y, rfl, h⟩, fun ⟨_, e, h⟩ => by cases e; exact h⟩
theorem slc_tup {lo hi : Option Int} : slcD (.imm (.tup xs), t) lo hi = .ok (pim (.tup (cut xs lo hi))) := (rfl)
theorem slc_lsi {lo hi : Option Int} : slcD (.lsi xs, t) lo hi = .ok (.lsi (cut xs lo hi), T0) := (rfl)
theorem slc_tpd {lo hi : Option Int} : slcD (.tpd ds, t) lo hi = match allImm (cut ds lo hi) with | some is => .ok (pim (.tup is)) | none => .ok (.tpd (cut ds lo hi), t.child.root) := (rfl)
theorem slc_lsd {lo hi : Option Int} : slcD (.lsd ds, t) lo hi = .ok (.lsd (cut ds lo hi), t.child.root) := (rfl)
theorem asInts_map : asInts (ns.map .int) = some ns := by
  induction ns with
  | nil => rfl
  | cons n ns ih => show (asInts (ns.map .int)).map (n :: ·) = _; rw [ih]; rfl
theorem asInts_fn {α : Type} {f : α → Int} {l : List α} : asInts (l.map fun x => .int (f x)) = some (l.map f) := by
  rw [show (l.map fun x => I.int (f x)) = (l.map f).map I.int by rw [List.map_map]; rfl, asInts_map]
theorem asBls_map {bs : List Bool} : asBls (bs.map .bl) = some bs := by
  induction bs with
  | nil => rfl
  | cons n ns ih => show (asBls (ns.map .bl)).map (n :: ·) = _; rw [ih]; rfl
theorem allImm_imms : allImm (xs.map .imm) = some xs := by
  induction xs with
  | nil => rfl
  | cons n ns ih => show (allImm (ns.map .imm)).map (n :: ·) = _; rw [ih]; rfl
theorem mkL_pims : mkL (xs.map pim) = .ok (.lsi xs, T0) := by
  unfold mkL
  rw [List.map_map, show ((fun x : DT => x.1) ∘ pim) = D.imm from rfl, allImm_imms]
theorem blt_sum : bltD .sum [(.lsi (ns.map .int), t)] = .ok (pim (.int ns.sum)) := by
  show (match asInts (ns.map .int) with | some ns => M.ok (pim (.int ns.sum)) | none => .bad) = _
  rw [asInts_map]
end
section
variable {α β : Type} {xs : List α} {i j : Int}
theorem cut_map {f : α → β} {lo hi : Option Int} : cut (xs.map f) lo hi = (cut xs lo hi).map f := by
  unfold cut
  rw [List.length_map, List.map_take, List.map_drop]
theorem cut_lo (h : 0 ≤ i) : cut xs (some i) none = xs.drop i.toNat := by
  unfold cut
  rw [show HT.sIx xs.length xs.length none = xs.length from rfl, show i = ((i.toNat : Nat) : Int) by omega, HT.sIx_nat]
  rw [Int.toNat_natCast]
  by_cases c : i.toNat ≤ xs.length
  · rw [Nat.min_eq_left c]
    exact List.take_of_length_le (by rw [List.length_drop]; omega)
  · rw [Nat.min_eq_right (by omega), Nat.sub_self, List.take_zero, List.drop_eq_nil_of_le (by omega)]
theorem cut_hi (h : 0 ≤ i) : cut xs none (some i) = xs.take i.toNat := by
  unfold cut
  rw [show HT.sIx xs.length 0 none = 0 from rfl, show i = ((i.toNat : Nat) : Int) by omega, HT.sIx_nat]
  rw [Int.toNat_natCast, List.drop_zero, Nat.sub_zero]
  by_cases c : i.toNat ≤ xs.length
  · rw [Nat.min_eq_left c]
  · rw [Nat.min_eq_right (by omega), List.take_of_length_le (Nat.le_refl _), List.take_of_length_le (by omega)]
end
theorem cdiv_iff {i j : Int} : CDiv i j ↔ 0 < j ∧ j < 1073741824 := ⟨fun h => ⟨h.1, h.2⟩, fun h => ⟨h.1, h.2⟩⟩
theorem cmul_m {a x m : Int} (h0 : 0 < m) (h : m < 2 ^ 64) : CMul a (x % m) := .inr ⟨Int.lt_of_lt_of_le (by decide) (Int.emod_nonneg _ (by omega)), Int.lt_trans (Int.emod_lt_of_pos _ h0) h⟩
section
variable {i j : Int} {s t : Tag} {Q : DT → Prop} {x y : Str} {a b : List I}
theorem bin_add : (binD .Add (.imm (.int i), s) (.imm (.int j), t)).sat Ex Q = Q (pim (.int (i + j))) := (rfl)
theorem bin_sub : (binD .Sub (.imm (.int i), s) (.imm (.int j), t)).sat Ex Q = Q (pim (.int (i - j))) := (rfl)
theorem bin_mul : (binD .Mult (.imm (.int i), s) (.imm (.int j), t)).sat Ex Q ↔ CMul i j ∧ Q (pim (.int (i * j))) := by
  show ((if CMul i j then M.ok (I.int (i * j)) else .bad).bind fun r => .ok (pim r)).sat Ex Q ↔ _
  rw [sat_bind, sat_iteb]; rfl
theorem bin_fdiv : (binD .FloorDiv (.imm (.int i), s) (.imm (.int j), t)).sat Ex Q ↔ (0 < j ∧ j < 1073741824) ∧ Q (pim (.int (i / j))) := by
  show ((if CDiv i j then M.ok (I.int (i / j)) else .bad).bind fun r => .ok (pim r)).sat Ex Q ↔ _
  rw [sat_bind, sat_iteb]; rfl
theorem bin_mod : (binD .Mod (.imm (.int i), s) (.imm (.int j), t)).sat Ex Q ↔ 0 < j ∧ Q (pim (.int (i % j))) := by
  show ((if 0 < j then M.ok (I.int (i % j)) else .bad).bind fun r => .ok (pim r)).sat Ex Q ↔ _
  rw [sat_bind, sat_iteb]; rfl
theorem bin_pow : (binD .Pow (.imm (.int i), s) (.imm (.int j), t)).sat Ex Q ↔ CPow i j ∧ Q (pim (.int (i ^ j.toNat))) := by
  show ((if CPow i j then M.ok (I.int (i ^ j.toNat)) else .bad).bind fun r => .ok (pim r)).sat Ex Q ↔ _
  rw [sat_bind, sat_iteb]; rfl
theorem bin_str : (binD .Add (.imm (.str x), s) (.imm (.str y), t)).sat Ex Q ↔ x.length + y.length ≤ sizeLine ∧ Q (pim (.str (x ++ y))) := by
  show (if x.length + y.length ≤ sizeLine then M.ok (pim (.str (x ++ y))) else .bad).sat Ex Q ↔ _
  rw [sat_iteb]; rfl
theorem bin_tup : (binD .Add (.imm (.tup a), s) (.imm (.tup b), t)).sat Ex Q ↔ a.length + b.length ≤ sizeLine ∧ Q (pim (.tup (a ++ b))) := by
  show (if a.length + b.length ≤ sizeLine then M.ok (pim (.tup (a ++ b))) else .bad).sat Ex Q ↔ _
  rw [sat_iteb]; rfl
theorem bin_lst : (binD .Add (.lsi a, s) (.lsi b, t)).sat Ex Q ↔ a.length + b.length ≤ sizeLine ∧ Q (.lsi (a ++ b), (s.child.join t.child).root) := by
  show (if a.length + b.length ≤ sizeLine then M.ok (D.lsi (a ++ b), (s.child.join t.child).root) else .bad).sat Ex Q ↔ _
  rw [sat_iteb]; rfl
theorem bin_trep {a : List I} : (binD .Mult (.imm (.tup a), s) (.imm (.int j), t)).sat Ex Q ↔ (isNil a = false ∧ -1000 ≤ j ∧ j ≤ 1000 ∧ a.length ≤ 1000) ∧ Q (pim (.tup (List.replicate j.toNat a).flatten)) := by
  show (tupRep .Mult a j).sat Ex Q ↔ _
  unfold tupRep
  rw [sat_iteb]; rfl
theorem bin_rep : (binD .Mult (.lsi a, s) (.imm (.int j), t)).sat Ex Q ↔ (j ≤ 1000000 ∧ -1000000 ≤ j ∧ a.length * j.toNat ≤ 1000000) ∧ Q (.lsi (List.replicate j.toNat a).flatten, T0) := by
  show (if j ≤ 1000000 ∧ -1000000 ≤ j ∧ a.length * j.toNat ≤ 1000000 then M.ok (D.lsi (List.replicate j.toNat a).flatten, T0) else .bad).sat Ex Q ↔ _
  rw [sat_iteb]; rfl
end
section
variable {i j : Int} {t : Tag} {Q : Bool → Prop} {R : Int → Prop} {x y : Str} {p q : Bool} {d : D}
theorem cmp_eqi : (cmpD .Eq (.imm (.int i)) (.imm (.int j))).sat Ex Q = Q (decide (i = j)) := (rfl)
theorem cmp_nei : (cmpD .NotEq (.imm (.int i)) (.imm (.int j))).sat Ex Q = Q (!decide (i = j)) := (rfl)
theorem cmp_lti : (cmpD .Lt (.imm (.int i)) (.imm (.int j))).sat Ex Q = Q (decide (i < j)) := (rfl)
theorem cmp_lei : (cmpD .LtE (.imm (.int i)) (.imm (.int j))).sat Ex Q = Q (decide (i ≤ j)) := (rfl)
theorem cmp_gti : (cmpD .Gt (.imm (.int i)) (.imm (.int j))).sat Ex Q = Q (decide (j < i)) := (rfl)
theorem cmp_gei : (cmpD .GtE (.imm (.int i)) (.imm (.int j))).sat Ex Q = Q (decide (j ≤ i)) := (rfl)
theorem cmp_eqs : (cmpD .Eq (.imm (.str x)) (.imm (.str y))).sat Ex Q = Q (decide (x = y)) := (rfl)
theorem cmp_nes : (cmpD .NotEq (.imm (.str x)) (.imm (.str y))).sat Ex Q = Q (!decide (x = y)) := (rfl)
theorem cmp_eqb : (cmpD .Eq (.imm (.bl p)) (.imm (.bl q))).sat Ex Q = Q (decide (p = q)) := (rfl)
theorem cmp_neb : (cmpD .NotEq (.imm (.bl p)) (.imm (.bl q))).sat Ex Q = Q (!decide (p = q)) := (rfl)
theorem cmp_isn : (cmpD .Is d (.imm .non)).sat Ex Q = Q (isNon d) := by
  cases d with
  | imm i => cases i <;> rfl
  | _ => rfl
theorem cmp_isnn : (cmpD .IsNot d (.imm .non)).sat Ex Q = Q (!isNon d) := by
  cases d with
  | imm i => cases i <;> rfl
  | _ => rfl
theorem asI_int : (asI (.imm (.int i), t)).sat Ex R = R i := (rfl)
theorem asB_bl : (asB (.imm (.bl p), t)).sat Ex Q = Q p := (rfl)
end
theorem eqv_ints : ∀ a b : List Int, PyData.eqvAll (I.pys (a.map .int)) (I.pys (b.map .int)) = decide (a = b)
  | [], [] => rfl
  | [], _ :: _ => rfl
  | _ :: _, [] => rfl
  | x :: a, y :: b => by
    show ((x == y) && PyData.eqvAll (I.pys (a.map .int)) (I.pys (b.map .int))) = _
    rw [eqv_ints a b]
    by_cases h : x = y
    · subst h; simp
    · have : (x == y) = false := by simpa using h
      rw [this, Bool.false_and]; simp [h]
theorem lay_ints : ∀ a : List Int, PyData.canLayAll0 (I.pys (a.map .int)) = true
  | [] => rfl
  | x :: a => lay_ints a
theorem deep_ints : ∀ a : List Int, PyData.depthAll (I.pys (a.map .int)) = 0
  | [] => rfl
  | x :: a => by
    show max 0 (PyData.depthAll (I.pys (a.map .int))) = 0
    rw [deep_ints a]; rfl
theorem shaped_ints (a : List Int) : SeqAt.shaped (.list (I.pys (a.map .int))) = true := by
  unfold SeqAt.shaped
  rw [show PyData.canLay0 (.list (I.pys (a.map .int))) = PyData.canLayAll0 (I.pys (a.map .int)) from rfl, lay_ints, show PyData.depth (.list (I.pys (a.map .int))) = PyData.depthAll (I.pys (a.map .int)) + 1 from rfl, deep_ints]
  rfl
theorem eqD_ints {a b : List Int} : eqD (.lsi (a.map .int)) (.lsi (b.map .int)) = .ok (decide (a = b)) := by
  show (if SeqAt.shaped (.list (I.pys (a.map .int))) = true ∧ SeqAt.shaped (.list (I.pys (b.map .int))) = true then M.ok (PyData.eqvAll (I.pys (a.map .int)) (I.pys (b.map .int))) else .bad) = _
  rw [if_pos ⟨shaped_ints a, shaped_ints b⟩, eqv_ints]
section
variable {a b : List Int} {Q : Bool → Prop} {i : Int}
theorem cmp_eql : (cmpD .Eq (.lsi (a.map .int)) (.lsi (b.map .int))).sat Ex Q = Q (decide (a = b)) := by
  show (eqD (.lsi (a.map .int)) (.lsi (b.map .int))).sat Ex Q = _
  rw [eqD_ints]; rfl
theorem cmp_nel : (cmpD .NotEq (.lsi (a.map .int)) (.lsi (b.map .int))).sat Ex Q = Q (!decide (a = b)) := by
  show ((eqD _ _).bind fun r => .ok (!r)).sat Ex Q = _
  rw [eqD_ints]; rfl
theorem cmp_eqln : (cmpD .Eq (.lsi (a.map .int)) (.lsi [])).sat Ex Q = Q (decide (a = [])) := cmp_eql (b := [])
theorem cmp_neln : (cmpD .NotEq (.lsi (a.map .int)) (.lsi [])).sat Ex Q = Q (!decide (a = [])) := cmp_nel (b := [])
theorem cmp_eqnn : (cmpD .Eq (.lsi []) (.lsi [])).sat Ex Q = Q true := by
  have := cmp_eql (Ex := Ex) (a := []) (b := []) (Q := Q)
  simpa using this
theorem inD_ints : inD (.imm (.int i)) (.lsi (a.map .int)) = .ok (decide (i ∈ a)) := by
  have h : ∀ a : List Int, ((a.map I.int).all flatI) = true ∧ ((a.map I.int).any fun y => eqI y (.int i)) = decide (i ∈ a) := fun a => by
    induction a with
    | nil => exact ⟨rfl, rfl⟩
    | cons x a ih =>
      refine ⟨ih.1, ?_⟩
      show ((x == i) || ((a.map I.int).any fun y => eqI y (.int i))) = _
      rw [ih.2]
      by_cases h : x = i
      · subst h; simp
      · have : (x == i) = false := by simpa using h
        have h' : ¬ i = x := fun e => h e.symm
        rw [this, Bool.false_or]; simp [h']
  show (if flatI (.int i) = true ∧ (a.map I.int).all flatI = true then M.ok ((a.map I.int).any fun y => eqI y (.int i)) else inAny (.imm (.int i)) (I.pys (a.map I.int))) = _
  rw [if_pos ⟨rfl, (h a).1⟩, (h a).2]
theorem cmp_inl : (cmpD .In (.imm (.int i)) (.lsi (a.map .int))).sat Ex Q = Q (decide (i ∈ a)) := by
  show (inD (.imm (.int i)) (.lsi (a.map .int))).sat Ex Q = _
  rw [inD_ints]; rfl
theorem cmp_ninl : (cmpD .NotIn (.imm (.int i)) (.lsi (a.map .int))).sat Ex Q = Q (!decide (i ∈ a)) := by
  show ((inD _ _).bind fun r => .ok (!r)).sat Ex Q = _
  rw [inD_ints]; rfl
end
theorem enmD_pims : ∀ {xs : List I} {n : Nat}, enmD n (xs.map pim) = (xs.zipIdx n).map fun q => pim (.tup [.int q.2, q.1])
  | [], _ => rfl
  | x :: xs, n => by
    show mkP (pim (.int n)) (pim x) :: enmD (n + 1) (xs.map pim) = _
    rw [enmD_pims (xs := xs)]
    rfl
theorem rngI_eq {i j : Int} : rngI i j = ((List.range (j - i).toNat).map fun (k : Nat) => i + (k : Int)).map .int := by unfold rngI; rw [List.map_map]; rfl
theorem rngD_l {i j : Int} {Q : DT → Prop} : (rngD false i j).sat Ex Q ↔ (small62 i ∧ small62 j ∧ (j - i).toNat ≤ sizeLine) ∧ Q (.lsi (((List.range (j - i).toNat).map fun (k : Nat) => i + (k : Int)).map .int), T0) := by
  unfold rngD
  rw [sat_iteb, if_neg Bool.false_ne_true, sat_ok, rngI_eq]
theorem rngD_t {i j : Int} {Q : DT → Prop} : (rngD true i j).sat Ex Q ↔ (small62 i ∧ small62 j ∧ (j - i).toNat ≤ sizeLine) ∧ Q (pim (.tup (((List.range (j - i).toNat).map fun (k : Nat) => i + (k : Int)).map .int))) := by
  unfold rngD
  rw [sat_iteb, if_pos rfl, sat_ok, rngI_eq]
theorem small62_of {i : Int} (h0 : -1000000000 ≤ i) (h : i ≤ 1000000000) : small62 i := by unfold small62; omega
theorem cdiv_of {i j : Int} (h0 : 0 < j) (h : j < 1073741824) : CDiv i j := ⟨h0, h⟩
def mapX {α β : Type} (h : α → M β) : List α → M (List β)
  | [] => .ok []
  | x :: r => (h x).bind fun y => (mapX h r).bind fun ys => .ok (y :: ys)
theorem bin_srep {a : Str} {j : Int} {s t : Tag} {Ex : String → Prop} {Q : DT → Prop} : (binD .Mult (.imm (.str a), s) (.imm (.int j), t)).sat Ex Q ↔ (2 ≤ j ∧ j ≤ 1000 ∧ 1 ≤ a.length ∧ a.length ≤ 1000) ∧ Q (pim (.str (repS a j.toNat))) := by
  show (strRep .Mult a j).sat Ex Q ↔ _
  unfold strRep
  rw [sat_iteb]; rfl
theorem cmul_l {i j : Int} (h0 : -(2 ^ 64) < i) (h : i < 2 ^ 64) : CMul i j := .inl ⟨h0, h⟩
theorem cmul_r {i j : Int} (h0 : -(2 ^ 64) < j) (h : j < 2 ^ 64) : CMul i j := .inr ⟨h0, h⟩
section
variable {cf : Cf} {ρ : Env} {Q : DT → Prop} {elt : E} {tg : Tg} {src : Src} {cs : List E} {own : List Nat} {α : Type}
theorem lcGo_map {f : DT → M (Option DT)} {g : α → DT} {h : α → Option DT} : ∀ {xs : List α}, (∀ x ∈ xs, f (g x) = .ok (h x)) → lcGo f (xs.map g) = .ok (xs.filterMap h)
  | [], _ => rfl
  | x :: r, hh => by
    have h1 := hh x List.mem_cons_self
    have ih := lcGo_map (f := f) (g := g) (h := h) (xs := r) fun y hy => hh y (List.mem_cons_of_mem _ hy)
    show (f (g x)).bind _ = _
    rw [h1]
    cases e : h x with
    | none => show lcGo f (r.map g) = _; rw [ih, List.filterMap_cons, e]
    | some y => show (lcGo f (r.map g)).bind _ = _; rw [ih, List.filterMap_cons, e]; rfl
theorem filterMap_if {p : α → Bool} {h : α → I} : ∀ {xs : List α}, (xs.filterMap fun x => if p x = true then some (pim (h x)) else none) = ((xs.filter p).map h).map pim
  | [] => rfl
  | x :: r => by
    rw [List.filterMap_cons, List.filter_cons]
    cases c : p x with
    | true => rw [if_pos rfl, if_pos rfl, List.map_cons, List.map_cons, filterMap_if (xs := r)]
    | false => rw [if_neg Bool.false_ne_true, if_neg Bool.false_ne_true]; exact filterMap_if (xs := r)
/-- a comprehension that makes immutable things -/
theorem ev_lcf (xs : List α) (g : α → DT) (p : α → Bool) (h : α → I) (h0 : (evSrc cf src ρ).sat Ex fun its => its.1 = xs.map g) (h1 : ∀ x ∈ xs, (lcTurn cf elt tg cs (wipeE ρ own) (g x)).sat N0 fun y => y = if p x = true then some (pim (h x)) else none) (h2 : Q (.lsi ((xs.filter p).map h), T0)) : (ev cf (.lc elt tg src cs own) ρ).sat Ex Q := by
  show ((evSrc cf src ρ).bind fun its => (lcGo (fun x => lcTurn cf elt tg cs (wipeE ρ own) x) its.1).bind fun ys => mkL ys).sat Ex Q
  rw [sat_bind]
  refine sat_mono h0 fun its e0 => ?_
  rw [e0, lcGo_map fun x hx => sat_eq (h1 x hx)]
  show (mkL _).sat Ex Q
  rw [filterMap_if, mkL_pims]
  exact h2
theorem filterMap_ifD {β : Type} {p : α → Bool} {h : α → β} : ∀ {xs : List α}, (xs.filterMap fun x => if p x = true then some (h x) else none) = (xs.filter p).map h
  | [] => rfl
  | x :: r => by
    rw [List.filterMap_cons, List.filter_cons]
    cases p x with
    | true => rw [if_pos rfl, if_pos rfl, filterMap_ifD (xs := r)]; rfl
    | false => rw [if_neg Bool.false_ne_true, if_neg Bool.false_ne_true]; exact filterMap_ifD (xs := r)
theorem ev_lcD (xs : List α) (g : α → DT) (p : α → Bool) (h : α → DT) (h0 : (evSrc cf src ρ).sat Ex fun its => its.1 = xs.map g) (h1 : ∀ x ∈ xs, (lcTurn cf elt tg cs (wipeE ρ own) (g x)).sat N0 fun y => y = if p x = true then some (h x) else none) (h2 : (mkL ((xs.filter p).map h)).sat Ex Q) : (ev cf (.lc elt tg src cs own) ρ).sat Ex Q := by
  show ((evSrc cf src ρ).bind fun its => (lcGo (fun x => lcTurn cf elt tg cs (wipeE ρ own) x) its.1).bind fun ys => mkL ys).sat Ex Q
  rw [sat_bind]
  refine sat_mono h0 fun its e0 => ?_
  rw [e0, lcGo_map fun x hx => sat_eq (h1 x hx)]
  show (mkL _).sat Ex Q
  rw [filterMap_ifD]
  exact h2
/-- a comprehension whose element may let an error out -/
theorem lcGo_mapX {f : DT → M (Option DT)} {g : α → DT} {h : α → M I} : ∀ {xs : List α}, (∀ x ∈ xs, f (g x) = (h x).bind fun y => .ok (some (pim y))) → lcGo f (xs.map g) = (mapX h xs).bind fun ys => .ok (ys.map pim)
  | [], _ => rfl
  | x :: r, hh => by
    have ih := lcGo_mapX (f := f) (g := g) (h := h) (xs := r) fun y hy => hh y (List.mem_cons_of_mem _ hy)
    show (f (g x)).bind _ = ((h x).bind fun y => (mapX h r).bind fun ys => .ok (y :: ys)).bind _
    rw [hh x List.mem_cons_self]
    cases h x with
    | ok y =>
      show (lcGo f (r.map g)).bind _ = ((mapX h r).bind fun ys => M.ok (y :: ys)).bind _
      rw [ih]
      cases mapX h r <;> rfl
    | exc c => rfl
    | bad => rfl
theorem ev_lcx (xs : List α) (g : α → DT) (h : α → M I) (h0 : (evSrc cf src ρ).sat N0 fun its => its.1 = xs.map g) (h1 : ∀ x ∈ xs, lcTurn cf elt tg cs (wipeE ρ own) (g x) = (h x).bind fun y => .ok (some (pim y))) : ev cf (.lc elt tg src cs own) ρ = (mapX h xs).bind fun ys => .ok (.lsi ys, T0) := by
  show ((evSrc cf src ρ).bind fun its => (lcGo (fun x => lcTurn cf elt tg cs (wipeE ρ own) x) its.1).bind fun ys => mkL ys) = _
  obtain ⟨its, e, e0⟩ := sat_ex h0
  rw [e]
  show ((lcGo (fun x => lcTurn cf elt tg cs (wipeE ρ own) x) its.1).bind fun ys => mkL ys) = _
  rw [e0, lcGo_mapX h1]
  cases mapX h xs with
  | ok ys => show mkL (ys.map pim) = _; rw [mkL_pims]; rfl
  | exc c => rfl
  | bad => rfl
theorem ev_lci (xs : List α) (g : α → DT) (h : α → I) (h0 : (evSrc cf src ρ).sat Ex fun its => its.1 = xs.map g) (h1 : ∀ x ∈ xs, (lcTurn cf elt tg cs (wipeE ρ own) (g x)).sat N0 fun y => y = some (pim (h x))) (h2 : Q (.lsi (xs.map h), T0)) : (ev cf (.lc elt tg src cs own) ρ).sat Ex Q := by
  refine ev_lcf xs g (fun _ => true) h h0 (fun x hx => sat_mono (h1 x hx) fun y e => by rw [if_pos rfl]; exact e) ?_
  rw [List.filter_eq_self.mpr fun _ _ => rfl]
  exact h2
end
theorem kids_imms {t : Tag} {xs : List I} : kids t (xs.map .imm) = xs.map pim := by unfold kids; rw [List.map_map]; rfl
theorem zipD_pims : ∀ {xs ys : List I}, zipD (xs.map pim) (ys.map pim) = (xs.zip ys).map fun p => pim (.tup [p.1, p.2])
  | [], _ => by simp [zipD]
  | _ :: _, [] => by simp [zipD]
  | x :: xs, y :: ys => by
    show mkP (pim x) (pim y) :: zipD (xs.map pim) (ys.map pim) = _
    rw [zipD_pims (xs := xs) (ys := ys)]
    rfl
theorem zipD3_pims : ∀ {xs ys zs : List I}, zipD3 (xs.map pim) (ys.map pim) (zs.map pim) = (xs.zip (ys.zip zs)).map fun p => pim (.tup [p.1, p.2.1, p.2.2])
  | [], _, _ => by simp [zipD3]
  | _ :: _, [], _ => by simp [zipD3]
  | _ :: _, _ :: _, [] => by simp [zipD3]
  | x :: xs, y :: ys, z :: zs => by
    show mkP3 (pim x) (pim y) (pim z) :: zipD3 (xs.map pim) (ys.map pim) (zs.map pim) = _
    rw [zipD3_pims (xs := xs) (ys := ys) (zs := zs)]
    rfl
theorem items_tup {t : Tag} {xs : List I} : itemsT (.imm (.tup xs), t) = .ok (xs.map pim, []) := by
  show M.ok (kids t (xs.map .imm), ([] : List Nat)) = _
  rw [kids_imms]
theorem items_lsi {t : Tag} {xs : List I} : itemsT (.lsi xs, t) = .ok (xs.map pim, bwOf t) := by
  show M.ok (kids t (xs.map .imm), bwOf t) = _
  rw [kids_imms]
theorem items_lsd {t : Tag} {xs : List D} : itemsT (.lsd xs, t) = .ok (kids t xs, bwOf t) := rfl
theorem items_scr {t : Tag} {xs : List Int} : itemsT (.scr xs, t) = .ok (xs.map fun n => pim (.int n), bwOf t) := by
  show M.ok (kids t (xs.map fun n => D.imm (.int n)), bwOf t) = _
  unfold kids
  rw [List.map_map]
  rfl
end Iv

/-! Iv X: the rules where the slots are told. -/
namespace Iv
open PySem PySem.Spec L2
section
variable {cf : Cf} {ρ : Env} {a b c lo hi i : E} {es : List E}
theorem ev_lit' {k : Const} {o' : Option D} : ev cf (.lit k) (o' :: ρ) = match ofConst k with | some c => .ok (pim c) | none => .bad := ev_lit (ρ := o' :: ρ)
theorem ev_glob' {x : String} {k : Const} {o' : Option D} : ev cf (.glob x k) (o' :: ρ) = match ofConst k with | some c => .ok (pim c) | none => .bad := ev_glob (ρ := o' :: ρ)
theorem ev_var' {i : Nat} {o' : Option D} : ev cf (.var i) (o' :: ρ) = match (o' :: ρ)[i]? with | some (some d) => .ok (norm d (rdTag i (cf.cl i))) | _ => .bad := ev_var (ρ := o' :: ρ)
theorem ev_bin' {op : Operator} {o' : Option D} : ev cf (.bin op a b) (o' :: ρ) = (ev cf a (o' :: ρ)).bind fun x => (ev cf b (o' :: ρ)).bind fun y => binD op x y := ev_bin (ρ := o' :: ρ)
theorem ev_neg' {o' : Option D} : ev cf (.neg a) (o' :: ρ) = (ev cf a (o' :: ρ)).bind fun x => (asI x).bind fun i => .ok (pim (.int (-i))) := ev_neg (ρ := o' :: ρ)
theorem ev_not' {o' : Option D} : ev cf (.not a) (o' :: ρ) = (ev cf a (o' :: ρ)).bind fun x => (asB x).bind fun b => .ok (pim (.bl (!b))) := ev_not (ρ := o' :: ρ)
theorem ev_and' {o' : Option D} : ev cf (.and a b) (o' :: ρ) = (ev cf a (o' :: ρ)).bind fun x => (asB x).bind fun c => if c = true then ev cf b (o' :: ρ) else .ok (pim (.bl false)) := ev_and (ρ := o' :: ρ)
theorem ev_or' {o' : Option D} : ev cf (.or a b) (o' :: ρ) = (ev cf a (o' :: ρ)).bind fun x => (asB x).bind fun c => if c = true then .ok (pim (.bl true)) else ev cf b (o' :: ρ) := ev_or (ρ := o' :: ρ)
theorem ev_cmp' {op : CmpOp} {o' : Option D} : ev cf (.cmp op a b) (o' :: ρ) = (ev cf a (o' :: ρ)).bind fun x => (ev cf b (o' :: ρ)).bind fun y => (cmpD op x.1 y.1).bind fun r => .ok (pim (.bl r)) := ev_cmp (ρ := o' :: ρ)
theorem ev_chain' {op op' : CmpOp} {o' : Option D} : ev cf (.chain op op' a b c) (o' :: ρ) = (ev cf a (o' :: ρ)).bind fun x => (ev cf b (o' :: ρ)).bind fun y => (cmpD op x.1 y.1).bind fun r =>
      if r = true then (ev cf c (o' :: ρ)).bind fun z => (cmpD op' y.1 z.1).bind fun r' => .ok (pim (.bl r')) else .ok (pim (.bl false)) := ev_chain (ρ := o' :: ρ)
theorem ev_ife' {o' : Option D} : ev cf (.ife c a b) (o' :: ρ) = (ev cf c (o' :: ρ)).bind fun x => (asB x).bind fun r => if r = true then ev cf a (o' :: ρ) else ev cf b (o' :: ρ) := ev_ife (ρ := o' :: ρ)
theorem ev_call' {f : String} {o' : Option D} : ev cf (.call f es) (o' :: ρ) = (evs cf es (o' :: ρ)).bind fun xs => (cf.F f (xs.map (·.1))).bind fun r => .ok (norm r.1 (if r.2 = true then T0 else ⟨false, (tagsOf xs).lv, (tagsOf xs).root.bw⟩)) := ev_call (ρ := o' :: ρ)
theorem ev_blt' {b : Blt} {o' : Option D} : ev cf (.blt b es) (o' :: ρ) = (evs cf es (o' :: ρ)).bind fun xs => bltD b xs := ev_blt (ρ := o' :: ρ)
theorem ev_mth' {m : Mt} {o' : Option D} : ev cf (.mth m a es) (o' :: ρ) = (ev cf a (o' :: ρ)).bind fun x => if mtOk m x.1 = true then (evs cf es (o' :: ρ)).bind fun xs => mthD m x xs else .bad := ev_mth (ρ := o' :: ρ)
theorem ev_idx' {o' : Option D} : ev cf (.idx a i) (o' :: ρ) = (ev cf a (o' :: ρ)).bind fun x => (ev cf i (o' :: ρ)).bind fun y => (asI y).bind fun k => idxD x k := ev_idx (ρ := o' :: ρ)
theorem ev_slc' {o' : Option D} : ev cf (.slc a lo hi) (o' :: ρ) = (ev cf a (o' :: ρ)).bind fun x => (ev cf lo (o' :: ρ)).bind fun y => (asI y).bind fun i => (ev cf hi (o' :: ρ)).bind fun z => (asI z).bind fun j => slcD x (some i) (some j) := ev_slc (ρ := o' :: ρ)
theorem ev_slcL' {o' : Option D} : ev cf (.slcL a lo) (o' :: ρ) = (ev cf a (o' :: ρ)).bind fun x => (ev cf lo (o' :: ρ)).bind fun y => (asI y).bind fun i => slcD x (some i) none := ev_slcL (ρ := o' :: ρ)
theorem ev_slcH' {o' : Option D} : ev cf (.slcH a hi) (o' :: ρ) = (ev cf a (o' :: ρ)).bind fun x => (ev cf hi (o' :: ρ)).bind fun z => (asI z).bind fun j => slcD x none (some j) := ev_slcH (ρ := o' :: ρ)
theorem ev_slcN' {o' : Option D} : ev cf (.slcN a) (o' :: ρ) = (ev cf a (o' :: ρ)).bind fun x => slcD x none none := ev_slcN (ρ := o' :: ρ)
theorem ev_rev' {o' : Option D} : ev cf (.rev a) (o' :: ρ) = (ev cf a (o' :: ρ)).bind fun x => revD x := ev_rev (ρ := o' :: ρ)
theorem ev_dgk' {i : E} {o' : Option D} : ev cf (.dgk a i) (o' :: ρ) = (ev cf a (o' :: ρ)).bind fun x => (ev cf i (o' :: ρ)).bind fun y => dgK x.1 y.1 := ev_dgk (ρ := o' :: ρ)
theorem ev_dgt' {i : E} {o' : Option D} : ev cf (.dgt a i) (o' :: ρ) = (ev cf a (o' :: ρ)).bind fun x => (ev cf i (o' :: ρ)).bind fun y => dgT x.1 y.1 := ev_dgt (ρ := o' :: ρ)
theorem ev_fcall' {f : String} {o' : Option D} : ev cf (.fcall f a) (o' :: ρ) = (ev cf a (o' :: ρ)).bind fun x => immM (cf.F f [x.1, .lsi [.int 0, .int 0], .imm (.int 0)]) := ev_fcall (ρ := o' :: ρ)
theorem ev_lst' {o' : Option D} : ev cf (.lst es) (o' :: ρ) = (evs cf es (o' :: ρ)).bind fun xs => if xs.length ≤ 1000 then mkL xs else .bad := ev_lst (ρ := o' :: ρ)
theorem ev_tup' {o' : Option D} : ev cf (.tup es) (o' :: ρ) = (evs cf es (o' :: ρ)).bind fun xs => if xs.length ≤ 1000 then mkT xs else .bad := ev_tup (ρ := o' :: ρ)
theorem evs_cons' {o' : Option D} : evs cf (a :: es) (o' :: ρ) = (ev cf a (o' :: ρ)).bind fun x => (evs cf es (o' :: ρ)).bind fun xs => .ok (x :: xs) := evs_cons (ρ := o' :: ρ)
theorem evC_cons' {o' : Option D} : evC cf (a :: es) (o' :: ρ) = (ev cf a (o' :: ρ)).bind fun x => (asB x).bind fun b => if b = true then evC cf es (o' :: ρ) else .ok false := evC_cons (ρ := o' :: ρ)
theorem src_ex' {o' : Option D} : evSrc cf (.ex a) (o' :: ρ) = (ev cf a (o' :: ρ)).bind fun x => itemsT x := src_ex (ρ := o' :: ρ)
theorem src_r1' {o' : Option D} : evSrc cf (.r1 a) (o' :: ρ) = (ev cf a (o' :: ρ)).bind fun x => (asI x).bind fun j => if small62 j ∧ j.toNat ≤ sizeLine then .ok (rangeL 0 j, []) else .bad := src_r1 (ρ := o' :: ρ)
theorem src_r2' {o' : Option D} : evSrc cf (.r2 a b) (o' :: ρ) = (ev cf a (o' :: ρ)).bind fun x => (asI x).bind fun i => (ev cf b (o' :: ρ)).bind fun y => (asI y).bind fun j => if small62 i ∧ small62 j ∧ (j - i).toNat ≤ sizeLine then .ok (rangeL i j, []) else .bad := src_r2 (ρ := o' :: ρ)
theorem src_zip' {o' : Option D} : evSrc cf (.zip a b) (o' :: ρ) = (ev cf a (o' :: ρ)).bind fun x => (ev cf b (o' :: ρ)).bind fun y => if sameK x.1 y.1 = true then (itemsT x).bind fun xs => (itemsT y).bind fun ys => .ok (zipD xs.1 ys.1, xs.2 ++ ys.2) else .bad := src_zip (ρ := o' :: ρ)
theorem src_zip3' {o' : Option D} : evSrc cf (.zip3 a b c) (o' :: ρ) = (ev cf a (o' :: ρ)).bind fun x => (ev cf b (o' :: ρ)).bind fun y => (ev cf c (o' :: ρ)).bind fun z => if (sameK x.1 y.1 && sameK y.1 z.1) = true then (itemsT x).bind fun xs => (itemsT y).bind fun ys => (itemsT z).bind fun zs => .ok (zipD3 xs.1 ys.1 zs.1, xs.2 ++ (ys.2 ++ zs.2)) else .bad := src_zip3 (ρ := o' :: ρ)
theorem src_enm' {o' : Option D} : evSrc cf (.enm a) (o' :: ρ) = (ev cf a (o' :: ρ)).bind fun x => if (isL x.1 || isT x.1) = true then (itemsT x).bind fun xs => .ok (enmD 0 xs.1, xs.2) else .bad := src_enm (ρ := o' :: ρ)
theorem src_rv' {o' : Option D} : evSrc cf (.rv a) (o' :: ρ) = (ev cf a (o' :: ρ)).bind fun x => if (isL x.1 || isT x.1) = true then (itemsT x).bind fun xs => .ok (xs.1.reverse, xs.2) else .bad := src_rv (ρ := o' :: ρ)
end
section
variable {cf : Cf} {ρ : Env} {e c : E} {r a b : List S} {Q : O → Prop} {i : Nat}
theorem rs_asg' {o' : Option D} : (runs cf (.asg i e :: r) (o' :: ρ)).sat Ex Q = (ev cf e (o' :: ρ)).sat Ex fun x => match setSlot cf i x (o' :: ρ) with | some ρ' => (runs cf r ρ').sat Ex Q | none => False := rs_asg (ρ := o' :: ρ)
theorem rs_unp' {tg : Tg} {o' : Option D} : (runs cf (.unp tg e :: r) (o' :: ρ)).sat Ex Q = (ev cf e (o' :: ρ)).sat Ex fun x => match asgTg cf tg x (o' :: ρ) with | some ρ' => (runs cf r ρ').sat Ex Q | none => False := rs_unp (ρ := o' :: ρ)
theorem rs_ifs' {o' : Option D} : (runs cf (.ifs c a b :: r) (o' :: ρ)).sat Ex Q = ((ev cf c (o' :: ρ)).bind asB).sat Ex fun t => if t = true then (runs cf (a ++ r) (o' :: ρ)).sat Ex Q else (runs cf (b ++ r) (o' :: ρ)).sat Ex Q := rs_ifs (ρ := o' :: ρ)
theorem rs_ret' {o' : Option D} : (runs cf (.ret e :: r) (o' :: ρ)).sat Ex Q = (ev cf e (o' :: ρ)).sat Ex fun x => Q (.ret x) := rs_ret (ρ := o' :: ρ)
theorem rs_retn' {o' : Option D} : (runs cf (.retn :: r) (o' :: ρ)).sat Ex Q = Q (.ret (pim .non)) := rs_retn (ρ := o' :: ρ)
theorem rs_pas' {o' : Option D} : (runs cf (.pas :: r) (o' :: ρ)).sat Ex Q = (runs cf r (o' :: ρ)).sat Ex Q := rs_pas (ρ := o' :: ρ)
theorem rs_brk' {o' : Option D} : (runs cf (.brk :: r) (o' :: ρ)).sat Ex Q = Q (.brk (o' :: ρ)) := rs_brk (ρ := o' :: ρ)
theorem rs_cnt' {o' : Option D} : (runs cf (.cnt :: r) (o' :: ρ)).sat Ex Q = Q (.cnt (o' :: ρ)) := rs_cnt (ρ := o' :: ρ)
theorem rs_app' {o' : Option D} : (runs cf (.app i e :: r) (o' :: ρ)).sat Ex Q ↔ hasL (o' :: ρ) i = true ∧ (ev cf e (o' :: ρ)).sat Ex fun x => (onOwn cf i x (o' :: ρ) fun d => appD d x).sat Ex (thenQ Ex cf r Q) := rs_app (ρ := o' :: ρ)
theorem rs_seti' {k v : E} {o' : Option D} : (runs cf (.seti i k v :: r) (o' :: ρ)).sat Ex Q ↔ hasL (o' :: ρ) i = true ∧ (ev cf v (o' :: ρ)).sat Ex fun x => (ev cf k (o' :: ρ)).sat Ex fun y => (asI y).sat Ex fun j => (onOwn cf i x (o' :: ρ) fun d => setD d j x).sat Ex (thenQ Ex cf r Q) := rs_seti (ρ := o' :: ρ)
theorem rs_for' {tg : Tg} {src : Src} {body : List S} {o' : Option D} : (runs cf (.for tg src body :: r) (o' :: ρ)).sat Ex Q ↔ (evSrc cf src (o' :: ρ)).sat Ex fun its => (its.2.all fun j => !(mutss body).contains j) = true ∧ (forGo (forF cf tg body) its.1 (o' :: ρ)).sat Ex (thenQ Ex cf r Q) := rs_for (ρ := o' :: ρ)
theorem rs_pops' {t : Option Nat} {v : Nat} {src : Src} {o' : Option D} : (runs cf (.pops t i v src :: r) (o' :: ρ)).sat Ex Q ↔ (evSrc cf src (o' :: ρ)).sat Ex fun its => (popsO cf t i (o' :: ρ) (popsD cf i v its (o' :: ρ))).sat Ex (thenQ Ex cf r Q) := rs_pops (ρ := o' :: ρ)
theorem rs_rse' {c : String} {o' : Option D} : (runs cf (.rse c :: r) (o' :: ρ)).sat Ex Q = Ex c := rs_rse (ρ := o' :: ρ)
theorem rs_ext' {o' : Option D} : (runs cf (.ext i e :: r) (o' :: ρ)).sat Ex Q ↔ hasL (o' :: ρ) i = true ∧ (ev cf e (o' :: ρ)).sat Ex fun x => (onOwn cf i (x.1, x.2.child) (o' :: ρ) fun d => cat d x.1).sat Ex (thenQ Ex cf r Q) := rs_ext (ρ := o' :: ρ)
theorem rs_clr' {o' : Option D} : (runs cf (.clr i :: r) (o' :: ρ)).sat Ex Q ↔ hasL (o' :: ρ) i = true ∧ (onOwn cf i (pim .non) (o' :: ρ) fun _ => some (.lsi [])).sat Ex (thenQ Ex cf r Q) := rs_clr (ρ := o' :: ρ)
theorem rs_kapp' {j : E} {o' : Option D} : (runs cf (.kapp i j e :: r) (o' :: ρ)).sat Ex Q ↔ cf.cl i = .ex ∧ (ev cf (.idx (.var i) j) (o' :: ρ)).sat Ex fun y => (isL y.1 = true ∧ dlen y.1 < sizeLine) ∧ (ev cf e (o' :: ρ)).sat Ex fun _ => (runs cf r (wipeV cf i (o' :: ρ))).sat Ex Q := rs_kapp (ρ := o' :: ρ)
theorem rs_kaps' {l : List (Int × Option E)} {o' : Option D} : (runs cf (.kaps i l :: r) (o' :: ρ)).sat Ex Q ↔ (cf.cl i = .ex ∧ kapOk (o' :: ρ) i l = true) ∧ (kapR cf (wipeV cf i (o' :: ρ)) l).sat Ex (thenQ Ex cf r Q) := rs_kaps (ρ := o' :: ρ)
theorem rs_kself' {o' : Option D} : (runs cf (.kself i e :: r) (o' :: ρ)).sat Ex Q ↔ cf.cl i = .ex ∧ (ev cf (.var i) (o' :: ρ)).sat Ex fun y => (isL y.1 = true ∧ dlen y.1 < sizeLine) ∧ (ev cf e (o' :: ρ)).sat Ex fun _ => (runs cf r (wipeV cf i (o' :: ρ))).sat Ex Q := rs_kself (ρ := o' :: ρ)
theorem rs_rel' {j : Nat} {o' : Option D} : (runs cf (.rel i j :: r) (o' :: ρ)).sat Ex Q ↔ (cf.cl i = .nw ∧ cf.cl j = .own true ∧ hasL (o' :: ρ) j = true ∧ i < (o' :: ρ).length) ∧ match (o' :: ρ)[j]? with
    | some (some d) => (runs cf r (((o' :: ρ).set i (some d)).set j none)).sat Ex Q
    | _ => False := rs_rel (ρ := o' :: ρ)
theorem rs_kclr' {j : E} {o' : Option D} : (runs cf (.kclr i j :: r) (o' :: ρ)).sat Ex Q ↔ cf.cl i = .ex ∧ (ev cf (.idx (.var i) j) (o' :: ρ)).sat Ex fun y => isL y.1 = true ∧ (runs cf r (wipeV cf i (o' :: ρ))).sat Ex Q := rs_kclr (ρ := o' :: ρ)
end

section
variable {cf : Cf} {ρ : Env} {o' : Option D} {i : Nat} {d : D} {t : Tag} {x : DT}
theorem setSlot_pr : setSlot cf i (d, t) (o' :: ρ) = if okSt (cf.cl i) (d, t) = true ∧ i < (o' :: ρ).length then some ((o' :: ρ).set i (some d)) else none := (rfl)
theorem setFz_pr : setFz cf i (d, t) (o' :: ρ) = if (cf.cl i = .old ∨ cf.cl i = .nw ∨ isVw (cf.cl i) = true) ∧ okSt (cf.cl i) (d, t) = true ∧ i < (o' :: ρ).length then some ((o' :: ρ).set i (some d)) else none := (rfl)
theorem asg_nm : asgTg cf (.nm i) (d, t) (o' :: ρ) = setFz cf i (d, t) (o' :: ρ) := (rfl)
theorem asg_tup {ts : List Tg} {xs : List I} : asgTg cf (.tp ts) (.imm (.tup xs), t) (o' :: ρ) = asgTgs cf ts (xs.map pim) (o' :: ρ) := (rfl)
theorem asg_tpd {ts : List Tg} {ds : List D} : asgTg cf (.tp ts) (.tpd ds, t) (o' :: ρ) = asgTgs cf ts (kids t ds) (o' :: ρ) := (rfl)
theorem asg_lsi {ts : List Tg} {xs : List I} : asgTg cf (.tp ts) (.lsi xs, t) (o' :: ρ) = asgTgs cf ts (xs.map pim) (o' :: ρ) := (rfl)
theorem asg_lsd {ts : List Tg} {ds : List D} : asgTg cf (.tp ts) (.lsd ds, t) (o' :: ρ) = asgTgs cf ts (kids t ds) (o' :: ρ) := (rfl)
theorem asgs_nil : asgTgs cf [] [] (o' :: ρ) = some (o' :: ρ) := (rfl)
theorem asgs_cons {tg : Tg} {ts : List Tg} {xs : List DT} : asgTgs cf (tg :: ts) ((d, t) :: xs) (o' :: ρ) = match asgTg cf tg (d, t) (o' :: ρ) with | some ρ' => asgTgs cf ts xs ρ' | none => none := (rfl)
theorem norm_imm {j : I} : norm (.imm j) t = (.imm j, T0) := (rfl)
theorem norm_lsi {xs : List I} : norm (.lsi xs) t = (.lsi xs, t) := (rfl)
theorem norm_lsd {xs : List D} : norm (.lsd xs) t = (.lsd xs, t) := (rfl)
theorem norm_tpd {xs : List D} : norm (.tpd xs) t = (.tpd xs, t) := (rfl)
theorem norm_scr {xs : List Int} : norm (.scr xs) t = (.scr xs, t) := (rfl)
theorem forF_c {tg : Tg} {body : List S} : forF cf tg body (d, t) (o' :: ρ) = match asgTg cf tg (d, t) (o' :: ρ) with | some ρ' => runs cf body ρ' | none => .bad := (rfl)
theorem lcTurn_c {elt : E} {tg : Tg} {cs : List E} : lcTurn cf elt tg cs (o' :: ρ) (d, t) = match asgTg cf tg (d, t) (o' :: ρ) with
  | none => .bad
  | some ρ' => (evC cf cs ρ').calm.bind fun b => if b = true then (ev cf elt ρ').bind fun y => .ok (some y) else .ok none := (rfl)
theorem thenQ_n {r : List S} {Q : O → Prop} : thenQ Ex cf r Q (.next ρ) = (runs cf r ρ).sat Ex Q := (rfl)
theorem thenQ_r {r : List S} {Q : O → Prop} : thenQ Ex cf r Q (.ret x) = Q (.ret x) := (rfl)
theorem wipe_n : wipeE (o' :: ρ) [] = o' :: ρ := (rfl)
theorem wipe_c {v : Nat} {vs : List Nat} : wipeE (o' :: ρ) (v :: vs) = (wipeE (o' :: ρ) vs).set v none := (rfl)
theorem onOwn_c {f : D → Option D} : onOwn cf i (d, t) (o' :: ρ) f = if okIn (cf.cl i) (d, t) = true then match (o' :: ρ)[i]? with
    | some (some d) => match f d with
      | some d' => if dlen d' ≤ sizeLine then .next ((o' :: ρ).set i (some d')) else .bad
      | none => .bad
    | _ => .bad
  else .bad := (rfl)
theorem hasL_c : hasL (o' :: ρ) i = match (o' :: ρ)[i]? with
  | some (some d) => isL d
  | _ => false := (rfl)
theorem len_pr : bltD .len [(d, t)] = (lenD d).bind fun n => .ok (pim (.int n)) := (rfl)
theorem tup_pr {xs : List I} : bltD .tuple [(.lsi xs, t)] = .ok (pim (.tup xs)) := (rfl)
theorem tup_pt {xs : List I} : bltD .tuple [(.imm (.tup xs), t)] = .ok (pim (.tup xs)) := (rfl)
theorem tup_pd {xs : List D} : bltD .tuple [(.lsd xs, t)] = .ok (.tpd xs, t.child.root) := (rfl)
theorem tup_pp {xs : List D} : bltD .tuple [(.tpd xs, t)] = .ok (.tpd xs, t) := (rfl)
theorem lst_pr {xs : List I} : bltD .list [(.lsi xs, t)] = .ok (.lsi xs, T0) := (rfl)
theorem lst_ps {s : Str} : bltD .list [(.imm (.str s), t)] = if s.length ≤ 1000000 then .ok (.lsi ((s.cps.toList.map fun c => (⟨#[c]⟩ : Str)).map .str), T0) else .bad := (rfl)
theorem lst_pt {xs : List I} : bltD .list [(.imm (.tup xs), t)] = .ok (.lsi xs, T0) := (rfl)
theorem lst_pd {xs : List D} : bltD .list [(.lsd xs, t)] = .ok (.lsd xs, t.child.root) := (rfl)
theorem lst_pp {xs : List D} : bltD .list [(.tpd xs, t)] = .ok (.lsd xs, t.child.root) := (rfl)
theorem int_pi {j : Int} : bltD .int [(.imm (.int j), t)] = .ok (pim (.int j)) := (rfl)
theorem int_pb {j : Bool} : bltD .int [(.imm (.bl j), t)] = .ok (pim (.int (if j then 1 else 0))) := (rfl)
theorem sum_pr {xs : List I} : bltD .sum [(.lsi xs, t)] = match asInts xs with | some ns => .ok (pim (.int ns.sum)) | none => .bad := (rfl)
theorem all_pr {xs : List I} : bltD .all [(.lsi xs, t)] = match asBls xs with | some ns => .ok (pim (.bl (ns.all id))) | none => .bad := (rfl)
theorem any_pr {xs : List I} : bltD .any [(.lsi xs, t)] = match asBls xs with | some ns => .ok (pim (.bl (ns.any id))) | none => .bad := (rfl)
theorem min_pr {i j : Int} {s : Tag} : bltD .min2 [(.imm (.int i), s), (.imm (.int j), t)] = .ok (pim (.int (if j < i then j else i))) := (rfl)
theorem max_pr {i j : Int} {s : Tag} : bltD .max2 [(.imm (.int i), s), (.imm (.int j), t)] = .ok (pim (.int (if j > i then j else i))) := (rfl)
theorem asStrs_map {ys : List Str} : asStrs (ys.map .str) = some ys := by
  induction ys with
  | nil => rfl
  | cons a r ih => rw [List.map_cons, asStrs, ih]; rfl
theorem asLL_map {ls : List (List Int)} : asLL (ls.map fun l : List Int => D.lsi (l.map .int)) = some ls := by
  induction ls with
  | nil => rfl
  | cons a r ih => rw [List.map_cons, asLL, asInts_map, ih]
theorem srt_pi {a : List Int} {Ex : String → Prop} {Q : DT → Prop} : (bltD .sorted [(.lsi (a.map .int), t)]).sat Ex Q = Q (.lsi ((sortI a).map .int), T0) := by
  show (match asInts (a.map .int) with | some ns => M.ok (D.lsi ((sortI ns).map .int), T0) | none => .bad).sat Ex Q = _
  rw [asInts_map]; rfl
theorem srt_pl {ls : List (List Int)} {Ex : String → Prop} {Q : DT → Prop} : (bltD .sorted [(.lsd (ls.map fun l : List Int => D.lsi (l.map .int)), t)]).sat Ex Q = Q (.lsd ((sortL ls).map fun l : List Int => D.lsi (l.map .int)), t.child.root) := by
  show (match asLL (ls.map fun l : List Int => D.lsi (l.map .int)) with | some ls => M.ok (D.lsd ((sortL ls).map fun l : List Int => D.lsi (l.map .int)), t.child.root) | none => .bad).sat Ex Q = _
  rw [asLL_map]; rfl
theorem mth_lix {ns : List Int} {k : Int} {s : Tag} {Ex : String → Prop} {Q : DT → Prop} : (mthD .lindex (.lsi (ns.map .int), t) [(.imm (.int k), s)]).sat Ex Q ↔ ∃ j, ns.findIdx? (fun z => z == k) = some j ∧ Q (pim (.int (j : Nat))) := by
  show (match asInts (ns.map .int), (D.imm (.int k)) with
    | some ns, .imm (.int k) => match ns.findIdx? (fun z => z == k) with
      | some j => M.ok (pim (.int (j : Nat)))
      | none => .bad
    | _, _ => .bad).sat Ex Q ↔ _
  rw [asInts_map]
  show (match ns.findIdx? (fun z => z == k) with | some j => M.ok (pim (.int (j : Nat))) | none => .bad).sat Ex Q ↔ _
  cases ns.findIdx? (fun z => z == k) with
  | none => exact ⟨fun h => h.elim, fun ⟨_, h, _⟩ => nomatch h⟩
  | some j => exact ⟨fun h => ⟨j, rfl, h⟩, fun ⟨_, h, q⟩ => by cases h; exact q⟩
theorem mth_join {a : Str} {ys : List Str} {s : Tag} {Ex : String → Prop} {Q : DT → Prop} : (mthD .join (.imm (.str a), t) [(.lsi (ys.map .str), s)]).sat Ex Q ↔ (ys.map fun z : Str => z.length).sum + ys.length * a.length ≤ 1000000 ∧ Q (pim (.str (PySem.Txt.join a ys))) := by
  show (match asStrs (ys.map .str) with
      | some ys => if (ys.map fun z : Str => z.length).sum + ys.length * a.length ≤ 1000000 then M.ok (pim (.str (PySem.Txt.join a ys))) else .bad
      | none => .bad).sat Ex Q ↔ _
  rw [asStrs_map]
  show (if _ then M.ok _ else _ : M DT).sat Ex Q ↔ _
  rw [sat_iteb]; rfl
theorem lrg_1 {j : Int} : bltD .lrg [(.imm (.int j), t)] = rngD false 0 j := (rfl)
theorem lrg_2 {i j : Int} {s : Tag} : bltD .lrg [(.imm (.int i), s), (.imm (.int j), t)] = rngD false i j := (rfl)
theorem trg_1 {j : Int} : bltD .trg [(.imm (.int j), t)] = rngD true 0 j := (rfl)
theorem trg_2 {i j : Int} {s : Tag} : bltD .trg [(.imm (.int i), s), (.imm (.int j), t)] = rngD true i j := (rfl)
def Rok (i j : Int) : Prop := small62 i ∧ small62 j ∧ (j - i).toNat ≤ sizeLine
theorem Rok_of {i j : Int} (h0 : -1000000 ≤ i) (h1 : i ≤ 1000000) (h2 : -1000000 ≤ j) (h3 : j ≤ 1000000) : Rok i j := ⟨small62_of (by omega) (by omega), small62_of (by omega) (by omega), by rw [sizeLine_eq]; omega⟩
theorem Rok_n {n : Nat} (h : n ≤ 1000000) : Rok 0 (n : Int) := Rok_of (by omega) (by omega) (by omega) (by omega)
theorem src_r1s {a : E} {Q : List DT × List Nat → Prop} : (evSrc cf (.r1 a) (o' :: ρ)).sat Ex Q ↔ (ev cf a (o' :: ρ)).sat Ex fun x => (asI x).sat Ex fun j => Rok 0 j ∧ Q (rangeL 0 j, []) := by
  rw [src_r1, sat_bind]
  have e : ∀ x : DT, ((asI x).bind fun j => if small62 j ∧ j.toNat ≤ sizeLine then M.ok (rangeL 0 j, ([] : List Nat)) else .bad).sat Ex Q ↔ (asI x).sat Ex fun j => Rok 0 j ∧ Q (rangeL 0 j, []) := fun x => by
    rw [sat_bind]
    refine ⟨fun h => sat_mono h fun j hj => ?_, fun h => sat_mono h fun j hj => ?_⟩
    · rw [sat_iteb] at hj
      exact ⟨⟨small62_of (by omega) (by omega), hj.1.1, by rw [Int.sub_zero]; exact hj.1.2⟩, hj.2⟩
    · rw [sat_iteb]
      have := hj.1.2.2
      rw [Int.sub_zero] at this
      exact ⟨⟨hj.1.2.1, this⟩, hj.2⟩
  exact ⟨fun h => sat_mono h fun x hx => (e x).mp hx, fun h => sat_mono h fun x hx => (e x).mpr hx⟩
theorem src_r2s {a b : E} {Q : List DT × List Nat → Prop} : (evSrc cf (.r2 a b) (o' :: ρ)).sat Ex Q ↔ (ev cf a (o' :: ρ)).sat Ex fun x => (asI x).sat Ex fun i => (ev cf b (o' :: ρ)).sat Ex fun y => (asI y).sat Ex fun j => Rok i j ∧ Q (rangeL i j, []) := by
  rw [src_r2, sat_bind]
  simp only [sat_bind, sat_iteb, sat_ok]
  exact Iff.rfl
theorem rng_ls {i j : Int} {Q : DT → Prop} : (rngD false i j).sat Ex Q ↔ Rok i j ∧ Q (.lsi (((List.range (j - i).toNat).map fun (k : Nat) => i + (k : Int)).map .int), T0) := rngD_l
theorem rng_ts {i j : Int} {Q : DT → Prop} : (rngD true i j).sat Ex Q ↔ Rok i j ∧ Q (pim (.tup (((List.range (j - i).toNat).map fun (k : Nat) => i + (k : Int)).map .int))) := rngD_t
theorem cmp_nenn {Q : Bool → Prop} : (cmpD .NotEq (.lsi []) (.lsi [])).sat Ex Q = Q false := by
  have := cmp_nel (Ex := Ex) (a := []) (b := []) (Q := Q)
  simpa using this
/-- a name is forgotten -/
def clrO (n : Nat) : O → O
  | .next ρ => .next (ρ.set n none)
  | .brk ρ => .brk (ρ.set n none)
  | .cnt ρ => .cnt (ρ.set n none)
  | o => o
theorem clrO_n {n : Nat} : clrO n (.next ρ) = .next (ρ.set n none) := (rfl)
theorem clrO_r {n : Nat} : clrO n (.ret x) = .ret x := (rfl)
theorem endH_0 {o : O} {Q : O → Prop} : (endH 0 o).sat Ex Q = o.sat N0 Q := by cases o <;> rfl
theorem endH_1 {o : O} {n : Nat} {Q : O → Prop} : (endH (n + 1) o).sat Ex Q = o.sat N0 fun o => Q (clrO n o) := by cases o <;> rfl
theorem putH_0 {c : String} : putH 0 c (o' :: ρ) = o' :: ρ := (rfl)
theorem putH_1 {c : String} {n : Nat} : putH (n + 1) c (o' :: ρ) = (o' :: ρ).set n (some (.imm (.exc c))) := (rfl)
theorem exc_exs {e : E} {c : String} (h : ev cf e ρ = .exc c) : runs cf [.exs e] ρ = .exc c ρ := by
  show (match (ev cf e ρ).st ρ fun _ => O.next ρ with | .next ρ' => runs cf [] ρ' | o => o) = _
  rw [h]; rfl
theorem exc_asg {e : E} {c : String} (h : ev cf e ρ = .exc c) : runs cf [.asg i e] ρ = .exc c ρ := by
  show (match (ev cf e ρ).st ρ fun x => match setSlot cf i x ρ with | some ρ' => O.next ρ' | none => .bad with | .next ρ' => runs cf [] ρ' | o => o) = _
  rw [h]; rfl
theorem exc_ret {e : E} {c : String} (h : ev cf e ρ = .exc c) : runs cf [.ret e] ρ = .exc c ρ := by
  show (match (ev cf e ρ).st ρ fun x => O.ret x with | .next ρ' => runs cf [] ρ' | o => o) = _
  rw [h]; rfl
theorem rs_apx' {e v : E} {r : List S} {Q : O → Prop} : (runs cf (.apx e v :: r) (o' :: ρ)).sat Ex Q = (ev cf e (o' :: ρ)).sat Ex fun x => if isL x.1 = true ∧ x.2.fr = true ∧ dlen x.1 < sizeLine then (ev cf v (o' :: ρ)).sat Ex fun _ => (runs cf r (o' :: ρ)).sat Ex Q else False := by
  rw [rs_one]
  show ((ev cf e (o' :: ρ)).st (o' :: ρ) fun x => if isL x.1 = true ∧ x.2.fr = true ∧ dlen x.1 < sizeLine then (ev cf v (o' :: ρ)).st (o' :: ρ) fun _ => O.next (o' :: ρ) else .bad).sat Ex _ = _
  rw [osat_st]
  congr 1
  funext x
  split
  · rw [osat_st]; rfl
  · rfl
theorem rs_exs' {e : E} {r : List S} {Q : O → Prop} : (runs cf (.exs e :: r) (o' :: ρ)).sat Ex Q = (ev cf e (o' :: ρ)).sat Ex fun _ => (runs cf r (o' :: ρ)).sat Ex Q := by
  rw [rs_one]
  show ((ev cf e (o' :: ρ)).st (o' :: ρ) fun _ => O.next (o' :: ρ)).sat Ex _ = _
  rw [osat_st]
  rfl
theorem isi_pr' {ts : List String} : bltD (.isi ts) [(d, t)] = if isExc d = true then .bad else .ok (pim (.bl (isiB (tyD d) ts))) := (rfl)
theorem ise_pr {ts : List String} {c : String} : bltD (.ise ts) [(.imm (.exc c), t)] = if excAll.contains c = true then .ok (pim (.bl (ts.any (excSub c)))) else .bad := (rfl)
def wipeGo (cf : Cf) (i : Nat) : Nat → Env → Env
  | _, [] => []
  | k, d :: r => (if k = i ∨ cf.cl k = .vw i then none else d) :: wipeGo cf i (k + 1) r
theorem wipeGo_at {k : Nat} : ∀ {ρ : Env}, (ρ.mapIdx fun j d => if k + j = i ∨ cf.cl (k + j) = .vw i then none else d) = wipeGo cf i k ρ := by
  intro ρ
  induction ρ generalizing k with
  | nil => rfl
  | cons d r ih =>
    rw [List.mapIdx_cons]
    show _ = (if k = i ∨ cf.cl k = .vw i then none else d) :: wipeGo cf i (k + 1) r
    rw [← ih (k := k + 1)]
    have e : (fun j (d : Option D) => if k + (j + 1) = i ∨ cf.cl (k + (j + 1)) = .vw i then none else d) = fun j d => if k + 1 + j = i ∨ cf.cl (k + 1 + j) = .vw i then none else d := by
      funext j d
      rw [show k + (j + 1) = k + 1 + j by omega]
    rw [e]
    rfl
theorem wipeV_go : wipeV cf i (o' :: ρ) = wipeGo cf i 0 (o' :: ρ) := by
  rw [← wipeGo_at]
  unfold wipeV
  simp only [Nat.zero_add]
theorem kapOk_c {l : List (Int × Option E)} : kapOk (o' :: ρ) i l = match (o' :: ρ)[i]? with
  | some (some (.tpd ds)) => l.all fun q => match L2.atI ds q.1 with
    | some d => isL d && decide (dlen d + l.length < sizeLine)
    | none => false
  | _ => false := (rfl)
theorem kapR_n : kapR cf ρ [] = .next ρ := (rfl)
theorem kapR_c {j : Int} {l : List (Int × Option E)} : kapR cf ρ ((j, none) :: l) = kapR cf ρ l := (rfl)
theorem kapR_a {j : Int} {e : E} {l : List (Int × Option E)} : kapR cf ρ ((j, some e) :: l) = (ev cf e ρ).st ρ fun _ => kapR cf ρ l := (rfl)
theorem wipeGo_c {k : Nat} {od : Option D} : wipeGo cf i k (od :: ρ) = (if k = i ∨ cf.cl k = .vw i then none else od) :: wipeGo cf i (k + 1) ρ := (rfl)
theorem wipeGo_n {k : Nat} : wipeGo cf i k [] = [] := (rfl)
theorem lenset_pr {a : List Int} : (bltD .lenset [(.lsi (a.map .int), t)]).sat Ex Q ↔ a.length < 64 ∧ Q (pim (.int ((dedup a).length : Nat))) := by
  show (match asInts (a.map .int) with | some ns => if ns.length < 64 then M.ok (pim (.int ((dedup ns).length : Nat))) else .bad | none => .bad).sat Ex Q ↔ _
  rw [asInts_map]
  show (if a.length < 64 then M.ok (pim (.int ((dedup a).length : Nat))) else .bad).sat Ex Q ↔ _
  rw [sat_iteb, sat_ok]
theorem lzip_pr {xs ys : List I} {t' : Tag} : (bltD .lzip [(.lsi xs, t), (.lsi ys, t')]).sat Ex Q ↔ (xs.length ≤ 1000 ∧ ys.length ≤ 1000) ∧ Q (.lsi ((xs.zip ys).map fun p => .tup [p.1, p.2]), T0) := by
  show (if xs.length ≤ 1000 ∧ ys.length ≤ 1000 then M.ok (D.lsi ((xs.zip ys).map fun p => .tup [p.1, p.2]), T0) else .bad).sat Ex Q ↔ _
  rw [sat_iteb, sat_ok]
theorem srtset_pr {a : List Int} : (bltD .sortedset [(.lsi (a.map .int), t)]).sat Ex Q ↔ a.length < 64 ∧ Q (.lsi ((sortI (dedup a)).map .int), T0) := by
  show (match asInts (a.map .int) with | some ns => if ns.length < 64 then M.ok (D.lsi ((sortI (dedup ns)).map .int), T0) else .bad | none => .bad).sat Ex Q ↔ _
  rw [asInts_map]
  show (if a.length < 64 then M.ok (D.lsi ((sortI (dedup a)).map .int), T0) else .bad).sat Ex Q ↔ _
  rw [sat_iteb, sat_ok]
theorem imm_ok {j : I} {b' : Bool} : immM (.ok (.imm j, b')) = .ok (pim j) := (rfl)
theorem ev_dct : ev cf .dct (o' :: ρ) = .ok (pim .dic) := (rfl)
theorem scr_imm {j : I} : isScr (.imm j) = false := (rfl)
theorem scr_lsi {xs : List I} : isScr (.lsi xs) = false := (rfl)
theorem scr_lsd {xs : List D} : isScr (.lsd xs) = false := (rfl)
theorem scr_tpd {xs : List D} : isScr (.tpd xs) = false := (rfl)
theorem small_iff {i : Int} : small62 i ↔ (-4611686018427387904 ≤ i ∧ i < 4611686018427387904) := ⟨fun h => ⟨h.1, h.2⟩, fun h => ⟨h.1, h.2⟩⟩
end
end Iv

/-! Nm: numbers by a prime. -/
namespace Nm
def P25 : List Nat := [2, 3, 5, 7, 11, 13, 17, 19, 23, 29, 31, 37, 41, 43, 47, 53, 59, 61, 67, 71, 73, 79, 83, 89, 97]
/-- p is one of the primes up to 97 -/
def Pr (p : Int) : Prop := ∃ q : Nat, q ∈ P25 ∧ p = q
theorem P25_inv : ∀ q ∈ P25, ∀ a ∈ List.range q, a ≠ 0 → (a ^ (q - 2) % q) * a % q = 1 := by decide +kernel
theorem P25_b : ∀ q ∈ P25, 2 ≤ q ∧ q ≤ 97 := by decide
theorem Pr.two {p : Int} (h : Pr p) : 2 ≤ p := by obtain ⟨q, h, rfl⟩ := h; have := P25_b q h; omega
theorem Pr.le {p : Int} (h : Pr p) : p ≤ 97 := by obtain ⟨q, h, rfl⟩ := h; have := P25_b q h; omega
theorem Pr.pos {p : Int} (h : Pr p) : 0 < p := by have := h.two; omega
theorem Pr.inv {p a : Int} (h : Pr p) (ha : a % p ≠ 0) : ∃ b, 0 ≤ b ∧ b < p ∧ b * a % p = 1 := by
  have hp := h.pos
  obtain ⟨q, hq, rfl⟩ := h
  have a0 : 0 ≤ a % (q : Int) := Int.emod_nonneg _ (by omega)
  have a1 : a % (q : Int) < q := Int.emod_lt_of_pos _ hp
  obtain ⟨n, hn⟩ : ∃ n : Nat, a % (q : Int) = n := ⟨(a % (q : Int)).toNat, by omega⟩
  have e := P25_inv q hq n (List.mem_range.mpr (by omega)) (by intro z; subst z; exact ha (by simpa using hn))
  refine ⟨((n ^ (q - 2) % q : Nat) : Int), by omega, by have := Nat.mod_lt (n ^ (q - 2)) (show 0 < q by omega); omega, ?_⟩
  rw [Int.mul_emod, hn]
  have : (((n ^ (q - 2) % q : Nat) : Int) % q * n) % q = 1 := by
    have e2 : ((((n ^ (q - 2) % q) * n % q : Nat)) : Int) = 1 := by rw [e]; rfl
    rw [Int.natCast_emod, Int.natCast_mul] at e2
    rw [Int.mul_emod, Int.emod_emod_of_dvd _ (Int.dvd_refl _), ← Int.mul_emod]
    exact e2
  exact this
/-- by p -/
theorem md_add {p a b : Int} : (a % p + b % p) % p = (a + b) % p := (Int.add_emod a b p).symm
theorem md_mul {p a b : Int} : (a % p * (b % p)) % p = (a * b) % p := (Int.mul_emod a b p).symm
theorem md_mul_l {p a b : Int} : (a % p * b) % p = (a * b) % p := by rw [Int.mul_emod, Int.emod_emod_of_dvd _ (Int.dvd_refl p), ← Int.mul_emod]
theorem md_mul_r {p a b : Int} : (a * (b % p)) % p = (a * b) % p := by rw [Int.mul_emod, Int.emod_emod_of_dvd _ (Int.dvd_refl p), ← Int.mul_emod]
theorem md_md {p a : Int} : a % p % p = a % p := Int.emod_emod_of_dvd _ (Int.dvd_refl p)
theorem md_add_l {p a b : Int} : (a % p + b) % p = (a + b) % p := by rw [Int.add_emod, md_md, ← Int.add_emod]
theorem md_add_r {p a b : Int} : (a + b % p) % p = (a + b) % p := by rw [Int.add_emod, md_md, ← Int.add_emod]
theorem md_sub_l {p a b : Int} : (a % p - b) % p = (a - b) % p := by rw [Int.sub_emod, md_md, ← Int.sub_emod]
theorem md_sub_r {p a b : Int} : (a - b % p) % p = (a - b) % p := by rw [Int.sub_emod, md_md, ← Int.sub_emod]
/-- equal by p -/
def Eqm (p a b : Int) : Prop := a % p = b % p
theorem Pr.cancel {p a b c : Int} (h : Pr p) (hc : c % p ≠ 0) (e : (a * c) % p = (b * c) % p) : a % p = b % p := by
  obtain ⟨d, _, _, hd⟩ := h.inv hc
  have k : ∀ x : Int, x * c * d % p = x % p := fun x => by
    rw [Int.mul_assoc, ← md_mul_r, show c * d = d * c from Int.mul_comm _ _, hd, Int.mul_one]
  have := congrArg (fun z => z * d % p) e
  simp only [md_mul_l] at this
  rw [k, k] at this
  exact this
theorem Pr.nz {p a b : Int} (h : Pr p) (e : a * b % p = 0) : a % p = 0 ∨ b % p = 0 := by
  by_cases hb : b % p = 0
  · exact .inr hb
  · left
    have := h.cancel (a := a) (b := 0) hb (by rw [e, Int.zero_mul, Int.zero_emod])
    rw [Int.zero_emod] at this
    exact this
theorem md_small {p a : Int} (h0 : 0 ≤ a) (h1 : a < p) : a % p = a := Int.emod_eq_of_lt h0 h1
/-- the quotient: the least number that times b is a -/
theorem Pr.quot {p a b : Int} (h : Pr p) (hb : b % p ≠ 0) : ∃ r : Nat, (r : Int) < p ∧ (r : Int) * b % p = a % p ∧ ∀ s : Nat, s < r → ¬ (s : Int) * b % p = a % p := by
  have hp := h.pos
  obtain ⟨d, d0, d1, hd⟩ := h.inv hb
  have e0 : 0 ≤ a * d % p := Int.emod_nonneg _ (by omega)
  have e1 : a * d % p < p := Int.emod_lt_of_pos _ hp
  refine ⟨(a * d % p).toNat, by omega, ?_, fun s hs e => ?_⟩
  · rw [Int.toNat_of_nonneg e0, md_mul_l, Int.mul_assoc, ← md_mul_r, hd, Int.mul_one]
  · have : ((a * d % p).toNat : Int) * b % p = a % p := by
      rw [Int.toNat_of_nonneg e0, md_mul_l, Int.mul_assoc, ← md_mul_r, hd, Int.mul_one]
    have q := h.cancel hb (e.trans this.symm)
    rw [md_small (by omega) (by omega), md_small (by omega) (by omega)] at q
    omega
end Nm

/-! NmB: lines taken apart: what the class Base and its users compute. -/
namespace Nm
abbrev Ln := List Int
def lessF (p : Int) (one other : Ln) (n : Int) : Ln := (one.zip other).map fun q => (q.1 - n * q.2) % p
def unitF (size : Nat) (k : Nat) : Ln := (List.range size).map fun j => if j = k then 1 else 0
def firstF (l : Ln) : Option Nat := l.findIdx? fun z => decide (z ≠ 0)
def overN (p a b : Int) : Nat := ((List.range p.toNat).find? fun (r : Nat) => decide ((r : Int) * b % p = a % p)).getD 0
def overF (p a b : Int) : Int := (overN p a b : Nat)
structure Bas where
  leads : List Nat
  lines : List Ln
  mixes : List Ln
/-- one step of taking out -/
def redStep (p : Int) (st : Ln × Ln) (q : Nat × Ln × Ln) : Ln × Ln := (lessF p st.1 q.2.1 (st.1.getD q.1 0), lessF p st.2 q.2.2 (st.1.getD q.1 0))
def Bas.rows (B : Bas) : List (Nat × Ln × Ln) := B.leads.zip (B.lines.zip B.mixes)
def Bas.red (p : Int) (B : Bas) (line mix : Ln) : Ln × Ln := B.rows.foldl (redStep p) (line, mix)
def scaleF (p n : Int) (l : Ln) : Ln := l.map fun z => n * z % p
/-- a line put in: the base then, and the multipliers where it comes to nought -/
def Bas.put (p : Int) (B : Bas) (line mix : Ln) : Bas × Option Ln :=
  let r := B.red p line mix
  match firstF r.1 with
  | none => (B, some r.2)
  | some k =>
    let n := overF p 1 (r.1.getD k 0)
    let l := scaleF p n r.1
    let m := scaleF p n r.2
    (⟨B.leads ++ [k], (B.lines.map fun o => lessF p o l (o.getD k 0)) ++ [l], ((B.lines.zip B.mixes).map fun q => lessF p q.2 m (q.1.getD k 0)) ++ [m]⟩, none)
def Bas.nil : Bas := ⟨[], [], []⟩
def putStep (p : Int) (many : Nat) (st : Bas × List Ln) (q : Ln × Nat) : Bas × List Ln :=
  let r := st.1.put p q.1 (unitF many q.2)
  (r.1, match r.2 with | none => st.2 | some m => st.2 ++ [m])
def baseF (p : Int) (lines : List Ln) : Bas × List Ln := lines.zipIdx.foldl (putStep p lines.length) (Bas.nil, [])
def Bas.square (p : Int) (B : Bas) (width k : Nat) : Ln := (B.leads.zip B.lines).foldl (fun f q => f.set q.1 ((0 - q.2.getD k 0) % p)) (unitF width k)
inductive Hd where
  | sum (m : Ln) | turn (x : Ln)
def heldF (p : Int) (width : Nat) (lines : List Ln) (wished : Ln) : Hd :=
  let B := (baseF p lines).1
  let r := B.red p wished (lines.map fun _ => 0)
  match firstF r.1 with
  | none => .sum (r.2.map fun z => (0 - z) % p)
  | some k => .turn (scaleF p (overF p 1 (r.1.getD k 0)) (B.square p width k))
def noughtF (p : Int) (lines : List Ln) : List Ln := (baseF p lines).2
/-- lines of a width, by p -/
def LnOk (p : Int) (w : Nat) (l : Ln) : Prop := l.length = w ∧ ∀ z ∈ l, 0 ≤ z ∧ z < p
def LsOk (p : Int) (w : Nat) (ls : List Ln) : Prop := ∀ l ∈ ls, LnOk p w l
structure Bas.Ok (p : Int) (w m : Nat) (B : Bas) : Prop where
  l1 : B.lines.length = B.leads.length
  l2 : B.mixes.length = B.leads.length
  ld : ∀ k ∈ B.leads, k < w
  ln : LsOk p w B.lines
  mx : LsOk p m B.mixes
theorem lessF_ok {p : Int} {w : Nat} {a b : Ln} {n : Int} (hp : 0 < p) (ha : a.length = w) (hb : b.length = w) : LnOk p w (lessF p a b n) := by
  refine ⟨by unfold lessF; simp [ha, hb], fun z hz => ?_⟩
  unfold lessF at hz
  obtain ⟨q, _, rfl⟩ := List.mem_map.mp hz
  exact ⟨Int.emod_nonneg _ (by omega), Int.emod_lt_of_pos _ hp⟩
theorem scaleF_ok {p : Int} {w : Nat} {a : Ln} {n : Int} (hp : 0 < p) (ha : a.length = w) : LnOk p w (scaleF p n a) := by
  refine ⟨by unfold scaleF; simp [ha], fun z hz => ?_⟩
  unfold scaleF at hz
  obtain ⟨q, _, rfl⟩ := List.mem_map.mp hz
  exact ⟨Int.emod_nonneg _ (by omega), Int.emod_lt_of_pos _ hp⟩
theorem unitF_ok {p : Int} {s k : Nat} (hp : 2 ≤ p) : LnOk p s (unitF s k) := by
  refine ⟨by unfold unitF; simp, fun z hz => ?_⟩
  unfold unitF at hz
  obtain ⟨q, _, rfl⟩ := List.mem_map.mp hz
  split <;> omega
theorem red_ok {p : Int} {w m : Nat} (hp : 0 < p) : ∀ (rows : List (Nat × Ln × Ln)) (l x : Ln), (∀ q ∈ rows, q.2.1.length = w ∧ q.2.2.length = m) → LnOk p w l → LnOk p m x → LnOk p w (rows.foldl (redStep p) (l, x)).1 ∧ LnOk p m (rows.foldl (redStep p) (l, x)).2
  | [], l, x, _, h1, h2 => ⟨h1, h2⟩
  | q :: r, l, x, h, h1, h2 => by
    have hq := h q List.mem_cons_self
    exact red_ok hp r _ _ (fun q m => h q (List.mem_cons_of_mem _ m)) (lessF_ok hp h1.1 hq.1) (lessF_ok hp h2.1 hq.2)
theorem Bas.Ok.rows {p : Int} {w m : Nat} {B : Bas} (h : B.Ok p w m) : ∀ q ∈ B.rows, q.1 < w ∧ q.2.1.length = w ∧ q.2.2.length = m := by
  intro q hq
  have h1 := (List.of_mem_zip (show (q.1, q.2) ∈ B.leads.zip (B.lines.zip B.mixes) from hq))
  have h2 := (List.of_mem_zip (show (q.2.1, q.2.2) ∈ B.lines.zip B.mixes from h1.2))
  exact ⟨h.ld _ h1.1, (h.ln _ h2.1).1, (h.mx _ h2.2).1⟩
theorem Bas.Ok.red {p : Int} {w m : Nat} {B : Bas} (h : B.Ok p w m) (hp : 0 < p) {l x : Ln} (h1 : LnOk p w l) (h2 : LnOk p m x) : LnOk p w (B.red p l x).1 ∧ LnOk p m (B.red p l x).2 :=
  red_ok hp B.rows l x (fun q hq => (h.rows q hq).2) h1 h2
theorem firstF_some {l : Ln} {k : Nat} (h : firstF l = some k) : k < l.length ∧ l.getD k 0 ≠ 0 ∧ ∀ j, j < k → l.getD j 0 = 0 := by
  unfold firstF at h
  obtain ⟨h1, h2, h3⟩ := List.findIdx?_eq_some_iff_getElem.mp h
  refine ⟨h1, ?_, fun j hj => ?_⟩
  · rw [List.getD_eq_getElem?_getD, List.getElem?_eq_getElem h1]; simpa using h2
  · rw [List.getD_eq_getElem?_getD, List.getElem?_eq_getElem (by omega)]; simpa using h3 j hj
theorem firstF_none {l : Ln} (h : firstF l = none) : ∀ z ∈ l, z = 0 := by
  unfold firstF at h
  intro z hz
  have := List.findIdx?_eq_none_iff.mp h z hz
  simpa using this
theorem Bas.Ok.put {p : Int} {w m : Nat} {B : Bas} (h : B.Ok p w m) (hp : 0 < p) {l x : Ln} (h1 : LnOk p w l) (h2 : LnOk p m x) : (B.put p l x).1.Ok p w m ∧ ∀ y, (B.put p l x).2 = some y → LnOk p m y := by
  have hr := h.red hp h1 h2
  unfold Bas.put
  simp only
  split
  · exact ⟨h, fun y e => by cases e; exact hr.2⟩
  · rename_i k hk
    have k1 := (firstF_some hk).1
    rw [hr.1.1] at k1
    have l3 := scaleF_ok (n := overF p 1 ((B.red p l x).1.getD k 0)) hp hr.1.1
    have m3 := scaleF_ok (n := overF p 1 ((B.red p l x).1.getD k 0)) hp hr.2.1
    refine ⟨⟨?_, ?_, fun j hj => ?_, fun a ha => ?_, fun a ha => ?_⟩, fun y e => by cases e⟩
    · simp [h.l1]
    · simp [h.l1, h.l2]
    · rcases List.mem_append.mp hj with hj | hj
      · exact h.ld j hj
      · rw [List.mem_singleton.mp hj]; exact k1
    · rcases List.mem_append.mp ha with ha | ha
      · obtain ⟨o, ho, rfl⟩ := List.mem_map.mp ha
        exact lessF_ok hp (h.ln o ho).1 l3.1
      · rw [List.mem_singleton.mp ha]; exact l3
    · rcases List.mem_append.mp ha with ha | ha
      · obtain ⟨q, hq, rfl⟩ := List.mem_map.mp ha
        have := List.of_mem_zip (show (q.1, q.2) ∈ B.lines.zip B.mixes from hq)
        exact lessF_ok hp (h.mx _ this.2).1 m3.1
      · rw [List.mem_singleton.mp ha]; exact m3
theorem Bas.nil_ok {p : Int} {w m : Nat} : Bas.nil.Ok p w m := ⟨rfl, rfl, (fun _ h => by cases h), (fun _ h => by cases h), (fun _ h => by cases h)⟩
theorem overN_is {p a b : Int} (h : Pr p) (hb : b % p ≠ 0) : (overN p a b : Int) < p ∧ (overN p a b : Int) * b % p = a % p ∧ ∀ s : Nat, s < overN p a b → ¬ (s : Int) * b % p = a % p := by
  obtain ⟨r, r1, r2, r3⟩ := h.quot (a := a) hb
  have e : overN p a b = r := by
    have q : (List.range p.toNat).find? (fun (r : Nat) => decide ((r : Int) * b % p = a % p)) = some r := by
      rw [List.find?_eq_some_iff_getElem]
      refine ⟨by simpa using r2, r, by simp; omega, by simp, fun j hj => by simpa using r3 j hj⟩
    unfold overN
    rw [q]; rfl
  rw [e]
  exact ⟨r1, r2, r3⟩
end Nm

/-! Iv Y: the class Base in the heap; what its defs promise. -/
namespace Iv
open PySem PySem.Spec L2 Nm
open PyProof.Rows hiding St
theorem nPL : ¬ (("prime" : Str) = "leads") := by decide +kernel
theorem nPN : ¬ (("prime" : Str) = "lines") := by decide +kernel
theorem nPM : ¬ (("prime" : Str) = "mixes") := by decide +kernel
theorem nLN : ¬ (("leads" : Str) = "lines") := by decide +kernel
theorem nLM : ¬ (("leads" : Str) = "mixes") := by decide +kernel
theorem nNM : ¬ (("lines" : Str) = "mixes") := by decide +kernel
/-- the attributes -/
def bfl (p : Int) (a b c : Addr) : List (Str × V) := putF "mixes" (.ref c) (putF "lines" (.ref b) (putF "leads" (.ref a) (putF "prime" (.int p) [])))
section
variable {p : Int} {a b c : Addr}
theorem bfl_p : (bfl p a b c).lookup ("prime" : Str) = some (.int p) := by
  unfold bfl; rw [lookup_putF, if_neg nPM, lookup_putF, if_neg nPN, lookup_putF, if_neg nPL, lookup_putF, if_pos rfl]
theorem bfl_l : (bfl p a b c).lookup ("leads" : Str) = some (.ref a) := by
  unfold bfl; rw [lookup_putF, if_neg nLM, lookup_putF, if_neg nLN, lookup_putF, if_pos rfl]
theorem bfl_n : (bfl p a b c).lookup ("lines" : Str) = some (.ref b) := by
  unfold bfl; rw [lookup_putF, if_neg nNM, lookup_putF, if_pos rfl]
theorem bfl_m : (bfl p a b c).lookup ("mixes" : Str) = some (.ref c) := by
  unfold bfl; rw [lookup_putF, if_pos rfl]
theorem bfl_no {m : Str} (h1 : ¬ m = "mixes") (h2 : ¬ m = "lines") (h3 : ¬ m = "leads") (h4 : ¬ m = "prime") : (bfl p a b c).lookup m = none := by
  unfold bfl; rw [lookup_putF, if_neg h1, lookup_putF, if_neg h2, lookup_putF, if_neg h3, lookup_putF, if_neg h4]; rfl
end
/-- lists of numbers, in the heap, none of them where q says no -/
def LsR (H : Hp) (q : Addr → Prop) : List Ln → List V → Prop := Paired fun l v => ∃ a, v = .ref a ∧ q a ∧ H a = some (.lst (l.map V.int))
theorem LsR.keep {H H' : Hp} {q q' : Addr → Prop} {ls : List Ln} {vs : List V} (r : LsR H q ls vs) (h : ∀ a o, q a → H a = some o → H' a = some o ∧ q' a) : LsR H' q' ls vs :=
  Paired.mapP r fun l v ⟨a, e, qa, ha⟩ => ⟨a, e, (h a _ qa ha).2, (h a _ qa ha).1⟩
theorem LsR.get {H : Hp} {q : Addr → Prop} {ls : List Ln} {vs : List V} (r : LsR H q ls vs) : ∀ {i : Nat} {l : Ln}, ls[i]? = some l → ∃ a, vs[i]? = some (.ref a) ∧ q a ∧ H a = some (.lst (l.map V.int)) := by
  induction r with
  | nil => intro i l h; cases h
  | cons h r ih =>
    intro i l e
    cases i with
    | zero => cases e; obtain ⟨a, rfl, h1, h2⟩ := h; exact ⟨a, rfl, h1, h2⟩
    | succ i => exact ih e
theorem LsR.len {H : Hp} {q : Addr → Prop} {ls : List Ln} {vs : List V} (r : LsR H q ls vs) : ls.length = vs.length := Paired.length r
theorem LsR.snoc {H : Hp} {q : Addr → Prop} {ls : List Ln} {vs : List V} {l : Ln} {a : Addr} (r : LsR H q ls vs) (qa : q a) (ha : H a = some (.lst (l.map V.int))) : LsR H q (ls ++ [l]) (vs ++ [.ref a]) := by
  induction r with
  | nil => exact .cons ⟨a, rfl, qa, ha⟩ .nil
  | cons h r ih => exact .cons h ih
theorem LsR.set {H : Hp} {q : Addr → Prop} {ls : List Ln} {vs : List V} {l : Ln} {a : Addr} (r : LsR H q ls vs) (qa : q a) (ha : H a = some (.lst (l.map V.int))) : ∀ i : Nat, LsR H q (ls.set i l) (vs.set i (.ref a)) := by
  induction r with
  | nil => intro i; exact .nil
  | cons h r ih =>
    intro i
    cases i with
    | zero => exact .cons ⟨a, rfl, qa, ha⟩ r
    | succ i => exact .cons h (ih i)
/-- a Base stands at o, its lists at a, b, c -/
structure BAt (C : Addr) (H : Hp) (o a b c d : Addr) (p : Int) (B : Bas) : Prop where
  ob : ∃ dx, H o = some (.ins C dx (bfl p a b c))
  h1 : H a = some (.lst (B.leads.map fun k : Nat => V.int k))
  h2 : ∃ vs, H b = some (.lst vs) ∧ LsR H (fun x => x ≠ a ∧ x ≠ b ∧ x ≠ c ∧ x ≠ d) B.lines vs
  h3 : ∃ vs, H c = some (.lst vs) ∧ LsR H (fun x => x ≠ a ∧ x ≠ b ∧ x ≠ c ∧ x ≠ d) B.mixes vs
  nab : a ≠ b
  nac : a ≠ c
  nbc : b ≠ c
theorem BAt.same {C : Addr} {H H' : Hp} {o a b c d : Addr} {p : Int} {B : Bas} (t : BAt C H o a b c d p B) (s : Same H H') : BAt C H' o a b c d p B := by
  obtain ⟨⟨dx, h0⟩, h1, ⟨vs, h2, r2⟩, ⟨ws, h3, r3⟩, n1, n2, n3⟩ := t
  exact ⟨⟨dx, s _ _ h0⟩, s _ _ h1, ⟨vs, s _ _ h2, r2.keep fun x o q e => ⟨s _ _ e, q⟩⟩, ⟨ws, s _ _ h3, r3.keep fun x o q e => ⟨s _ _ e, q⟩⟩, n1, n2, n3⟩
/-- what is tracked stays, but for the lists of the Base -/
def KpB (a b c : Addr) (H H' : Hp) : Prop := ∀ x o, H x = some o → x ≠ a → x ≠ b → x ≠ c → H' x = some o
/-- the promises -/
def spBI (C : Addr) : Sp := fun vs H Q _ => ∃ (o dx : Addr) (p : Int), vs = [.ref o, .int p] ∧ H o = some (.ins C dx []) ∧
  ∀ a b c H', H a = none → H b = none → H c = none → (∀ d, BAt C H' o a b c d p Bas.nil) → (∀ x u, H x = some u → x ≠ o → H' x = some u) → Q .non H'
def spBR (C : Addr) : Sp := fun vs H Q _ => ∃ (o a b c d x y : Addr) (p : Int) (B : Bas) (w m : Nat) (l n : Ln), vs = [.ref o, .ref x, .ref y] ∧ Pr p ∧ BAt C H o a b c d p B ∧ B.Ok p w m ∧ LnOk p w l ∧ LnOk p m n ∧ H x = some (.lst (l.map V.int)) ∧ H y = some (.lst (n.map V.int)) ∧
  ∀ t x' y' H', Same H H' → H t = none → H' t = some (.tup [.ref x', .ref y']) → H' x' = some (.lst ((B.red p l n).1.map V.int)) → H' y' = some (.lst ((B.red p l n).2.map V.int)) → (x' = x ∨ H x' = none) → (y' = y ∨ H y' = none) → Q (.ref t) H'
def spBP (C : Addr) : Sp := fun vs H Q _ => ∃ (o a b c d x y : Addr) (p : Int) (B : Bas) (w m : Nat) (l n : Ln), vs = [.ref o, .ref x, .ref y] ∧ Pr p ∧ BAt C H o a b c d p B ∧ B.Ok p w m ∧ LnOk p w l ∧ LnOk p m n ∧ B.leads.length ≤ 1000 ∧ ((∃ u, H d = some u) ∧ d ≠ a ∧ d ≠ b ∧ d ≠ c) ∧ w < sizeLine ∧ m < sizeLine ∧ H x = some (.lst (l.map V.int)) ∧ H y = some (.lst (n.map V.int)) ∧ x ≠ a ∧ x ≠ b ∧ x ≠ c ∧ y ≠ a ∧ y ≠ b ∧ y ≠ c ∧
  ∀ v H', BAt C H' o a b c d p (B.put p l n).1 → KpB a b c H H' → (match (B.put p l n).2 with | none => v = .non | some z => ∃ r, v = .ref r ∧ H' r = some (.lst (z.map V.int)) ∧ r ≠ a ∧ r ≠ b ∧ r ≠ c ∧ (r = y ∨ H r = none)) → Q v H'
def spBS (C : Addr) : Sp := fun vs H Q _ => ∃ (o a b c d : Addr) (p : Int) (B : Bas) (w m : Nat) (k : Nat), vs = [.ref o, .int w, .int k] ∧ Pr p ∧ BAt C H o a b c d p B ∧ B.Ok p w m ∧ w ≤ 100000 ∧ k < w ∧
  ∀ r H', Same H H' → H r = none → H' r = some (.lst ((B.square p w k).map V.int)) → Q (.ref r) H'
/-- a list or a tuple of numbers, anywhere -/
def LnA (K : PySem.W.Frag) (H : Hp) (l : Ln) (v : V) : Prop := ∃ a, v = .ref a ∧ (SqL K H a (l.map V.int) ∨ SqT K H a (l.map V.int))
def spBO (K : PySem.W.Frag) (C : Addr) : Sp := fun vs H Q _ => ∃ (x : Addr) (p : Int) (w : Nat) (lines : List Ln) (us : List V), vs = [.int p, .ref x] ∧ Pr p ∧ LsOk p w lines ∧ lines.length ≤ 900 ∧ w ≤ 100000 ∧ SqL K H x us ∧ Paired (LnA K H) lines us ∧
  ∀ t o a b c n vs' H', Same H H' → H t = none → H' t = some (.tup [.ref o, .ref n]) → BAt C H' o a b c n p (baseF p lines).1 → (baseF p lines).1.Ok p w lines.length → H o = none → H n = none → H' n = some (.lst vs') → LsR H' (fun z => H z = none ∧ z ≠ n) (baseF p lines).2 vs' → Q (.ref t) H'
/-- a call of a def that the language tells -/
theorem spD_lst {K : PySem.W.Frag} {mg : Str → Option Value} {n : Nat} {φ : List D → M (D × Bool)} {ds : List D} {vs : List V} {H : Hp} {Q : VK} {E : XK} {r : List Int} (hp : Paired (Rep K H (fun _ => True) fun _ => True) ds vs) (hn : ds.length = n) (e : φ ds = .ok (.lsi (r.map .int), true))
    (q : ∀ a H', Same H H' → H a = none → H' a = some (.lst (r.map V.int)) → Q (.ref a) H') : spD K mg n φ vs H Q E := by
  refine ⟨fun _ => True, ds, hp, hn, ?_⟩
  rw [e]
  intro v H' s rv
  cases rv with
  | lsi hp ha ri =>
    have ev := RepIs.ints ri (asInts_map (ns := r))
    subst ev
    refine q _ H' s ?_ ha
    rcases hp with h | h
    · cases h.1
    · exact h
theorem spD_imm {K : PySem.W.Frag} {mg : Str → Option Value} {n : Nat} {φ : List D → M (D × Bool)} {ds : List D} {vs : List V} {H : Hp} {Q : VK} {E : XK} {i : I} (hp : Paired (Rep K H (fun _ => True) fun _ => True) ds vs) (hn : ds.length = n) (e : φ ds = .ok (.imm i, true))
    (q : ∀ v H', Same H H' → RepI K H' i v → Q v H') : spD K mg n φ vs H Q E := by
  refine ⟨fun _ => True, ds, hp, hn, ?_⟩
  rw [e]
  intro v H' s rv
  exact q v H' s (rep_imm rv)
theorem rep_ln {K : PySem.W.Frag} {H : Hp} {a : Addr} {l : Ln} (h : H a = some (.lst (l.map V.int))) : Rep K H (fun _ => True) (fun _ => True) (.lsi (l.map .int)) (.ref a) := .lsi trivial h (RepIs.ofInts l)
theorem rep_in {K : PySem.W.Frag} {H : Hp} {i : Int} : Rep K H (fun _ => True) (fun _ => True) (.imm (.int i)) (.int i) := .imm (.int i)
theorem for_zip3 {K : PySem.W.Frag} {a b c : Addr} {xs ys zs : List V} {g : TG} {tb : TS} {D : Ends} {σ : L2.St} {H : Hp} (hl : xs.length = ys.length) (hl2 : ys.length = zs.length) (Pv : Nat → L2.St → Hp → Prop) (h0 : Pv 0 σ H) (hq : ∀ i σ H, Pv i σ H → SqL K H a xs ∧ SqL K H b ys ∧ SqL K H c zs)
    (hs : ∀ (i : Nat) (x y z : V) (T : Addr) (σ : L2.St) (H : Hp), xs[i]? = some x → ys[i]? = some y → zs[i]? = some z → Pv i σ H → H T = none → g (.ref T) σ (upd H T (.tup [x, y, z])) fun σ2 H2 => tb { D with nx := Pv (i + 1), ct := Pv (i + 1), bk := D.nx } σ2 H2) (hd : ∀ σ H, Pv xs.length σ H → D.nx σ H) :
    ∃ W : Nat → Nat → L2.St → Hp → Prop, (∃ m, W 0 m σ H) ∧ ∀ i m σ H, W i m σ H →
      ((Itz3 K a b c).stop i H ∧ D.nx σ H) ∨ ((Itz3 K a b c).go i H ∧ ∃ N : L2.St → Hp → Prop, (∀ σ' H', N σ' H' → ∃ m', m' < m ∧ W (i + 1) m' σ' H') ∧ ∀ v H', (Itz3 K a b c).yld i H v H' → g v σ H' fun σ2 H2 => tb { D with nx := N, ct := N, bk := D.nx } σ2 H2) := by
  refine ⟨fun i m σ H => m = xs.length - i ∧ i ≤ xs.length ∧ Pv i σ H, ⟨_, rfl, Nat.zero_le _, h0⟩, ?_⟩
  rintro i m σ H ⟨rfl, hi, p⟩
  obtain ⟨qx, qy, qz⟩ := hq i σ H p
  by_cases hlt : i < xs.length
  · have hx : xs[i]? = some xs[i] := List.getElem?_eq_getElem hlt
    have hy : ys[i]? = some (ys[i]'(by omega)) := List.getElem?_eq_getElem (by omega)
    have hz : zs[i]? = some (zs[i]'(by omega)) := List.getElem?_eq_getElem (by omega)
    refine .inr ⟨⟨xs, ys, zs, _, _, _, qx, qy, qz, hx, hy, hz⟩, Pv (i + 1), fun σ' H' p' => ⟨xs.length - (i + 1), by omega, rfl, hlt, p'⟩, fun v H' y => ?_⟩
    obtain ⟨T, x', y', z', rfl, hT, rfl, f1, f2, f3⟩ := y
    exact hs i x' y' z' T σ H (f1 xs qx) (f2 ys qy) (f3 zs qz) p hT
  · have e : i = xs.length := by omega
    subst e
    exact .inl ⟨⟨xs, ys, zs, qx, qy, qz, by omega⟩, hd σ H p⟩
theorem for_zip2 {K : PySem.W.Frag} {a b : Addr} {xs ys : List V} {g : TG} {tb : TS} {D : Ends} {σ : L2.St} {H : Hp} (hl : xs.length = ys.length) (Pv : Nat → L2.St → Hp → Prop) (h0 : Pv 0 σ H) (hq : ∀ i σ H, Pv i σ H → SqL K H a xs ∧ SqL K H b ys)
    (hs : ∀ (i : Nat) (x y : V) (T : Addr) (σ : L2.St) (H : Hp), xs[i]? = some x → ys[i]? = some y → Pv i σ H → H T = none → g (.ref T) σ (upd H T (.tup [x, y])) fun σ2 H2 => tb { D with nx := Pv (i + 1), ct := Pv (i + 1), bk := D.nx } σ2 H2) (hd : ∀ σ H, Pv xs.length σ H → D.nx σ H) :
    ∃ W : Nat → Nat → L2.St → Hp → Prop, (∃ m, W 0 m σ H) ∧ ∀ i m σ H, W i m σ H →
      ((Itz K a b).stop i H ∧ D.nx σ H) ∨ ((Itz K a b).go i H ∧ ∃ N : L2.St → Hp → Prop, (∀ σ' H', N σ' H' → ∃ m', m' < m ∧ W (i + 1) m' σ' H') ∧ ∀ v H', (Itz K a b).yld i H v H' → g v σ H' fun σ2 H2 => tb { D with nx := N, ct := N, bk := D.nx } σ2 H2) := by
  refine ⟨fun i m σ H => m = xs.length - i ∧ i ≤ xs.length ∧ Pv i σ H, ⟨_, rfl, Nat.zero_le _, h0⟩, ?_⟩
  rintro i m σ H ⟨rfl, hi, p⟩
  obtain ⟨qx, qy⟩ := hq i σ H p
  by_cases hlt : i < xs.length
  · have hx : xs[i]? = some xs[i] := List.getElem?_eq_getElem hlt
    have hy : ys[i]? = some (ys[i]'(by omega)) := List.getElem?_eq_getElem (by omega)
    refine .inr ⟨⟨xs, ys, _, _, qx, qy, hx, hy⟩, Pv (i + 1), fun σ' H' p' => ⟨xs.length - (i + 1), by omega, rfl, hlt, p'⟩, fun v H' y => ?_⟩
    obtain ⟨T, x', y', rfl, hT, rfl, f1, f2⟩ := y
    exact hs i x' y' T σ H (f1 xs qx) (f2 ys qy) p hT
  · have e : i = xs.length := by omega
    subst e
    exact .inl ⟨⟨xs, ys, qx, qy, by omega⟩, hd σ H p⟩
theorem pgetP {α β : Type} {R : α → β → Prop} {xs : List α} {ys : List β} (r : Paired R xs ys) : ∀ {i : Nat} {x : α}, xs[i]? = some x → ∃ y, ys[i]? = some y ∧ R x y := by
  induction r with
  | nil => intro i x h; cases h
  | cons h r ih =>
    intro i x e
    cases i with
    | zero => cases e; exact ⟨_, rfl, h⟩
    | succ i => exact ih e
theorem for_enum {K : PySem.W.Frag} {a : Addr} {xs : List V} {g : TG} {tb : TS} {D : Ends} {σ : L2.St} {H : Hp} (Pv : Nat → L2.St → Hp → Prop) (h0 : Pv 0 σ H) (hl : ∀ i σ H, Pv i σ H → SqL K H a xs)
    (hs : ∀ (i : Nat) (x : V) (T : Addr) (σ : L2.St) (H : Hp), xs[i]? = some x → Pv i σ H → H T = none → g (.ref T) σ (upd H T (.tup [.int (i : Nat), x])) fun σ2 H2 => tb { D with nx := Pv (i + 1), ct := Pv (i + 1), bk := D.nx } σ2 H2) (hd : ∀ σ H, Pv xs.length σ H → D.nx σ H) :
    ∃ W : Nat → Nat → L2.St → Hp → Prop, (∃ m, W 0 m σ H) ∧ ∀ i m σ H, W i m σ H →
      ((Ite K a).stop i H ∧ D.nx σ H) ∨ ((Ite K a).go i H ∧ ∃ N : L2.St → Hp → Prop, (∀ σ' H', N σ' H' → ∃ m', m' < m ∧ W (i + 1) m' σ' H') ∧ ∀ v H', (Ite K a).yld i H v H' → g v σ H' fun σ2 H2 => tb { D with nx := N, ct := N, bk := D.nx } σ2 H2) := by
  refine ⟨fun i m σ H => m = xs.length - i ∧ i ≤ xs.length ∧ Pv i σ H, ⟨_, rfl, Nat.zero_le _, h0⟩, ?_⟩
  rintro i m σ H ⟨rfl, hi, p⟩
  have q := hl i σ H p
  by_cases hlt : i < xs.length
  · refine .inr ⟨⟨xs, xs[i], q, by simp [hlt]⟩, Pv (i + 1), fun σ' H' p' => ⟨xs.length - (i + 1), by omega, rfl, hlt, p'⟩, fun v H' y => ?_⟩
    obtain ⟨T, x', rfl, hT, rfl, f1⟩ := y
    exact hs i x' T σ H (f1 xs q) p hT
  · have e : i = xs.length := by omega
    subst e
    exact .inl ⟨⟨xs, q, Nat.le_refl _⟩, hd σ H p⟩
theorem ixN_nat {n i : Nat} (h : i < n) : ixN n (i : Int) = some i := by
  unfold ixN
  rw [if_pos (by omega), if_pos (by omega)]
  rfl
/-- a comprehension over numbers -/
theorem lc_ln {K : PySem.W.Frag} {a : Addr} {l : Ln} {f : Int → Int} {j : Nat} {te : TE} {vs : List Nat} {σ : L2.St} {H1 : Hp} {D : Addr} {Qd : Hp → Prop} (hS : SqL K H1 a (l.map V.int)) (hD : H1 D = none) (hz : l.length < sizeLine)
    (hw : ∀ z : Int, wipe ((wipe σ vs).set j (some (.int z))) vs = wipe σ vs) (ht : ∀ z ∈ l, ∀ H (Q : VK), Iv.Same H1 H → Q (.int (f z)) H → te ((wipe σ vs).set j (some (.int z))) H Q)
    (hd : Qd (upd H1 D (.lst ((l.map f).map V.int)))) :
    ∃ W : Nat → Nat → Hp → Prop, (∃ m, W 0 m (upd H1 D (.lst []))) ∧ ∀ i m H, W i m H →
      ((Itl K a).stop i H ∧ Qd H) ∨ ((Itl K a).go i H ∧ ∃ Nx : Hp → Prop, (∀ H', Nx H' → ∃ m', m' < m ∧ W (i + 1) m' H') ∧ ∀ x H', (Itl K a).yld i H x H' → gName j x (wipe σ vs) H' fun σ2 H2 => wipe σ2 vs = wipe σ vs ∧ tYes σ2 H2 fun b H3 =>
        if b = true then te σ2 H3 fun y H4 => ∃ acc, H4 D = some (.lst acc) ∧ acc.length < sizeLine ∧ Nx (upd H4 D (.lst (acc ++ [y]))) else Nx H3) := by
  have sm : ∀ xs, Iv.Same H1 (upd H1 D (.lst xs)) := fun xs => Iv.Same.new hD
  refine lc_list (xs := l.map V.int) (fun i H => H = upd H1 D (.lst (((l.take i).map f).map V.int))) rfl (fun i H _ e => by subst e; exact (sm _).sqL hS) ?_ ?_
  · rintro i x H hx rfl
    rw [List.getElem?_map, Option.map_eq_some_iff] at hx
    obtain ⟨z, hz', rfl⟩ := hx
    have hi := (List.getElem?_eq_some_iff.mp hz').1
    refine ⟨hw z, ?_⟩
    refine ht z (List.mem_of_getElem? hz') _ _ (sm _) ⟨_, upd_same, ?_, ?_⟩
    · simp; omega
    · show upd (upd H1 D _) D _ = upd H1 D _
      funext y
      by_cases e : y = D
      · subst e
        rw [upd_same, upd_same, List.take_add_one, hz']
        simp
      · rw [upd_ne e, upd_ne e, upd_ne e]
  · rintro H rfl
    rw [List.length_map, List.take_length]
    exact hd
/-! a Base's lists written -/
section
variable {C : Addr} {H : Hp} {o a b c d : Addr} {p : Int} {ld : List Nat} {ls ms : List Ln}
theorem wr_keep {x : Addr} {us vs : List V} (h : H x = some (.lst vs)) {y : Addr} {u : HO} (e : H y = some u) (n : y ≠ x) : upd H x (.lst us) y = some u := by rw [upd_ne n]; exact e
theorem BAt.wrA (t : BAt C H o a b c d p ⟨ld, ls, ms⟩) (ld' : List Nat) : BAt C (upd H a (.lst (ld'.map fun k : Nat => V.int k))) o a b c d p ⟨ld', ls, ms⟩ ∧ KpB a b c H (upd H a (.lst (ld'.map fun k : Nat => V.int k))) := by
  obtain ⟨⟨dx, h0⟩, h1, ⟨vs, h2, r2⟩, ⟨ws, h3, r3⟩, n1, n2, n3⟩ := t
  exact ⟨⟨⟨dx, wr_keep h1 h0 (ne_of h0 h1 (by intro z; cases z))⟩, upd_same, ⟨vs, wr_keep h1 h2 n1.symm, r2.keep fun x u q e => ⟨wr_keep h1 e q.1, q⟩⟩, ⟨ws, wr_keep h1 h3 n2.symm, r3.keep fun x u q e => ⟨wr_keep h1 e q.1, q⟩⟩, n1, n2, n3⟩,
    fun x u e q1 q2 q3 => wr_keep h1 e q1⟩
theorem BAt.wrB {vs' : List V} {ls' : List Ln} (t : BAt C H o a b c d p ⟨ld, ls, ms⟩) (r : LsR H (fun x => x ≠ a ∧ x ≠ b ∧ x ≠ c ∧ x ≠ d) ls' vs') : BAt C (upd H b (.lst vs')) o a b c d p ⟨ld, ls', ms⟩ ∧ KpB a b c H (upd H b (.lst vs')) := by
  obtain ⟨⟨dx, h0⟩, h1, ⟨vs, h2, r2⟩, ⟨ws, h3, r3⟩, n1, n2, n3⟩ := t
  exact ⟨⟨⟨dx, wr_keep h2 h0 (ne_of h0 h2 (by intro z; cases z))⟩, wr_keep h2 h1 n1, ⟨vs', upd_same, r.keep fun x u q e => ⟨wr_keep h2 e q.2.1, q⟩⟩, ⟨ws, wr_keep h2 h3 n3.symm, r3.keep fun x u q e => ⟨wr_keep h2 e q.2.1, q⟩⟩, n1, n2, n3⟩,
    fun x u e q1 q2 q3 => wr_keep h2 e q2⟩
theorem BAt.wrC {vs' : List V} {ms' : List Ln} (t : BAt C H o a b c d p ⟨ld, ls, ms⟩) (r : LsR H (fun x => x ≠ a ∧ x ≠ b ∧ x ≠ c ∧ x ≠ d) ms' vs') : BAt C (upd H c (.lst vs')) o a b c d p ⟨ld, ls, ms'⟩ ∧ KpB a b c H (upd H c (.lst vs')) := by
  obtain ⟨⟨dx, h0⟩, h1, ⟨vs, h2, r2⟩, ⟨ws, h3, r3⟩, n1, n2, n3⟩ := t
  exact ⟨⟨⟨dx, wr_keep h3 h0 (ne_of h0 h3 (by intro z; cases z))⟩, wr_keep h3 h1 n2, ⟨vs, wr_keep h3 h2 n3, r2.keep fun x u q e => ⟨wr_keep h3 e q.2.2.1, q⟩⟩, ⟨vs', upd_same, r.keep fun x u q e => ⟨wr_keep h3 e q.2.2.1, q⟩⟩, n1, n2, n3⟩,
    fun x u e q1 q2 q3 => wr_keep h3 e q3⟩
theorem BAt.wrD {B : Bas} {vs us : List V} (t : BAt C H o a b c d p B) (hd : H d = some (.lst vs)) (da : d ≠ a) (db : d ≠ b) (dc : d ≠ c) : BAt C (upd H d (.lst us)) o a b c d p B := by
  obtain ⟨⟨dx, h0⟩, h1, ⟨vs, h2, r2⟩, ⟨ws, h3, r3⟩, n1, n2, n3⟩ := t
  exact ⟨⟨dx, wr_keep hd h0 (ne_of h0 hd (by intro z; cases z))⟩, wr_keep hd h1 da.symm, ⟨vs, wr_keep hd h2 db.symm, r2.keep fun x u q e => ⟨wr_keep hd e q.2.2.2, q⟩⟩, ⟨ws, wr_keep hd h3 dc.symm, r3.keep fun x u q e => ⟨wr_keep hd e q.2.2.2, q⟩⟩, n1, n2, n3⟩
theorem KpB.trans {H1 H2 : Hp} (k : KpB a b c H H1) (k' : KpB a b c H1 H2) : KpB a b c H H2 := fun x u e q1 q2 q3 => k' x u (k x u e q1 q2 q3) q1 q2 q3
theorem KpB.of {H1 : Hp} (s : Iv.Same H H1) : KpB a b c H H1 := fun x u e _ _ _ => s x u e
end
/-! the lists, while they are gone through -/
def stN (N i : Nat) (f g : Nat → Ln) : List Ln := (List.range N).map fun t => if t < i then f t else g t
theorem stN_len {N i : Nat} {f g : Nat → Ln} : (stN N i f g).length = N := by unfold stN; simp
theorem stN_zero {N : Nat} {f : Nat → Ln} {ls : List Ln} (h : ls.length = N) : stN N 0 f (fun t => ls.getD t []) = ls := by
  refine List.ext_getElem (by rw [stN_len, h]) fun t h1 h2 => ?_
  unfold stN
  simp [h2]
theorem stN_at {N i : Nat} {f g : Nat → Ln} (h : i < N) : (stN N i f g)[i]? = some (g i) := by
  unfold stN
  rw [List.getElem?_map, List.getElem?_range h]
  simp
theorem stN_get {N i t : Nat} {f g : Nat → Ln} : (stN N i f g)[t]? = if t < N then some (if t < i then f t else g t) else none := by
  unfold stN
  by_cases h : t < N
  · rw [if_pos h, List.getElem?_map, List.getElem?_range h]; rfl
  · rw [if_neg h, List.getElem?_eq_none (by simp; omega)]
theorem stN_set {N i : Nat} {f g : Nat → Ln} (h : i < N) : (stN N i f g).set i (f i) = stN N (i + 1) f g := by
  refine List.ext_getElem? fun t => ?_
  rw [List.getElem?_set, stN_get, stN_get, stN_len]
  by_cases e : i = t
  · subst e
    rw [if_pos rfl, if_pos h, if_pos h, if_pos (Nat.lt_succ_self i)]
  · rw [if_neg e]
    by_cases q : t < i
    · rw [if_pos q, if_pos (show t < i + 1 by omega)]
    · rw [if_neg q, if_neg (show ¬ t < i + 1 by omega)]
theorem stN_all {N : Nat} {f g : Nat → Ln} : stN N N f g = (List.range N).map f := by
  unfold stN
  refine List.map_congr_left fun t h => ?_
  rw [if_pos (List.mem_range.mp h)]
theorem putL {p : Int} {B : Bas} {l : Ln} {j N : Nat} (h : B.lines.length = N) : (List.range N).map (fun t => lessF p (B.lines.getD t []) l ((B.lines.getD t []).getD j 0)) = B.lines.map fun o => lessF p o l (o.getD j 0) := by
  refine List.ext_getElem (by simp [h]) fun t h1 h2 => ?_
  simp at h2
  simp [h2]
theorem putM {p : Int} {B : Bas} {m : Ln} {j N : Nat} (h : B.lines.length = N) (h' : B.mixes.length = N) : (List.range N).map (fun t => lessF p (B.mixes.getD t []) m ((B.lines.getD t []).getD j 0)) = (B.lines.zip B.mixes).map fun q => lessF p q.2 m (q.1.getD j 0) := by
  refine List.ext_getElem (by simp [h, h']) fun t h1 h2 => ?_
  simp at h1
  simp [show t < B.lines.length by omega, show t < B.mixes.length by omega]
/-! the two defs that hand out -/
theorem cx0 {P : Program} {w : World} {K : PySem.W.Frag} {mg : Str → Option Value} {base : Heap} {CX : CXT} {k : Nat} {f : Addr} {fd : FuncData} {ps : List Str} {sp : Sp} (F : FnOk P w K mg base CX0 k f fd ps sp) : FnOk P w K mg base CX k f fd ps sp :=
  ⟨F.len, fun A outer s H args us vs Q E hr e0 hb r hsp => codeAny_mono (F.run A outer s H args us vs Q E hr e0 hb r hsp) fun r s' h => by
    cases r with
    | ok u => cases u <;> exact h
    | error e => exact False.elim h⟩
def decLn : I → Option Ln
  | .tup xs => asInts xs
  | _ => none
def decLs : List I → Option (List Ln)
  | [] => some []
  | x :: r => (decLn x).bind fun l => (decLs r).map (l :: ·)
theorem decLs_map : ∀ (ls : List Ln), decLs (ls.map fun l => I.tup (l.map .int)) = some ls
  | [] => rfl
  | l :: ls => by
    show ((asInts (l.map I.int)).bind fun l => (decLs (ls.map fun l => I.tup (l.map .int))).map (l :: ·)) = _
    rw [asInts_map, decLs_map ls]; rfl
theorem decLs_rep {K : PySem.W.Frag} {H : Hp} : ∀ {xs : List I} {us : List V} {ls : List Ln}, RepIs K H xs us → decLs xs = some ls → Paired (LnA K H) ls us
  | [], _, _, .nil, e => by cases e; exact .nil
  | x :: xs, _, _, .cons h r, e => by
    have e : ((decLn x).bind fun l => (decLs xs).map (l :: ·)) = some _ := e
    obtain ⟨l, e1, e2⟩ := Option.bind_eq_some_iff.mp e
    obtain ⟨ls, e3, rfl⟩ := Option.map_eq_some_iff.mp e2
    refine .cons ?_ (decLs_rep r e3)
    cases x with
    | tup is =>
      obtain ⟨a, vs, rfl, ha, ra⟩ := repI_tup h
      have e1 : asInts is = some l := e1
      have ev := RepIs.ints ra e1
      subst ev
      exact ⟨a, rfl, .inr ha⟩
    | _ => cases e1
def hdD : Hd → D
  | .sum m => .tpd [.imm (.str "sum"), .lsi (m.map .int)]
  | .turn x => .imm (.tup [.str "turn", .tup (x.map .int)])
def GdN (p w : Int) (ls : List Ln) : Prop := Pr p ∧ 0 ≤ w ∧ w ≤ 100000 ∧ LsOk p w.toNat ls ∧ ls.length ≤ 900
def GdH (p w : Int) (ls : List Ln) (x : Ln) : Prop := GdN p w ls ∧ LnOk p w.toNat x
open Classical in
noncomputable def phiH : List D → M (D × Bool)
  | [.imm (.int p), .imm (.int w), .lsi xs, .imm (.tup ws)] =>
    match decLs xs, asInts ws with
    | some ls, some x => if GdH p w ls x then .ok (hdD (heldF p w.toNat ls x), true) else .bad
    | _, _ => .bad
  | _ => .bad
open Classical in
noncomputable def phiN : List D → M (D × Bool)
  | [.imm (.int p), .imm (.int w), .lsi xs] =>
    match decLs xs with
    | some ls => if GdN p w ls then .ok (.lsd ((noughtF p ls).map fun l => .lsi (l.map .int)), true) else .bad
    | _ => .bad
  | _ => .bad
theorem phiH_e {p : Int} {w : Nat} {ls : List Ln} {x : Ln} (h : GdH p w ls x) : phiH [.imm (.int p), .imm (.int (w : Int)), .lsi (ls.map fun l => I.tup (l.map .int)), .imm (.tup (x.map .int))] = .ok (hdD (heldF p w ls x), true) := by
  unfold phiH
  simp only [decLs_map, asInts_map, if_pos h]
  rfl
theorem phiN_e {p : Int} {w : Nat} {ls : List Ln} (h : GdN p w ls) : phiN [.imm (.int p), .imm (.int (w : Int)), .lsi (ls.map fun l => I.tup (l.map .int))] = .ok (.lsd ((noughtF p ls).map fun l => .lsi (l.map .int)), true) := by
  unfold phiN
  simp only [decLs_map, if_pos h]
theorem phiH_inv (ds : List D) : phiH ds = .bad ∨ ∃ p w xs ws ls x, ds = [.imm (.int p), .imm (.int w), .lsi xs, .imm (.tup ws)] ∧ decLs xs = some ls ∧ asInts ws = some x ∧ GdH p w ls x ∧ phiH ds = .ok (hdD (heldF p w.toNat ls x), true) := by
  unfold phiH
  split
  · rename_i p w xs ws
    split
    · rename_i ls x e1 e2
      split
      · rename_i h
        exact .inr ⟨p, w, xs, ws, ls, x, rfl, e1, e2, h, rfl⟩
      · exact .inl rfl
    · exact .inl rfl
  · exact .inl rfl
theorem phiN_inv (ds : List D) : phiN ds = .bad ∨ ∃ p w xs ls, ds = [.imm (.int p), .imm (.int w), .lsi xs] ∧ decLs xs = some ls ∧ GdN p w ls ∧ phiN ds = .ok (.lsd ((noughtF p ls).map fun l => .lsi (l.map .int)), true) := by
  unfold phiN
  split
  · rename_i p w xs
    split
    · rename_i ls e1
      split
      · rename_i h
        exact .inr ⟨p, w, xs, ls, rfl, e1, h, rfl⟩
      · exact .inl rfl
    · exact .inl rfl
  · exact .inl rfl
theorem LsR.reps {K : PySem.W.Frag} {H : Hp} {q : Addr → Prop} {ls : List Ln} {vs : List V} (r : LsR H q ls vs) : Reps K H q (ls.map fun l => .lsi (l.map .int)) vs := by
  induction r with
  | nil => exact .nil
  | cons h r ih => obtain ⟨a, rfl, h1, h2⟩ := h; exact .cons rfl (.lsi h1 h2 (RepIs.ofInts _)) ih
/-- a comprehension over anything -/
theorem lc_vs {K : PySem.W.Frag} {a : Addr} {xs : List V} {f : V → V} {j : Nat} {te : TE} {vs : List Nat} {σ : L2.St} {H1 : Hp} {D : Addr} {Qd : Hp → Prop} (hS : SqL K H1 a xs) (hD : H1 D = none) (hz : xs.length < sizeLine)
    (hw : ∀ z : V, wipe ((wipe σ vs).set j (some z)) vs = wipe σ vs) (ht : ∀ z ∈ xs, ∀ H (Q : VK), Iv.Same H1 H → Q (f z) H → te ((wipe σ vs).set j (some z)) H Q)
    (hd : Qd (upd H1 D (.lst (xs.map f)))) :
    ∃ W : Nat → Nat → Hp → Prop, (∃ m, W 0 m (upd H1 D (.lst []))) ∧ ∀ i m H, W i m H →
      ((Itl K a).stop i H ∧ Qd H) ∨ ((Itl K a).go i H ∧ ∃ Nx : Hp → Prop, (∀ H', Nx H' → ∃ m', m' < m ∧ W (i + 1) m' H') ∧ ∀ x H', (Itl K a).yld i H x H' → gName j x (wipe σ vs) H' fun σ2 H2 => wipe σ2 vs = wipe σ vs ∧ tYes σ2 H2 fun b H3 =>
        if b = true then te σ2 H3 fun y H4 => ∃ acc, H4 D = some (.lst acc) ∧ acc.length < sizeLine ∧ Nx (upd H4 D (.lst (acc ++ [y]))) else Nx H3) := by
  have sm : ∀ xs, Iv.Same H1 (upd H1 D (.lst xs)) := fun xs => Iv.Same.new hD
  refine lc_list (xs := xs) (fun i H => H = upd H1 D (.lst ((xs.take i).map f))) rfl (fun i H _ e => by subst e; exact (sm _).sqL hS) ?_ ?_
  · rintro i x H hx rfl
    have hi := (List.getElem?_eq_some_iff.mp hx).1
    refine ⟨hw x, ?_⟩
    refine ht x (List.mem_of_getElem? hx) _ _ (sm _) ⟨_, upd_same, ?_, ?_⟩
    · simp; omega
    · show upd (upd H1 D _) D _ = upd H1 D _
      funext y
      by_cases e : y = D
      · subst e
        rw [upd_same, upd_same, List.take_add_one, hx]
        simp
      · rw [upd_ne e, upd_ne e, upd_ne e]
  · rintro H rfl
    rw [List.take_length]
    exact hd
theorem fnbad {P : Program} {w : World} {K : PySem.W.Frag} {mg : Str → Option Value} {base : Heap} {CX : CXT} {k : Nat} {f : Addr} {fd : FuncData} {ps : List Str} {sp : Sp} (h : ∀ vs H Q E, ¬ sp vs H Q E) : FnOk P w K mg base CX k f fd ps sp :=
  ⟨fun vs H Q E q => (h _ _ _ _ q).elim, fun A outer s H args us vs Q E hr e0 hb r q => (h _ _ _ _ q).elim⟩
/-! comparing -/
theorem eqv_tups : ∀ a b : List Ln, PyData.eqvAll (I.pys (a.map fun l => I.tup (l.map .int))) (I.pys (b.map fun l => I.tup (l.map .int))) = decide (a = b)
  | [], [] => rfl
  | [], _ :: _ => rfl
  | _ :: _, [] => rfl
  | x :: a, y :: b => by
    show (PyData.eqvAll (I.pys (x.map .int)) (I.pys (y.map .int)) && PyData.eqvAll (I.pys (a.map fun l => I.tup (l.map .int))) (I.pys (b.map fun l => I.tup (l.map .int)))) = _
    rw [eqv_tups a b, eqv_ints]
    by_cases h : x = y
    · subst h; simp
    · simp [h]
theorem lay_tups : ∀ a : List Ln, PyData.canLayAll0 (I.pys (a.map fun l => I.tup (l.map .int))) = true
  | [] => rfl
  | x :: a => by
    show (PyData.canLayAll0 (I.pys (x.map .int)) && PyData.canLayAll0 (I.pys (a.map fun l => I.tup (l.map .int)))) = true
    rw [lay_ints, lay_tups a]; rfl
theorem deep_tups : ∀ a : List Ln, PyData.depthAll (I.pys (a.map fun l => I.tup (l.map .int))) ≤ 1
  | [] => Nat.zero_le _
  | x :: a => by
    show max (PyData.depthAll (I.pys (x.map .int)) + 1) (PyData.depthAll (I.pys (a.map fun l => I.tup (l.map .int)))) ≤ 1
    rw [deep_ints]
    exact Nat.max_le.mpr ⟨Nat.le_refl _, deep_tups a⟩
theorem shaped_tups (a : List Ln) : SeqAt.shaped (.list (I.pys (a.map fun l => I.tup (l.map .int)))) = true := by
  unfold SeqAt.shaped
  rw [show PyData.canLay0 (.list (I.pys (a.map fun l => I.tup (l.map .int)))) = PyData.canLayAll0 (I.pys (a.map fun l => I.tup (l.map .int))) from rfl, lay_tups, show PyData.depth (.list (I.pys (a.map fun l => I.tup (l.map .int)))) = PyData.depthAll (I.pys (a.map fun l => I.tup (l.map .int))) + 1 from rfl]
  have := deep_tups a
  simp; omega
theorem shaped_tup (a : Ln) : SeqAt.shaped (.tuple (I.pys (a.map .int))) = true := by
  unfold SeqAt.shaped
  rw [show PyData.canLay0 (.tuple (I.pys (a.map .int))) = PyData.canLayAll0 (I.pys (a.map .int)) from rfl, lay_ints, show PyData.depth (.tuple (I.pys (a.map .int))) = PyData.depthAll (I.pys (a.map .int)) + 1 from rfl, deep_ints]
  rfl
theorem eqD_lns {a b : List Ln} : eqD (.lsi (a.map fun l => I.tup (l.map .int))) (.lsi (b.map fun l => I.tup (l.map .int))) = .ok (decide (a = b)) := by
  show (if SeqAt.shaped (.list (I.pys (a.map fun l => I.tup (l.map .int)))) = true ∧ SeqAt.shaped (.list (I.pys (b.map fun l => I.tup (l.map .int)))) = true then M.ok (PyData.eqvAll (I.pys (a.map fun l => I.tup (l.map .int))) (I.pys (b.map fun l => I.tup (l.map .int)))) else .bad) = _
  rw [if_pos ⟨shaped_tups a, shaped_tups b⟩, eqv_tups]
theorem eqD_tup {a b : Ln} : eqD (.imm (.tup (a.map .int))) (.imm (.tup (b.map .int))) = .ok (decide (a = b)) := by
  show (if SeqAt.shaped (.tuple (I.pys (a.map .int))) = true ∧ SeqAt.shaped (.tuple (I.pys (b.map .int))) = true then M.ok (PyData.eqvAll (I.pys (a.map .int)) (I.pys (b.map .int))) else .bad) = _
  rw [if_pos ⟨shaped_tup a, shaped_tup b⟩, eqv_ints]
section
variable {Ex : String → Prop} {Q : Bool → Prop}
theorem cmp_nelns {a b : List Ln} : (cmpD .NotEq (.lsi (a.map fun l => I.tup (l.map .int))) (.lsi (b.map fun l => I.tup (l.map .int)))).sat Ex Q = Q (!decide (a = b)) := by
  show ((eqD _ _).bind fun r => .ok (!r)).sat Ex Q = _
  rw [eqD_lns]; rfl
theorem cmp_eqlns {a b : List Ln} : (cmpD .Eq (.lsi (a.map fun l => I.tup (l.map .int))) (.lsi (b.map fun l => I.tup (l.map .int)))).sat Ex Q = Q (decide (a = b)) := by
  show (eqD (.lsi (a.map fun l => I.tup (l.map .int))) (.lsi (b.map fun l => I.tup (l.map .int)))).sat Ex Q = _
  rw [eqD_lns]; rfl
theorem cmp_eqtp {a b : Ln} : (cmpD .Eq (.imm (.tup (a.map .int))) (.imm (.tup (b.map .int)))).sat Ex Q = Q (decide (a = b)) := by
  show (eqD (.imm (.tup (a.map .int))) (.imm (.tup (b.map .int)))).sat Ex Q = _
  rw [eqD_tup]; rfl
theorem cmp_netp {a b : Ln} : (cmpD .NotEq (.imm (.tup (a.map .int))) (.imm (.tup (b.map .int)))).sat Ex Q = Q (!decide (a = b)) := by
  show ((eqD _ _).bind fun r => .ok (!r)).sat Ex Q = _
  rw [eqD_tup]; rfl
end
theorem prq {q : Nat} (h : q ∈ P25 := by decide) : Pr q := ⟨q, h, rfl⟩
end Iv

/-! Iv Z: rules drawn: what the laws' own def draws, as data. -/
namespace Iv
open PySem PySem.Spec L2 Nm
open PyProof.Rows hiding St
def Hnd (h : Int) : I := .tup [.str "hand", .int h]
def Som (k : Int) (rs : List I) : I := .tup [.str "some", .int k, .tup rs]
def manyR (f : Int × Int → I × (Int × Int)) : Nat → Int × Int → List I × (Int × Int)
  | 0, s => ([], s)
  | n + 1, s => ((manyR f n s).1 ++ [(f (manyR f n s).2).1], (f (manyR f n s).2).2)
def oneR (row : List Int) (a : Int) : Int := row.getD (a % row.length).toNat 0
def sizeR (o b : Int) : Int := 1 + (if o / 40 % 10 < b then o / 40 % 10 else b)
def ruleF (row : List Int) : Nat → Int × Int → I × (Int × Int)
  | 0, s => (Hnd (oneR row s.1 / 4 % 10), (s.1 + 1, s.2))
  | d + 1, s => if s.2 < 1 ∨ oneR row s.1 % 4 = 0 then (Hnd (oneR row s.1 / 4 % 10), (s.1 + 1, s.2)) else
    (Som (1 + oneR row s.1 / 400 % sizeR (oneR row s.1) s.2) (manyR (ruleF row d) (sizeR (oneR row s.1) s.2).toNat (s.1 + 1, s.2 - sizeR (oneR row s.1) s.2 + 1)).1,
      (manyR (ruleF row d) (sizeR (oneR row s.1) s.2).toNat (s.1 + 1, s.2 - sizeR (oneR row s.1) s.2 + 1)).2)
def cellF (ns : List Int) (k : Int) : Int :=
  if k < ns.length then (atI ns k).getD 0 else if ns.length = 0 then k * k * 48271 + 7 * k
  else (atI ns (k % ns.length)).getD 0 / (1 + k / ns.length) + k * k * 7919
def drawStep (c0 base : Int) (s : Int × List Int) (k : Nat) : Int × List Int :=
  if c0 % 2 = 0 then (s.1 / base, s.2 ++ [s.1 % base])
  else ((s.1 % 2147483647 + 1) * 48271 % 2147483647, s.2 ++ [((s.1 % 2147483647 + 1) * 48271 % 2147483647 * 69621 + k * 16807) % 2147483629 / 11 % base])
def drawF (c0 base : Int) (c : Int) : Nat → Int × List Int
  | 0 => (c, [])
  | n + 1 => drawStep c0 base (drawF c0 base c n) n
theorem drawF_ok {c0 base c : Int} (hb : 1 ≤ base) : ∀ n, (drawF c0 base c n).2.length = n ∧ ∀ z ∈ (drawF c0 base c n).2, 0 ≤ z ∧ z < base
  | 0 => ⟨rfl, fun _ h => nomatch h⟩
  | n + 1 => by
    obtain ⟨h1, h2⟩ := drawF_ok (c0 := c0) (c := c) hb n
    unfold drawF drawStep
    split
    · refine ⟨by simp [h1], fun z hz => ?_⟩
      rcases List.mem_append.mp hz with h | h
      · exact h2 z h
      · rw [List.mem_singleton.mp h]; exact ⟨Int.emod_nonneg _ (by omega), Int.emod_lt_of_pos _ (by omega)⟩
    · refine ⟨by simp [h1], fun z hz => ?_⟩
      rcases List.mem_append.mp hz with h | h
      · exact h2 z h
      · rw [List.mem_singleton.mp h]; exact ⟨Int.emod_nonneg _ (by omega), Int.emod_lt_of_pos _ (by omega)⟩
def rowR (ns : List Int) (a : Int) : List Int := (drawF (cellF ns 0) 4000 (cellF ns a) 24).2
def deepR (ns : List Int) (a : Int) : Nat := ([1, 2, 5, 3, 5, 4] : List Nat).getD (cellF ns (a + 1) % 6).toNat 0
def drawnR (ns : List Int) (a : Int) : I := (ruleF (rowR ns a) (deepR ns a) (0, 19)).1
/-- what the laws' def of a drawn rule tells -/
def phiR : List D → M (D × Bool)
  | [.scr ns, .imm (.int a)] => if ns.length ≤ 63 ∧ 0 ≤ a ∧ a ≤ 900 then .ok (.imm (drawnR ns a), true) else .bad
  | _ => .bad
/-- what is tracked stays, but for one list -/
def Kp1 (y : Addr) (H H' : Hp) : Prop := ∀ z o, H z = some o → z ≠ y → H' z = some o
theorem Kp1.refl {y : Addr} {H : Hp} : Kp1 y H H := fun _ _ h _ => h
theorem Kp1.trans {y : Addr} {H H1 H2 : Hp} (a : Kp1 y H H1) (b : Kp1 y H1 H2) : Kp1 y H H2 := fun z o h n => b z o (a z o h n) n
theorem Kp1.of {y : Addr} {H H' : Hp} (s : Same H H') : Kp1 y H H' := fun z o h _ => s z o h
theorem Kp1.upd {y : Addr} {H : Hp} {o : HO} : Kp1 y H (upd H y o) := fun z o h n => by rw [upd_ne n]; exact h
theorem Kp1.keep {K : PySem.W.Frag} {y : Addr} {H H' : Hp} {l : List V} (k : Kp1 y H H') (hy : H y = some (.lst l)) : Keep K (fun a => a ≠ y) H H' := by
  refine ⟨fun a u h => ?_, fun a vs n h => k a _ h n, fun a vs n h => ?_, fun a _ h => k a _ h fun e => ?_, fun a _ h => k a _ h fun e => ?_, fun a c h => k a _ h fun e => ?_⟩
  · rcases h with h | h
    · refine .inl ?_
      rcases h with h | ⟨o, h⟩
      · exact .inl (k a _ h fun e => by subst e; rw [hy] at h; cases h)
      · exact .inr ⟨o, k a _ h fun e => by subst e; rw [hy] at h; cases h⟩
    · exact .inr h
  · rcases h with h | ⟨o, h⟩
    · exact .inl (k a _ h n)
    · exact .inr ⟨o, k a _ h fun e => by subst e; rw [hy] at h; cases h⟩
  · subst e; rw [hy] at h; cases h
  · subst e; rw [hy] at h; cases h
  · subst e; rw [hy] at h; cases h
/-- the promise of the laws' def of a rule -/
def spRu (K : PySem.W.Frag) (d : Nat) : Sp := fun vs H Q _ => ∃ (x y : Addr) (row : Ln) (a b : Int), vs = [.ref x, .ref y, .int (d : Int)] ∧ x ≠ y ∧ H x = some (.lst (row.map V.int)) ∧ H y = some (.lst [.int a, .int b]) ∧ 0 < row.length ∧ row.length ≤ 1000 ∧ (∀ z ∈ row, 0 ≤ z ∧ z < 4000) ∧ 0 ≤ b ∧ b ≤ 19 ∧
  ∀ v H', RepI K H' (ruleF row d (a, b)).1 v → H' y = some (.lst [.int (ruleF row d (a, b)).2.1, .int (ruleF row d (a, b)).2.2]) → 0 ≤ (ruleF row d (a, b)).2.2 → (ruleF row d (a, b)).2.2 ≤ 19 → Kp1 y H H' → Q v H'
end Iv

/-! Iv Th: walks by hand whose expressions are of the small language. -/
namespace Iv
open PySem PySem.Spec L2
open PyProof.Rows hiding St
def Any : AP' := fun _ => True
/-- the slots that an expression may read -/
def SlA (K : PySem.W.Frag) (ρ : Env) (σ : St) (H : Hp) : Prop := ρ.length = σ.length ∧ ∀ (i : Nat) d, ρ[i]? = some (some d) → ∃ v, σ[i]? = some (some v) ∧ Rep K H Any Any d v
def cfH (F : String → List D → M (D × Bool)) : Cf := ⟨F, [], 0⟩
/-- where a thing's lists lie: new ones, if its tag says so -/
def Nw (H : Hp) (t : Tag) : AP' := fun a => t.lv = 0 → H a = none
def tA (F : String → List D → M (D × Bool)) (K : PySem.W.Frag) (e : E) : TE := fun σ H Q => ∃ ρ, SlA K ρ σ H ∧ ∃ x, ev (cfH F) e ρ = .ok x ∧ ∀ v H', Same H H' → Rep K H' (Nw H x.2) (Nw H x.2) x.1 v → Q v H'
def tAT (F : String → List D → M (D × Bool)) (K : PySem.W.Frag) (e : E) : TT := fun σ H Q => ∃ ρ, SlA K ρ σ H ∧ ∃ b t, ev (cfH F) e ρ = .ok (.imm (.bl b), t) ∧ ∀ H', Same H H' → Q b H'
section
variable {g : Gs} {F : String → List D → M (D × Bool)} {k : Nat} {X : Cx} {sc : Scope} {cl : Str → Bool} {W : WC} {e : E} {ex : Expr}
def fmH (H : Hp) : Fm := ⟨H, Any, fun _ _ => False, fun _ => False⟩
theorem SlA.sr {K : PySem.W.Frag} {ρ : Env} {σ : St} {H : Hp} (h : SlA K ρ σ H) : SR (cfH F) K (fmH H) ρ σ H := by
  refine ⟨h.1, ⟨Same.refl, fun _ _ _ o _ => o.elim, fun _ _ o => o.elim, fun _ _ o => o.elim, fun _ _ o => o.elim, fun _ b => b.elim⟩, fun i d e => ?_, fun i k e => ?_⟩
  · obtain ⟨v, h1, h2⟩ := h.2 i d e
    refine ⟨v, h1, ?_⟩
    have ec : (cfH F).cl i = .old := rfl
    rw [ec]
    exact Rep.weak (fun a _ => ⟨.inl trivial, fun _ o => o, fun o => o⟩) (fun a _ => ⟨.inl trivial, fun _ o => o, fun o => o⟩) h2
  · have ec : (cfH F).cl i = .old := rfl
    rw [ec] at e; cases e
theorem snd_A (h : chk g X.N sc cl e ex = true) (G : Gd g (cfH F) k X sc cl W) : PE X ex (tA F X.K e) :=
  (snd_e g (cfH F) k e h G).d.mono' fun σ H Q ⟨ρ, sl, x, ee, q⟩ => ⟨fmH H, ρ, sl.sr, by
    rw [ee]
    exact fun v H' s r => q v H' s (Rep.weak (fun a z => fun e => z.1 (.inr e)) (fun a z => fun e => z.1 e) r)⟩
/-- name = value -/
theorem snd_AA {x : Str} {p pos : Pos} {i : Nat} {xs : List String} (hN : X.N[i]? = some x) (hl : locB sc cl x = true) (h : chk g X.N sc cl e ex = true) (hv : asgV sc x ex = true) (G : Gx g xs (cfH F) k X sc cl W) : PS X (.Assign [.Name x p] ex pos) (tAsg (tA F X.K e) (gName i)) :=
  (snd_asgD G hN hl h hv).mono' fun D σ H ⟨ρ, sl, x, ee, q⟩ => ⟨fmH H, ρ, sl.sr, by
    rw [ee]
    exact fun v H' s r => q v H' s (Rep.weak (fun a z => fun e => z.1 (.inr e)) (fun a z => fun e => z.1 e) r)⟩
theorem snd_AT (h : chk g X.N sc cl e ex = true) (ht : tstOk ex = true) (G : Gd g (cfH F) k X sc cl W) : PT X ex (tAT F X.K e) :=
  ((snd_e g (cfH F) k e h G).t ht).mono' fun σ H Q ⟨ρ, sl, b, t, ee, q⟩ => ⟨fmH H, ρ, sl.sr, by
    rw [ee]
    exact fun H' s => q H' s⟩
end
/-! what slots hold, and where -/
def SlQ (K : PySem.W.Frag) (q : AP') (ρ : Env) (σ : St) (H : Hp) : Prop := ρ.length = σ.length ∧ ∀ (i : Nat) d, ρ[i]? = some (some d) → ∃ v, σ[i]? = some (some v) ∧ Rep K H q q d v
section
variable {K : PySem.W.Frag} {q q' : AP'} {ρ : Env} {σ : St} {H H' : Hp} {j : Nat}
theorem SlQ.any (h : SlQ K q ρ σ H) : SlA K ρ σ H := ⟨h.1, fun i d e => let ⟨v, h1, h2⟩ := h.2 i d e; ⟨v, h1, h2.weak (fun _ _ => trivial) (fun _ _ => trivial)⟩⟩
theorem SlA.trk (h : SlA K ρ σ H) : SlQ K (fun a => H a ≠ none) ρ σ H := ⟨h.1, fun i d e => let ⟨v, h1, h2⟩ := h.2 i d e; ⟨v, h1, (Rep.trkR h2).weak (fun _ z => z.2) (fun _ z => z.2)⟩⟩
theorem SlQ.keep {ok : AP'} (k : Keep K ok H H') (hq : ∀ a, q a → ok a ∧ q' a) (h : SlQ K q ρ σ H) : SlQ K q' ρ σ H' := ⟨h.1, fun i d e => let ⟨v, h1, h2⟩ := h.2 i d e; ⟨v, h1, h2.keep k hq hq⟩⟩
theorem SlQ.same (s : Same H H') (h : SlQ K q ρ σ H) : SlQ K q ρ σ H' := h.keep (ok := fun _ => True) s.keep fun _ z => ⟨trivial, z⟩
theorem SlQ.hide {x : Option V} (h : SlQ K q ρ σ H) (hj : ρ[j]? = some none) : SlQ K q ρ (σ.set j x) H := by
  refine ⟨by simp [h.1], fun i d e => ?_⟩
  obtain ⟨v, h1, h2⟩ := h.2 i d e
  have : j ≠ i := fun z => by subst z; rw [hj] at e; cases e
  exact ⟨v, by rw [List.getElem?_set_ne this]; exact h1, h2⟩
theorem SlQ.put {d : D} {v : V} (h : SlQ K q ρ σ H) (hj : j < ρ.length) (r : Rep K H q q d v) : SlQ K q (ρ.set j (some d)) (σ.set j (some v)) H := by
  refine ⟨by simp [h.1], fun i d' e => ?_⟩
  by_cases z : j = i
  · subst z
    rw [List.getElem?_set_self hj] at e
    cases e
    exact ⟨v, List.getElem?_set_self (by rw [← h.1]; exact hj), r⟩
  · rw [List.getElem?_set_ne z] at e
    obtain ⟨u, h1, h2⟩ := h.2 i d' e
    exact ⟨u, by rw [List.getElem?_set_ne z]; exact h1, h2⟩
theorem SR.slA {cf : Cf} {fm : Fm} (sr : SR cf K fm ρ σ H) : SlA K ρ σ H := ⟨sr.len, fun i d e => by
  obtain ⟨v, h1, h2⟩ := sr.slot i d e
  refine ⟨v, h1, ?_⟩
  cases c : cf.cl i with
  | old => rw [c] at h2; exact Rep.weak (fun _ _ => trivial) (fun _ _ => trivial) (show Rep K H (P2 fm) (P2 fm) d v from h2)
  | nw => rw [c] at h2; exact Rep.weak (fun _ _ => trivial) (fun _ _ => trivial) (show Rep K H (P1 fm) (P1 fm) d v from h2)
  | own n => rw [c] at h2; exact Rep.weak (fun _ _ => trivial) (fun _ _ => trivial) (show Rep K H (fm.O i) (if n = true then P1 fm else P2 fm) d v from h2)
  | ex => rw [c] at h2; exact Rep.weak (fun _ _ => trivial) (fun _ _ => trivial) (show Rep K H (fm.O i) (fm.O i) d v from h2)
  | vw k => rw [c] at h2; exact Rep.weak (fun _ _ => trivial) (fun _ _ => trivial) (show Rep K H (Pv k fm) (Pv k fm) d v from h2)⟩
end
theorem snd_D {g : Gs} {cf : Cf} {k : Nat} {X : Cx} {sc : Scope} {cl : Str → Bool} {W : WC} {e : E} {ex : Expr} (h : chk g X.N sc cl e ex = true) (G : Gd g cf k X sc cl W) : PE X ex (tD cf X.K W e) := (snd_e g cf k e h G).d
/-- the end of a def in the language again -/
def tL (F : String → List D → M (D × Bool)) (K : PySem.W.Frag) (ss : List S) : TS := fun D σ H => ∃ ρ, SlA K ρ σ H ∧ ∃ i t, runs (cfH F) ss ρ = .ret (.imm i, t) ∧ ∀ v H', RepI K H' i v → Same H H' → D.rt v H'
theorem snd_L {g : Gs} {ex : List String} {F : String → List D → M (D × Bool)} {k : Nat} {X : Cx} {sc : Scope} {cl : Str → Bool} {W : WC} {ss : List S} {st : List Stmt} (h : chkSs g ex X.N sc cl ss st = true) (G : Gx g ex (cfH F) k X sc cl W) : PSs X st (tL F X.K ss) :=
  (snd_sts g ex (cfH F) k ss (m := mutss ss) h (fun _ hj => hj) G).mono' fun D σ H ⟨ρ, sl, i, t, e, q⟩ => ⟨fmH H, ρ, sl.sr, by
    rw [e]
    exact fun fm' Hs v H' f s r p => q v H' (rep_imm r) (by have := f.same.trans s; rw [p.h0] at this; exact this)⟩
section
variable {P : Program} {w : World} {K : PySem.W.Frag} {mg : Str → Option Value} {base : Heap}
/-- what a def's own frame knows -/
theorem gx_of {x : Str} {N : List Str} {k : Nat} {g : Gs} {ex : List String} {cf : Cf} {st : Stmt} {f : Addr} {ps : List Str} (S : FnScope N ps (defScope st))
    (hfn : ∀ f n, (f, n) ∈ g.funs → OkAt P w K mg base k f n (cf.F f)) (hmf : ∀ f, f ∈ g.mf → OkM P w K mg base k f (cf.F f))
    (hbl : ∀ b ∈ bltAll, mg (b : Str) = none)
    (hcs : ∀ x c, (x, c) ∈ g.consts → ∃ u v i, mg (x : Str) = some u ∧ RelV v u ∧ ofConst c = some i ∧ ∀ H, RepI K H i v)
    (hex : ∀ c ∈ ex, ExOk K mg c) (hcm : g.calm = true) (hxa : g.ts ≠ [] → XAll K mg g.ts) {cdv : Value} {A : Around} {outer : List PySem.Env} {s : Shared} {H : Hp} {E : XK} (hr : Room k (A.deeper (envOfC x (defScope st) s.heap.objs.size f cdv))) :
    Gx g ex cf k (cxOf (L2.CX P w) P w K mg base N x (defScope st) f cdv A outer s H E) (defScope st) (fun _ => true) (fun c _ H' => ∀ C, mg c = some (.ref C) → E (.ref C) none H') := by
  have tk : TakesA (cxOf (L2.CX P w) P w K mg base N x (defScope st) f cdv A outer s H E) (fun cls d _ H => E cls d H) := takesA_of rfl rfl rfl rfl
  refine ⟨⟨rfl, S.nd, fun _ => hr, room65 hr, fun _ => rfl, fun _ _ => rfl, tk.imp fun cls d σ H' h => ?_, ⟨_, _, _, rfl, rfl, rfl⟩, fun f n hm => ?_, hbl, hcs, hxa, fun f hm => ?_⟩, passes_of rfl, hex, fun _ => hcm, rfl, rfl⟩
  · obtain ⟨rfl, c, C, rfl, hC, hW⟩ := h
    exact hW C hC
  · obtain ⟨fa, fd, ps, h1, h2, h3, h4, h5⟩ := hfn f n hm
    exact ⟨fa, fd, ps, h1, h2, h3, h4, h5⟩
  · obtain ⟨fa, fd, ps, h1, h2, h3, h4, h5⟩ := hmf f hm
    exact ⟨fa, fd, ps, h1, h2, h3, h4, h5⟩
end
end Iv

/-! Iv Ut: a law whose end is walked by hand. -/
namespace Iv
open PySem PySem.Spec L2
open PyProof.Rows hiding St
def noKaps : S → Bool
  | .kaps _ _ => false
  | _ => true
def chkPre (g : Gs) (ex : List String) (N : List Str) (sc : Scope) (cl : Str → Bool) : List S → List Stmt → Bool
  | [], [] => true
  | s :: r, x :: xs => noKaps s && chkS g ex N sc cl s x && chkPre g ex N sc cl r xs
  | _, _ => false
def tPre (cf : Cf) (K : PySem.W.Frag) (pre : List S) (T : TS) : TS := fun D σ H => ∃ fm ρ ρ', SR cf K fm ρ σ H ∧ runs cf pre ρ = .next ρ' ∧ ∀ fm' σ' H', SR cf K fm' ρ' σ' H' → T D σ' H'
theorem snd_pre {g : Gs} {ex : List String} {cf : Cf} {k : Nat} {X : Cx} {sc : Scope} {cl : Str → Bool} {W : WC} {post : List Stmt} {T : TS} (G : Gx g ex cf k X sc cl W) (hp : PSs X post T) : ∀ (pre : List S) (pst : List Stmt), chkPre g ex X.N sc cl pre pst = true → PSs X (pst ++ post) (tPre cf X.K pre T)
  | [], [], _ => hp.mono' fun D σ H ⟨fm, ρ, ρ', sr, e, q⟩ => by
    cases e
    exact q fm σ H sr
  | s :: r, x :: xs, h => by
    unfold chkPre at h
    rw [Bool.and_eq_true, Bool.and_eq_true] at h
    have h1 := snd_st g ex cf k s h.1.2 (m := muts s) (fun _ hj => hj) G
    refine (pss_cons h1 (snd_pre G hp r xs h.2)).mono' fun D σ H ⟨fm, ρ, ρ', sr, e, q⟩ => ⟨fm, ρ, sr, ?_⟩
    have e : (match run cf s ρ with | .next ρ' => runs cf r ρ' | o => o) = .next ρ' := e
    cases e1 : run cf s ρ with
    | next ρ1 =>
      rw [e1] at e
      exact fun fm' σ' H' sr' _ => ⟨fm', ρ1, ρ', sr', e, q⟩
    | ret x => rw [e1] at e; cases e
    | brk x => rw [e1] at e; cases e
    | cnt x => rw [e1] at e; cases e
    | exc c x => rw [e1] at e; cases e
    | bad => rw [e1] at e; cases e
  | [], _ :: _, h => by cases h
  | _ :: _, [], h => by cases h
section
variable {P : Program} {w : World} {K : PySem.W.Frag} {mg : Str → Option Value} {base : Heap}
theorem law_tail {ds : List Df} {X : Nat → String → List D → M (D × Bool)} {g : Gs} {ex : List String} {k n : Nat} {x : Str} {fa : Addr} {fd : FuncData} {N : List Str} {cls : List Cls} {fuel : Nat} {st : Stmt} {pre : List S}
    (hd : ∀ d ∈ ds, DfOk K mg g ex d) (hbl : ∀ b ∈ bltAll, mg (b : Str) = none)
    (hcs : ∀ x c, (x, c) ∈ g.consts → ∃ u v i, mg (x : Str) = some u ∧ RelV v u ∧ ofConst c = some i ∧ ∀ H, RepI K H i v) (hex : ∀ c ∈ ex, ExOk K mg c) (hcm : g.calm = true) (hxa : g.ts ≠ [] → XAll K mg g.ts)
    (hg : ∀ f n, (f, n) ∈ g.funs → (∃ d, ds.find? (·.name == f) = some d ∧ d.ps.length = n) ∨ (ds.find? (·.name == f) = none ∧ OutOk P w K mg base ds X g f n)) (hm : ∀ f, f ∈ g.mf → ds.find? (·.name == f) = none ∧ OutM P w K mg base ds X g f)
    (FF : L2.Fun K "law" "law" st fa fd) (S : FnScope N [x] (defScope st)) (hN : 1 ≤ N.length) (h0 : cls.getD 0 .old = .old) (hvw : clsOk cls = true)
    (hck : chkPre g ex N (defScope st) (fun _ => true) pre ((defBody st).take n) = true)
    (hpost : ∀ (cdv : Value) (A : Around) (outer : List PySem.Env) (s : Shared) (H : Hp) (E : XK) (W : WC), (∀ cf : Cf, cf.F = Fn ds X k → Gx g ex cf k (cxOf (L2.CX P w) P w K mg base N ("law" : Str) (defScope st) fa cdv A outer s H E) (defScope st) (fun _ => true) W) →
      ∃ T, PSs (cxOf (L2.CX P w) P w K mg base N ("law" : Str) (defScope st) fa cdv A outer s H E) ((defBody st).drop n) T ∧
        ∀ ns : List Int, ns.length ≤ 63 → (∀ z ∈ ns, Builtin.Int.intBits z ≤ 1048576) → ∃ ρ', runs (Cf.dflt (Fn ds X k) cls fuel) pre (some (.scr ns) :: List.replicate (N.length - 1) none) = .next ρ' ∧ ∀ D fm σ' H', SR (Cf.dflt (Fn ds X k) cls fuel) K fm ρ' σ' H' → (∀ H'', D.rt (.bl true) H'') → T D σ' H') :
    FnOk P w K mg base (L2.CX P w) (k + 1) fa fd [x] (spLaw K) := by
  refine FF.okX S (fun vs H Q E h => ?_) (fun cdv A outer s H vs Q E hr h => ?_)
  · obtain ⟨a, ns, rfl, _⟩ := h; rfl
  · obtain ⟨a, ns, rfl, hS, hl, hb, q⟩ := h
    have G := fun (cf : Cf) (e : cf.F = Fn ds X k) => gx_of (g := g) (ex := ex) (cf := cf) (outer := outer) (H := H) (E := E) S (by rw [e]; exact prog_ok hd hbl hcs hex hcm hxa hg hm k) (by rw [e]; exact fun f hf => outM_at (hm f hf).1 (hm f hf).2 fun k' _ => prog_ok hd hbl hcs hex hcm hxa hg hm k') hbl hcs hex hcm hxa hr
    obtain ⟨T, hT, hw⟩ := hpost cdv A outer s H E _ G
    obtain ⟨ρ', e, hw⟩ := hw ns hl hb
    have hp := snd_pre (G (Cf.dflt (Fn ds X k) cls fuel) rfl) hT pre _ hck
    rw [List.take_append_drop] at hp
    refine ⟨_, hp, ?_⟩
    let fm : Fm := ⟨H, Any, fun _ _ => False, fun _ => False⟩
    refine ⟨fm, _, ρ', ⟨?_, ⟨Same.refl, fun _ _ _ o _ => o.elim, fun _ _ o => o.elim, fun _ _ o => o.elim, fun _ _ o => o.elim, fun _ b => b.elim⟩, fun i d e => ?_, clsOk_vw hvw⟩, e, fun fm' σ' H' sr => hw _ fm' σ' H' sr fun H'' => q H''⟩
    · unfold L2.start
      simp
    · cases i with
      | zero =>
        cases e
        refine ⟨.ref a, rfl, ?_⟩
        have ec : (Cf.dflt (Fn ds X k) cls fuel).cl 0 = .old := h0
        rw [ec]
        rcases hS with h | h
        · exact .scr ⟨.inl trivial, fun _ o => o, fun o => o⟩ h
        · exact .scrK fun H' => .inr h
      | succ i =>
        rw [List.getElem?_cons_succ, List.getElem?_replicate] at e
        split at e <;> cases e
end
end Iv

namespace Lk14
open PySem PySem.Spec L2 Iv
open PyProof.Rows hiding St
/-! the text -/
def topS (i : Nat) : Stmt := PySem.Challenge.pw_fewopen_k14_hands_of_rules.main.body.getD i (.Pass ⟨0, 0, 0, 0⟩)
def gs : Gs := ⟨[("hands_written", 1), ("fits", 2), ("hands_in", 1), ("_law_cell_at", 2), ("_law_drawn", 4), ("_law_text", 1), ("_law_hands", 1), ("_law_drawn_rule", 2)], [], [], true, []⟩
def exs : List String := []
def b_hands_written : List S :=
  [.ifs (.cmp .Eq (.idx (.var 0) (.lit (.int 0))) (.lit (.str "hand"))) [.ret (.lst [.idx (.var 0) (.lit (.int 1))])] [], .asg 1 (.lst []), .for (.nm 2) (.ex (.idx (.var 0) (.lit (.int 2)))) [.asg 1 (.bin .Add (.var 1) (.call "hands_written" [.var 2]))], .ret (.var 1)]
abbrev s_hands_written : Stmt := topS 1
def d_hands_written : Df := ⟨"hands_written", s_hands_written, ["rule", "found", "inner"], ["rule"], [.old, .old, .old], 1000, b_hands_written⟩
theorem sc_hands_written : FnScope ["rule", "found", "inner"] ["rule"] (defScope s_hands_written) := ⟨rfl, rfl, rfl, by decide +kernel, rfl, by decide +kernel, by decide +kernel⟩
theorem ck_hands_written : chkSs gs exs ["rule", "found", "inner"] (defScope s_hands_written) (fun _ => true) b_hands_written (defBody s_hands_written) = true := by decide +kernel
def b_fits : List S :=
  [.ifs (.cmp .Eq (.idx (.var 0) (.lit (.int 0))) (.lit (.str "hand"))) [.ret (.cmp .In (.idx (.var 0) (.lit (.int 1))) (.var 1))] [], .ret (.cmp .GtE (.blt .len [.lc (.var 2) (.nm 2) (.ex (.idx (.var 0) (.lit (.int 2)))) [.call "fits" [.var 2, .var 1]] [2]]) (.idx (.var 0) (.lit (.int 1))))]
abbrev s_fits : Stmt := topS 2
def d_fits : Df := ⟨"fits", s_fits, ["rule", "hands", "inner"], ["rule", "hands"], [.old, .old, .old], 1000, b_fits⟩
theorem sc_fits : FnScope ["rule", "hands", "inner"] ["rule", "hands"] (defScope s_fits) := ⟨rfl, rfl, rfl, by decide +kernel, rfl, by decide +kernel, by decide +kernel⟩
theorem ck_fits : chkSs gs exs ["rule", "hands", "inner"] (defScope s_fits) (fun _ => true) b_fits (defBody s_fits) = true := by decide +kernel
def b_hands_in : List S :=
  [.ret (.blt .sortedset [.call "hands_written" [.var 0]])]
abbrev s_hands_in : Stmt := topS 3
def d_hands_in : Df := ⟨"hands_in", s_hands_in, ["rule"], ["rule"], [.old], 1000, b_hands_in⟩
theorem sc_hands_in : FnScope ["rule"] ["rule"] (defScope s_hands_in) := ⟨rfl, rfl, rfl, by decide +kernel, rfl, by decide +kernel, by decide +kernel⟩
theorem ck_hands_in : chkSs gs exs ["rule"] (defScope s_hands_in) (fun _ => true) b_hands_in (defBody s_hands_in) = true := by decide +kernel
def b__law_cell_at : List S :=
  [.ifs (.cmp .Lt (.var 1) (.blt .len [.var 0])) [.ret (.idx (.var 0) (.var 1))] [], .ifs (.cmp .Eq (.blt .len [.var 0]) (.lit (.int 0))) [.ret (.bin .Add (.bin .Mult (.bin .Mult (.var 1) (.var 1)) (.lit (.int 48271))) (.bin .Mult (.lit (.int 7)) (.var 1)))] [], .ret (.bin .Add (.bin .FloorDiv (.idx (.var 0) (.bin .Mod (.var 1) (.blt .len [.var 0]))) (.bin .Add (.lit (.int 1)) (.bin .FloorDiv (.var 1) (.blt .len [.var 0])))) (.bin .Mult (.bin .Mult (.var 1) (.var 1)) (.lit (.int 7919))))]
abbrev s__law_cell_at : Stmt := topS 5
def d__law_cell_at : Df := ⟨"_law_cell_at", s__law_cell_at, ["_law_script", "_law_k"], ["_law_script", "_law_k"], [.old, .old], 1000, b__law_cell_at⟩
theorem sc__law_cell_at : FnScope ["_law_script", "_law_k"] ["_law_script", "_law_k"] (defScope s__law_cell_at) := ⟨rfl, rfl, rfl, by decide +kernel, rfl, by decide +kernel, by decide +kernel⟩
theorem ck__law_cell_at : chkSs gs exs ["_law_script", "_law_k"] (defScope s__law_cell_at) (fun _ => true) b__law_cell_at (defBody s__law_cell_at) = true := by decide +kernel
def b__law_drawn : List S :=
  [.asg 4 (.call "_law_cell_at" [.var 0, .var 1]), .asg 5 (.lst []), .for (.nm 6) (.r1 (.var 3)) [.ifs (.cmp .Eq (.bin .Mod (.call "_law_cell_at" [.var 0, .lit (.int 0)]) (.lit (.int 2))) (.lit (.int 0))) [.app 5 (.bin .Mod (.var 4) (.var 2)), .asg 4 (.bin .FloorDiv (.var 4) (.var 2))] [.asg 4 (.bin .Mod (.bin .Mult (.bin .Add (.bin .Mod (.var 4) (.lit (.int 2147483647))) (.lit (.int 1))) (.lit (.int 48271))) (.lit (.int 2147483647))), .app 5 (.bin .Mod (.bin .FloorDiv (.bin .Mod (.bin .Add (.bin .Mult (.var 4) (.lit (.int 69621))) (.bin .Mult (.var 6) (.lit (.int 16807)))) (.lit (.int 2147483629))) (.lit (.int 11))) (.var 2))]], .ret (.var 5)]
abbrev s__law_drawn : Stmt := topS 6
def d__law_drawn : Df := ⟨"_law_drawn", s__law_drawn, ["_law_script", "_law_at", "_law_base", "_law_many", "_law_number", "_law_found", "_law_k"], ["_law_script", "_law_at", "_law_base", "_law_many"], [.old, .old, .old, .old, .old, .own true, .old], 1000, b__law_drawn⟩
theorem sc__law_drawn : FnScope ["_law_script", "_law_at", "_law_base", "_law_many", "_law_number", "_law_found", "_law_k"] ["_law_script", "_law_at", "_law_base", "_law_many"] (defScope s__law_drawn) := ⟨rfl, rfl, rfl, by decide +kernel, rfl, by decide +kernel, by decide +kernel⟩
theorem ck__law_drawn : chkSs gs exs ["_law_script", "_law_at", "_law_base", "_law_many", "_law_number", "_law_found", "_law_k"] (defScope s__law_drawn) (fun _ => true) b__law_drawn (defBody s__law_drawn) = true := by decide +kernel
def b__law_text : List S :=
  [.ifs (.cmp .Eq (.idx (.var 0) (.lit (.int 0))) (.lit (.str "hand"))) [.ret (.idx (.lit (.str "abcdefghij")) (.idx (.var 0) (.lit (.int 1))))] [], .asg 1 (.mth .join (.lit (.str ", ")) [.lc (.call "_law_text" [.var 2]) (.nm 2) (.ex (.idx (.var 0) (.lit (.int 2)))) [] [2]]), .ifs (.cmp .Eq (.idx (.var 0) (.lit (.int 1))) (.blt .len [.idx (.var 0) (.lit (.int 2))])) [.ret (.bin .Add (.bin .Add (.lit (.str "all (")) (.var 1)) (.lit (.str ")")))] [], .ifs (.cmp .Eq (.idx (.var 0) (.lit (.int 1))) (.lit (.int 1))) [.ret (.bin .Add (.bin .Add (.lit (.str "one (")) (.var 1)) (.lit (.str ")")))] [], .ret (.bin .Add (.bin .Add (.bin .Add (.blt .str [.idx (.var 0) (.lit (.int 1))]) (.lit (.str " of ("))) (.var 1)) (.lit (.str ")")))]
abbrev s__law_text : Stmt := topS 9
def d__law_text : Df := ⟨"_law_text", s__law_text, ["_law_rule_here", "_law_inner", "_law_one"], ["_law_rule_here"], [.old, .old, .old], 1000, b__law_text⟩
theorem sc__law_text : FnScope ["_law_rule_here", "_law_inner", "_law_one"] ["_law_rule_here"] (defScope s__law_text) := ⟨rfl, rfl, rfl, by decide +kernel, rfl, by decide +kernel, by decide +kernel⟩
theorem ck__law_text : chkSs gs exs ["_law_rule_here", "_law_inner", "_law_one"] (defScope s__law_text) (fun _ => true) b__law_text (defBody s__law_text) = true := by decide +kernel
def b__law_hands : List S :=
  [.ret (.lc (.var 1) (.nm 1) (.r1 (.lit (.int 10))) [.cmp .Eq (.bin .BitAnd (.bin .RShift (.var 0) (.var 1)) (.lit (.int 1))) (.lit (.int 1))] [1])]
abbrev s__law_hands : Stmt := topS 11
def d__law_hands : Df := ⟨"_law_hands", s__law_hands, ["_law_cell", "_law_hand"], ["_law_cell"], [.old, .old], 1000, b__law_hands⟩
theorem sc__law_hands : FnScope ["_law_cell", "_law_hand"] ["_law_cell"] (defScope s__law_hands) := ⟨rfl, rfl, rfl, by decide +kernel, rfl, by decide +kernel, by decide +kernel⟩
theorem ck__law_hands : chkSs gs exs ["_law_cell", "_law_hand"] (defScope s__law_hands) (fun _ => true) b__law_hands (defBody s__law_hands) = true := by decide +kernel
def b_law : List S :=
  []
abbrev s_law : Stmt := topS 12
abbrev N_law : List Str := ["_law_script", "_law_k", "_law_rule_here", "_law_signs", "_law_due", "_law_hand", "_law_found", "_law_bits", "_law_hands_here"]
def cl_law : List Cls := [.old, .old, .old, .old, .old, .old, .own true, .old, .old]
theorem sc_law : FnScope N_law ["_law_script"] (defScope s_law) := ⟨rfl, rfl, rfl, by decide +kernel, rfl, by decide +kernel, by decide +kernel⟩
theorem ck_law : chkPre gs exs N_law (defScope s_law) (fun _ => true) b_law ((defBody s_law).take 0) = true := by decide +kernel
def b_rest : List S :=
  [.asg 4 (.lc (.var 5) (.nm 5) (.r1 (.lit (.int 10))) [.cmp .In (.idx (.lit (.str "abcdefghij")) (.var 5)) (.var 3)] [5]), .asg 6 (.call "hands_in" [.var 2]), .ifs (.or (.not (.blt (.isi ["list"]) [.var 6])) (.or (.cmp .NotEq (.var 6) (.var 4)) (.cmp .In (.lit (.bool true)) (.lc (.blt (.isi ["bool"]) [.var 5]) (.nm 5) (.ex (.var 6)) [] [5])))) [.ret (.lit (.bool false))] [], .app 6 (.lit (.int 0)), .ifs (.cmp .NotEq (.call "hands_in" [.var 2]) (.var 4)) [.ret (.lit (.bool false))] [], .for (.nm 7) (.ex (.call "_law_drawn" [.var 0, .bin .Add (.lit (.int 7)) (.var 1), .lit (.int 1024), .lit (.int 6)])) [.asg 8 (.call "_law_hands" [.var 7]), .ifs (.cmp .NotEq (.call "fits" [.var 2, .var 8]) (.call "fits" [.var 2, .lc (.var 5) (.nm 5) (.ex (.var 8)) [.cmp .In (.var 5) (.var 4)] [5]])) [.ret (.lit (.bool false))] []]]
def dfs : List Df := [d_hands_written, d_fits, d_hands_in, d__law_cell_at, d__law_drawn, d__law_text, d__law_hands]
noncomputable def X0 : Nat → String → List D → M (D × Bool)
  | k, "_law_drawn_rule", ds => if 7 ≤ k then phiR ds else .bad
  | _, _, _ => .bad
theorem fn_hands_written (k : Nat) (xs : List D) : Fn dfs X0 (k+1) "hands_written" xs = callD (Cf.dflt (Fn dfs X0 k) d_hands_written.cls d_hands_written.fuel) d_hands_written.N.length b_hands_written xs := rfl
theorem fn_fits (k : Nat) (xs : List D) : Fn dfs X0 (k+1) "fits" xs = callD (Cf.dflt (Fn dfs X0 k) d_fits.cls d_fits.fuel) d_fits.N.length b_fits xs := rfl
theorem fn_hands_in (k : Nat) (xs : List D) : Fn dfs X0 (k+1) "hands_in" xs = callD (Cf.dflt (Fn dfs X0 k) d_hands_in.cls d_hands_in.fuel) d_hands_in.N.length b_hands_in xs := rfl
theorem fn__law_cell_at (k : Nat) (xs : List D) : Fn dfs X0 (k+1) "_law_cell_at" xs = callD (Cf.dflt (Fn dfs X0 k) d__law_cell_at.cls d__law_cell_at.fuel) d__law_cell_at.N.length b__law_cell_at xs := rfl
theorem fn__law_drawn (k : Nat) (xs : List D) : Fn dfs X0 (k+1) "_law_drawn" xs = callD (Cf.dflt (Fn dfs X0 k) d__law_drawn.cls d__law_drawn.fuel) d__law_drawn.N.length b__law_drawn xs := rfl
theorem fn__law_text (k : Nat) (xs : List D) : Fn dfs X0 (k+1) "_law_text" xs = callD (Cf.dflt (Fn dfs X0 k) d__law_text.cls d__law_text.fuel) d__law_text.N.length b__law_text xs := rfl
theorem fn__law_hands (k : Nat) (xs : List D) : Fn dfs X0 (k+1) "_law_hands" xs = callD (Cf.dflt (Fn dfs X0 k) d__law_hands.cls d__law_hands.fuel) d__law_hands.N.length b__law_hands xs := rfl
theorem fn__law_drawn_rule (k : Nat) (xs : List D) : Fn dfs X0 (k+7) "_law_drawn_rule" xs = phiR xs := by
  show (if 7 ≤ k + 7 then phiR xs else .bad) = _
  rw [if_pos (by omega)]
end Lk14

open PySem PySem.Spec L2 Iv Nm
namespace Lk14
theorem cellF_e (k : Nat) (ns : List Int) (i : Int) (hns : ns.length ≤ 63) (h0 : 0 ≤ i) (h1 : i ≤ 1000) : Fn dfs X0 (k+1) "_law_cell_at" [.scr ns, .imm (.int i)] = .ok (.imm (.int (cellF ns i)), true) := by
  refine sat_eq ?_
  rw [fn__law_cell_at]
  unfold b__law_cell_at
  refine callD_sat ?_
  have hc : cellF ns i = if i < ns.length then (atI ns i).getD 0 else if ns.length = 0 then i * i * 48271 + 7 * i else (atI ns (i % ns.length)).getD 0 / (1 + i / ns.length) + i * i * 7919 := rfl
  simp [-List.map_map, sat_ok, sat_bad, sat_exc, sat_bind, sat_calm, sat_iteb, sat_ite, osat_next, osat_ret, osat_brk, osat_cnt, osat_bad, osat_exc, osat_st, osat_iteb, osat_ite, ev_lit', ev_glob', ev_var', ev_bin', ev_neg', ev_not', ev_and', ev_or', ev_cmp', ev_chain', ev_ife', ev_call', ev_blt', ev_mth', ev_idx', ev_slc', ev_slcL', ev_slcH', ev_slcN', ev_rev', ev_dgk', ev_dgt', ev_fcall', ev_lst', ev_tup', evs_cons', evC_cons', src_ex', src_zip', src_zip3', src_enm', src_rv', rs_asg', rs_unp', rs_ifs', rs_ret', rs_retn', rs_pas', rs_brk', rs_cnt', rs_app', rs_seti', rs_for', rs_pops', rs_rse', rs_ext', rs_clr', rs_kapp', rs_kaps', rs_kself', rs_rel', rs_kclr', ev_dct, imm_ok, scr_imm, scr_lsi, scr_lsd, scr_tpd, evs_nil, evC_nil, rs_nil, rs_whl, rs_exs', rs_apx', runh_cons, runh_nil, excSub, excAll, clrO_n, clrO_r, endH_0, endH_1, putH_0, putH_1, setSlot_pr, setFz_pr, asg_nm, asg_tup, asg_tpd, asg_lsi, asg_lsd, asgs_nil, asgs_cons, norm_imm, norm_lsi, norm_lsd, norm_tpd, norm_scr, forF_c, lcTurn_c, thenQ_n, thenQ_r, wipe_n, wipe_c, onOwn_c, hasL_c, isi_pr', ise_pr, isExc, isVw, wipeV_go, wipeGo_c, kapOk_c, kapR_n, kapR_c, kapR_a, wipeGo_n, srtset_pr, lenset_pr, lzip_pr, len_pr, tup_pr, tup_pt, tup_pd, tup_pp, lst_pr, lst_ps, lst_pt, lst_pd, lst_pp, int_pi, int_pb, sum_pr, all_pr, any_pr, min_pr, max_pr, lrg_1, lrg_2, trg_1, trg_2, List.cons_append, List.nil_append, Cf.dflt, Cf.cl, rdTag, pim, ofConst, bin_add, bin_sub, bin_mul, bin_fdiv, bin_mod, bin_pow, bin_str, bin_srep, bin_tup, bin_lst, bin_rep, bin_trep, isNil, cmp_eqi, cmp_nei, cmp_lti, cmp_lei, cmp_gti, cmp_gei, cmp_eqs, cmp_nes, cmp_eqb, cmp_neb, atI_c0, atI_c1, atI_c2, cmp_isn, cmp_isnn, cmp_eql, cmp_nel, cmp_eqln, cmp_neln, cmp_eqnn, cmp_nenn, cmp_inl, cmp_ninl, enmD_pims, zipD3_pims, src_r1s, src_r2s, rng_ls, rng_ts, asI_int, asB_bl, lenD, mkL, mkT, allImm, tagsOf, okSt, List.set, List.getElem?_cons_zero, List.getElem?_cons_succ, isiB, tyD, asInts_fn, asInts_map, items_tup, items_lsi, items_lsd, items_scr, zipD_pims, idx_lsi, idx_tup, idx_scr, idx_lsd, idx_tpd, slc_tup, slc_lsi, slc_lsd, slc_tpd, ev_mth', mtOk, mtTy, mth_lix, mth_join, srt_pi, srt_pl, isL, isT, sameK, mutss, muts, okIn, appD, setD, dlen, callD, List.map_cons, List.map_nil, List.length_cons, List.length_nil, List.replicate, Option.map_some, Option.map_none, List.all_nil, List.all_cons, Option.some.injEq, exists_eq_left', List.getD_cons_zero, List.getD_cons_succ, T0, Tag.child, Tag.root, Tag.join, List.isEmpty_nil, sizeLine_eq, d__law_cell_at]
  split
  · rename_i hlt
    have hy := atI_ok (xs := ns) h0 hlt
    rw [hc, if_pos hlt, hy]; rfl
  · rename_i hlt
    split
    · rename_i h
      refine ⟨cmul_l (by omega) (by omega), cmul_r (by omega) (by omega), cmul_l (by omega) (by omega), ?_⟩
      rw [hc, if_neg hlt, if_pos (by simpa using h)]
    · rename_i h
      have hn : 0 < ns.length := List.length_pos_iff.mpr h
      have l0 : 0 ≤ i % (ns.length : Int) := Int.emod_nonneg _ (by omega)
      have l1 : i % (ns.length : Int) < ns.length := Int.emod_lt_of_pos _ (by omega)
      have d0 : 0 ≤ i / (ns.length : Int) := Int.ediv_nonneg h0 (by omega)
      have d1 : i / (ns.length : Int) ≤ i := Int.ediv_le_self _ h0
      have hy := atI_ok (xs := ns) l0 l1
      exact ⟨hn, _, hy, ⟨hn, by omega⟩, ⟨by omega, by omega⟩, cmul_l (by omega) (by omega), cmul_r (by omega) (by omega), by rw [hc, if_neg hlt, if_neg (by omega), hy]; rfl⟩
theorem drawnF_e (k : Nat) (ns : List Int) (a p : Int) (n : Nat) (hns : ns.length ≤ 63) (ha : 0 ≤ a) (ha1 : a ≤ 1000) (hp : 1 ≤ p) (hp2 : p ≤ 1000000) (hw2 : n ≤ 1000) : Fn dfs X0 (k+1+1) "_law_drawn" [.scr ns, .imm (.int a), .imm (.int p), .imm (.int (n : Int))] = .ok (.lsi ((drawF (cellF ns 0) p (cellF ns a) n).2.map .int), true) := by
  have ec := cellF_e k ns a hns ha ha1
  have ec0 := cellF_e k ns 0 hns (by omega) (by omega)
  refine sat_eq ?_
  rw [fn__law_drawn]
  unfold b__law_drawn
  refine callD_sat ?_
  generalize cellF ns a = c at *
  generalize cellF ns 0 = c0 at *
  simp [-List.map_map, sat_ok, sat_bad, sat_exc, sat_bind, sat_calm, sat_iteb, sat_ite, osat_next, osat_ret, osat_brk, osat_cnt, osat_bad, osat_exc, osat_st, osat_iteb, osat_ite, ev_lit', ev_glob', ev_var', ev_bin', ev_neg', ev_not', ev_and', ev_or', ev_cmp', ev_chain', ev_ife', ev_call', ev_blt', ev_mth', ev_idx', ev_slc', ev_slcL', ev_slcH', ev_slcN', ev_rev', ev_dgk', ev_dgt', ev_fcall', ev_lst', ev_tup', evs_cons', evC_cons', src_ex', src_zip', src_zip3', src_enm', src_rv', rs_asg', rs_unp', rs_ifs', rs_ret', rs_retn', rs_pas', rs_brk', rs_cnt', rs_app', rs_seti', rs_for', rs_pops', rs_rse', rs_ext', rs_clr', rs_kapp', rs_kaps', rs_kself', rs_rel', rs_kclr', ev_dct, imm_ok, scr_imm, scr_lsi, scr_lsd, scr_tpd, evs_nil, evC_nil, rs_nil, rs_whl, rs_exs', rs_apx', runh_cons, runh_nil, excSub, excAll, clrO_n, clrO_r, endH_0, endH_1, putH_0, putH_1, setSlot_pr, setFz_pr, asg_nm, asg_tup, asg_tpd, asg_lsi, asg_lsd, asgs_nil, asgs_cons, norm_imm, norm_lsi, norm_lsd, norm_tpd, norm_scr, forF_c, lcTurn_c, thenQ_n, thenQ_r, wipe_n, wipe_c, onOwn_c, hasL_c, isi_pr', ise_pr, isExc, isVw, wipeV_go, wipeGo_c, kapOk_c, kapR_n, kapR_c, kapR_a, wipeGo_n, srtset_pr, lenset_pr, lzip_pr, len_pr, tup_pr, tup_pt, tup_pd, tup_pp, lst_pr, lst_ps, lst_pt, lst_pd, lst_pp, int_pi, int_pb, sum_pr, all_pr, any_pr, min_pr, max_pr, lrg_1, lrg_2, trg_1, trg_2, List.cons_append, List.nil_append, Cf.dflt, Cf.cl, rdTag, pim, ofConst, bin_add, bin_sub, bin_mul, bin_fdiv, bin_mod, bin_pow, bin_str, bin_srep, bin_tup, bin_lst, bin_rep, bin_trep, isNil, cmp_eqi, cmp_nei, cmp_lti, cmp_lei, cmp_gti, cmp_gei, cmp_eqs, cmp_nes, cmp_eqb, cmp_neb, atI_c0, atI_c1, atI_c2, cmp_isn, cmp_isnn, cmp_eql, cmp_nel, cmp_eqln, cmp_neln, cmp_eqnn, cmp_nenn, cmp_inl, cmp_ninl, enmD_pims, zipD3_pims, src_r1s, src_r2s, rng_ls, rng_ts, asI_int, asB_bl, lenD, mkL, mkT, allImm, tagsOf, okSt, List.set, List.getElem?_cons_zero, List.getElem?_cons_succ, isiB, tyD, asInts_fn, asInts_map, items_tup, items_lsi, items_lsd, items_scr, zipD_pims, idx_lsi, idx_tup, idx_scr, idx_lsd, idx_tpd, slc_tup, slc_lsi, slc_lsd, slc_tpd, ev_mth', mtOk, mtTy, mth_lix, mth_join, srt_pi, srt_pl, isL, isT, sameK, mutss, muts, okIn, appD, setD, dlen, callD, List.map_cons, List.map_nil, List.length_cons, List.length_nil, List.replicate, Option.map_some, Option.map_none, List.all_nil, List.all_cons, Option.some.injEq, exists_eq_left', List.getD_cons_zero, List.getD_cons_succ, T0, Tag.child, Tag.root, Tag.join, List.isEmpty_nil, sizeLine_eq, d__law_drawn, ec]
  refine ⟨Rok_of (by omega) (by omega) (by omega) (by omega), forGo_inv (I := fun i ρ => ∃ (y : Option D), ρ = [some (.scr ns), some (.imm (.int a)), some (.imm (.int p)), some (.imm (.int (n : Int))), some (.imm (.int (drawF c0 p c i).1)), some (.lsi ((drawF c0 p c i).2.map .int)), y]) ⟨none, rfl⟩ ?_ ?_⟩
  · rintro i hi _ ⟨y, rfl⟩
    rw [rangeL_get]
    rw [rangeL_len] at hi
    have hl := (drawF_ok (c0 := c0) (c := c) (base := p) (by omega) i).1
    have eu : drawF c0 p c (i + 1) = drawStep c0 p (drawF c0 p c i) i := rfl
    rw [eu]
    unfold drawStep
    generalize drawF c0 p c i = S at *
    simp [-List.map_map, sat_ok, sat_bad, sat_exc, sat_bind, sat_calm, sat_iteb, sat_ite, osat_next, osat_ret, osat_brk, osat_cnt, osat_bad, osat_exc, osat_st, osat_iteb, osat_ite, ev_lit', ev_glob', ev_var', ev_bin', ev_neg', ev_not', ev_and', ev_or', ev_cmp', ev_chain', ev_ife', ev_call', ev_blt', ev_mth', ev_idx', ev_slc', ev_slcL', ev_slcH', ev_slcN', ev_rev', ev_dgk', ev_dgt', ev_fcall', ev_lst', ev_tup', evs_cons', evC_cons', src_ex', src_zip', src_zip3', src_enm', src_rv', rs_asg', rs_unp', rs_ifs', rs_ret', rs_retn', rs_pas', rs_brk', rs_cnt', rs_app', rs_seti', rs_for', rs_pops', rs_rse', rs_ext', rs_clr', rs_kapp', rs_kaps', rs_kself', rs_rel', rs_kclr', ev_dct, imm_ok, scr_imm, scr_lsi, scr_lsd, scr_tpd, evs_nil, evC_nil, rs_nil, rs_whl, rs_exs', rs_apx', runh_cons, runh_nil, excSub, excAll, clrO_n, clrO_r, endH_0, endH_1, putH_0, putH_1, setSlot_pr, setFz_pr, asg_nm, asg_tup, asg_tpd, asg_lsi, asg_lsd, asgs_nil, asgs_cons, norm_imm, norm_lsi, norm_lsd, norm_tpd, norm_scr, forF_c, lcTurn_c, thenQ_n, thenQ_r, wipe_n, wipe_c, onOwn_c, hasL_c, isi_pr', ise_pr, isExc, isVw, wipeV_go, wipeGo_c, kapOk_c, kapR_n, kapR_c, kapR_a, wipeGo_n, srtset_pr, lenset_pr, lzip_pr, len_pr, tup_pr, tup_pt, tup_pd, tup_pp, lst_pr, lst_ps, lst_pt, lst_pd, lst_pp, int_pi, int_pb, sum_pr, all_pr, any_pr, min_pr, max_pr, lrg_1, lrg_2, trg_1, trg_2, List.cons_append, List.nil_append, Cf.dflt, Cf.cl, rdTag, pim, ofConst, bin_add, bin_sub, bin_mul, bin_fdiv, bin_mod, bin_pow, bin_str, bin_srep, bin_tup, bin_lst, bin_rep, bin_trep, isNil, cmp_eqi, cmp_nei, cmp_lti, cmp_lei, cmp_gti, cmp_gei, cmp_eqs, cmp_nes, cmp_eqb, cmp_neb, atI_c0, atI_c1, atI_c2, cmp_isn, cmp_isnn, cmp_eql, cmp_nel, cmp_eqln, cmp_neln, cmp_eqnn, cmp_nenn, cmp_inl, cmp_ninl, enmD_pims, zipD3_pims, src_r1s, src_r2s, rng_ls, rng_ts, asI_int, asB_bl, lenD, mkL, mkT, allImm, tagsOf, okSt, List.set, List.getElem?_cons_zero, List.getElem?_cons_succ, isiB, tyD, asInts_fn, asInts_map, items_tup, items_lsi, items_lsd, items_scr, zipD_pims, idx_lsi, idx_tup, idx_scr, idx_lsd, idx_tpd, slc_tup, slc_lsi, slc_lsd, slc_tpd, ev_mth', mtOk, mtTy, mth_lix, mth_join, srt_pi, srt_pl, isL, isT, sameK, mutss, muts, okIn, appD, setD, dlen, callD, List.map_cons, List.map_nil, List.length_cons, List.length_nil, List.replicate, Option.map_some, Option.map_none, List.all_nil, List.all_cons, Option.some.injEq, exists_eq_left', List.getD_cons_zero, List.getD_cons_succ, T0, Tag.child, Tag.root, Tag.join, List.isEmpty_nil, sizeLine_eq, ec0]
    split
    · rename_i h
      simp [h, hl]
      omega
    · rename_i h
      simp [h, hl]
      exact ⟨cmul_r (by omega) (by omega), cmul_r (by omega) (by omega), cmul_r (by omega) (by omega), by omega, by omega⟩
  · rintro _ ⟨y, rfl⟩
    rw [rangeL_len]
    simp [-List.map_map, sat_ok, sat_bad, sat_exc, sat_bind, sat_calm, sat_iteb, sat_ite, osat_next, osat_ret, osat_brk, osat_cnt, osat_bad, osat_exc, osat_st, osat_iteb, osat_ite, ev_lit', ev_glob', ev_var', ev_bin', ev_neg', ev_not', ev_and', ev_or', ev_cmp', ev_chain', ev_ife', ev_call', ev_blt', ev_mth', ev_idx', ev_slc', ev_slcL', ev_slcH', ev_slcN', ev_rev', ev_dgk', ev_dgt', ev_fcall', ev_lst', ev_tup', evs_cons', evC_cons', src_ex', src_zip', src_zip3', src_enm', src_rv', rs_asg', rs_unp', rs_ifs', rs_ret', rs_retn', rs_pas', rs_brk', rs_cnt', rs_app', rs_seti', rs_for', rs_pops', rs_rse', rs_ext', rs_clr', rs_kapp', rs_kaps', rs_kself', rs_rel', rs_kclr', ev_dct, imm_ok, scr_imm, scr_lsi, scr_lsd, scr_tpd, evs_nil, evC_nil, rs_nil, rs_whl, rs_exs', rs_apx', runh_cons, runh_nil, excSub, excAll, clrO_n, clrO_r, endH_0, endH_1, putH_0, putH_1, setSlot_pr, setFz_pr, asg_nm, asg_tup, asg_tpd, asg_lsi, asg_lsd, asgs_nil, asgs_cons, norm_imm, norm_lsi, norm_lsd, norm_tpd, norm_scr, forF_c, lcTurn_c, thenQ_n, thenQ_r, wipe_n, wipe_c, onOwn_c, hasL_c, isi_pr', ise_pr, isExc, isVw, wipeV_go, wipeGo_c, kapOk_c, kapR_n, kapR_c, kapR_a, wipeGo_n, srtset_pr, lenset_pr, lzip_pr, len_pr, tup_pr, tup_pt, tup_pd, tup_pp, lst_pr, lst_ps, lst_pt, lst_pd, lst_pp, int_pi, int_pb, sum_pr, all_pr, any_pr, min_pr, max_pr, lrg_1, lrg_2, trg_1, trg_2, List.cons_append, List.nil_append, Cf.dflt, Cf.cl, rdTag, pim, ofConst, bin_add, bin_sub, bin_mul, bin_fdiv, bin_mod, bin_pow, bin_str, bin_srep, bin_tup, bin_lst, bin_rep, bin_trep, isNil, cmp_eqi, cmp_nei, cmp_lti, cmp_lei, cmp_gti, cmp_gei, cmp_eqs, cmp_nes, cmp_eqb, cmp_neb, atI_c0, atI_c1, atI_c2, cmp_isn, cmp_isnn, cmp_eql, cmp_nel, cmp_eqln, cmp_neln, cmp_eqnn, cmp_nenn, cmp_inl, cmp_ninl, enmD_pims, zipD3_pims, src_r1s, src_r2s, rng_ls, rng_ts, asI_int, asB_bl, lenD, mkL, mkT, allImm, tagsOf, okSt, List.set, List.getElem?_cons_zero, List.getElem?_cons_succ, isiB, tyD, asInts_fn, asInts_map, items_tup, items_lsi, items_lsd, items_scr, zipD_pims, idx_lsi, idx_tup, idx_scr, idx_lsd, idx_tpd, slc_tup, slc_lsi, slc_lsd, slc_tpd, ev_mth', mtOk, mtTy, mth_lix, mth_join, srt_pi, srt_pl, isL, isT, sameK, mutss, muts, okIn, appD, setD, dlen, callD, List.map_cons, List.map_nil, List.length_cons, List.length_nil, List.replicate, Option.map_some, Option.map_none, List.all_nil, List.all_cons, Option.some.injEq, exists_eq_left', List.getD_cons_zero, List.getD_cons_succ, T0, Tag.child, Tag.root, Tag.join, List.isEmpty_nil, sizeLine_eq]

end Lk14

namespace Lk14
open PySem PySem.Spec L2 Iv Nm
open PyProof.Rows hiding St
abbrev sRU : Stmt := topS 7
abbrev sDR : Stmt := topS 8
section
variable {P : Program} {w : World} {K : PySem.W.Frag} {mg : Str → Option Value} {base : Heap}
theorem scRU : FnScope ["_law_row", "_law_state", "_law_deep", "_law_one", "_law_size", "_law_k", "_law_j"] ["_law_row", "_law_state", "_law_deep"] (defScope sRU) := ⟨rfl, rfl, rfl, by decide +kernel, rfl, by decide +kernel, by decide +kernel⟩
theorem ok_RU {f : Addr} {fd : FuncData} (F : L2.Fun K "_law_rule" "_law_rule" sRU f fd) (mf : mg "_law_rule" = some (.ref f)) (kf : PySem.W.keepIn K (.ref f) = true) (bf : L2.Binds K fd ["_law_row", "_law_state", "_law_deep"] []) (bl : ∀ b ∈ bltAll, mg (b : Str) = none)
    {k d : Nat} {sp : Sp} (Fr : FnOk P w K mg base CX0 k f fd ["_law_row", "_law_state", "_law_deep"] sp) (hs : d = 0 ∨ ∃ d', d = d' + 1 ∧ sp = spRu K d') : FnOk P w K mg base CX0 (k + 1) f fd ["_law_row", "_law_state", "_law_deep"] (spRu K d) := by
  refine F.ok scRU (fun vs H Q E h => ?_) (fun cdv A outer s H vs Q E hr h => ?_)
  · obtain ⟨x, y, row, a, b, rfl, _⟩ := h
    rfl
  · obtain ⟨x, y, row, a, b, rfl, nxy, hx, hy, r0, r1, hrow, b0, b1, kk⟩ := h
    refine ⟨_, pss_cons (ps_set (i := 3) scRU.nd rfl (.inl rfl) (pe_ix ix_list (pv 0) (pe_op op_mod (pe_ix ix_list (pv 1) pe_int (fun _ _ => rfl)) (pe_callB call_len_seq rfl (bl "len" (by decide)) (by decide +kernel) (pa_cons (pv 0) pa_nil))) (fun _ _ => rfl)))
      (pss_cons (ps_asg (pe_op op_add (pe_ix ix_list (pv 1) pe_int (fun _ _ => rfl)) pe_int) (pg_sub (pv 1) pe_int set_list (fun _ => rfl)))
      (pss_cons (ps_if (PW.pt (pw_or (pt_cmpR op_eq (pv 2) pe_int (nomark _)) (pw_or (pt_cmpR op_lt (pe_ix ix_list (pv 1) pe_int (fun _ _ => rfl)) pe_int (nomark _)) (pw_or1 (pt_cmpR op_eq (pe_op op_mod (pv 3) pe_int) pe_int (nomark _)))))) (pss_one (ps_ret (pe_tup (pa_cons pe_str (pa_cons (pe_op op_mod (pe_op op_fdiv (pv 3) pe_int) pe_int) pa_nil))))) pss_nil)
      (pss_cons (ps_set (i := 4) scRU.nd rfl (.inl rfl) (pe_op op_add pe_int (pe_callB (call_min2 rfl) rfl (bl "min" (by decide)) (by decide +kernel) (pa_cons (pe_ix ix_list (pv 1) pe_int (fun _ _ => rfl)) (pa_cons (pe_op op_mod (pe_op op_fdiv (pv 3) pe_int) pe_int) pa_nil)))))
      (pss_cons (ps_asg (pe_op op_add (pe_op op_sub (pe_ix ix_list (pv 1) pe_int (fun _ _ => rfl)) (pv 4)) pe_int) (pg_sub (pv 1) pe_int set_list (fun _ => rfl)))
      (pss_cons (ps_set (i := 5) scRU.nd rfl (.inl rfl) (pe_op op_add pe_int (pe_op op_mod (pe_op op_fdiv (pv 3) pe_int) (pv 4))))
      (pss_one (ps_ret (pe_tup (pa_cons pe_str (pa_cons (pv 5) (pa_cons (pe_callTy call_tuple_of rfl (bl "tuple" (by decide)) (by decide +kernel) (pa_cons (pe_lc (own := [("_law_j", 6)]) (g := gName 6) (tt := tYes) (te := tCall sp [] E0 (tCons (tVar 0) (tCons (tVar 1) (tCons (tOp (rI0 fun i j => .int (i - j)) (tVar 2) (tC (.int 1))) tNil)))) rfl scRU.nd (pi_range1 rfl (bl "range" (by decide)) (pa_cons (pv 4) pa_nil)) (blkOk_by (N := ["_law_row", "_law_state", "_law_deep", "_law_one", "_law_size", "_law_k", "_law_j"]) (sc := defScope sRU) (by decide +kernel)) (fun _ _ _ _ _ => pg_name (i := 6) scRU.nd rfl (.inl rfl)) (fun _ _ _ _ _ => pts_nil) (fun _ _ _ _ _ => pe_call Fr hr rfl mf kf bf .nil pass0 (pa_cons (pv 0) (pa_cons (pv 1) (pa_cons (pe_op op_sub (pv 2) pe_int) pa_nil))))) pa_nil)) pa_nil))))))))))), ?_⟩
    have hl : ((row.map V.int).length : Int) = (row.length : Int) := by simp
    have hat : atI (row.map V.int) (a % ((row.map V.int).length : Int)) = some (V.int (oneR row a)) := by
      rw [hl]
      have h0 := Int.emod_nonneg a (show (row.length : Int) ≠ 0 by omega)
      have h1 := Int.emod_lt_of_pos a (show (0 : Int) < row.length by omega)
      have e : a % (row.length : Int) = ((a % (row.length : Int)).toNat : Int) := by omega
      rw [e]
      refine atI_nat ?_
      rw [List.getElem?_map, List.getElem?_eq_getElem (by omega)]
      show some (V.int _) = some (V.int (row.getD _ 0))
      rw [List.getD_eq_getElem?_getD, List.getElem?_eq_getElem (by omega)]
      rfl
    have ho : 0 ≤ oneR row a ∧ oneR row a < 4000 := by
      have h0 := Int.emod_nonneg a (show (row.length : Int) ≠ 0 by omega)
      have h1 := Int.emod_lt_of_pos a (show (0 : Int) < row.length by omega)
      unfold oneR
      rw [List.getD_eq_getElem?_getD, List.getElem?_eq_getElem (by omega)]
      exact hrow _ (List.getElem_mem _)
    refine ⟨_, rfl, _, rfl, y, _, _, _, rfl, rfl, .inl (.inl hy), atI_nat (j := 0) rfl, _, rfl, x, _, rfl, .inl (.inl (.inl hx)), _, _, rfl, rfl, by rw [hl]; omega, x, _, _, _, rfl, rfl, .inl (.inl hx), hat, ?_⟩
    refine ⟨_, rfl, y, _, _, _, rfl, rfl, .inl (.inl hy), atI_nat (j := 0) rfl, _, _, rfl, rfl, ?_⟩
    refine ⟨_, rfl, y, _, _, 0, rfl, rfl, hy, ixN_nat (i := 0) (by show 0 < 2; omega), ?_⟩
    have hy1 : (upd H y (.lst ([V.int a, V.int b].set 0 (V.int (a + 1))))) y = some (.lst [.int (a + 1), .int b]) := upd_same
    have k1 : Kp1 y H (upd H y (.lst ([V.int a, V.int b].set 0 (V.int (a + 1))))) := Kp1.upd
    have hx1 := k1 _ _ hx nxy
    generalize upd H y (.lst ([V.int a, V.int b].set 0 (V.int (a + 1)))) = H1 at *
    generalize hoo : oneR row a = o at *
    have at1 : atI [V.int (a + 1), V.int b] 1 = some (V.int b) := atI_nat (j := 1) rfl
    have cd : ∀ j : Int, 0 < j → j < 1000 → CDiv o j := fun j h0 h1 => by unfold CDiv; omega
    have hret : (d = 0 ∨ b < 1 ∨ o % 4 = 0) → ∀ t, H1 t = none → Q (.ref t) (upd H1 t (.tup [.str "hand", .int (o / 4 % 10)])) := fun hc t nt => by
      have e : ruleF row d (a, b) = (Hnd (o / 4 % 10), (a + 1, b)) := by
        cases d with
        | zero => unfold ruleF; simp only [hoo]
        | succ d => unfold ruleF; simp only [hoo]; rw [if_pos (by omega)]
      have st : Iv.Same H1 (upd H1 t (.tup [.str "hand", .int (o / 4 % 10)])) := Iv.Same.new nt
      rw [e] at kk
      exact kk _ _ (.tup (.inl (.inl upd_same)) (.cons (.str _) (.cons (.int _) .nil))) (st _ _ hy1) b0 b1 (k1.trans (Kp1.of st))
    by_cases d0 : d = 0
    · exact ⟨_, rfl, rfl, true, by simp [d0], iteT (iteT ⟨_, rfl, _, _, rfl, rfl, cd 4 (by omega) (by omega), _, _, rfl, rfl, by omega, by show 2 ≤ sizeLine; decide, fun t nt => hret (.inl d0) t nt⟩)⟩
    refine ⟨_, rfl, rfl, false, by simp; omega, iteF ?_⟩
    by_cases bl1 : b < 1
    · exact ⟨_, rfl, y, _, _, _, rfl, rfl, .inl (.inl hy1), at1, _, _, rfl, rfl, true, by simp [bl1], iteT (iteT ⟨_, rfl, _, _, rfl, rfl, cd 4 (by omega) (by omega), _, _, rfl, rfl, by omega, by show 2 ≤ sizeLine; decide, fun t nt => hret (.inr (.inl bl1)) t nt⟩)⟩
    refine ⟨_, rfl, y, _, _, _, rfl, rfl, .inl (.inl hy1), at1, _, _, rfl, rfl, false, by simp [bl1], iteF ?_⟩
    by_cases o4 : o % 4 = 0
    · exact ⟨_, rfl, _, _, rfl, rfl, by omega, rfl, true, by simp [o4], iteT ⟨_, rfl, _, _, rfl, rfl, cd 4 (by omega) (by omega), _, _, rfl, rfl, by omega, by show 2 ≤ sizeLine; decide, fun t nt => hret (.inr (.inr o4)) t nt⟩⟩
    refine ⟨_, rfl, _, _, rfl, rfl, by omega, rfl, false, by simp [o4], iteF ?_⟩
    obtain ⟨d', rfl, rfl⟩ : ∃ d', d = d' + 1 ∧ sp = spRu K d' := by rcases hs with h | h; exact absurd h d0; exact h
    refine ⟨_, rfl, y, _, _, _, rfl, rfl, .inl (.inl hy1), at1, _, rfl, _, _, rfl, rfl, cd 40 (by omega) (by omega), _, _, rfl, rfl, by omega, b, o / 40 % 10, rfl, _, _, rfl, rfl, ?_⟩
    have hm : 0 ≤ o / 40 % 10 ∧ o / 40 % 10 < 10 := ⟨Int.emod_nonneg _ (by omega), Int.emod_lt_of_pos _ (by omega)⟩
    show gName 4 (V.int (sizeR o b)) _ H1 _
    have hsz : 1 ≤ sizeR o b ∧ sizeR o b ≤ 10 ∧ sizeR o b ≤ b + 1 := by unfold sizeR; split <;> omega
    have eF : ruleF row (d' + 1) (a, b) = (Som (1 + o / 400 % sizeR o b) (manyR (ruleF row d') (sizeR o b).toNat (a + 1, b - sizeR o b + 1)).1, (manyR (ruleF row d') (sizeR o b).toNat (a + 1, b - sizeR o b + 1)).2) := by
      conv => lhs; unfold ruleF
      simp only [hoo]
      rw [if_neg (by omega)]
    generalize sizeR o b = n at *
    refine ⟨_, rfl, y, _, _, _, rfl, rfl, .inl (.inl hy1), at1, _, rfl, _, _, rfl, rfl, _, _, rfl, rfl, _, rfl, y, _, _, 1, rfl, rfl, hy1, ixN_nat (i := 1) (by show 1 < 2; omega), ?_⟩
    have hy2 : (upd H1 y (.lst ([V.int (a + 1), V.int b].set 1 (V.int (b - n + 1))))) y = some (.lst [.int (a + 1), .int (b - n + 1)]) := upd_same
    have k2 : Kp1 y H (upd H1 y (.lst ([V.int (a + 1), V.int b].set 1 (V.int (b - n + 1))))) := k1.trans Kp1.upd
    have hx2 := k2 _ _ hx nxy
    generalize upd H1 y (.lst ([V.int (a + 1), V.int b].set 1 (V.int (b - n + 1)))) = H2 at *
    refine ⟨_, rfl, _, _, rfl, rfl, cd 400 (by omega) (by omega), _, rfl, _, _, rfl, rfl, by omega, _, _, rfl, rfl, ?_⟩
    refine ⟨_, rfl, _, rfl, n, rfl, by omega, by omega, fun D hD => ?_⟩
    have sD : Iv.Same H2 (upd H2 D (.lst [])) := Iv.Same.new hD
    have nDy : D ≠ y := fun e => by subst e; rw [hy2] at hD; cases hD
    have nDx : D ≠ x := fun e => by subst e; rw [hx2] at hD; cases hD
    refine lc_range (lo := 0) (n := n.toNat) (fun i H' => ∃ vs, H' D = some (.lst vs) ∧ RepIs K H' (manyR (ruleF row d') i (a + 1, b - n + 1)).1 vs ∧ vs.length ≤ i ∧ H' y = some (.lst [.int (manyR (ruleF row d') i (a + 1, b - n + 1)).2.1, .int (manyR (ruleF row d') i (a + 1, b - n + 1)).2.2]) ∧ 0 ≤ (manyR (ruleF row d') i (a + 1, b - n + 1)).2.2 ∧ (manyR (ruleF row d') i (a + 1, b - n + 1)).2.2 ≤ 19 ∧ Kp1 y H2 H')
      ⟨[], upd_same, .nil, Nat.le_refl _, sD _ _ hy2, by show 0 ≤ b - n + 1; omega, by show b - n + 1 ≤ 19; omega, Kp1.of sD⟩ ?_ ?_
    · rintro i H' hi ⟨vs, h1, h2, h3, h4, h5, h6, h7⟩
      refine ⟨rfl, ?_⟩
      refine ⟨_, rfl, _, rfl, _, rfl, _, _, rfl, rfl, ?_⟩
      refine ⟨x, y, row, (manyR (ruleF row d') i (a + 1, b - n + 1)).2.1, (manyR (ruleF row d') i (a + 1, b - n + 1)).2.2, ?_, nxy, h7 _ _ hx2 nxy, h4, r0, r1, hrow, h5, h6, fun v H3 rv hy3 c0 c1 k3 => ?_⟩
      · show [V.ref x, V.ref y, V.int (((d' + 1 : Nat) : Int) - 1)] = _
        rw [show ((d' + 1 : Nat) : Int) - 1 = (d' : Int) by omega]
      have hD3 := k3 _ _ h1 nDy
      refine ⟨vs, hD3, by rw [sizeLine_eq]; omega, vs ++ [v], upd_same, ?_, by simp; omega, ?_, c0, c1, ?_⟩
      · have kD := (Kp1.upd (y := D) (H := H3) (o := .lst (vs ++ [v]))).keep (K := K) hD3
        refine RepIs.append ((h2.keep (k3.keep h4)).keep kD) (.cons (rv.keep kD) .nil)
      · rw [upd_ne nDy.symm]
        exact hy3
      · intro z u hz nz
        have hzD : z ≠ D := fun e => by subst e; rw [hD] at hz; cases hz
        rw [upd_ne hzD]
        exact k3 _ _ (h7 _ _ hz nz) nz
    · rintro H' ⟨vs, h1, h2, h3, h4, h5, h6, h7⟩
      refine ⟨D, vs, rfl, .inl ⟨.inl (.inl h1), fun t nt => ?_⟩⟩
      have st := Iv.Same.new (o := .tup vs) nt
      refine ⟨by show 3 ≤ sizeLine; decide, fun t2 nt2 => ?_⟩
      have s2 := Iv.Same.new (o := .tup [V.str "some", V.int (1 + o / 400 % n), V.ref t]) nt2
      rw [eF] at kk
      have s3 := st.trans s2
      exact kk _ _ (.tup (.inl (.inl upd_same)) (.cons (.str _) (.cons (.int _) (.cons (.tup (.inl (.inl (s2 _ _ upd_same))) (h2.keep (ok := fun _ => True) s3.keep)) .nil)))) (s3 _ _ h4) h5 h6 ((k2.trans h7).trans (Kp1.of s3))
theorem RU_all {f : Addr} {fd : FuncData} (F : L2.Fun K "_law_rule" "_law_rule" sRU f fd) (mf : mg "_law_rule" = some (.ref f)) (kf : PySem.W.keepIn K (.ref f) = true) (bf : L2.Binds K fd ["_law_row", "_law_state", "_law_deep"] []) (bl : ∀ b ∈ bltAll, mg (b : Str) = none) :
    ∀ d, FnOk P w K mg base CX0 (d + 1) f fd ["_law_row", "_law_state", "_law_deep"] (spRu K d)
  | 0 => ok_RU F mf kf bf bl (sp := fun _ _ _ _ => False) (fnbad fun _ _ _ _ h => h) (.inl rfl)
  | d + 1 => ok_RU F mf kf bf bl (RU_all F mf kf bf bl d) (.inr ⟨d, rfl, rfl⟩)
theorem scDR : FnScope ["_law_script", "_law_at", "_law_row"] ["_law_script", "_law_at"] (defScope sDR) := ⟨rfl, rfl, rfl, by decide +kernel, rfl, by decide +kernel, by decide +kernel⟩
theorem phiR_inv (ds : List D) : phiR ds = .bad ∨ ∃ ns a, ds = [.scr ns, .imm (.int a)] ∧ ns.length ≤ 63 ∧ 0 ≤ a ∧ a ≤ 900 ∧ phiR ds = .ok (.imm (drawnR ns a), true) := by
  unfold phiR
  split
  · rename_i ns a
    split
    · rename_i h
      exact .inr ⟨ns, a, rfl, h.1, h.2.1, h.2.2, rfl⟩
    · exact .inl rfl
  · exact .inl rfl
theorem ok_DR {f fR : Addr} {fd fdR : FuncData} (F : L2.Fun K "_law_drawn_rule" "_law_drawn_rule" sDR f fd) (FR : L2.Fun K "_law_rule" "_law_rule" sRU fR fdR) (mR : mg "_law_rule" = some (.ref fR)) (kR : PySem.W.keepIn K (.ref fR) = true) (bR : L2.Binds K fdR ["_law_row", "_law_state", "_law_deep"] []) (bl : ∀ b ∈ bltAll, mg (b : Str) = none)
    (hdraw : OkAt P w K mg base 2 "_law_drawn" 4 (Fn dfs X0 2 "_law_drawn")) (hcell : OkAt P w K mg base 1 "_law_cell_at" 2 (Fn dfs X0 1 "_law_cell_at")) : FnOk P w K mg base CX0 7 f fd ["_law_script", "_law_at"] (spD K mg 2 phiR) := by
  obtain ⟨f1, fd1, ps1, m1, k1, b1, l1, F1⟩ := hdraw
  obtain ⟨f2, fd2, ps2, m2, k2, b2, l2, F2⟩ := hcell
  refine F.ok scDR (fun vs H Q E h => h.len) (fun cdv A outer s H vs Q E hr h => ?_)
  obtain ⟨okp, ds, hp, hn, hm⟩ := h
  rcases phiR_inv ds with e | ⟨ns, a, rfl, g1, g2, g3, e⟩
  · rw [e] at hm; exact hm.elim
  rw [e] at hm
  cases hp with
  | cons q1 hp =>
  cases hp with
  | cons q2 hp =>
  cases hp
  rename_i v1 v2
  cases rep_imm q2
  have q1' : Rep K H (fun _ => True) (fun _ => True) (.scr ns) v1 := by
    cases q1 with
    | scr h r => exact .scr trivial r
    | scrK h => exact .scrK h
  have c6 : 0 ≤ cellF ns (a + 1) % 6 ∧ cellF ns (a + 1) % 6 < 6 := ⟨Int.emod_nonneg _ (by omega), Int.emod_lt_of_pos _ (by omega)⟩
  have hde : deepR ns a ≤ 5 ∧ atI [V.int 1, V.int 2, V.int 5, V.int 3, V.int 5, V.int 4] (cellF ns (a + 1) % 6) = some (V.int (deepR ns a : Nat)) := by
    unfold deepR
    obtain ⟨j, hj, e⟩ : ∃ j : Nat, j < 6 ∧ cellF ns (a + 1) % 6 = (j : Int) := ⟨(cellF ns (a + 1) % 6).toNat, by omega, by omega⟩
    rw [e]
    match j, hj with
    | 0, _ => exact ⟨by decide, atI_nat (j := 0) rfl⟩
    | 1, _ => exact ⟨by decide, atI_nat (j := 1) rfl⟩
    | 2, _ => exact ⟨by decide, atI_nat (j := 2) rfl⟩
    | 3, _ => exact ⟨by decide, atI_nat (j := 3) rfl⟩
    | 4, _ => exact ⟨by decide, atI_nat (j := 4) rfl⟩
    | 5, _ => exact ⟨by decide, atI_nat (j := 5) rfl⟩
  obtain ⟨hd5, hat⟩ := hde
  have hr2 : Room 2 _ := hr.mono (by decide)
  have hr1 : Room 1 _ := hr.mono (by decide)
  have hrd : Room (deepR ns a + 1) _ := hr.mono (by omega)
  refine ⟨_, pss_cons (ps_set (i := 2) scDR.nd rfl (.inl rfl) (pe_callS F1 hr2 rfl m1 k1 b1 (fun σ => passAt L2.takes_none5 σ) (pa_cons (pv 0) (pa_cons (pv 1) (pa_cons pe_int (pa_cons pe_int pa_nil))))))
    (pss_one (ps_ret (pe_call (RU_all FR mR kR bR bl (deepR ns a)) hrd rfl mR kR bR .nil pass0 (pa_cons (pv 2) (pa_cons (pe_lst (pa_cons pe_int (pa_cons pe_int pa_nil))) (pa_cons (pe_ix ix_list (pe_lst (pa_cons pe_int (pa_cons pe_int (pa_cons pe_int (pa_cons pe_int (pa_cons pe_int (pa_cons pe_int pa_nil))))))) (pe_op op_mod (pe_callS F2 hr1 rfl m2 k2 b2 (fun σ => passAt L2.takes_none5 σ) (pa_cons (pv 0) (pa_cons (pe_op op_add (pv 1) pe_int) pa_nil))) pe_int) (fun _ _ => rfl)) pa_nil)))))), ?_⟩
  refine ⟨_, rfl, _, rfl, ?_⟩
  refine spD_lst (.cons q1' (.cons rep_in (.cons rep_in (.cons rep_in .nil)))) rfl (drawnF_e 0 ns a 4000 24 g1 g2 (by omega) (by omega) (by omega) (by omega)) fun x H1 s1 nx hx => ?_
  have hrow := drawF_ok (c0 := cellF ns 0) (c := cellF ns a) (base := 4000) (by omega) 24
  refine ⟨_, rfl, by show 2 ≤ sizeLine; decide, fun y ny => ?_⟩
  have s2 := Iv.Same.new (o := .lst [V.int 0, V.int 19]) ny
  have hy : (upd H1 y (.lst [V.int 0, V.int 19])) y = some (.lst [V.int 0, V.int 19]) := upd_same
  generalize upd H1 y (.lst [V.int 0, V.int 19]) = H2 at *
  have hx2 := s2 _ _ hx
  have nxy : x ≠ y := fun e => by subst e; rw [hx] at ny; cases ny
  have s02 := s1.trans s2
  refine ⟨by show 6 ≤ sizeLine; decide, fun z nz => ?_⟩
  have s3 := Iv.Same.new (o := .lst [V.int 1, V.int 2, V.int 5, V.int 3, V.int 5, V.int 4]) nz
  have hz : (upd H2 z (.lst [V.int 1, V.int 2, V.int 5, V.int 3, V.int 5, V.int 4])) z = some (.lst [V.int 1, V.int 2, V.int 5, V.int 3, V.int 5, V.int 4]) := upd_same
  generalize upd H2 z (.lst [V.int 1, V.int 2, V.int 5, V.int 3, V.int 5, V.int 4]) = H3 at *
  have s03 := s02.trans s3
  refine ⟨_, rfl, _, rfl, _, _, rfl, rfl, ?_⟩
  refine spD_imm (.cons (q1'.same s03) (.cons rep_in .nil)) rfl (cellF_e 0 ns (a + 1) g1 (by omega) (by omega)) fun v5 H4 s4 rv5 => ?_
  cases rv5
  refine ⟨_, _, rfl, rfl, by show (0 : Int) < 6; decide, z, _, _, _, rfl, rfl, .inl (.inl (s4 _ _ hz)), hat, ?_⟩
  refine ⟨x, y, rowR ns a, 0, 19, rfl, nxy, s4 _ _ (s3 _ _ hx2), s4 _ _ (s3 _ _ hy), by show 0 < (drawF _ _ _ 24).2.length; rw [hrow.1]; decide, by show (drawF _ _ _ 24).2.length ≤ 1000; rw [hrow.1]; decide, hrow.2, by decide, by decide, fun v H' rv hy' c0 c1 kp => ?_⟩
  refine hm v H' (fun b u hb => ?_) (.imm rv)
  have hby : b ≠ y := fun e => by
    subst e
    have := s1 _ _ hb
    rw [this] at ny
    cases ny
  exact kp _ _ (s4 _ _ (s03 _ _ hb)) hby
theorem out_rule {f fR : Addr} {fd fdR : FuncData} (bl : ∀ b ∈ bltAll, mg (b : Str) = none) (FR : L2.Fun K "_law_rule" "_law_rule" sRU fR fdR) (mR : mg "_law_rule" = some (.ref fR)) (kR : PySem.W.keepIn K (.ref fR) = true) (bR : L2.Binds K fdR ["_law_row", "_law_state", "_law_deep"] [])
    (F : L2.Fun K "_law_drawn_rule" "_law_drawn_rule" sDR f fd) (mB : mg "_law_drawn_rule" = some (.ref f)) (kB : PySem.W.keepIn K (.ref f) = true) (bB : L2.Binds K fd ["_law_script", "_law_at"] []) : OutOk P w K mg base dfs X0 gs "_law_drawn_rule" 2 := by
  refine ⟨f, fd, _, mB, kB, bB, rfl, fun k hk => ?_⟩
  by_cases h : 6 ≤ k
  · have e : X0 (k + 1) "_law_drawn_rule" = phiR := by funext ds; show (if 7 ≤ k + 1 then phiR ds else .bad) = _; rw [if_pos (by omega)]
    rw [e]
    exact (cx0 (ok_DR F FR mR kR bR bl (hk 2 (by omega) "_law_drawn" 4 (by decide +kernel)) (hk 1 (by omega) "_law_cell_at" 2 (by decide +kernel)))).mono (by omega)
  · refine fnbad fun vs H Q E q => ?_
    obtain ⟨okp, ds, _, _, z⟩ := q
    have e : X0 (k + 1) "_law_drawn_rule" ds = .bad := by show (if 7 ≤ k + 1 then phiR ds else .bad) = _; rw [if_neg (by omega)]
    rw [e] at z
    exact z
end
end Lk14

/-! NmZ: comparing data of any shape. -/
namespace Iv
open PySem PySem.Spec L2
mutual
/-- no dict, no odd text; n: no truths either -/
def pl (n : Bool) : PyData → Bool
  | .none => true | .int _ => true | .bool _ => !n | .str x => PyData.canLay0 (.str x) | .list xs => pls n xs | .tuple xs => pls n xs | .dict _ => false
def pls (n : Bool) : List PyData → Bool
  | [] => true
  | x :: r => pl n x && pls n r
end
mutual
theorem pl_lay {n : Bool} : ∀ a : PyData, pl n a = true → a.canLay0 = true
  | .none, _ => rfl
  | .int _, _ => rfl
  | .bool _, _ => rfl
  | .str x, h => h
  | .list xs, h => pls_lay xs h
  | .tuple xs, h => pls_lay xs h
  | .dict _, h => nomatch h
theorem pls_lay {n : Bool} : ∀ a : List PyData, pls n a = true → PyData.canLayAll0 a = true
  | [], _ => rfl
  | x :: r, h => by
    have h : (pl n x && pls n r) = true := h
    rw [Bool.and_eq_true] at h
    show (x.canLay0 && PyData.canLayAll0 r) = true
    rw [pl_lay x h.1, pls_lay r h.2]; rfl
end
mutual
theorem eqv_refl {n : Bool} : ∀ a : PyData, pl n a = true → PyData.eqv a a = true
  | .none, _ => rfl
  | .int i, _ => by show (i == i) = true; simp
  | .bool i, _ => by show (i == i) = true; simp
  | .str x, h => by show (x == x) = true; simp
  | .list xs, h => eqvs_refl xs h
  | .tuple xs, h => eqvs_refl xs h
  | .dict _, h => nomatch h
theorem eqvs_refl {n : Bool} : ∀ a : List PyData, pls n a = true → PyData.eqvAll a a = true
  | [], _ => rfl
  | x :: r, h => by
    have h : (pl n x && pls n r) = true := h
    rw [Bool.and_eq_true] at h
    show (PyData.eqv x x && PyData.eqvAll r r) = true
    rw [eqv_refl x h.1, eqvs_refl r h.2]; rfl
end
mutual
theorem eqv_pl : ∀ a b : PyData, pl true a = true → pl true b = true → PyData.eqv a b = true → a = b
  | .none, b, _, _, h => by cases b <;> first | rfl | nomatch h
  | .int i, b, _, hb, h => by
    cases b with
    | int j => exact congrArg _ (by simpa [PyData.eqv] using h)
    | bool j => nomatch hb
    | _ => nomatch h
  | .bool i, b, ha, _, _ => nomatch ha
  | .str x, b, _, _, h => by
    cases b with
    | str y => exact congrArg _ (by simpa [PyData.eqv] using h)
    | _ => nomatch h
  | .list xs, b, ha, hb, h => by
    cases b with
    | list y => exact congrArg _ (eqvs_pl xs y ha hb h)
    | _ => nomatch h
  | .tuple xs, b, ha, hb, h => by
    cases b with
    | tuple y => exact congrArg _ (eqvs_pl xs y ha hb h)
    | _ => nomatch h
  | .dict _, _, h, _, _ => nomatch h
theorem eqvs_pl : ∀ a b : List PyData, pls true a = true → pls true b = true → PyData.eqvAll a b = true → a = b
  | [], [], _, _, _ => rfl
  | [], _ :: _, _, _, h => nomatch h
  | _ :: _, [], _, _, h => nomatch h
  | x :: r, y :: s, ha, hb, h => by
    have ha : (pl true x && pls true r) = true := ha
    have hb : (pl true y && pls true s) = true := hb
    have h : (PyData.eqv x y && PyData.eqvAll r s) = true := h
    rw [Bool.and_eq_true] at h ha hb
    rw [eqv_pl x y ha.1 hb.1 h.1, eqvs_pl r s ha.2 hb.2 h.2]
end
theorem pls_iff {n : Bool} : ∀ xs : List PyData, pls n xs = true ↔ ∀ x ∈ xs, pl n x = true
  | [] => ⟨fun _ _ h => (nomatch h), fun _ => rfl⟩
  | x :: r => by
    rw [show pls n (x :: r) = (pl n x && pls n r) from rfl, Bool.and_eq_true, pls_iff r]
    simp
theorem deps_iff {n : Nat} : ∀ xs : List PyData, PyData.depthAll xs ≤ n ↔ ∀ x ∈ xs, PyData.depth x ≤ n
  | [] => ⟨fun _ _ h => (nomatch h), fun _ => Nat.zero_le _⟩
  | x :: r => by
    rw [show PyData.depthAll (x :: r) = max (PyData.depth x) (PyData.depthAll r) from rfl, Nat.max_le, deps_iff r]
    simp
theorem Ipys_map : ∀ xs : List I, I.pys xs = xs.map I.py
  | [] => rfl
  | x :: r => by show x.py :: I.pys r = _; rw [Ipys_map r]; rfl
theorem Dpys_map : ∀ xs : List D, D.pys xs = xs.map D.py
  | [] => rfl
  | x :: r => by show x.py :: D.pys r = _; rw [Dpys_map r]; rfl
theorem pl_list {n : Bool} {xs : List PyData} : pl n (.list xs) = true ↔ ∀ x ∈ xs, pl n x = true := pls_iff xs
theorem pl_tuple {n : Bool} {xs : List PyData} : pl n (.tuple xs) = true ↔ ∀ x ∈ xs, pl n x = true := pls_iff xs
theorem pl_int {n : Bool} {i : Int} : pl n (.int i) = true := (rfl)
theorem pl_none {n : Bool} : pl n .none = true := (rfl)
theorem pl_bool {b : Bool} : pl false (.bool b) = true := (rfl)
theorem pl_str {n : Bool} {x : Str} : pl n (.str x) = PyData.canLay0 (.str x) := (rfl)
theorem dep_list {m : Nat} {xs : List PyData} : PyData.depth (.list xs) ≤ m + 1 ↔ ∀ x ∈ xs, PyData.depth x ≤ m := by
  rw [show PyData.depth (.list xs) = PyData.depthAll xs + 1 from rfl, Nat.add_le_add_iff_right, deps_iff]
theorem dep_tuple {m : Nat} {xs : List PyData} : PyData.depth (.tuple xs) ≤ m + 1 ↔ ∀ x ∈ xs, PyData.depth x ≤ m := by
  rw [show PyData.depth (.tuple xs) = PyData.depthAll xs + 1 from rfl, Nat.add_le_add_iff_right, deps_iff]
theorem dep_int {m : Nat} {i : Int} : PyData.depth (.int i) ≤ m := Nat.zero_le _
theorem dep_none {m : Nat} : PyData.depth .none ≤ m := Nat.zero_le _
theorem dep_bool {m : Nat} {b : Bool} : PyData.depth (.bool b) ≤ m := Nat.zero_le _
theorem dep_str {m : Nat} {x : Str} : PyData.depth (.str x) ≤ m := Nat.zero_le _
/-- what may be compared: n: without truths; m: how deep -/
def Sh (n : Bool) (m : Nat) (d : PyData) : Prop := pl n d = true ∧ PyData.depth d ≤ m
theorem Sh.shaped {n : Bool} {m : Nat} {d : PyData} (h : Sh n m d) (hm : m ≤ 64) : SeqAt.shaped d = true := by
  unfold SeqAt.shaped
  rw [pl_lay d h.1, Bool.true_and]
  exact decide_eq_true (Nat.le_trans h.2 hm)
theorem Sh.list {n : Bool} {m : Nat} {xs : List PyData} (h : ∀ x ∈ xs, Sh n m x) : Sh n (m + 1) (.list xs) := ⟨pl_list.mpr fun x hx => (h x hx).1, dep_list.mpr fun x hx => (h x hx).2⟩
theorem Sh.tuple {n : Bool} {m : Nat} {xs : List PyData} (h : ∀ x ∈ xs, Sh n m x) : Sh n (m + 1) (.tuple xs) := ⟨pl_tuple.mpr fun x hx => (h x hx).1, dep_tuple.mpr fun x hx => (h x hx).2⟩
theorem Sh.int {n : Bool} {m : Nat} {i : Int} : Sh n m (.int i) := ⟨rfl, Nat.zero_le _⟩
theorem Sh.none {n : Bool} {m : Nat} : Sh n m .none := ⟨rfl, Nat.zero_le _⟩
theorem Sh.bool {m : Nat} {b : Bool} : Sh false m (.bool b) := ⟨rfl, Nat.zero_le _⟩
theorem Sh.str {n : Bool} {m : Nat} {x : Str} (h : PyData.canLay0 (.str x) = true) : Sh n m (.str x) := ⟨h, Nat.zero_le _⟩
/-- a list of things of one kind -/
theorem Sh.lsi {α : Type} {n : Bool} {m : Nat} {f : α → I} {xs : List α} (h : ∀ x ∈ xs, Sh n m (f x).py) : Sh n (m + 1) (D.lsi (xs.map f)).py := by
  show Sh n (m + 1) (.list (I.pys (xs.map f)))
  rw [Ipys_map]
  refine Sh.list fun y hy => ?_
  rw [List.map_map] at hy
  obtain ⟨x, hx, rfl⟩ := List.mem_map.mp hy
  exact h x hx
theorem Sh.tup {α : Type} {n : Bool} {m : Nat} {f : α → I} {xs : List α} (h : ∀ x ∈ xs, Sh n m (f x).py) : Sh n (m + 1) (I.tup (xs.map f)).py := by
  show Sh n (m + 1) (.tuple (I.pys (xs.map f)))
  rw [Ipys_map]
  refine Sh.tuple fun y hy => ?_
  rw [List.map_map] at hy
  obtain ⟨x, hx, rfl⟩ := List.mem_map.mp hy
  exact h x hx
theorem Sh.lsd {α : Type} {n : Bool} {m : Nat} {f : α → D} {xs : List α} (h : ∀ x ∈ xs, Sh n m (f x).py) : Sh n (m + 1) (D.lsd (xs.map f)).py := by
  show Sh n (m + 1) (.list (D.pys (xs.map f)))
  rw [Dpys_map]
  refine Sh.list fun y hy => ?_
  rw [List.map_map] at hy
  obtain ⟨x, hx, rfl⟩ := List.mem_map.mp hy
  exact h x hx
theorem Sh.tup2 {n : Bool} {m : Nat} {a b : I} (ha : Sh n m a.py) (hb : Sh n m b.py) : Sh n (m + 1) (I.tup [a, b]).py := Sh.tuple fun x hx => by
  rcases List.mem_cons.mp hx with rfl | hx
  · exact ha
  · rcases List.mem_cons.mp hx with rfl | hx
    · exact hb
    · cases hx
theorem Sh.tup3 {n : Bool} {m : Nat} {a b c : I} (ha : Sh n m a.py) (hb : Sh n m b.py) (hc : Sh n m c.py) : Sh n (m + 1) (I.tup [a, b, c]).py := Sh.tuple fun x hx => by
  rcases List.mem_cons.mp hx with rfl | hx
  · exact ha
  · rcases List.mem_cons.mp hx with rfl | hx
    · exact hb
    · rcases List.mem_cons.mp hx with rfl | hx
      · exact hc
      · cases hx
theorem eqD_py : ∀ a b : D, (a.py.canLay0 = true ∧ a.py.depth ≤ 64) → (b.py.canLay0 = true ∧ b.py.depth ≤ 64) → eqD a b = .ok (PyData.eqv a.py b.py) := by
  intro a b ha hb
  have sa : SeqAt.shaped a.py = true := by unfold SeqAt.shaped; rw [ha.1, Bool.true_and]; exact decide_eq_true ha.2
  have sb : SeqAt.shaped b.py = true := by unfold SeqAt.shaped; rw [hb.1, Bool.true_and]; exact decide_eq_true hb.2
  unfold eqD
  split
  · rename_i i j
    show M.ok (decide (i = j)) = .ok (i == j)
    rfl
  · rename_i i j
    try show M.ok (decide (i = j)) = .ok (i == j)
    first | done | (by_cases h : i = j <;> simp [h])
  · rename_i i j
    show M.ok (decide (i = j)) = .ok (i == j)
    cases i <;> cases j <;> rfl
  · exact absurd (show false = true from ha.1) (by decide)
  · exact absurd (show false = true from ha.1) (by decide)
  · rw [if_pos ⟨sa, sb⟩]
theorem eqD_refl {n : Bool} {m : Nat} {a : D} (h : Sh n m a.py) (hm : m ≤ 64) : eqD a a = .ok true := by
  have := eqD_py a a ⟨pl_lay _ h.1, Nat.le_trans h.2 hm⟩ ⟨pl_lay _ h.1, Nat.le_trans h.2 hm⟩
  rw [this, eqv_refl _ h.1]
section
variable {Ex : String → Prop} {Q : Bool → Prop} {n : Bool} {m : Nat} {a b : D}
theorem cmp_eqR (h : Sh n m a.py) (hm : m ≤ 64 := by decide) : (cmpD .Eq a a).sat Ex Q = Q true := by
  show (eqD a a).sat Ex Q = _
  rw [eqD_refl h hm]; rfl
theorem cmp_neR (h : Sh n m a.py) (hm : m ≤ 64 := by decide) : (cmpD .NotEq a a).sat Ex Q = Q false := by
  show ((eqD a a).bind fun r => .ok (!r)).sat Ex Q = _
  rw [eqD_refl h hm]; rfl
open Classical in
theorem eqD_is (ha : Sh true m a.py) (hb : Sh true m b.py) (hm : m ≤ 64) : eqD a b = .ok (decide (a.py = b.py)) := by
  rw [eqD_py a b ⟨pl_lay _ ha.1, Nat.le_trans ha.2 hm⟩ ⟨pl_lay _ hb.1, Nat.le_trans hb.2 hm⟩]
  congr 1
  by_cases h : a.py = b.py
  · rw [decide_eq_true h, h]; exact eqv_refl _ hb.1
  · rw [decide_eq_false h]
    cases e : PyData.eqv a.py b.py with
    | false => rfl
    | true => exact absurd (eqv_pl _ _ ha.1 hb.1 e) h
theorem cmp_eqP (ha : Sh true m a.py) (hb : Sh true m b.py) (hm : m ≤ 64 := by decide) (r : Bool) (hr : r = true ↔ a.py = b.py) : (cmpD .Eq a b).sat Ex Q = Q r := by
  show (eqD a b).sat Ex Q = _
  classical
  rw [eqD_is ha hb hm]
  show Q _ = Q _
  congr 1
  cases r with
  | true => exact decide_eq_true (hr.mp rfl)
  | false => exact decide_eq_false fun z => by cases hr.mpr z
theorem cmp_neP (ha : Sh true m a.py) (hb : Sh true m b.py) (hm : m ≤ 64 := by decide) (r : Bool) (hr : r = true ↔ a.py ≠ b.py) : (cmpD .NotEq a b).sat Ex Q = Q r := by
  show ((eqD a b).bind fun r => .ok (!r)).sat Ex Q = _
  classical
  rw [eqD_is ha hb hm]
  show Q _ = Q _
  congr 1
  cases r with
  | true => rw [decide_eq_false (hr.mp rfl)]; rfl
  | false => rw [decide_eq_true (Classical.byContradiction fun z => by cases hr.mpr z)]; rfl
end
end Iv

/-! rules as data: what is drawn, the hands written, turned about. -/
namespace Iv
open PySem PySem.Spec L2 Nm
def RuOk : Nat → I → Prop
  | 0, r => ∃ h, 0 ≤ h ∧ h < 10 ∧ r = Hnd h
  | d + 1, r => (∃ h, 0 ≤ h ∧ h < 10 ∧ r = Hnd h) ∨ ∃ k rs, r = Som k rs ∧ 1 ≤ k ∧ k ≤ (rs.length : Int) ∧ rs.length ≤ 10 ∧ ∀ x ∈ rs, RuOk d x
theorem RuOk.hnd {d : Nat} {h : Int} (h0 : 0 ≤ h) (h1 : h < 10) : RuOk d (Hnd h) := by
  cases d with
  | zero => exact ⟨h, h0, h1, rfl⟩
  | succ d => exact .inl ⟨h, h0, h1, rfl⟩
def handsR : Nat → I → List Int
  | d + 1, .tup [_, .int _, .tup rs] => (rs.map (handsR d)).flatten
  | _, .tup [_, .int h] => [h]
  | _, _ => []
def turnR : Nat → I → I
  | d + 1, .tup [_, .int k, .tup rs] => Som (rs.length + 1 - k) (rs.map (turnR d))
  | _, r => r
theorem handsR_h {d : Nat} {h : Int} : handsR d (Hnd h) = [h] := by cases d <;> rfl
theorem turnR_h {d : Nat} {h : Int} : turnR d (Hnd h) = Hnd h := by cases d <;> rfl
theorem handsR_s {d : Nat} {k : Int} {rs : List I} : handsR (d + 1) (Som k rs) = (rs.map (handsR d)).flatten := rfl
theorem turnR_s {d : Nat} {k : Int} {rs : List I} : turnR (d + 1) (Som k rs) = Som (rs.length + 1 - k) (rs.map (turnR d)) := rfl
theorem turnR_ok : ∀ {d : Nat} {r : I}, RuOk d r → RuOk d (turnR d r)
  | 0, r, h => by obtain ⟨x, h0, h1, rfl⟩ := h; rw [turnR_h]; exact .hnd h0 h1
  | d + 1, r, h => by
    rcases h with ⟨x, h0, h1, rfl⟩ | ⟨k, rs, rfl, k1, k2, k3, ha⟩
    · rw [turnR_h]; exact .hnd h0 h1
    · rw [turnR_s]
      refine .inr ⟨_, _, rfl, by omega, by rw [List.length_map]; omega, by rw [List.length_map]; exact k3, fun x hx => ?_⟩
      obtain ⟨y, hy, rfl⟩ := List.mem_map.mp hx
      exact turnR_ok (ha y hy)
theorem turn_turn : ∀ {d : Nat} {r : I}, RuOk d r → turnR d (turnR d r) = r
  | 0, r, h => by obtain ⟨x, h0, h1, rfl⟩ := h; rw [turnR_h, turnR_h]
  | d + 1, r, h => by
    rcases h with ⟨x, h0, h1, rfl⟩ | ⟨k, rs, rfl, k1, k2, k3, ha⟩
    · rw [turnR_h, turnR_h]
    · rw [turnR_s, turnR_s, List.length_map, List.map_map]
      have e : rs.map (turnR d ∘ turnR d) = rs := by
        conv => rhs; rw [← List.map_id rs]
        exact List.map_congr_left fun x hx => turn_turn (ha x hx)
      rw [e]
      congr 1
      omega
theorem hands_turn : ∀ {d : Nat} {r : I}, RuOk d r → handsR d (turnR d r) = handsR d r
  | 0, r, h => by obtain ⟨x, h0, h1, rfl⟩ := h; rw [turnR_h]
  | d + 1, r, h => by
    rcases h with ⟨x, h0, h1, rfl⟩ | ⟨k, rs, rfl, k1, k2, k3, ha⟩
    · rw [turnR_h]
    · rw [turnR_s, handsR_s, handsR_s, List.map_map]
      congr 1
      exact List.map_congr_left fun x hx => hands_turn (ha x hx)
theorem hands_rng : ∀ {d : Nat} {r : I}, RuOk d r → ∀ h ∈ handsR d r, 0 ≤ h ∧ h < 10
  | 0, r, h => by obtain ⟨x, h0, h1, rfl⟩ := h; rw [handsR_h]; intro y hy; rw [List.mem_singleton.mp hy]; exact ⟨h0, h1⟩
  | d + 1, r, h => by
    rcases h with ⟨x, h0, h1, rfl⟩ | ⟨k, rs, rfl, k1, k2, k3, ha⟩
    · rw [handsR_h]; intro y hy; rw [List.mem_singleton.mp hy]; exact ⟨h0, h1⟩
    · rw [handsR_s]
      intro y hy
      obtain ⟨l, hl, hy⟩ := List.mem_flatten.mp hy
      obtain ⟨x, hx, rfl⟩ := List.mem_map.mp hl
      exact hands_rng (ha x hx) y hy
theorem hnd_sh {m : Nat} {h : Int} : Sh true (m + 1) (Hnd h).py := Sh.tup2 (Sh.str (by decide +kernel)) Sh.int
theorem rule_sh : ∀ {d : Nat} {r : I}, RuOk d r → Sh true (4 + 2 * d) r.py
  | 0, r, h => by obtain ⟨x, h0, h1, rfl⟩ := h; exact hnd_sh (m := 3)
  | d + 1, r, h => by
    have e : 4 + 2 * (d + 1) = (4 + 2 * d + 1) + 1 := by omega
    rw [e]
    rcases h with ⟨x, h0, h1, rfl⟩ | ⟨k, rs, rfl, k1, k2, k3, ha⟩
    · exact hnd_sh
    · refine Sh.tup3 (Sh.str (by decide +kernel)) Sh.int ?_
      have := Sh.tup (n := true) (m := 4 + 2 * d) (f := id) (xs := rs) fun x hx => rule_sh (ha x hx)
      rwa [List.map_id] at this
theorem ruleF_ok {row : List Int} (r0 : 0 < row.length) (hr : ∀ z ∈ row, 0 ≤ z ∧ z < 4000) : ∀ (d : Nat) (s : Int × Int), 0 ≤ s.2 → RuOk d (ruleF row d s).1 ∧ 0 ≤ (ruleF row d s).2.2 ∧ (ruleF row d s).2.2 ≤ s.2 ∧ ((handsR d (ruleF row d s).1).length : Int) = 1 + s.2 - (ruleF row d s).2.2 := by
  have ho : ∀ a, 0 ≤ oneR row a := fun a => by
    have h0 := Int.emod_nonneg a (show (row.length : Int) ≠ 0 by omega)
    have h1 := Int.emod_lt_of_pos a (show (0 : Int) < row.length by omega)
    unfold oneR
    rw [List.getD_eq_getElem?_getD, List.getElem?_eq_getElem (by omega)]
    exact (hr _ (List.getElem_mem _)).1
  have hh : ∀ a, 0 ≤ oneR row a / 4 % 10 ∧ oneR row a / 4 % 10 < 10 := fun a => ⟨Int.emod_nonneg _ (by omega), Int.emod_lt_of_pos _ (by omega)⟩
  intro d
  induction d with
  | zero =>
    intro s hs
    refine ⟨.hnd (hh s.1).1 (hh s.1).2, hs, Int.le_refl _, ?_⟩
    show ((handsR 0 (Hnd _)).length : Int) = 1 + s.2 - s.2
    rw [handsR_h]
    simp
    try omega
  | succ d ih =>
    intro s hs
    unfold ruleF
    split
    · refine ⟨.hnd (hh s.1).1 (hh s.1).2, hs, Int.le_refl _, ?_⟩
      show ((handsR (d + 1) (Hnd _)).length : Int) = 1 + s.2 - s.2
      rw [handsR_h]
      simp
      try omega
    · rename_i hc
      have hm : 0 ≤ oneR row s.1 / 40 % 10 ∧ oneR row s.1 / 40 % 10 < 10 := ⟨Int.emod_nonneg _ (by omega), Int.emod_lt_of_pos _ (by omega)⟩
      have hsz : 1 ≤ sizeR (oneR row s.1) s.2 ∧ sizeR (oneR row s.1) s.2 ≤ 10 ∧ sizeR (oneR row s.1) s.2 ≤ s.2 + 1 := by unfold sizeR; split <;> omega
      have hk : 0 ≤ oneR row s.1 / 400 % sizeR (oneR row s.1) s.2 ∧ oneR row s.1 / 400 % sizeR (oneR row s.1) s.2 < sizeR (oneR row s.1) s.2 := ⟨Int.emod_nonneg _ (by omega), Int.emod_lt_of_pos _ (by omega)⟩
      generalize oneR row s.1 / 400 % sizeR (oneR row s.1) s.2 = k at *
      generalize sizeR (oneR row s.1) s.2 = n at *
      have many : ∀ (t : Int × Int), 0 ≤ t.2 → ∀ m : Nat, (manyR (ruleF row d) m t).1.length = m ∧ (∀ x ∈ (manyR (ruleF row d) m t).1, RuOk d x) ∧ 0 ≤ (manyR (ruleF row d) m t).2.2 ∧ (manyR (ruleF row d) m t).2.2 ≤ t.2 ∧ ((((manyR (ruleF row d) m t).1.map (handsR d)).flatten.length : Nat) : Int) = m + t.2 - (manyR (ruleF row d) m t).2.2 := by
        intro t ht m
        induction m with
        | zero => exact ⟨rfl, (fun _ h => nomatch h), ht, Int.le_refl _, by show (0 : Int) = ((0 : Nat) : Int) + t.2 - t.2; omega⟩
        | succ m ihm =>
          obtain ⟨a1, a2, a3, a5, a4⟩ := ihm
          obtain ⟨b1, b2, b4, b3⟩ := ih (manyR (ruleF row d) m t).2 a3
          refine ⟨?_, ?_, b2, Int.le_trans b4 a5, ?_⟩
          · show ((manyR (ruleF row d) m t).1 ++ [_]).length = m + 1
            simp [a1]
          · intro x hx
            rcases List.mem_append.mp (show x ∈ (manyR (ruleF row d) m t).1 ++ [_] from hx) with h | h
            · exact a2 x h
            · rw [List.mem_singleton.mp h]; exact b1
          · show ((((manyR (ruleF row d) m t).1 ++ [(ruleF row d (manyR (ruleF row d) m t).2).1]).map (handsR d)).flatten.length : Int) = ((m + 1 : Nat) : Int) + t.2 - (ruleF row d (manyR (ruleF row d) m t).2).2.2
            rw [List.map_append, List.flatten_append, List.length_append]
            have : (([(ruleF row d (manyR (ruleF row d) m t).2).1].map (handsR d)).flatten.length : Int) = 1 + (manyR (ruleF row d) m t).2.2 - (ruleF row d (manyR (ruleF row d) m t).2).2.2 := by
              rw [← b3]; simp
            omega
      obtain ⟨a1, a2, a3, a5, a4⟩ := many (s.1 + 1, s.2 - n + 1) (by show 0 ≤ s.2 - n + 1; omega) n.toNat
      refine ⟨.inr ⟨_, _, rfl, by omega, by rw [a1]; omega, by rw [a1]; omega, a2⟩, a3, Int.le_trans a5 (by show s.2 - n + 1 ≤ s.2; omega), ?_⟩
      show (((handsR (d + 1) (Som _ _)).length : Nat) : Int) = _
      rw [handsR_s, a4]
      show ((n.toNat : Nat) : Int) + (s.2 - n + 1) - (manyR (ruleF row d) n.toNat (s.1 + 1, s.2 - n + 1)).2.2 = 1 + s.2 - (manyR (ruleF row d) n.toNat (s.1 + 1, s.2 - n + 1)).2.2
      omega
theorem deepR_le {ns : List Int} {a : Int} : deepR ns a ≤ 5 := by
  have c6 : 0 ≤ cellF ns (a + 1) % 6 ∧ cellF ns (a + 1) % 6 < 6 := ⟨Int.emod_nonneg _ (by omega), Int.emod_lt_of_pos _ (by omega)⟩
  unfold deepR
  obtain ⟨j, hj, e⟩ : ∃ j : Nat, j < 6 ∧ cellF ns (a + 1) % 6 = (j : Int) := ⟨(cellF ns (a + 1) % 6).toNat, by omega, by omega⟩
  rw [e]
  match j, hj with
  | 0, _ => decide
  | 1, _ => decide
  | 2, _ => decide
  | 3, _ => decide
  | 4, _ => decide
  | 5, _ => decide
theorem RuOk.up : ∀ {d : Nat} {r : I}, RuOk d r → RuOk (d + 1) r
  | 0, r, h => .inl h
  | d + 1, r, h => by
    rcases h with h | ⟨k, rs, rfl, k1, k2, k3, ha⟩
    · exact .inl h
    · exact .inr ⟨k, rs, rfl, k1, k2, k3, fun x hx => RuOk.up (ha x hx)⟩
theorem handsR_up : ∀ {d : Nat} {r : I}, RuOk d r → handsR (d + 1) r = handsR d r
  | 0, r, h => by obtain ⟨x, h0, h1, rfl⟩ := h; rw [handsR_h, handsR_h]
  | d + 1, r, h => by
    rcases h with ⟨x, h0, h1, rfl⟩ | ⟨k, rs, rfl, k1, k2, k3, ha⟩
    · rw [handsR_h, handsR_h]
    · rw [handsR_s, handsR_s]
      congr 1
      exact List.map_congr_left fun x hx => handsR_up (ha x hx)
theorem up_to {d : Nat} {r : I} (h : RuOk d r) : ∀ {e : Nat}, d ≤ e → RuOk e r ∧ handsR e r = handsR d r
  | 0, he => by
    have h0 : d = 0 := by omega
    subst h0
    exact ⟨h, rfl⟩
  | e + 1, he => by
    by_cases h1 : d = e + 1
    · subst h1; exact ⟨h, rfl⟩
    · obtain ⟨a, b⟩ := up_to h (e := e) (by omega)
      exact ⟨a.up, (handsR_up a).trans b⟩
/-- a drawn rule: at most five deep, at most twenty hands written -/
theorem drawnR_ok (ns : List Int) (a : Int) : RuOk 5 (drawnR ns a) ∧ 1 ≤ (handsR 5 (drawnR ns a)).length ∧ (handsR 5 (drawnR ns a)).length ≤ 20 := by
  have hrow := drawF_ok (c0 := cellF ns 0) (c := cellF ns a) (base := 4000) (by omega) 24
  obtain ⟨a1, a2, mono, a3⟩ := ruleF_ok (row := rowR ns a) (by show 0 < (drawF _ _ _ 24).2.length; rw [hrow.1]; decide) hrow.2 (deepR ns a) (0, 19) (by decide)
  obtain ⟨b1, b2⟩ := up_to a1 deepR_le
  refine ⟨b1, ?_, ?_⟩
  · show 1 ≤ (handsR 5 (ruleF _ _ _).1).length
    rw [b2]
    have e19 : ((0 : Int), (19 : Int)).2 = 19 := rfl
    rw [e19] at a3 mono
    omega
  · show (handsR 5 (ruleF _ _ _).1).length ≤ 20
    rw [b2]
    have e19 : ((0 : Int), (19 : Int)).2 = 19 := rfl
    rw [e19] at a3 mono
    omega
end Iv

/-! rules as texts. -/
namespace Iv
open PySem PySem.Spec L2 Nm
def st (l : List Nat) : Str := ⟨l.toArray⟩
theorem st_len {l : List Nat} : (st l).length = l.length := by show l.toArray.size = _; simp
theorem st_app {a b : List Nat} : st a ++ st b = st (a ++ b) := by
  show (⟨a.toArray ++ b.toArray⟩ : Str) = ⟨(a ++ b).toArray⟩
  simp
theorem st_inj {a b : List Nat} : st a = st b ↔ a = b := by
  constructor
  · intro h
    have : a.toArray = b.toArray := congrArg Str.cps h
    simpa using this
  · rintro rfl; rfl
theorem st_one {c : Nat} : (⟨#[c]⟩ : Str) = st [c] := rfl
theorem st_list {l : List Nat} : (st l).cps.toList = l := by simp [st]
theorem cut_st {l : List Nat} {a b : Nat} (h : a ≤ l.length) : L2.cutS (st l) (some (a : Int)) (some (b : Int)) = st ((l.drop a).take (b - a)) := by
  have sx : ∀ (n : Nat) (d : Nat) (i : Nat), HT.sIx n d (some (i : Int)) = min i n := fun n d i => by
    unfold HT.sIx
    simp
    try omega
  unfold L2.cutS
  rw [sx, sx, st_list, st_len, Nat.min_eq_left h]
  show st _ = st _
  rw [st_inj]
  rcases Nat.le_total b l.length with h1 | h1
  · rw [Nat.min_eq_left h1]
  · rw [Nat.min_eq_right h1, List.take_of_length_le (by simp), List.take_of_length_le (by simp; omega)]
def joinC : List (List Nat) → List Nat
  | [] => []
  | x :: xs => x ++ (xs.map ([44, 32] ++ ·)).flatten
theorem S_sep : Str.ofString ", " = st [44, 32] := by decide +kernel
theorem S_all : Str.ofString "all" = st [97, 108, 108] := by decide +kernel
theorem S_one : Str.ofString "one" = st [111, 110, 101] := by decide +kernel
theorem S_of : Str.ofString " of" = st [32, 111, 102] := by decide +kernel
theorem S_lp : Str.ofString " (" = st [32, 40] := by decide +kernel
theorem S_rp : Str.ofString ")" = st [41] := by decide +kernel
theorem S_em : Str.ofString "" = st [] := by decide +kernel
theorem S_cm : Str.ofString "," = st [44] := by decide +kernel
theorem S_allp : Str.ofString "all (" = st [97, 108, 108, 32, 40] := by decide +kernel
theorem S_onep : Str.ofString "one (" = st [111, 110, 101, 32, 40] := by decide +kernel
theorem S_ofp : Str.ofString " of (" = st [32, 111, 102, 32, 40] := by decide +kernel
theorem S_let : Str.ofString "abcdefghij" = st [97, 98, 99, 100, 101, 102, 103, 104, 105, 106] := by decide +kernel
theorem glued_st {sep : List Nat} : ∀ (ls : List (List Nat)) (acc : List Nat), List.foldl (fun acc (p : Str) => acc ++ (st sep).cps ++ p.cps) acc.toArray (ls.map st) = (acc ++ (ls.map (sep ++ ·)).flatten).toArray
  | [], acc => by simp
  | x :: r, acc => by
    rw [List.map_cons, List.foldl_cons]
    have e : acc.toArray ++ (st sep).cps ++ (st x).cps = (acc ++ (sep ++ x)).toArray := by simp [st]
    rw [e, glued_st r]
    simp
theorem join_st {ls : List (List Nat)} : PySem.Txt.join (Str.ofString ", ") (ls.map st) = st (joinC ls) := by
  rw [S_sep]
  show (⟨List.foldl (fun acc p => acc ++ (st [44, 32]).cps ++ p.cps) ((ls.map st).headD Str.empty).cps (List.drop 1 (ls.map st))⟩ : Str) = _
  cases ls with
  | nil => rfl
  | cons x r =>
    show (⟨List.foldl (fun acc p => acc ++ (st [44, 32]).cps ++ p.cps) x.toArray (r.map st)⟩ : Str) = _
    rw [glued_st]
    rfl
def headW (k : Int) (n : Nat) : List Nat := if k = n then [97, 108, 108] else if k = 1 then [111, 110, 101] else [48 + k.toNat, 32, 111, 102]
def textR : Nat → I → List Nat
  | d + 1, .tup [_, .int k, .tup rs] => headW k rs.length ++ [32, 40] ++ joinC (rs.map (textR d)) ++ [41]
  | _, .tup [_, .int h] => [97 + h.toNat]
  | _, _ => []
theorem textR_h {d : Nat} {h : Int} : textR d (Hnd h) = [97 + h.toNat] := by cases d <;> rfl
theorem textR_s {d : Nat} {k : Int} {rs : List I} : textR (d + 1) (Som k rs) = headW k rs.length ++ [32, 40] ++ joinC (rs.map (textR d)) ++ [41] := rfl
def lenB : Nat → Nat
  | 0 => 1
  | d + 1 => 10 * lenB d + 30
theorem lenB_mono : ∀ d, 1 ≤ lenB d
  | 0 => Nat.le_refl _
  | d + 1 => by have := lenB_mono d; unfold lenB; omega
theorem joinC_len : ∀ (ls : List (List Nat)) (b : Nat), (∀ l ∈ ls, l.length ≤ b) → (joinC ls).length ≤ ls.length * (b + 2)
  | [], b, h => by simp [joinC]
  | x :: xs, b, h => by
    have go : ∀ ys : List (List Nat), (∀ l ∈ ys, l.length ≤ b) → ((ys.map ([44, 32] ++ ·)).flatten).length ≤ ys.length * (b + 2) := by
      intro ys
      induction ys with
      | nil => intro _; simp
      | cons y ys ih =>
        intro hy
        have h1 := hy y (by simp)
        have h2 := ih fun l hl => hy l (by simp [hl])
        simp only [List.map_cons, List.flatten_cons, List.length_append, List.length_cons, List.length_nil] at *
        rw [Nat.succ_mul]
        omega
    have h1 := h x (by simp)
    have h2 := go xs fun l hl => h l (by simp [hl])
    show (x ++ (xs.map ([44, 32] ++ ·)).flatten).length ≤ _
    rw [List.length_append, List.length_cons, Nat.succ_mul]
    omega
theorem headW_len {k : Int} {n : Nat} : (headW k n).length ≤ 4 := by unfold headW; split; decide; split; decide; simp
theorem textR_len : ∀ {d : Nat} {r : I}, RuOk d r → (textR d r).length ≤ lenB d
  | 0, r, h => by obtain ⟨x, h0, h1, rfl⟩ := h; rw [textR_h]; exact Nat.le_refl _
  | d + 1, r, h => by
    rcases h with ⟨x, h0, h1, rfl⟩ | ⟨k, rs, rfl, k1, k2, k3, ha⟩
    · rw [textR_h]; exact lenB_mono _
    · rw [textR_s]
      have hl := joinC_len (rs.map (textR d)) (lenB d) fun l hl => by
        obtain ⟨x, hx, rfl⟩ := List.mem_map.mp hl
        exact textR_len (ha x hx)
      have hw := headW_len (k := k) (n := rs.length)
      rw [List.length_map] at hl
      have hm : rs.length * (lenB d + 2) ≤ 10 * (lenB d + 2) := Nat.mul_le_mul_right _ k3
      simp only [List.length_append, List.length_cons, List.length_nil]
      unfold lenB
      omega
theorem lenB_le : ∀ {d : Nat}, d ≤ 5 → lenB d ≤ 450000 := by
  intro d hd
  match d, hd with
  | 0, _ => decide
  | 1, _ => decide
  | 2, _ => decide
  | 3, _ => decide
  | 4, _ => decide
  | 5, _ => decide
end Iv

/-! rules' texts read: words, cuts. -/
namespace Iv
open PySem PySem.Spec L2 Nm
def Wl : List (List Nat) := [[97, 108, 108], [111, 110, 101]] ++ (List.range 8).map fun k => [50 + k, 32, 111, 102]
theorem headW_mem {c : Int} {n : Nat} (h1 : 1 ≤ c) (h2 : c ≤ n) (h3 : n ≤ 10) : headW c n ∈ Wl := by
  unfold headW
  split
  · decide
  · split
    · decide
    · obtain ⟨j, hj, rfl⟩ : ∃ j : Nat, j < 8 ∧ c = 2 + j := ⟨(c - 2).toNat, by omega, by omega⟩
      unfold Wl
      rw [List.mem_append]
      right
      rw [List.mem_map]
      refine ⟨j, List.mem_range.mpr hj, ?_⟩
      have : 48 + (2 + (j : Int)).toNat = 50 + j := by omega
      rw [this]
theorem word_pre {w h rest : List Nat} (hw : w ∈ Wl) (hh : h ∈ Wl) : (h ++ 32 :: 40 :: rest).take (w.length + 2) = w ++ [32, 40] ↔ w = h := by
  constructor
  · intro e
    have a1 : ∀ w ∈ Wl, ∀ h ∈ Wl, w.head? = h.head? → w = h := by decide
    have a2 : ∀ w ∈ Wl, w ≠ [] := by decide
    refine a1 w hw h hh ?_
    have n1 := a2 w hw
    have n2 := a2 h hh
    match w, h, n1, n2 with
    | x :: w, y :: h, _, _ =>
      simp only [List.cons_append, List.length_cons, Nat.succ_add, List.take_succ_cons, List.cons.injEq] at e
      rw [List.head?_cons, List.head?_cons, e.1]
  · rintro rfl
    rw [List.take_append, List.take_of_length_le (by omega), show w.length + 2 - w.length = 2 by omega]
    rfl
theorem cut_at {pre l : List Nat} {a b : Int} {n : Nat} (ha : a = pre.length) (hb : b = pre.length + n) : L2.cutS (st (pre ++ l)) (some a) (some b) = st (l.take n) := by
  subst ha
  obtain rfl : b = ((pre.length + n : Nat) : Int) := by omega
  rw [cut_st (by simp)]
  rw [List.drop_left, show pre.length + n - pre.length = n by omega]
theorem cut_at1 {pre l : List Nat} {a b : Int} {x n : Nat} (ha : a = pre.length + 1) (hb : b = pre.length + 1 + n) : L2.cutS (st (pre ++ x :: l)) (some a) (some b) = st (l.take n) := by
  have := cut_at (pre := pre ++ [x]) (l := l) (a := a) (b := b) (n := n) (by simp; omega) (by simp; omega)
  rwa [List.append_assoc] at this
theorem atI_app {α : Type} {pre l : List α} {x : α} {a : Int} (ha : a = pre.length) : L2.atI (pre ++ x :: l) a = some x := by
  subst ha
  exact atI_nat (by rw [List.getElem?_append_right (Nat.le_refl _)]; simp)
def tailC (xs : List (List Nat)) : List Nat := (xs.map ([44, 32] ++ ·)).flatten
theorem joinC_c {x : List Nat} {xs : List (List Nat)} : joinC (x :: xs) = x ++ tailC xs := rfl
theorem tailC_c {x : List Nat} {xs : List (List Nat)} : tailC (x :: xs) = 44 :: 32 :: joinC (x :: xs) := by
  rw [joinC_c]
  rfl
theorem tailC_n : tailC [] = [] := rfl
/-- what may stand behind a rule -/
def EndC (post : List Nat) : Prop := post = [] ∨ ∃ x r, post = x :: r ∧ (x = 44 ∨ x = 41)
theorem tail_end {xs : List (List Nat)} {post : List Nat} : EndC (tailC xs ++ 41 :: post) := by
  cases xs with
  | nil => exact .inr ⟨41, post, rfl, .inr rfl⟩
  | cons x xs => exact .inr ⟨44, _, by rw [tailC_c]; rfl, .inl rfl⟩
theorem textR_ne : ∀ {d : Nat} {r : I}, RuOk d r → ∃ x l, textR d r = x :: l
  | 0, r, h => by obtain ⟨x, h0, h1, rfl⟩ := h; exact ⟨_, _, textR_h⟩
  | d + 1, r, h => by
    rcases h with ⟨x, h0, h1, rfl⟩ | ⟨k, rs, rfl, k1, k2, k3, ha⟩
    · exact ⟨_, _, textR_h⟩
    · rw [textR_s]
      have a2 : ∀ w ∈ Wl, w ≠ [] := by decide
      have n1 := a2 _ (headW_mem k1 k2 k3)
      match headW k rs.length, n1 with
      | x :: w, _ => exact ⟨x, _, rfl⟩
def lets : Str := st [97, 98, 99, 100, 101, 102, 103, 104, 105, 106]
theorem occ_let : ∀ n < 10, PySem.Builtin.Str.occurrences lets (st [97 + n]) 0 lets.length 1 = [n] := by decide +kernel
theorem in_let {n : Nat} (h : n < 10) : inD (.imm (.str (st [97 + n]))) (.imm (.str lets)) = .ok true := by
  show M.ok (!(PySem.Builtin.Str.occurrences lets (st [97 + n]) 0 lets.length 1).isEmpty) = _
  rw [occ_let n h]
  rfl
theorem six_let {n : Nat} {t t' : Tag} (h : n < 10) : mthD .sindex (.imm (.str lets), t) [(.imm (.str (st [97 + n])), t')] = .ok (pim (.int (n : Int))) := by
  show (match PySem.Builtin.Str.occurrences lets (st [97 + n]) 0 lets.length 1 with | i :: _ => M.ok (pim (.int (i : Nat))) | [] => .bad) = _
  rw [occ_let n h]
theorem occ_no : ∀ n < 8, PySem.Builtin.Str.occurrences lets (st [50 + n]) 0 lets.length 1 = [] := by decide +kernel
theorem occ_o : PySem.Builtin.Str.occurrences lets (st [111]) 0 lets.length 1 = [] := by decide +kernel
theorem S_lets : Str.ofString "abcdefghij" = lets := S_let
/-- the first sign of a word is no letter, or what stands behind it is no end -/
theorem head_no {w : List Nat} (h : w ∈ Wl) : ∃ x l, w = x :: l ∧ (inD (.imm (.str (st [x]))) (.imm (.str lets)) = .ok false ∨ (inD (.imm (.str (st [x]))) (.imm (.str lets)) = .ok true ∧ ∃ l', l = 108 :: l')) := by
  unfold Wl at h
  rw [List.mem_append, List.mem_map] at h
  rcases h with h | ⟨j, hj, rfl⟩
  · rw [List.mem_cons, List.mem_singleton] at h
    rcases h with rfl | rfl
    · exact ⟨_, _, rfl, .inr ⟨in_let (n := 0) (by omega), _, rfl⟩⟩
    · refine ⟨_, _, rfl, .inl ?_⟩
      show M.ok (!(PySem.Builtin.Str.occurrences lets (st [111]) 0 lets.length 1).isEmpty) = _
      rw [occ_o]
      rfl
  · refine ⟨_, _, rfl, .inl ?_⟩
    show M.ok (!(PySem.Builtin.Str.occurrences lets (st [50 + j]) 0 lets.length 1).isEmpty) = _
    rw [occ_no j (List.mem_range.mp hj)]
    rfl
theorem int_dig {n : Nat} (h : n < 10) : PySem.intText? (st [48 + n]) = some (n : Int) := by
  have a : ∀ n < 10, PySem.intText? (st [48 + n]) = some (n : Int) := by decide +kernel
  exact a n h
end Iv

/-! rules' texts, their words taken out. -/
namespace Iv
open PySem PySem.Spec L2 Nm StrLaws
def textH (hd : Int → Nat → List Nat) : Nat → I → List Nat
  | d + 1, .tup [_, .int k, .tup rs] => hd k rs.length ++ [40] ++ joinC (rs.map (textH hd d)) ++ [41]
  | _, .tup [_, .int h] => [97 + h.toNat]
  | _, _ => []
theorem textH_h {hd : Int → Nat → List Nat} {d : Nat} {h : Int} : textH hd d (Hnd h) = [97 + h.toNat] := by cases d <;> rfl
theorem textH_s {hd : Int → Nat → List Nat} {d : Nat} {k : Int} {rs : List I} : textH hd (d + 1) (Som k rs) = hd k rs.length ++ [40] ++ joinC (rs.map (textH hd d)) ++ [41] := rfl
def hd0 (k : Int) (n : Nat) : List Nat := headW k n ++ [32]
def hd1 (k : Int) (n : Nat) : List Nat := if k = n then [] else headW k n ++ [32]
def hd2 (k : Int) (n : Nat) : List Nat := if k = n then [] else if k = 1 then [] else [48 + k.toNat, 32, 111, 102, 32]
def hd3 (k : Int) (n : Nat) : List Nat := if k = n then [] else if k = 1 then [] else [48 + k.toNat]
theorem textR_H : ∀ {d : Nat} {r : I}, RuOk d r → textR d r = textH hd0 d r
  | 0, r, h => by obtain ⟨x, h0, h1, rfl⟩ := h; rw [textR_h, textH_h]
  | d + 1, r, h => by
    rcases h with ⟨x, h0, h1, rfl⟩ | ⟨k, rs, rfl, k1, k2, k3, ha⟩
    · rw [textR_h, textH_h]
    · rw [textR_s, textH_s, List.map_congr_left fun x hx => textR_H (ha x hx)]
      unfold hd0
      simp
/-- one word is taken out -/
structure Rep1 (y z : List Nat) (hd hd' : Int → Nat → List Nat) : Prop where
  h : ∀ (c : Nat) (post : List Nat), 97 ≤ c → c < 107 → EndC post → replL y z (c :: post) = c :: replL y z post
  s : ∀ (k : Int) (n : Nat) (rest : List Nat), 1 ≤ k → k ≤ n → n ≤ 10 → replL y z (hd k n ++ 40 :: rest) = hd' k n ++ 40 :: replL y z rest
  b : ∀ (d : Nat) (r : I) (post : List Nat), RuOk d r → replL y z (44 :: 32 :: (textH hd d r ++ post)) = 44 :: 32 :: replL y z (textH hd d r ++ post)
  e : ∀ post, replL y z (41 :: post) = 41 :: replL y z post
theorem joinC_cc {a b : List Nat} {ls : List (List Nat)} : joinC (a :: b :: ls) = a ++ 44 :: 32 :: joinC (b :: ls) := by rw [joinC_c, tailC_c]
theorem rep_join {y z : List Nat} {hd hd' : Int → Nat → List Nat} (R : Rep1 y z hd hd') {d : Nat} (ih : ∀ (r : I) (post : List Nat), RuOk d r → EndC post → replL y z (textH hd d r ++ post) = textH hd' d r ++ replL y z post) : ∀ (x : I) (rs : List I) (post : List Nat), RuOk d x → (∀ x ∈ rs, RuOk d x) → replL y z (joinC ((x :: rs).map (textH hd d)) ++ 41 :: post) = joinC ((x :: rs).map (textH hd' d)) ++ 41 :: replL y z post
  | x, [], post, hx, _ => by
    show replL y z ((textH hd d x ++ []) ++ 41 :: post) = (textH hd' d x ++ []) ++ 41 :: _
    rw [List.append_nil, List.append_nil, ih x _ hx (.inr ⟨41, post, rfl, .inr rfl⟩), R.e]
  | x, w :: rs, post, hx, h => by
    have hw := h w List.mem_cons_self
    have h2 := rep_join R ih w rs post hw fun q hq => h q (List.mem_cons_of_mem _ hq)
    show replL y z (joinC (textH hd d x :: textH hd d w :: rs.map (textH hd d)) ++ 41 :: post) = joinC (textH hd' d x :: textH hd' d w :: rs.map (textH hd' d)) ++ 41 :: replL y z post
    rw [joinC_cc, joinC_cc, List.append_assoc, List.append_assoc, List.cons_append, List.cons_append, ih x _ hx (.inr ⟨44, _, rfl, .inl rfl⟩)]
    congr 1
    have h3 := R.b d w (tailC (rs.map (textH hd d)) ++ 41 :: post) hw
    rw [← List.append_assoc] at h3
    exact h3.trans (congrArg (fun l => 44 :: 32 :: l) h2)
theorem rep_text {y z : List Nat} {hd hd' : Int → Nat → List Nat} (R : Rep1 y z hd hd') : ∀ (d : Nat) (r : I) (post : List Nat), RuOk d r → EndC post → replL y z (textH hd d r ++ post) = textH hd' d r ++ replL y z post
  | 0, r, post, h, he => by
    obtain ⟨x, h0, h1, rfl⟩ := h
    rw [textH_h, textH_h]
    exact R.h _ post (by omega) (by omega) he
  | d + 1, r, post, h, he => by
    rcases h with ⟨x, h0, h1, rfl⟩ | ⟨k, rs, rfl, k1, k2, k3, ha⟩
    · rw [textH_h, textH_h]
      exact R.h _ post (by omega) (by omega) he
    · rw [textH_s, textH_s]
      cases rs with
      | nil => simp at k2; omega
      | cons x rs =>
        have e : hd k (x :: rs).length ++ [40] ++ joinC ((x :: rs).map (textH hd d)) ++ [41] ++ post = hd k (x :: rs).length ++ 40 :: (joinC ((x :: rs).map (textH hd d)) ++ 41 :: post) := by simp
        rw [e, R.s k _ _ k1 k2 k3, rep_join R (fun r post hr hp => rep_text R d r post hr hp) x rs post (ha x List.mem_cons_self) fun q hq => ha q (List.mem_cons_of_mem _ hq)]
        simp
theorem miss1 {c w : Nat} {y' z r : List Nat} (h : c ≠ w) : replL (w :: y') z (c :: r) = c :: replL (w :: y') z r := replL_miss fun e => h (by
  rw [List.length_cons, List.take_succ_cons] at e
  injection e)
theorem miss2 {c w v : Nat} {y' z r : List Nat} (h : ∀ t, r ≠ v :: t) : replL (w :: v :: y') z (c :: r) = c :: replL (w :: v :: y') z r := replL_miss fun e => by
  rw [List.length_cons, List.take_succ_cons] at e
  injection e with _ e
  cases r with
  | nil => cases e
  | cons a t =>
    rw [List.length_cons, List.take_succ_cons] at e
    injection e with e _
    exact h t (by rw [e])
theorem endC_no {post : List Nat} {v : Nat} (h : EndC post) (h1 : v ≠ 44) (h2 : v ≠ 41) : ∀ t, post ≠ v :: t := fun t e => by
  rcases h with rfl | ⟨x, r, rfl, hx⟩
  · cases e
  · injection e with e _
    subst e
    rcases hx with h | h
    · exact h1 h
    · exact h2 h
def y1 : List Nat := [97, 108, 108, 32, 40]
def y2 : List Nat := [111, 110, 101, 32, 40]
def y3 : List Nat := [32, 111, 102, 32, 40]
theorem dig_ne {k : Int} {n : Nat} (h1 : 1 ≤ k) (h2 : k ≤ n) (h3 : n ≤ 10) (v : Nat) (hv : v < 48 ∨ 59 ≤ v) : 48 + k.toNat ≠ v := by omega
theorem RepA : Rep1 y1 [40] hd0 hd1 where
  h := fun c post h1 h2 he => miss2 (endC_no he (by decide) (by decide))
  s := fun k n rest h1 h2 h3 => by
    unfold hd0 hd1 headW
    by_cases c : k = n
    · rw [if_pos c, if_pos c]
      show replL y1 [40] (97 :: [108, 108, 32, 40] ++ rest) = _
      rw [List.cons_append, replL_hit (by decide) (by show List.take 5 (97 :: 108 :: 108 :: 32 :: 40 :: rest) = y1; rfl)]
      rfl
    · rw [if_neg c, if_neg c]
      by_cases c1 : k = 1
      · rw [if_pos c1]
        show replL y1 [40] (111 :: 110 :: 101 :: 32 :: 40 :: rest) = 111 :: 110 :: 101 :: 32 :: 40 :: _
        unfold y1
        rw [miss1 (by decide), miss1 (by decide), miss1 (by decide), miss1 (by decide), miss1 (by decide)]
      · rw [if_neg c1]
        show replL y1 [40] ((48 + k.toNat) :: 32 :: 111 :: 102 :: 32 :: 40 :: rest) = (48 + k.toNat) :: 32 :: 111 :: 102 :: 32 :: 40 :: _
        unfold y1
        rw [miss1 (dig_ne h1 h2 h3 _ (by decide)), miss1 (by decide), miss1 (by decide), miss1 (by decide), miss1 (by decide), miss1 (by decide)]
  b := fun d r post _ => by
    unfold y1
    rw [miss1 (by decide), miss1 (by decide)]
  e := fun post => miss1 (by decide)
theorem RepB : Rep1 y2 [40] hd1 hd2 where
  h := fun c post h1 h2 he => miss1 (by omega)
  s := fun k n rest h1 h2 h3 => by
    unfold hd1 hd2 headW
    by_cases c : k = n
    · rw [if_pos c, if_pos c]
      exact miss1 (by decide)
    · rw [if_neg c, if_neg c, if_neg c]
      by_cases c1 : k = 1
      · rw [if_pos c1, if_pos c1]
        show replL y2 [40] (111 :: [110, 101, 32, 40] ++ rest) = _
        rw [List.cons_append, replL_hit (by decide) (by show List.take 5 (111 :: 110 :: 101 :: 32 :: 40 :: rest) = y2; rfl)]
        rfl
      · rw [if_neg c1, if_neg c1]
        show replL y2 [40] ((48 + k.toNat) :: 32 :: 111 :: 102 :: 32 :: 40 :: rest) = (48 + k.toNat) :: 32 :: 111 :: 102 :: 32 :: 40 :: _
        unfold y2
        rw [miss1 (dig_ne h1 h2 h3 _ (by decide)), miss1 (by decide), miss2 (fun t e => by injection e with e; cases e), miss1 (by decide), miss1 (by decide), miss1 (by decide)]
  b := fun d r post _ => by
    unfold y2
    rw [miss1 (by decide), miss1 (by decide)]
  e := fun post => miss1 (by decide)
theorem textH2_no {d : Nat} {r : I} (h : RuOk d r) (post t : List Nat) : textH hd2 d r ++ post ≠ 111 :: t := fun e => by
  have hh : ∀ x : Int, 0 ≤ x → x < 10 → r = Hnd x → False := fun x h0 h1 er => by
    subst er
    rw [textH_h] at e
    injection e with e
    omega
  cases d with
  | zero => obtain ⟨x, h0, h1, er⟩ := h; exact hh x h0 h1 er
  | succ d =>
    rcases h with ⟨x, h0, h1, er⟩ | ⟨k, rs, rfl, k1, k2, k3, ha⟩
    · exact hh x h0 h1 er
    · rw [textH_s] at e
      unfold hd2 at e
      split at e
      · injection e with e; cases e
      · split at e
        · injection e with e; cases e
        · injection e with e
          omega
theorem RepC : Rep1 y3 [40] hd2 hd3 where
  h := fun c post h1 h2 he => miss1 (by omega)
  s := fun k n rest h1 h2 h3 => by
    unfold hd2 hd3
    by_cases c : k = n
    · rw [if_pos c, if_pos c]
      exact miss1 (by decide)
    · rw [if_neg c, if_neg c]
      by_cases c1 : k = 1
      · rw [if_pos c1, if_pos c1]
        exact miss1 (by decide)
      · rw [if_neg c1, if_neg c1]
        show replL y3 [40] ((48 + k.toNat) :: 32 :: 111 :: 102 :: 32 :: 40 :: rest) = (48 + k.toNat) :: 40 :: _
        rw [show replL y3 [40] ((48 + k.toNat) :: 32 :: 111 :: 102 :: 32 :: 40 :: rest) = (48 + k.toNat) :: replL y3 [40] (32 :: 111 :: 102 :: 32 :: 40 :: rest) from miss1 (dig_ne h1 h2 h3 _ (by decide))]
        rw [replL_hit (by decide) (by show List.take 5 (32 :: 111 :: 102 :: 32 :: 40 :: rest) = y3; rfl)]
        rfl
  b := fun d r post hr => by
    unfold y3
    rw [miss1 (by decide), miss2 (textH2_no hr post)]
  e := fun post => miss1 (by decide)
theorem st_repl {l : List Nat} {y z : Str} (hy : 1 ≤ y.length) : Txt.replace (st l) y z = st (replL y.cps.toList z.cps.toList l) := by
  have h := replace_list (x := st l) (z := z) hy
  rw [st_list] at h
  exact Str.ext' (by rw [← h]; simp [st])
theorem L_all : (Str.ofString "all (").cps.toList = y1 := by decide +kernel
theorem L_one : (Str.ofString "one (").cps.toList = y2 := by decide +kernel
theorem L_of : (Str.ofString " of (").cps.toList = y3 := by decide +kernel
theorem L_p : (Str.ofString "(").cps.toList = [40] := by decide +kernel
/-- the three words taken out -/
theorem words_out {d : Nat} {r : I} (h : RuOk d r) : Txt.replace (Txt.replace (Txt.replace (st (textR d r)) (Str.ofString "all (") (Str.ofString "(")) (Str.ofString "one (") (Str.ofString "(")) (Str.ofString " of (") (Str.ofString "(") = st (textH hd3 d r) := by
  have g : ∀ {y : List Nat} {hd hd'}, Rep1 y [40] hd hd' → replL y [40] (textH hd d r) = textH hd' d r := fun {y hd hd'} R => by
    have := rep_text R d r [] h (.inl rfl)
    rwa [List.append_nil, replL_nil, List.append_nil] at this
  rw [st_repl (by decide +kernel), L_all, L_p, textR_H h, g RepA, st_repl (by decide +kernel), L_one, L_p, g RepB, st_repl (by decide +kernel), L_of, L_p, g RepC]
theorem mem_joinC {c : Nat} (h1 : c ≠ 44) (h2 : c ≠ 32) : ∀ {ls : List (List Nat)}, c ∈ joinC ls ↔ ∃ l ∈ ls, c ∈ l
  | [] => by simp [joinC]
  | x :: ls => by
    have ht : ∀ ls : List (List Nat), c ∈ tailC ls ↔ ∃ l ∈ ls, c ∈ l := fun ls => by
      unfold tailC
      rw [List.mem_flatten]
      constructor
      · rintro ⟨l, hl, hc⟩
        obtain ⟨q, hq, rfl⟩ := List.mem_map.mp hl
        refine ⟨q, hq, ?_⟩
        simp at hc
        rcases hc with hc | hc | hc
        · exact absurd hc h1
        · exact absurd hc h2
        · exact hc
      · rintro ⟨l, hl, hc⟩
        exact ⟨[44, 32] ++ l, List.mem_map.mpr ⟨l, hl, rfl⟩, List.mem_append_right _ hc⟩
    rw [joinC_c, List.mem_append, ht]
    simp
/-- a hand's letter stands there just where the hand is written -/
theorem letter_in {h : Int} (h0 : 0 ≤ h) (h9 : h < 10) : ∀ {d : Nat} {r : I}, RuOk d r → (97 + h.toNat ∈ textH hd3 d r ↔ h ∈ handsR d r)
  | 0, r, hr => by
    obtain ⟨x, x0, x1, rfl⟩ := hr
    rw [textH_h, handsR_h, List.mem_singleton, List.mem_singleton]
    omega
  | d + 1, r, hr => by
    rcases hr with ⟨x, x0, x1, rfl⟩ | ⟨k, rs, rfl, k1, k2, k3, ha⟩
    · rw [textH_h, handsR_h, List.mem_singleton, List.mem_singleton]
      omega
    · rw [textH_s, handsR_s, List.mem_append, List.mem_append, List.mem_append, mem_joinC (by omega) (by omega), List.mem_flatten]
      constructor
      · rintro (((c | c) | ⟨l, hl, hc⟩) | c)
        · exfalso
          unfold hd3 at c
          split at c
          · cases c
          · split at c
            · cases c
            · have := List.mem_singleton.mp c
              omega
        · have := List.mem_singleton.mp c
          omega
        · obtain ⟨x, hx, rfl⟩ := List.mem_map.mp hl
          exact ⟨_, List.mem_map.mpr ⟨x, hx, rfl⟩, (letter_in h0 h9 (ha x hx)).mp hc⟩
        · have := List.mem_singleton.mp c
          omega
      · rintro ⟨l, hl, hc⟩
        obtain ⟨x, hx, rfl⟩ := List.mem_map.mp hl
        exact .inl (.inr ⟨_, List.mem_map.mpr ⟨x, hx, rfl⟩, (letter_in h0 h9 (ha x hx)).mpr hc⟩)
end Iv

/-! whether a set of hands fits a rule. -/
namespace Iv
open PySem PySem.Spec L2 Nm
def fitsR : Nat → I → List Int → Bool
  | d + 1, .tup [_, .int k, .tup rs], H => decide (k ≤ ((rs.filter fun r => fitsR d r H).length : Int))
  | _, .tup [_, .int h], H => decide (h ∈ H)
  | _, _, _ => false
theorem fitsR_h {d : Nat} {h : Int} {H : List Int} : fitsR d (Hnd h) H = decide (h ∈ H) := by cases d <;> rfl
theorem fitsR_s {d : Nat} {k : Int} {rs : List I} {H : List Int} : fitsR (d + 1) (Som k rs) H = decide (k ≤ ((rs.filter fun r => fitsR d r H).length : Int)) := rfl
theorem cnt_map {α : Type} (p : α → Bool) : ∀ l : List α, (l.map fun r => if p r = true then (1 : Int) else 0).sum = ((l.filter p).length : Int)
  | [] => rfl
  | x :: l => by
    rw [List.map_cons, List.sum_cons, cnt_map p l, List.filter_cons]
    split
    · rw [List.length_cons]; omega
    · omega
theorem filt_not {α : Type} (p : α → Bool) : ∀ l : List α, (l.filter fun x => !p x).length + (l.filter p).length = l.length
  | [] => rfl
  | x :: l => by
    have := filt_not p l
    rw [List.filter_cons, List.filter_cons]
    cases p x <;> simp <;> omega
/-- turned about: by the hands that aren't there -/
theorem fits_turn {A B : List Int} (hc : ∀ h : Int, 0 ≤ h → h < 10 → (h ∈ B ↔ ¬ h ∈ A)) : ∀ {d : Nat} {r : I}, RuOk d r → fitsR d (turnR d r) A = !fitsR d r B
  | 0, r, h => by
    obtain ⟨x, h0, h1, rfl⟩ := h
    rw [turnR_h, fitsR_h, fitsR_h]
    have := hc x h0 h1
    by_cases e : x ∈ A <;> simp [e, this]
  | d + 1, r, h => by
    rcases h with ⟨x, h0, h1, rfl⟩ | ⟨k, rs, rfl, k1, k2, k3, ha⟩
    · rw [turnR_h, fitsR_h, fitsR_h]
      have := hc x h0 h1
      by_cases e : x ∈ A <;> simp [e, this]
    · rw [turnR_s, fitsR_s, fitsR_s, List.filter_map, List.length_map]
      have e : rs.filter ((fun r => fitsR d r A) ∘ turnR d) = rs.filter fun r => !fitsR d r B := List.filter_congr fun x hx => fits_turn hc (ha x hx)
      rw [e]
      have := filt_not (fun r => fitsR d r B) rs
      by_cases h : k ≤ ((rs.filter fun r => fitsR d r B).length : Int)
      · rw [decide_eq_true h]
        exact decide_eq_false (by omega)
      · rw [decide_eq_false h]
        exact decide_eq_true (by omega)
theorem filt_le {α : Type} {p q : α → Bool} : ∀ {l : List α}, (∀ x ∈ l, p x = true → q x = true) → (l.filter p).length ≤ (l.filter q).length
  | [], _ => Nat.le_refl _
  | x :: l, h => by
    have ih := filt_le (l := l) fun y hy => h y (List.mem_cons_of_mem _ hy)
    have hx := h x (List.mem_cons_self ..)
    rw [List.filter_cons, List.filter_cons]
    cases hp : p x
    · cases hq : q x <;> simp <;> omega
    · rw [hx hp]; simp; omega
theorem fits_mono {A B : List Int} (hs : ∀ h : Int, 0 ≤ h → h < 10 → h ∈ A → h ∈ B) : ∀ {d : Nat} {r : I}, RuOk d r → fitsR d r A = true → fitsR d r B = true
  | 0, r, h => by
    obtain ⟨x, h0, h1, rfl⟩ := h
    rw [fitsR_h, fitsR_h, decide_eq_true_iff, decide_eq_true_iff]
    exact hs x h0 h1
  | d + 1, r, h => by
    rcases h with ⟨x, h0, h1, rfl⟩ | ⟨k, rs, rfl, k1, k2, k3, ha⟩
    · rw [fitsR_h, fitsR_h, decide_eq_true_iff, decide_eq_true_iff]
      exact hs x h0 h1
    · rw [fitsR_s, fitsR_s, decide_eq_true_iff, decide_eq_true_iff]
      intro e
      have := filt_le (l := rs) (p := fun r => fitsR d r A) (q := fun r => fitsR d r B) fun x hx => fits_mono hs (ha x hx)
      omega
/-- only the hands written tell -/
theorem fits_same {A B : List Int} : ∀ {d : Nat} {r : I}, RuOk d r → (∀ h ∈ handsR d r, h ∈ A ↔ h ∈ B) → fitsR d r A = fitsR d r B
  | 0, r, h, hs => by
    obtain ⟨x, h0, h1, rfl⟩ := h
    rw [handsR_h] at hs
    rw [fitsR_h, fitsR_h, decide_eq_decide]
    exact hs x (List.mem_singleton.mpr rfl)
  | d + 1, r, h, hs => by
    rcases h with ⟨x, h0, h1, rfl⟩ | ⟨k, rs, rfl, k1, k2, k3, ha⟩
    · rw [handsR_h] at hs
      rw [fitsR_h, fitsR_h, decide_eq_decide]
      exact hs x (List.mem_singleton.mpr rfl)
    · rw [handsR_s] at hs
      rw [fitsR_s, fitsR_s]
      have e : (rs.filter fun r => fitsR d r A) = rs.filter fun r => fitsR d r B := List.filter_congr fun x hx => fits_same (ha x hx) fun h hh => hs h (List.mem_flatten.mpr ⟨_, List.mem_map.mpr ⟨x, hx, rfl⟩, hh⟩)
      rw [e]
theorem fits_none : ∀ {d : Nat} {r : I}, RuOk d r → fitsR d r [] = false
  | 0, r, h => by obtain ⟨x, h0, h1, rfl⟩ := h; rw [fitsR_h]; rfl
  | d + 1, r, h => by
    rcases h with ⟨x, h0, h1, rfl⟩ | ⟨k, rs, rfl, k1, k2, k3, ha⟩
    · rw [fitsR_h]; rfl
    · rw [fitsR_s]
      have e : (rs.filter fun r => fitsR d r []) = [] := List.filter_eq_nil_iff.mpr fun x hx => by rw [fits_none (ha x hx)]; exact Bool.false_ne_true
      rw [e]
      exact decide_eq_false (by simp; omega)
theorem fits_all {A : List Int} (hs : ∀ h : Int, 0 ≤ h → h < 10 → h ∈ A) {d : Nat} {r : I} (h : RuOk d r) : fitsR d r A = true := by
  have e := fits_turn (A := []) (B := A) (fun h h0 h1 => ⟨fun _ => by simp, fun _ => hs h h0 h1⟩) h
  rw [fits_none (turnR_ok h)] at e
  cases hf : fitsR d r A
  · rw [hf] at e; exact absurd e (by decide)
  · rfl
end Iv

/-! bits of sets of ten hands. -/
namespace Iv
open PySem PySem.Spec L2 Nm
theorem bit1 (a : Nat) : Builtin.bitAnd (a : Int) 1 = ((a &&& 1 : Nat) : Int) := rfl
theorem bit_tb (b j : Nat) : Builtin.bitAnd ((b : Int) / 2 ^ j) 1 = 1 ↔ b.testBit j = true := by
  have e : ((b : Int) / 2 ^ j) = ((b / 2 ^ j : Nat) : Int) := by simp
  rw [e, bit1]
  rw [Nat.testBit, Nat.shiftRight_eq_div_pow, Nat.and_one_is_mod, Nat.one_and_eq_mod_two]
  simp
  omega
theorem bit_or (a b : Nat) : Builtin.bitOr (a : Int) (b : Int) = ((a ||| b : Nat) : Int) := by
  have n1 : ∀ c : Nat, decide (0 ≤ Builtin.bitNot (c : Int)) = false := fun c => decide_eq_false (by unfold Builtin.bitNot; omega)
  have n2 : ∀ x : Int, Builtin.bitNot (Builtin.bitNot x) = x := fun x => by unfold Builtin.bitNot; omega
  show Builtin.bitNot (Builtin.bitAnd (Builtin.bitNot (a : Int)) (Builtin.bitNot (b : Int))) = _
  unfold Builtin.bitAnd
  rw [n1, n1]
  show Builtin.bitNot (Builtin.bitNot _) = _
  rw [n2, n2, n2]
  rfl
theorem com_tb {b : Nat} (h : b < 1024) {j : Nat} (hj : j < 10) : (1023 - b).testBit j = !b.testBit j := by
  have := Nat.testBit_two_pow_sub_succ (n := 10) (x := b) (by omega) j
  rw [show 2 ^ 10 - (b + 1) = 1023 - b by omega] at this
  rw [this]
  simp [hj]
def handsB (b : Int) : List Int := ((List.range 10).filter fun (j : Nat) => decide (Builtin.bitAnd (b / 2 ^ j) 1 = 1)).map fun (j : Nat) => (j : Int)
theorem mem_hB {b j : Nat} (hj : j < 10) : (j : Int) ∈ handsB (b : Int) ↔ b.testBit j = true := by
  unfold handsB
  rw [List.mem_map]
  constructor
  · rintro ⟨i, hi, e⟩
    have e : i = j := by omega
    subst e
    rw [List.mem_filter, decide_eq_true_iff, bit_tb] at hi
    exact hi.2
  · intro h
    refine ⟨j, ?_, rfl⟩
    rw [List.mem_filter, decide_eq_true_iff, bit_tb]
    exact ⟨List.mem_range.mpr hj, h⟩
theorem hB_com {b : Int} (h0 : 0 ≤ b) (h1 : b < 1024) : ∀ h : Int, 0 ≤ h → h < 10 → (h ∈ handsB (1023 - b) ↔ ¬ h ∈ handsB b) := by
  intro h g0 g1
  obtain ⟨n, rfl⟩ := Int.eq_ofNat_of_zero_le h0
  obtain ⟨j, rfl⟩ := Int.eq_ofNat_of_zero_le g0
  have e : (1023 : Int) - (n : Int) = ((1023 - n : Nat) : Int) := by omega
  rw [e, mem_hB (by omega), mem_hB (by omega), com_tb (by omega) (by omega)]
  simp
theorem hB_or {b : Int} (h0 : 0 ≤ b) (i : Nat) : ∀ h : Int, 0 ≤ h → h < 10 → h ∈ handsB b → h ∈ handsB (Builtin.bitOr b (2 ^ i)) := by
  intro h g0 g1
  obtain ⟨n, rfl⟩ := Int.eq_ofNat_of_zero_le h0
  obtain ⟨j, rfl⟩ := Int.eq_ofNat_of_zero_le g0
  have e : Builtin.bitOr (n : Int) (2 ^ i) = ((n ||| 2 ^ i : Nat) : Int) := by
    rw [← bit_or]
    congr 1
    try simp
  rw [e, mem_hB (by omega), mem_hB (by omega), Nat.testBit_or]
  intro h
  rw [h]
  rfl
end Iv

open PySem PySem.Spec L2 Iv Nm
namespace Lk14
theorem drule_ev (k : Nat) (ns : List Int) (a : Int) (hns : ns.length ≤ 63) (h0 : 0 ≤ a) (h1 : a ≤ 900) : ∃ r, RuOk 5 r ∧ 1 ≤ (handsR 5 r).length ∧ (handsR 5 r).length ≤ 20 ∧ Fn dfs X0 (k+7) "_law_drawn_rule" [.scr ns, .imm (.int a)] = .ok (.imm r, true) := by
  obtain ⟨a1, a2, a3⟩ := drawnR_ok ns a
  refine ⟨drawnR ns a, a1, a2, a3, ?_⟩
  rw [fn__law_drawn_rule]
  show (if ns.length ≤ 63 ∧ 0 ≤ a ∧ a ≤ 900 then M.ok (D.imm (drawnR ns a), true) else .bad) = _
  rw [if_pos ⟨hns, h0, h1⟩]

theorem ix_h0 {h : Int} {t : Tag} : idxD (.imm (Hnd h), t) 0 = .ok (pim (.str "hand")) := (rfl)
theorem ix_h1 {h : Int} {t : Tag} : idxD (.imm (Hnd h), t) 1 = .ok (pim (.int h)) := (rfl)
theorem ix_s0 {k : Int} {rs : List I} {t : Tag} : idxD (.imm (Som k rs), t) 0 = .ok (pim (.str "some")) := (rfl)
theorem ix_s1 {k : Int} {rs : List I} {t : Tag} : idxD (.imm (Som k rs), t) 1 = .ok (pim (.int k)) := (rfl)
theorem ix_s2 {k : Int} {rs : List I} {t : Tag} : idxD (.imm (Som k rs), t) 2 = .ok (pim (.tup rs)) := (rfl)
theorem strHS : (Str.ofString "some" = Str.ofString "hand") = False := by simp; decide

theorem flat_snoc {α β : Type} (f : α → List β) {rs : List α} {i : Nat} (h : i < rs.length) : ((rs.take (i + 1)).map f).flatten = ((rs.take i).map f).flatten ++ f rs[i] := by
  rw [List.take_add_one, List.getElem?_eq_getElem h, List.map_append, List.flatten_append]
  simp
theorem flat_le {α β : Type} (f : α → List β) {rs : List α} {i : Nat} : ((rs.take i).map f).flatten.length ≤ (rs.map f).flatten.length := by
  conv => rhs; rw [← List.take_append_drop i rs]
  rw [List.map_append, List.flatten_append, List.length_append]
  omega
theorem written_ev : ∀ (d k : Nat) (r : I), RuOk d r → (handsR d r).length ≤ 100 → ∃ b, Fn dfs X0 (k+d+1) "hands_written" [.imm r] = .ok (.lsi ((handsR d r).map .int), b)
  | 0, k, r, h, _ => by
    obtain ⟨x, h0, h1, rfl⟩ := h
    refine ⟨true, sat_eq ?_⟩
    rw [fn_hands_written]
    unfold b_hands_written
    refine callD_sat ?_
    simp [-List.map_map, sat_ok, sat_bad, sat_exc, sat_bind, sat_calm, sat_iteb, sat_ite, osat_next, osat_ret, osat_brk, osat_cnt, osat_bad, osat_exc, osat_st, osat_iteb, osat_ite, ev_lit', ev_glob', ev_var', ev_bin', ev_neg', ev_not', ev_and', ev_or', ev_cmp', ev_chain', ev_ife', ev_call', ev_blt', ev_mth', ev_idx', ev_slc', ev_slcL', ev_slcH', ev_slcN', ev_rev', ev_dgk', ev_dgt', ev_fcall', ev_lst', ev_tup', evs_cons', evC_cons', src_ex', src_zip', src_zip3', src_enm', src_rv', rs_asg', rs_unp', rs_ifs', rs_ret', rs_retn', rs_pas', rs_brk', rs_cnt', rs_app', rs_seti', rs_for', rs_pops', rs_rse', rs_ext', rs_clr', rs_kapp', rs_kaps', rs_kself', rs_rel', rs_kclr', ev_dct, imm_ok, scr_imm, scr_lsi, scr_lsd, scr_tpd, evs_nil, evC_nil, rs_nil, rs_whl, rs_exs', rs_apx', runh_cons, runh_nil, excSub, excAll, clrO_n, clrO_r, endH_0, endH_1, putH_0, putH_1, setSlot_pr, setFz_pr, asg_nm, asg_tup, asg_tpd, asg_lsi, asg_lsd, asgs_nil, asgs_cons, norm_imm, norm_lsi, norm_lsd, norm_tpd, norm_scr, forF_c, lcTurn_c, thenQ_n, thenQ_r, wipe_n, wipe_c, onOwn_c, hasL_c, isi_pr', ise_pr, isExc, isVw, wipeV_go, wipeGo_c, kapOk_c, kapR_n, kapR_c, kapR_a, wipeGo_n, srtset_pr, lenset_pr, lzip_pr, len_pr, tup_pr, tup_pt, tup_pd, tup_pp, lst_pr, lst_ps, lst_pt, lst_pd, lst_pp, int_pi, int_pb, sum_pr, all_pr, any_pr, min_pr, max_pr, lrg_1, lrg_2, trg_1, trg_2, List.cons_append, List.nil_append, Cf.dflt, Cf.cl, rdTag, pim, ofConst, bin_add, bin_sub, bin_mul, bin_fdiv, bin_mod, bin_pow, bin_str, bin_srep, bin_tup, bin_lst, bin_rep, bin_trep, isNil, cmp_eqi, cmp_nei, cmp_lti, cmp_lei, cmp_gti, cmp_gei, cmp_eqs, cmp_nes, cmp_eqb, cmp_neb, atI_c0, atI_c1, atI_c2, cmp_isn, cmp_isnn, cmp_eql, cmp_nel, cmp_eqln, cmp_neln, cmp_eqnn, cmp_nenn, cmp_inl, cmp_ninl, enmD_pims, zipD3_pims, src_r1s, src_r2s, rng_ls, rng_ts, asI_int, asB_bl, lenD, mkL, mkT, allImm, tagsOf, okSt, List.set, List.getElem?_cons_zero, List.getElem?_cons_succ, isiB, tyD, asInts_fn, asInts_map, items_tup, items_lsi, items_lsd, items_scr, zipD_pims, idx_lsi, idx_tup, idx_scr, idx_lsd, idx_tpd, slc_tup, slc_lsi, slc_lsd, slc_tpd, ev_mth', mtOk, mtTy, mth_lix, mth_join, srt_pi, srt_pl, isL, isT, sameK, mutss, muts, okIn, appD, setD, dlen, callD, List.map_cons, List.map_nil, List.length_cons, List.length_nil, List.replicate, Option.map_some, Option.map_none, List.all_nil, List.all_cons, Option.some.injEq, exists_eq_left', List.getD_cons_zero, List.getD_cons_succ, T0, Tag.child, Tag.root, Tag.join, List.isEmpty_nil, sizeLine_eq, d_hands_written, ix_h0, ix_h1, handsR_h]
  | d + 1, k, r, h, hl => by
    rcases h with ⟨x, h0, h1, rfl⟩ | ⟨c, rs, rfl, k1, k2, k3, ha⟩
    · refine ⟨true, sat_eq ?_⟩
      rw [fn_hands_written]
      unfold b_hands_written
      refine callD_sat ?_
      simp [-List.map_map, sat_ok, sat_bad, sat_exc, sat_bind, sat_calm, sat_iteb, sat_ite, osat_next, osat_ret, osat_brk, osat_cnt, osat_bad, osat_exc, osat_st, osat_iteb, osat_ite, ev_lit', ev_glob', ev_var', ev_bin', ev_neg', ev_not', ev_and', ev_or', ev_cmp', ev_chain', ev_ife', ev_call', ev_blt', ev_mth', ev_idx', ev_slc', ev_slcL', ev_slcH', ev_slcN', ev_rev', ev_dgk', ev_dgt', ev_fcall', ev_lst', ev_tup', evs_cons', evC_cons', src_ex', src_zip', src_zip3', src_enm', src_rv', rs_asg', rs_unp', rs_ifs', rs_ret', rs_retn', rs_pas', rs_brk', rs_cnt', rs_app', rs_seti', rs_for', rs_pops', rs_rse', rs_ext', rs_clr', rs_kapp', rs_kaps', rs_kself', rs_rel', rs_kclr', ev_dct, imm_ok, scr_imm, scr_lsi, scr_lsd, scr_tpd, evs_nil, evC_nil, rs_nil, rs_whl, rs_exs', rs_apx', runh_cons, runh_nil, excSub, excAll, clrO_n, clrO_r, endH_0, endH_1, putH_0, putH_1, setSlot_pr, setFz_pr, asg_nm, asg_tup, asg_tpd, asg_lsi, asg_lsd, asgs_nil, asgs_cons, norm_imm, norm_lsi, norm_lsd, norm_tpd, norm_scr, forF_c, lcTurn_c, thenQ_n, thenQ_r, wipe_n, wipe_c, onOwn_c, hasL_c, isi_pr', ise_pr, isExc, isVw, wipeV_go, wipeGo_c, kapOk_c, kapR_n, kapR_c, kapR_a, wipeGo_n, srtset_pr, lenset_pr, lzip_pr, len_pr, tup_pr, tup_pt, tup_pd, tup_pp, lst_pr, lst_ps, lst_pt, lst_pd, lst_pp, int_pi, int_pb, sum_pr, all_pr, any_pr, min_pr, max_pr, lrg_1, lrg_2, trg_1, trg_2, List.cons_append, List.nil_append, Cf.dflt, Cf.cl, rdTag, pim, ofConst, bin_add, bin_sub, bin_mul, bin_fdiv, bin_mod, bin_pow, bin_str, bin_srep, bin_tup, bin_lst, bin_rep, bin_trep, isNil, cmp_eqi, cmp_nei, cmp_lti, cmp_lei, cmp_gti, cmp_gei, cmp_eqs, cmp_nes, cmp_eqb, cmp_neb, atI_c0, atI_c1, atI_c2, cmp_isn, cmp_isnn, cmp_eql, cmp_nel, cmp_eqln, cmp_neln, cmp_eqnn, cmp_nenn, cmp_inl, cmp_ninl, enmD_pims, zipD3_pims, src_r1s, src_r2s, rng_ls, rng_ts, asI_int, asB_bl, lenD, mkL, mkT, allImm, tagsOf, okSt, List.set, List.getElem?_cons_zero, List.getElem?_cons_succ, isiB, tyD, asInts_fn, asInts_map, items_tup, items_lsi, items_lsd, items_scr, zipD_pims, idx_lsi, idx_tup, idx_scr, idx_lsd, idx_tpd, slc_tup, slc_lsi, slc_lsd, slc_tpd, ev_mth', mtOk, mtTy, mth_lix, mth_join, srt_pi, srt_pl, isL, isT, sameK, mutss, muts, okIn, appD, setD, dlen, callD, List.map_cons, List.map_nil, List.length_cons, List.length_nil, List.replicate, Option.map_some, Option.map_none, List.all_nil, List.all_cons, Option.some.injEq, exists_eq_left', List.getD_cons_zero, List.getD_cons_succ, T0, Tag.child, Tag.root, Tag.join, List.isEmpty_nil, sizeLine_eq, d_hands_written, ix_h0, ix_h1, handsR_h]
    · rw [handsR_s] at hl ⊢
      refine ⟨false, sat_eq ?_⟩
      rw [fn_hands_written]
      unfold b_hands_written
      refine callD_sat ?_
      simp [-List.map_map, sat_ok, sat_bad, sat_exc, sat_bind, sat_calm, sat_iteb, sat_ite, osat_next, osat_ret, osat_brk, osat_cnt, osat_bad, osat_exc, osat_st, osat_iteb, osat_ite, ev_lit', ev_glob', ev_var', ev_bin', ev_neg', ev_not', ev_and', ev_or', ev_cmp', ev_chain', ev_ife', ev_call', ev_blt', ev_mth', ev_idx', ev_slc', ev_slcL', ev_slcH', ev_slcN', ev_rev', ev_dgk', ev_dgt', ev_fcall', ev_lst', ev_tup', evs_cons', evC_cons', src_ex', src_zip', src_zip3', src_enm', src_rv', rs_asg', rs_unp', rs_ifs', rs_ret', rs_retn', rs_pas', rs_brk', rs_cnt', rs_app', rs_seti', rs_for', rs_pops', rs_rse', rs_ext', rs_clr', rs_kapp', rs_kaps', rs_kself', rs_rel', rs_kclr', ev_dct, imm_ok, scr_imm, scr_lsi, scr_lsd, scr_tpd, evs_nil, evC_nil, rs_nil, rs_whl, rs_exs', rs_apx', runh_cons, runh_nil, excSub, excAll, clrO_n, clrO_r, endH_0, endH_1, putH_0, putH_1, setSlot_pr, setFz_pr, asg_nm, asg_tup, asg_tpd, asg_lsi, asg_lsd, asgs_nil, asgs_cons, norm_imm, norm_lsi, norm_lsd, norm_tpd, norm_scr, forF_c, lcTurn_c, thenQ_n, thenQ_r, wipe_n, wipe_c, onOwn_c, hasL_c, isi_pr', ise_pr, isExc, isVw, wipeV_go, wipeGo_c, kapOk_c, kapR_n, kapR_c, kapR_a, wipeGo_n, srtset_pr, lenset_pr, lzip_pr, len_pr, tup_pr, tup_pt, tup_pd, tup_pp, lst_pr, lst_ps, lst_pt, lst_pd, lst_pp, int_pi, int_pb, sum_pr, all_pr, any_pr, min_pr, max_pr, lrg_1, lrg_2, trg_1, trg_2, List.cons_append, List.nil_append, Cf.dflt, Cf.cl, rdTag, pim, ofConst, bin_add, bin_sub, bin_mul, bin_fdiv, bin_mod, bin_pow, bin_str, bin_srep, bin_tup, bin_lst, bin_rep, bin_trep, isNil, cmp_eqi, cmp_nei, cmp_lti, cmp_lei, cmp_gti, cmp_gei, cmp_eqs, cmp_nes, cmp_eqb, cmp_neb, atI_c0, atI_c1, atI_c2, cmp_isn, cmp_isnn, cmp_eql, cmp_nel, cmp_eqln, cmp_neln, cmp_eqnn, cmp_nenn, cmp_inl, cmp_ninl, enmD_pims, zipD3_pims, src_r1s, src_r2s, rng_ls, rng_ts, asI_int, asB_bl, lenD, mkL, mkT, allImm, tagsOf, okSt, List.set, List.getElem?_cons_zero, List.getElem?_cons_succ, isiB, tyD, asInts_fn, asInts_map, items_tup, items_lsi, items_lsd, items_scr, zipD_pims, idx_lsi, idx_tup, idx_scr, idx_lsd, idx_tpd, slc_tup, slc_lsi, slc_lsd, slc_tpd, ev_mth', mtOk, mtTy, mth_lix, mth_join, srt_pi, srt_pl, isL, isT, sameK, mutss, muts, okIn, appD, setD, dlen, callD, List.map_cons, List.map_nil, List.length_cons, List.length_nil, List.replicate, Option.map_some, Option.map_none, List.all_nil, List.all_cons, Option.some.injEq, exists_eq_left', List.getD_cons_zero, List.getD_cons_succ, T0, Tag.child, Tag.root, Tag.join, List.isEmpty_nil, sizeLine_eq, d_hands_written, ix_s0, ix_s2, strHS]
      refine forGo_inv (I := fun i ρ => ∃ y : Option D, ρ = [some (.imm (Som c rs)), some (.lsi (((rs.take i).map (handsR d)).flatten.map .int)), y]) ⟨none, rfl⟩ ?_ ?_
      · rintro i hi _ ⟨y, rfl⟩
        have hi' : i < rs.length := by simpa using hi
        have hmem : rs[i] ∈ rs := List.getElem_mem hi'
        have h1 := flat_le (handsR d) (rs := rs) (i := i + 1)
        have es := flat_snoc (handsR d) hi'
        rw [es, List.length_append] at h1
        obtain ⟨b, ih⟩ : ∃ b, Fn dfs X0 (k + (d + 1)) "hands_written" [.imm rs[i]] = .ok (.lsi ((handsR d rs[i]).map .int), b) := written_ev d k rs[i] (ha _ hmem) (by omega)
        rw [es]
        generalize ((rs.take i).map (handsR d)).flatten = A at *
        generalize handsR d rs[i] = B at *
        cases b <;> simp [-List.map_map, sat_ok, sat_bad, sat_exc, sat_bind, sat_calm, sat_iteb, sat_ite, osat_next, osat_ret, osat_brk, osat_cnt, osat_bad, osat_exc, osat_st, osat_iteb, osat_ite, ev_lit', ev_glob', ev_var', ev_bin', ev_neg', ev_not', ev_and', ev_or', ev_cmp', ev_chain', ev_ife', ev_call', ev_blt', ev_mth', ev_idx', ev_slc', ev_slcL', ev_slcH', ev_slcN', ev_rev', ev_dgk', ev_dgt', ev_fcall', ev_lst', ev_tup', evs_cons', evC_cons', src_ex', src_zip', src_zip3', src_enm', src_rv', rs_asg', rs_unp', rs_ifs', rs_ret', rs_retn', rs_pas', rs_brk', rs_cnt', rs_app', rs_seti', rs_for', rs_pops', rs_rse', rs_ext', rs_clr', rs_kapp', rs_kaps', rs_kself', rs_rel', rs_kclr', ev_dct, imm_ok, scr_imm, scr_lsi, scr_lsd, scr_tpd, evs_nil, evC_nil, rs_nil, rs_whl, rs_exs', rs_apx', runh_cons, runh_nil, excSub, excAll, clrO_n, clrO_r, endH_0, endH_1, putH_0, putH_1, setSlot_pr, setFz_pr, asg_nm, asg_tup, asg_tpd, asg_lsi, asg_lsd, asgs_nil, asgs_cons, norm_imm, norm_lsi, norm_lsd, norm_tpd, norm_scr, forF_c, lcTurn_c, thenQ_n, thenQ_r, wipe_n, wipe_c, onOwn_c, hasL_c, isi_pr', ise_pr, isExc, isVw, wipeV_go, wipeGo_c, kapOk_c, kapR_n, kapR_c, kapR_a, wipeGo_n, srtset_pr, lenset_pr, lzip_pr, len_pr, tup_pr, tup_pt, tup_pd, tup_pp, lst_pr, lst_ps, lst_pt, lst_pd, lst_pp, int_pi, int_pb, sum_pr, all_pr, any_pr, min_pr, max_pr, lrg_1, lrg_2, trg_1, trg_2, List.cons_append, List.nil_append, Cf.dflt, Cf.cl, rdTag, pim, ofConst, bin_add, bin_sub, bin_mul, bin_fdiv, bin_mod, bin_pow, bin_str, bin_srep, bin_tup, bin_lst, bin_rep, bin_trep, isNil, cmp_eqi, cmp_nei, cmp_lti, cmp_lei, cmp_gti, cmp_gei, cmp_eqs, cmp_nes, cmp_eqb, cmp_neb, atI_c0, atI_c1, atI_c2, cmp_isn, cmp_isnn, cmp_eql, cmp_nel, cmp_eqln, cmp_neln, cmp_eqnn, cmp_nenn, cmp_inl, cmp_ninl, enmD_pims, zipD3_pims, src_r1s, src_r2s, rng_ls, rng_ts, asI_int, asB_bl, lenD, mkL, mkT, allImm, tagsOf, okSt, List.set, List.getElem?_cons_zero, List.getElem?_cons_succ, isiB, tyD, asInts_fn, asInts_map, items_tup, items_lsi, items_lsd, items_scr, zipD_pims, idx_lsi, idx_tup, idx_scr, idx_lsd, idx_tpd, slc_tup, slc_lsi, slc_lsd, slc_tpd, ev_mth', mtOk, mtTy, mth_lix, mth_join, srt_pi, srt_pl, isL, isT, sameK, mutss, muts, okIn, appD, setD, dlen, callD, List.map_cons, List.map_nil, List.length_cons, List.length_nil, List.replicate, Option.map_some, Option.map_none, List.all_nil, List.all_cons, Option.some.injEq, exists_eq_left', List.getD_cons_zero, List.getD_cons_succ, T0, Tag.child, Tag.root, Tag.join, List.isEmpty_nil, sizeLine_eq, ih] <;> omega
      · rintro _ ⟨y, rfl⟩
        simp [-List.map_map, sat_ok, sat_bad, sat_exc, sat_bind, sat_calm, sat_iteb, sat_ite, osat_next, osat_ret, osat_brk, osat_cnt, osat_bad, osat_exc, osat_st, osat_iteb, osat_ite, ev_lit', ev_glob', ev_var', ev_bin', ev_neg', ev_not', ev_and', ev_or', ev_cmp', ev_chain', ev_ife', ev_call', ev_blt', ev_mth', ev_idx', ev_slc', ev_slcL', ev_slcH', ev_slcN', ev_rev', ev_dgk', ev_dgt', ev_fcall', ev_lst', ev_tup', evs_cons', evC_cons', src_ex', src_zip', src_zip3', src_enm', src_rv', rs_asg', rs_unp', rs_ifs', rs_ret', rs_retn', rs_pas', rs_brk', rs_cnt', rs_app', rs_seti', rs_for', rs_pops', rs_rse', rs_ext', rs_clr', rs_kapp', rs_kaps', rs_kself', rs_rel', rs_kclr', ev_dct, imm_ok, scr_imm, scr_lsi, scr_lsd, scr_tpd, evs_nil, evC_nil, rs_nil, rs_whl, rs_exs', rs_apx', runh_cons, runh_nil, excSub, excAll, clrO_n, clrO_r, endH_0, endH_1, putH_0, putH_1, setSlot_pr, setFz_pr, asg_nm, asg_tup, asg_tpd, asg_lsi, asg_lsd, asgs_nil, asgs_cons, norm_imm, norm_lsi, norm_lsd, norm_tpd, norm_scr, forF_c, lcTurn_c, thenQ_n, thenQ_r, wipe_n, wipe_c, onOwn_c, hasL_c, isi_pr', ise_pr, isExc, isVw, wipeV_go, wipeGo_c, kapOk_c, kapR_n, kapR_c, kapR_a, wipeGo_n, srtset_pr, lenset_pr, lzip_pr, len_pr, tup_pr, tup_pt, tup_pd, tup_pp, lst_pr, lst_ps, lst_pt, lst_pd, lst_pp, int_pi, int_pb, sum_pr, all_pr, any_pr, min_pr, max_pr, lrg_1, lrg_2, trg_1, trg_2, List.cons_append, List.nil_append, Cf.dflt, Cf.cl, rdTag, pim, ofConst, bin_add, bin_sub, bin_mul, bin_fdiv, bin_mod, bin_pow, bin_str, bin_srep, bin_tup, bin_lst, bin_rep, bin_trep, isNil, cmp_eqi, cmp_nei, cmp_lti, cmp_lei, cmp_gti, cmp_gei, cmp_eqs, cmp_nes, cmp_eqb, cmp_neb, atI_c0, atI_c1, atI_c2, cmp_isn, cmp_isnn, cmp_eql, cmp_nel, cmp_eqln, cmp_neln, cmp_eqnn, cmp_nenn, cmp_inl, cmp_ninl, enmD_pims, zipD3_pims, src_r1s, src_r2s, rng_ls, rng_ts, asI_int, asB_bl, lenD, mkL, mkT, allImm, tagsOf, okSt, List.set, List.getElem?_cons_zero, List.getElem?_cons_succ, isiB, tyD, asInts_fn, asInts_map, items_tup, items_lsi, items_lsd, items_scr, zipD_pims, idx_lsi, idx_tup, idx_scr, idx_lsd, idx_tpd, slc_tup, slc_lsi, slc_lsd, slc_tpd, ev_mth', mtOk, mtTy, mth_lix, mth_join, srt_pi, srt_pl, isL, isT, sameK, mutss, muts, okIn, appD, setD, dlen, callD, List.map_cons, List.map_nil, List.length_cons, List.length_nil, List.replicate, Option.map_some, Option.map_none, List.all_nil, List.all_cons, Option.some.injEq, exists_eq_left', List.getD_cons_zero, List.getD_cons_succ, T0, Tag.child, Tag.root, Tag.join, List.isEmpty_nil, sizeLine_eq]

theorem hands_ev (k : Nat) (r : I) (h : RuOk 5 r) (hl : (handsR 5 r).length ≤ 20) : Fn dfs X0 (k+7) "hands_in" [.imm r] = .ok (.lsi ((sortI (dedup (handsR 5 r))).map .int), true) := by
  obtain ⟨b, e⟩ : ∃ b, Fn dfs X0 (k + 6) "hands_written" [.imm r] = .ok (.lsi ((handsR 5 r).map .int), b) := written_ev 5 k r h (by omega)
  refine sat_eq ?_
  rw [fn_hands_in]
  unfold b_hands_in
  refine callD_sat ?_
  cases b <;> simp [-List.map_map, sat_ok, sat_bad, sat_exc, sat_bind, sat_calm, sat_iteb, sat_ite, osat_next, osat_ret, osat_brk, osat_cnt, osat_bad, osat_exc, osat_st, osat_iteb, osat_ite, ev_lit', ev_glob', ev_var', ev_bin', ev_neg', ev_not', ev_and', ev_or', ev_cmp', ev_chain', ev_ife', ev_call', ev_blt', ev_mth', ev_idx', ev_slc', ev_slcL', ev_slcH', ev_slcN', ev_rev', ev_dgk', ev_dgt', ev_fcall', ev_lst', ev_tup', evs_cons', evC_cons', src_ex', src_zip', src_zip3', src_enm', src_rv', rs_asg', rs_unp', rs_ifs', rs_ret', rs_retn', rs_pas', rs_brk', rs_cnt', rs_app', rs_seti', rs_for', rs_pops', rs_rse', rs_ext', rs_clr', rs_kapp', rs_kaps', rs_kself', rs_rel', rs_kclr', ev_dct, imm_ok, scr_imm, scr_lsi, scr_lsd, scr_tpd, evs_nil, evC_nil, rs_nil, rs_whl, rs_exs', rs_apx', runh_cons, runh_nil, excSub, excAll, clrO_n, clrO_r, endH_0, endH_1, putH_0, putH_1, setSlot_pr, setFz_pr, asg_nm, asg_tup, asg_tpd, asg_lsi, asg_lsd, asgs_nil, asgs_cons, norm_imm, norm_lsi, norm_lsd, norm_tpd, norm_scr, forF_c, lcTurn_c, thenQ_n, thenQ_r, wipe_n, wipe_c, onOwn_c, hasL_c, isi_pr', ise_pr, isExc, isVw, wipeV_go, wipeGo_c, kapOk_c, kapR_n, kapR_c, kapR_a, wipeGo_n, srtset_pr, lenset_pr, lzip_pr, len_pr, tup_pr, tup_pt, tup_pd, tup_pp, lst_pr, lst_ps, lst_pt, lst_pd, lst_pp, int_pi, int_pb, sum_pr, all_pr, any_pr, min_pr, max_pr, lrg_1, lrg_2, trg_1, trg_2, List.cons_append, List.nil_append, Cf.dflt, Cf.cl, rdTag, pim, ofConst, bin_add, bin_sub, bin_mul, bin_fdiv, bin_mod, bin_pow, bin_str, bin_srep, bin_tup, bin_lst, bin_rep, bin_trep, isNil, cmp_eqi, cmp_nei, cmp_lti, cmp_lei, cmp_gti, cmp_gei, cmp_eqs, cmp_nes, cmp_eqb, cmp_neb, atI_c0, atI_c1, atI_c2, cmp_isn, cmp_isnn, cmp_eql, cmp_nel, cmp_eqln, cmp_neln, cmp_eqnn, cmp_nenn, cmp_inl, cmp_ninl, enmD_pims, zipD3_pims, src_r1s, src_r2s, rng_ls, rng_ts, asI_int, asB_bl, lenD, mkL, mkT, allImm, tagsOf, okSt, List.set, List.getElem?_cons_zero, List.getElem?_cons_succ, isiB, tyD, asInts_fn, asInts_map, items_tup, items_lsi, items_lsd, items_scr, zipD_pims, idx_lsi, idx_tup, idx_scr, idx_lsd, idx_tpd, slc_tup, slc_lsi, slc_lsd, slc_tpd, ev_mth', mtOk, mtTy, mth_lix, mth_join, srt_pi, srt_pl, isL, isT, sameK, mutss, muts, okIn, appD, setD, dlen, callD, List.map_cons, List.map_nil, List.length_cons, List.length_nil, List.replicate, Option.map_some, Option.map_none, List.all_nil, List.all_cons, Option.some.injEq, exists_eq_left', List.getD_cons_zero, List.getD_cons_succ, T0, Tag.child, Tag.root, Tag.join, List.isEmpty_nil, sizeLine_eq, d_hands_in, e] <;> omega

theorem ix_let {h : Int} {t : Tag} (h0 : 0 ≤ h) (h1 : h < 10) : idxD (.imm (.str (Str.ofString "abcdefghij")), t) h = .ok (pim (.str (st [97 + h.toNat]))) := by
  obtain ⟨n, rfl⟩ := Int.eq_ofNat_of_zero_le h0
  rw [S_let]
  match n, h1 with
  | 0, _ => rfl
  | 1, _ => rfl
  | 2, _ => rfl
  | 3, _ => rfl
  | 4, _ => rfl
  | 5, _ => rfl
  | 6, _ => rfl
  | 7, _ => rfl
  | 8, _ => rfl
  | 9, _ => rfl
  | n + 10, h => omega
theorem digW {k : Int} (h0 : 0 ≤ k) (h1 : k < 10) : (toString k : Str) = st [48 + k.toNat] := by
  obtain ⟨n, rfl⟩ := Int.eq_ofNat_of_zero_le h0
  match n, h1 with
  | 0, _ => decide +kernel
  | 1, _ => decide +kernel
  | 2, _ => decide +kernel
  | 3, _ => decide +kernel
  | 4, _ => decide +kernel
  | 5, _ => decide +kernel
  | 6, _ => decide +kernel
  | 7, _ => decide +kernel
  | 8, _ => decide +kernel
  | 9, _ => decide +kernel
  | n + 10, h => omega
theorem log_lt {k : Int} (h0 : 0 ≤ k) (h1 : k < 10) : k.natAbs.log2 < 1920 := by
  have : k.natAbs.log2 ≤ k.natAbs := Nat.log2_le_self _
  omega
theorem blt_strK {k : Int} {t : Tag} (h0 : 0 ≤ k) (h1 : k < 10) : bltD .str [(.imm (.int k), t)] = .ok (pim (.str (st [48 + k.toNat]))) := by
  show (if k.natAbs.log2 < 1920 then M.ok (pim (.str (toString k))) else .bad) = _
  rw [if_pos (log_lt h0 h1), digW h0 h1]
theorem blt_strA {k : Int} (h0 : 0 ≤ k) (h1 : k ≤ 10) : ∃ s : Str, s.length ≤ 2 ∧ (∀ t, bltD .str [(.imm (.int k), t)] = .ok (pim (.str s))) ∧ (k < 10 → s = st [48 + k.toNat]) := by
  by_cases h : k < 10
  · exact ⟨st [48 + k.toNat], by rw [st_len]; exact Nat.le_succ 1, fun t => blt_strK h0 h, fun _ => rfl⟩
  · obtain rfl : k = 10 := by omega
    exact ⟨toString (10 : Int), by decide +kernel, fun t => rfl, fun h => absurd h (by omega)⟩

theorem asStrs_map (f : I → List Nat) : ∀ rs : List I, asStrs (rs.map fun r => I.str (st (f r))) = some ((rs.map f).map st)
  | [] => rfl
  | r :: rs => by
    show (asStrs (rs.map fun r => I.str (st (f r)))).map (st (f r) :: ·) = _
    rw [asStrs_map f rs]
    rfl
theorem sum_len (f : I → List Nat) {b : Nat} : ∀ rs : List I, (∀ r ∈ rs, (f r).length ≤ b) → (((rs.map f).map st).map (·.length)).sum ≤ rs.length * b
  | [], _ => Nat.zero_le _
  | r :: rs, h => by
    have h1 := sum_len f rs fun x hx => h x (List.mem_cons_of_mem _ hx)
    have h2 := h r (List.mem_cons_self ..)
    rw [List.map_cons, List.map_cons, List.map_cons, List.sum_cons, List.length_cons, Nat.succ_mul]
    have : (st (f r)).length = (f r).length := st_len
    omega
theorem join_ok {f : I → List Nat} {rs : List I} {t t' : Tag} (hb : ∀ r ∈ rs, (f r).length ≤ 45000) (hl : rs.length ≤ 10) : mthD .join (.imm (.str (Str.ofString ", ")), t) [(.lsi (rs.map fun r => I.str (st (f r))), t')] = .ok (pim (.str (st (joinC (rs.map f))))) := by
  show (match asStrs (rs.map fun r => I.str (st (f r))) with
      | some ys => if (ys.map (fun (s : Str) => s.length)).sum + ys.length * (Str.ofString ", ").length ≤ 1000000 then M.ok (pim (.str (PySem.Txt.join (Str.ofString ", ") ys))) else .bad
      | none => .bad) = _
  rw [asStrs_map]
  show (if (((rs.map f).map st).map (fun (s : Str) => s.length)).sum + ((rs.map f).map st).length * (Str.ofString ", ").length ≤ 1000000 then M.ok (pim (.str (PySem.Txt.join (Str.ofString ", ") ((rs.map f).map st)))) else .bad) = _
  have h1 := sum_len f rs hb
  have h2 : (Str.ofString ", ").length = 2 := by rw [S_sep]; rfl
  rw [h2, List.length_map, List.length_map, if_pos (by omega), join_st]
theorem join_len {d : Nat} {rs : List I} (hd : d ≤ 4) (ha : ∀ x ∈ rs, RuOk d x) (h3 : rs.length ≤ 10) : (joinC (rs.map (textR d))).length ≤ 433320 := by
  have h1 := joinC_len (rs.map (textR d)) (lenB d) fun l hl => by
    obtain ⟨x, hx, rfl⟩ := List.mem_map.mp hl
    exact textR_len (ha x hx)
  rw [List.length_map] at h1
  have h2 : lenB d ≤ 43330 := by
    match d, hd with
    | 0, _ => decide
    | 1, _ => decide
    | 2, _ => decide
    | 3, _ => decide
    | 4, _ => decide
  have : rs.length * (lenB d + 2) ≤ 10 * 43332 := Nat.mul_le_mul h3 (by omega)
  omega
theorem len4 {d : Nat} {r : I} (hd : d ≤ 4) (h : RuOk d r) : (textR d r).length ≤ 45000 := by
  have h1 := textR_len h
  have h2 : lenB d ≤ 43330 := by
    match d, hd with
    | 0, _ => decide
    | 1, _ => decide
    | 2, _ => decide
    | 3, _ => decide
    | 4, _ => decide
  omega

theorem ltext_ev : ∀ (d k : Nat) (r : I), d ≤ 5 → RuOk d r → Fn dfs X0 (k+d+1) "_law_text" [.imm r] = .ok (.imm (.str (st (textR d r))), true)
  | 0, k, r, _, h => by
    obtain ⟨x, h0, h1, rfl⟩ := h
    refine sat_eq ?_
    rw [fn__law_text]
    unfold b__law_text
    refine callD_sat ?_
    simp [-List.map_map, sat_ok, sat_bad, sat_exc, sat_bind, sat_calm, sat_iteb, sat_ite, osat_next, osat_ret, osat_brk, osat_cnt, osat_bad, osat_exc, osat_st, osat_iteb, osat_ite, ev_lit', ev_glob', ev_var', ev_bin', ev_neg', ev_not', ev_and', ev_or', ev_cmp', ev_chain', ev_ife', ev_call', ev_blt', ev_mth', ev_idx', ev_slc', ev_slcL', ev_slcH', ev_slcN', ev_rev', ev_dgk', ev_dgt', ev_fcall', ev_lst', ev_tup', evs_cons', evC_cons', src_ex', src_zip', src_zip3', src_enm', src_rv', rs_asg', rs_unp', rs_ifs', rs_ret', rs_retn', rs_pas', rs_brk', rs_cnt', rs_app', rs_seti', rs_for', rs_pops', rs_rse', rs_ext', rs_clr', rs_kapp', rs_kaps', rs_kself', rs_rel', rs_kclr', ev_dct, imm_ok, scr_imm, scr_lsi, scr_lsd, scr_tpd, evs_nil, evC_nil, rs_nil, rs_whl, rs_exs', rs_apx', runh_cons, runh_nil, excSub, excAll, clrO_n, clrO_r, endH_0, endH_1, putH_0, putH_1, setSlot_pr, setFz_pr, asg_nm, asg_tup, asg_tpd, asg_lsi, asg_lsd, asgs_nil, asgs_cons, norm_imm, norm_lsi, norm_lsd, norm_tpd, norm_scr, forF_c, lcTurn_c, thenQ_n, thenQ_r, wipe_n, wipe_c, onOwn_c, hasL_c, isi_pr', ise_pr, isExc, isVw, wipeV_go, wipeGo_c, kapOk_c, kapR_n, kapR_c, kapR_a, wipeGo_n, srtset_pr, lenset_pr, lzip_pr, len_pr, tup_pr, tup_pt, tup_pd, tup_pp, lst_pr, lst_ps, lst_pt, lst_pd, lst_pp, int_pi, int_pb, sum_pr, all_pr, any_pr, min_pr, max_pr, lrg_1, lrg_2, trg_1, trg_2, List.cons_append, List.nil_append, Cf.dflt, Cf.cl, rdTag, pim, ofConst, bin_add, bin_sub, bin_mul, bin_fdiv, bin_mod, bin_pow, bin_str, bin_srep, bin_tup, bin_lst, bin_rep, bin_trep, isNil, cmp_eqi, cmp_nei, cmp_lti, cmp_lei, cmp_gti, cmp_gei, cmp_eqs, cmp_nes, cmp_eqb, cmp_neb, atI_c0, atI_c1, atI_c2, cmp_isn, cmp_isnn, cmp_eql, cmp_nel, cmp_eqln, cmp_neln, cmp_eqnn, cmp_nenn, cmp_inl, cmp_ninl, enmD_pims, zipD3_pims, src_r1s, src_r2s, rng_ls, rng_ts, asI_int, asB_bl, lenD, mkL, mkT, allImm, tagsOf, okSt, List.set, List.getElem?_cons_zero, List.getElem?_cons_succ, isiB, tyD, asInts_fn, asInts_map, items_tup, items_lsi, items_lsd, items_scr, zipD_pims, idx_lsi, idx_tup, idx_scr, idx_lsd, idx_tpd, slc_tup, slc_lsi, slc_lsd, slc_tpd, ev_mth', mtOk, mtTy, mth_lix, mth_join, srt_pi, srt_pl, isL, isT, sameK, mutss, muts, okIn, appD, setD, dlen, callD, List.map_cons, List.map_nil, List.length_cons, List.length_nil, List.replicate, Option.map_some, Option.map_none, List.all_nil, List.all_cons, Option.some.injEq, exists_eq_left', List.getD_cons_zero, List.getD_cons_succ, T0, Tag.child, Tag.root, Tag.join, List.isEmpty_nil, sizeLine_eq, d__law_text, ix_h0, ix_h1, textR_h, ix_let h0 h1]
  | d + 1, k, r, hd, h => by
    rcases h with ⟨x, h0, h1, rfl⟩ | ⟨c, rs, rfl, k1, k2, k3, ha⟩
    · refine sat_eq ?_
      rw [fn__law_text]
      unfold b__law_text
      refine callD_sat ?_
      simp [-List.map_map, sat_ok, sat_bad, sat_exc, sat_bind, sat_calm, sat_iteb, sat_ite, osat_next, osat_ret, osat_brk, osat_cnt, osat_bad, osat_exc, osat_st, osat_iteb, osat_ite, ev_lit', ev_glob', ev_var', ev_bin', ev_neg', ev_not', ev_and', ev_or', ev_cmp', ev_chain', ev_ife', ev_call', ev_blt', ev_mth', ev_idx', ev_slc', ev_slcL', ev_slcH', ev_slcN', ev_rev', ev_dgk', ev_dgt', ev_fcall', ev_lst', ev_tup', evs_cons', evC_cons', src_ex', src_zip', src_zip3', src_enm', src_rv', rs_asg', rs_unp', rs_ifs', rs_ret', rs_retn', rs_pas', rs_brk', rs_cnt', rs_app', rs_seti', rs_for', rs_pops', rs_rse', rs_ext', rs_clr', rs_kapp', rs_kaps', rs_kself', rs_rel', rs_kclr', ev_dct, imm_ok, scr_imm, scr_lsi, scr_lsd, scr_tpd, evs_nil, evC_nil, rs_nil, rs_whl, rs_exs', rs_apx', runh_cons, runh_nil, excSub, excAll, clrO_n, clrO_r, endH_0, endH_1, putH_0, putH_1, setSlot_pr, setFz_pr, asg_nm, asg_tup, asg_tpd, asg_lsi, asg_lsd, asgs_nil, asgs_cons, norm_imm, norm_lsi, norm_lsd, norm_tpd, norm_scr, forF_c, lcTurn_c, thenQ_n, thenQ_r, wipe_n, wipe_c, onOwn_c, hasL_c, isi_pr', ise_pr, isExc, isVw, wipeV_go, wipeGo_c, kapOk_c, kapR_n, kapR_c, kapR_a, wipeGo_n, srtset_pr, lenset_pr, lzip_pr, len_pr, tup_pr, tup_pt, tup_pd, tup_pp, lst_pr, lst_ps, lst_pt, lst_pd, lst_pp, int_pi, int_pb, sum_pr, all_pr, any_pr, min_pr, max_pr, lrg_1, lrg_2, trg_1, trg_2, List.cons_append, List.nil_append, Cf.dflt, Cf.cl, rdTag, pim, ofConst, bin_add, bin_sub, bin_mul, bin_fdiv, bin_mod, bin_pow, bin_str, bin_srep, bin_tup, bin_lst, bin_rep, bin_trep, isNil, cmp_eqi, cmp_nei, cmp_lti, cmp_lei, cmp_gti, cmp_gei, cmp_eqs, cmp_nes, cmp_eqb, cmp_neb, atI_c0, atI_c1, atI_c2, cmp_isn, cmp_isnn, cmp_eql, cmp_nel, cmp_eqln, cmp_neln, cmp_eqnn, cmp_nenn, cmp_inl, cmp_ninl, enmD_pims, zipD3_pims, src_r1s, src_r2s, rng_ls, rng_ts, asI_int, asB_bl, lenD, mkL, mkT, allImm, tagsOf, okSt, List.set, List.getElem?_cons_zero, List.getElem?_cons_succ, isiB, tyD, asInts_fn, asInts_map, items_tup, items_lsi, items_lsd, items_scr, zipD_pims, idx_lsi, idx_tup, idx_scr, idx_lsd, idx_tpd, slc_tup, slc_lsi, slc_lsd, slc_tpd, ev_mth', mtOk, mtTy, mth_lix, mth_join, srt_pi, srt_pl, isL, isT, sameK, mutss, muts, okIn, appD, setD, dlen, callD, List.map_cons, List.map_nil, List.length_cons, List.length_nil, List.replicate, Option.map_some, Option.map_none, List.all_nil, List.all_cons, Option.some.injEq, exists_eq_left', List.getD_cons_zero, List.getD_cons_succ, T0, Tag.child, Tag.root, Tag.join, List.isEmpty_nil, sizeLine_eq, d__law_text, ix_h0, ix_h1, textR_h, ix_let h0 h1]
    · have ih : ∀ r ∈ rs, Fn dfs X0 (k + (d + 1)) "_law_text" [.imm r] = .ok (.imm (.str (st (textR d r))), true) := fun r hr => ltext_ev d k r (by omega) (ha r hr)
      have jo : ∀ t t', mthD .join (.imm (.str (Str.ofString ", ")), t) [(.lsi (rs.map fun r => I.str (st (textR d r))), t')] = .ok (pim (.str (st (joinC (rs.map (textR d)))))) := fun t t' => join_ok (fun r hr => len4 (by omega) (ha r hr)) k3
      have jl := join_len (by omega) ha k3
      refine sat_eq ?_
      rw [fn__law_text]
      unfold b__law_text
      refine callD_sat ?_
      obtain ⟨s, s1, s2, s3⟩ := blt_strA (k := c) (by omega) (by omega)
      simp [-List.map_map, sat_ok, sat_bad, sat_exc, sat_bind, sat_calm, sat_iteb, sat_ite, osat_next, osat_ret, osat_brk, osat_cnt, osat_bad, osat_exc, osat_st, osat_iteb, osat_ite, ev_lit', ev_glob', ev_var', ev_bin', ev_neg', ev_not', ev_and', ev_or', ev_cmp', ev_chain', ev_ife', ev_call', ev_blt', ev_mth', ev_idx', ev_slc', ev_slcL', ev_slcH', ev_slcN', ev_rev', ev_dgk', ev_dgt', ev_fcall', ev_lst', ev_tup', evs_cons', evC_cons', src_ex', src_zip', src_zip3', src_enm', src_rv', rs_asg', rs_unp', rs_ifs', rs_ret', rs_retn', rs_pas', rs_brk', rs_cnt', rs_app', rs_seti', rs_for', rs_pops', rs_rse', rs_ext', rs_clr', rs_kapp', rs_kaps', rs_kself', rs_rel', rs_kclr', ev_dct, imm_ok, scr_imm, scr_lsi, scr_lsd, scr_tpd, evs_nil, evC_nil, rs_nil, rs_whl, rs_exs', rs_apx', runh_cons, runh_nil, excSub, excAll, clrO_n, clrO_r, endH_0, endH_1, putH_0, putH_1, setSlot_pr, setFz_pr, asg_nm, asg_tup, asg_tpd, asg_lsi, asg_lsd, asgs_nil, asgs_cons, norm_imm, norm_lsi, norm_lsd, norm_tpd, norm_scr, forF_c, lcTurn_c, thenQ_n, thenQ_r, wipe_n, wipe_c, onOwn_c, hasL_c, isi_pr', ise_pr, isExc, isVw, wipeV_go, wipeGo_c, kapOk_c, kapR_n, kapR_c, kapR_a, wipeGo_n, srtset_pr, lenset_pr, lzip_pr, len_pr, tup_pr, tup_pt, tup_pd, tup_pp, lst_pr, lst_ps, lst_pt, lst_pd, lst_pp, int_pi, int_pb, sum_pr, all_pr, any_pr, min_pr, max_pr, lrg_1, lrg_2, trg_1, trg_2, List.cons_append, List.nil_append, Cf.dflt, Cf.cl, rdTag, pim, ofConst, bin_add, bin_sub, bin_mul, bin_fdiv, bin_mod, bin_pow, bin_str, bin_srep, bin_tup, bin_lst, bin_rep, bin_trep, isNil, cmp_eqi, cmp_nei, cmp_lti, cmp_lei, cmp_gti, cmp_gei, cmp_eqs, cmp_nes, cmp_eqb, cmp_neb, atI_c0, atI_c1, atI_c2, cmp_isn, cmp_isnn, cmp_eql, cmp_nel, cmp_eqln, cmp_neln, cmp_eqnn, cmp_nenn, cmp_inl, cmp_ninl, enmD_pims, zipD3_pims, src_r1s, src_r2s, rng_ls, rng_ts, asI_int, asB_bl, lenD, mkL, mkT, allImm, tagsOf, okSt, List.set, List.getElem?_cons_zero, List.getElem?_cons_succ, isiB, tyD, asInts_fn, asInts_map, items_tup, items_lsi, items_lsd, items_scr, zipD_pims, idx_lsi, idx_tup, idx_scr, idx_lsd, idx_tpd, slc_tup, slc_lsi, slc_lsd, slc_tpd, ev_mth', mtOk, mtTy, mth_lix, mth_join, srt_pi, srt_pl, isL, isT, sameK, mutss, muts, okIn, appD, setD, dlen, callD, List.map_cons, List.map_nil, List.length_cons, List.length_nil, List.replicate, Option.map_some, Option.map_none, List.all_nil, List.all_cons, Option.some.injEq, exists_eq_left', List.getD_cons_zero, List.getD_cons_succ, T0, Tag.child, Tag.root, Tag.join, List.isEmpty_nil, sizeLine_eq, d__law_text, ix_s0, ix_s1, ix_s2, strHS, s2]
      have wl : (headW c rs.length).length ≤ 4 := headW_len
      refine ev_lci rs (fun r => pim r) (fun r => .str (st (textR d r))) ?_ (fun r hr => ?_) ?_
      · simp [-List.map_map, sat_ok, sat_bad, sat_exc, sat_bind, sat_calm, sat_iteb, sat_ite, osat_next, osat_ret, osat_brk, osat_cnt, osat_bad, osat_exc, osat_st, osat_iteb, osat_ite, ev_lit', ev_glob', ev_var', ev_bin', ev_neg', ev_not', ev_and', ev_or', ev_cmp', ev_chain', ev_ife', ev_call', ev_blt', ev_mth', ev_idx', ev_slc', ev_slcL', ev_slcH', ev_slcN', ev_rev', ev_dgk', ev_dgt', ev_fcall', ev_lst', ev_tup', evs_cons', evC_cons', src_ex', src_zip', src_zip3', src_enm', src_rv', rs_asg', rs_unp', rs_ifs', rs_ret', rs_retn', rs_pas', rs_brk', rs_cnt', rs_app', rs_seti', rs_for', rs_pops', rs_rse', rs_ext', rs_clr', rs_kapp', rs_kaps', rs_kself', rs_rel', rs_kclr', ev_dct, imm_ok, scr_imm, scr_lsi, scr_lsd, scr_tpd, evs_nil, evC_nil, rs_nil, rs_whl, rs_exs', rs_apx', runh_cons, runh_nil, excSub, excAll, clrO_n, clrO_r, endH_0, endH_1, putH_0, putH_1, setSlot_pr, setFz_pr, asg_nm, asg_tup, asg_tpd, asg_lsi, asg_lsd, asgs_nil, asgs_cons, norm_imm, norm_lsi, norm_lsd, norm_tpd, norm_scr, forF_c, lcTurn_c, thenQ_n, thenQ_r, wipe_n, wipe_c, onOwn_c, hasL_c, isi_pr', ise_pr, isExc, isVw, wipeV_go, wipeGo_c, kapOk_c, kapR_n, kapR_c, kapR_a, wipeGo_n, srtset_pr, lenset_pr, lzip_pr, len_pr, tup_pr, tup_pt, tup_pd, tup_pp, lst_pr, lst_ps, lst_pt, lst_pd, lst_pp, int_pi, int_pb, sum_pr, all_pr, any_pr, min_pr, max_pr, lrg_1, lrg_2, trg_1, trg_2, List.cons_append, List.nil_append, Cf.dflt, Cf.cl, rdTag, pim, ofConst, bin_add, bin_sub, bin_mul, bin_fdiv, bin_mod, bin_pow, bin_str, bin_srep, bin_tup, bin_lst, bin_rep, bin_trep, isNil, cmp_eqi, cmp_nei, cmp_lti, cmp_lei, cmp_gti, cmp_gei, cmp_eqs, cmp_nes, cmp_eqb, cmp_neb, atI_c0, atI_c1, atI_c2, cmp_isn, cmp_isnn, cmp_eql, cmp_nel, cmp_eqln, cmp_neln, cmp_eqnn, cmp_nenn, cmp_inl, cmp_ninl, enmD_pims, zipD3_pims, src_r1s, src_r2s, rng_ls, rng_ts, asI_int, asB_bl, lenD, mkL, mkT, allImm, tagsOf, okSt, List.set, List.getElem?_cons_zero, List.getElem?_cons_succ, isiB, tyD, asInts_fn, asInts_map, items_tup, items_lsi, items_lsd, items_scr, zipD_pims, idx_lsi, idx_tup, idx_scr, idx_lsd, idx_tpd, slc_tup, slc_lsi, slc_lsd, slc_tpd, ev_mth', mtOk, mtTy, mth_lix, mth_join, srt_pi, srt_pl, isL, isT, sameK, mutss, muts, okIn, appD, setD, dlen, callD, List.map_cons, List.map_nil, List.length_cons, List.length_nil, List.replicate, Option.map_some, Option.map_none, List.all_nil, List.all_cons, Option.some.injEq, exists_eq_left', List.getD_cons_zero, List.getD_cons_succ, T0, Tag.child, Tag.root, Tag.join, List.isEmpty_nil, sizeLine_eq, ix_s2]
        try rfl
      · have e := ih r hr
        simp [-List.map_map, sat_ok, sat_bad, sat_exc, sat_bind, sat_calm, sat_iteb, sat_ite, osat_next, osat_ret, osat_brk, osat_cnt, osat_bad, osat_exc, osat_st, osat_iteb, osat_ite, ev_lit', ev_glob', ev_var', ev_bin', ev_neg', ev_not', ev_and', ev_or', ev_cmp', ev_chain', ev_ife', ev_call', ev_blt', ev_mth', ev_idx', ev_slc', ev_slcL', ev_slcH', ev_slcN', ev_rev', ev_dgk', ev_dgt', ev_fcall', ev_lst', ev_tup', evs_cons', evC_cons', src_ex', src_zip', src_zip3', src_enm', src_rv', rs_asg', rs_unp', rs_ifs', rs_ret', rs_retn', rs_pas', rs_brk', rs_cnt', rs_app', rs_seti', rs_for', rs_pops', rs_rse', rs_ext', rs_clr', rs_kapp', rs_kaps', rs_kself', rs_rel', rs_kclr', ev_dct, imm_ok, scr_imm, scr_lsi, scr_lsd, scr_tpd, evs_nil, evC_nil, rs_nil, rs_whl, rs_exs', rs_apx', runh_cons, runh_nil, excSub, excAll, clrO_n, clrO_r, endH_0, endH_1, putH_0, putH_1, setSlot_pr, setFz_pr, asg_nm, asg_tup, asg_tpd, asg_lsi, asg_lsd, asgs_nil, asgs_cons, norm_imm, norm_lsi, norm_lsd, norm_tpd, norm_scr, forF_c, lcTurn_c, thenQ_n, thenQ_r, wipe_n, wipe_c, onOwn_c, hasL_c, isi_pr', ise_pr, isExc, isVw, wipeV_go, wipeGo_c, kapOk_c, kapR_n, kapR_c, kapR_a, wipeGo_n, srtset_pr, lenset_pr, lzip_pr, len_pr, tup_pr, tup_pt, tup_pd, tup_pp, lst_pr, lst_ps, lst_pt, lst_pd, lst_pp, int_pi, int_pb, sum_pr, all_pr, any_pr, min_pr, max_pr, lrg_1, lrg_2, trg_1, trg_2, List.cons_append, List.nil_append, Cf.dflt, Cf.cl, rdTag, pim, ofConst, bin_add, bin_sub, bin_mul, bin_fdiv, bin_mod, bin_pow, bin_str, bin_srep, bin_tup, bin_lst, bin_rep, bin_trep, isNil, cmp_eqi, cmp_nei, cmp_lti, cmp_lei, cmp_gti, cmp_gei, cmp_eqs, cmp_nes, cmp_eqb, cmp_neb, atI_c0, atI_c1, atI_c2, cmp_isn, cmp_isnn, cmp_eql, cmp_nel, cmp_eqln, cmp_neln, cmp_eqnn, cmp_nenn, cmp_inl, cmp_ninl, enmD_pims, zipD3_pims, src_r1s, src_r2s, rng_ls, rng_ts, asI_int, asB_bl, lenD, mkL, mkT, allImm, tagsOf, okSt, List.set, List.getElem?_cons_zero, List.getElem?_cons_succ, isiB, tyD, asInts_fn, asInts_map, items_tup, items_lsi, items_lsd, items_scr, zipD_pims, idx_lsi, idx_tup, idx_scr, idx_lsd, idx_tpd, slc_tup, slc_lsi, slc_lsd, slc_tpd, ev_mth', mtOk, mtTy, mth_lix, mth_join, srt_pi, srt_pl, isL, isT, sameK, mutss, muts, okIn, appD, setD, dlen, callD, List.map_cons, List.map_nil, List.length_cons, List.length_nil, List.replicate, Option.map_some, Option.map_none, List.all_nil, List.all_cons, Option.some.injEq, exists_eq_left', List.getD_cons_zero, List.getD_cons_succ, T0, Tag.child, Tag.root, Tag.join, List.isEmpty_nil, sizeLine_eq, e]
      · rw [jo]
        have hw : headW c rs.length = if c = (rs.length : Int) then [97, 108, 108] else if c = 1 then [111, 110, 101] else [48 + c.toNat, 32, 111, 102] := rfl
        simp [-List.map_map, sat_ok, sat_bad, sat_exc, sat_bind, sat_calm, sat_iteb, sat_ite, osat_next, osat_ret, osat_brk, osat_cnt, osat_bad, osat_exc, osat_st, osat_iteb, osat_ite, ev_lit', ev_glob', ev_var', ev_bin', ev_neg', ev_not', ev_and', ev_or', ev_cmp', ev_chain', ev_ife', ev_call', ev_blt', ev_mth', ev_idx', ev_slc', ev_slcL', ev_slcH', ev_slcN', ev_rev', ev_dgk', ev_dgt', ev_fcall', ev_lst', ev_tup', evs_cons', evC_cons', src_ex', src_zip', src_zip3', src_enm', src_rv', rs_asg', rs_unp', rs_ifs', rs_ret', rs_retn', rs_pas', rs_brk', rs_cnt', rs_app', rs_seti', rs_for', rs_pops', rs_rse', rs_ext', rs_clr', rs_kapp', rs_kaps', rs_kself', rs_rel', rs_kclr', ev_dct, imm_ok, scr_imm, scr_lsi, scr_lsd, scr_tpd, evs_nil, evC_nil, rs_nil, rs_whl, rs_exs', rs_apx', runh_cons, runh_nil, excSub, excAll, clrO_n, clrO_r, endH_0, endH_1, putH_0, putH_1, setSlot_pr, setFz_pr, asg_nm, asg_tup, asg_tpd, asg_lsi, asg_lsd, asgs_nil, asgs_cons, norm_imm, norm_lsi, norm_lsd, norm_tpd, norm_scr, forF_c, lcTurn_c, thenQ_n, thenQ_r, wipe_n, wipe_c, onOwn_c, hasL_c, isi_pr', ise_pr, isExc, isVw, wipeV_go, wipeGo_c, kapOk_c, kapR_n, kapR_c, kapR_a, wipeGo_n, srtset_pr, lenset_pr, lzip_pr, len_pr, tup_pr, tup_pt, tup_pd, tup_pp, lst_pr, lst_ps, lst_pt, lst_pd, lst_pp, int_pi, int_pb, sum_pr, all_pr, any_pr, min_pr, max_pr, lrg_1, lrg_2, trg_1, trg_2, List.cons_append, List.nil_append, Cf.dflt, Cf.cl, rdTag, pim, ofConst, bin_add, bin_sub, bin_mul, bin_fdiv, bin_mod, bin_pow, bin_str, bin_srep, bin_tup, bin_lst, bin_rep, bin_trep, isNil, cmp_eqi, cmp_nei, cmp_lti, cmp_lei, cmp_gti, cmp_gei, cmp_eqs, cmp_nes, cmp_eqb, cmp_neb, atI_c0, atI_c1, atI_c2, cmp_isn, cmp_isnn, cmp_eql, cmp_nel, cmp_eqln, cmp_neln, cmp_eqnn, cmp_nenn, cmp_inl, cmp_ninl, enmD_pims, zipD3_pims, src_r1s, src_r2s, rng_ls, rng_ts, asI_int, asB_bl, lenD, mkL, mkT, allImm, tagsOf, okSt, List.set, List.getElem?_cons_zero, List.getElem?_cons_succ, isiB, tyD, asInts_fn, asInts_map, items_tup, items_lsi, items_lsd, items_scr, zipD_pims, idx_lsi, idx_tup, idx_scr, idx_lsd, idx_tpd, slc_tup, slc_lsi, slc_lsd, slc_tpd, ev_mth', mtOk, mtTy, mth_lix, mth_join, srt_pi, srt_pl, isL, isT, sameK, mutss, muts, okIn, appD, setD, dlen, callD, List.map_cons, List.map_nil, List.length_cons, List.length_nil, List.replicate, Option.map_some, Option.map_none, List.all_nil, List.all_cons, Option.some.injEq, exists_eq_left', List.getD_cons_zero, List.getD_cons_succ, T0, Tag.child, Tag.root, Tag.join, List.isEmpty_nil, sizeLine_eq, ix_s1, ix_s2, s2]
        split
        case' isTrue h => rw [if_pos h] at hw
        case' isFalse h => rw [if_neg h] at hw; split
        case' isFalse.isTrue h => rw [if_pos h] at hw
        case' isFalse.isFalse h => rw [if_neg h] at hw; rw [s3 (by omega)]
        all_goals
          simp only [S_allp, S_onep, S_ofp, S_rp, st_app, st_len]
          rw [textR_s, hw]
          simp
          omega

theorem cell_ev (k : Nat) (ns : List Int) (i : Int) (hns : ns.length ≤ 63) (h0 : 0 ≤ i) (h1 : i ≤ 1000) : ∃ c, Fn dfs X0 (k+1) "_law_cell_at" [.scr ns, .imm (.int i)] = .ok (.imm (.int c), true) := by
  have h : (Fn dfs X0 (k+1) "_law_cell_at" [.scr ns, .imm (.int i)]).sat N0 fun r => ∃ c, r = (.imm (.int c), true) := by
    rw [fn__law_cell_at]
    unfold b__law_cell_at
    refine callD_sat ?_
    simp [-List.map_map, sat_ok, sat_bad, sat_exc, sat_bind, sat_calm, sat_iteb, sat_ite, osat_next, osat_ret, osat_brk, osat_cnt, osat_bad, osat_exc, osat_st, osat_iteb, osat_ite, ev_lit', ev_glob', ev_var', ev_bin', ev_neg', ev_not', ev_and', ev_or', ev_cmp', ev_chain', ev_ife', ev_call', ev_blt', ev_mth', ev_idx', ev_slc', ev_slcL', ev_slcH', ev_slcN', ev_rev', ev_dgk', ev_dgt', ev_fcall', ev_lst', ev_tup', evs_cons', evC_cons', src_ex', src_zip', src_zip3', src_enm', src_rv', rs_asg', rs_unp', rs_ifs', rs_ret', rs_retn', rs_pas', rs_brk', rs_cnt', rs_app', rs_seti', rs_for', rs_pops', rs_rse', rs_ext', rs_clr', rs_kapp', rs_kaps', rs_kself', rs_rel', rs_kclr', ev_dct, imm_ok, scr_imm, scr_lsi, scr_lsd, scr_tpd, evs_nil, evC_nil, rs_nil, rs_whl, rs_exs', rs_apx', runh_cons, runh_nil, excSub, excAll, clrO_n, clrO_r, endH_0, endH_1, putH_0, putH_1, setSlot_pr, setFz_pr, asg_nm, asg_tup, asg_tpd, asg_lsi, asg_lsd, asgs_nil, asgs_cons, norm_imm, norm_lsi, norm_lsd, norm_tpd, norm_scr, forF_c, lcTurn_c, thenQ_n, thenQ_r, wipe_n, wipe_c, onOwn_c, hasL_c, isi_pr', ise_pr, isExc, isVw, wipeV_go, wipeGo_c, kapOk_c, kapR_n, kapR_c, kapR_a, wipeGo_n, srtset_pr, lenset_pr, lzip_pr, len_pr, tup_pr, tup_pt, tup_pd, tup_pp, lst_pr, lst_ps, lst_pt, lst_pd, lst_pp, int_pi, int_pb, sum_pr, all_pr, any_pr, min_pr, max_pr, lrg_1, lrg_2, trg_1, trg_2, List.cons_append, List.nil_append, Cf.dflt, Cf.cl, rdTag, pim, ofConst, bin_add, bin_sub, bin_mul, bin_fdiv, bin_mod, bin_pow, bin_str, bin_srep, bin_tup, bin_lst, bin_rep, bin_trep, isNil, cmp_eqi, cmp_nei, cmp_lti, cmp_lei, cmp_gti, cmp_gei, cmp_eqs, cmp_nes, cmp_eqb, cmp_neb, atI_c0, atI_c1, atI_c2, cmp_isn, cmp_isnn, cmp_eql, cmp_nel, cmp_eqln, cmp_neln, cmp_eqnn, cmp_nenn, cmp_inl, cmp_ninl, enmD_pims, zipD3_pims, src_r1s, src_r2s, rng_ls, rng_ts, asI_int, asB_bl, lenD, mkL, mkT, allImm, tagsOf, okSt, List.set, List.getElem?_cons_zero, List.getElem?_cons_succ, isiB, tyD, asInts_fn, asInts_map, items_tup, items_lsi, items_lsd, items_scr, zipD_pims, idx_lsi, idx_tup, idx_scr, idx_lsd, idx_tpd, slc_tup, slc_lsi, slc_lsd, slc_tpd, ev_mth', mtOk, mtTy, mth_lix, mth_join, srt_pi, srt_pl, isL, isT, sameK, mutss, muts, okIn, appD, setD, dlen, callD, List.map_cons, List.map_nil, List.length_cons, List.length_nil, List.replicate, Option.map_some, Option.map_none, List.all_nil, List.all_cons, Option.some.injEq, exists_eq_left', List.getD_cons_zero, List.getD_cons_succ, T0, Tag.child, Tag.root, Tag.join, List.isEmpty_nil, sizeLine_eq, d__law_cell_at]
    split
    · exact ⟨_, atI_ok h0 (by assumption)⟩
    · split
      · exact ⟨cmul_l (by omega) (by omega), cmul_r (by omega) (by omega), cmul_l (by omega) (by omega)⟩
      · have hn : 0 < ns.length := List.length_pos_iff.mpr (by assumption)
        have l0 : 0 ≤ i % (ns.length : Int) := Int.emod_nonneg _ (by omega)
        have l1 : i % (ns.length : Int) < ns.length := Int.emod_lt_of_pos _ (by omega)
        have d0 : 0 ≤ i / (ns.length : Int) := Int.ediv_nonneg h0 (by omega)
        have d1 : i / (ns.length : Int) ≤ i := Int.ediv_le_self _ h0
        exact ⟨hn, ⟨_, atI_ok l0 l1⟩, ⟨hn, by omega⟩, ⟨by omega, by omega⟩, cmul_l (by omega) (by omega), cmul_r (by omega) (by omega)⟩
  obtain ⟨r, e, p, rfl⟩ := sat_ex h
  exact ⟨p, e⟩
theorem drawn_ev (k : Nat) (ns : List Int) (a p w : Int) (hns : ns.length ≤ 63) (ha : 0 ≤ a) (ha1 : a ≤ 1000) (hp : 1 ≤ p) (hp2 : p ≤ 1000000) (hw : 0 ≤ w) (hw2 : w ≤ 1000) : ∃ l : List Int, (l.length : Int) = w ∧ (∀ z ∈ l, 0 ≤ z ∧ z < p) ∧ Fn dfs X0 (k+1+1) "_law_drawn" [.scr ns, .imm (.int a), .imm (.int p), .imm (.int w)] = .ok (.lsi (l.map .int), true) := by
  obtain ⟨c, ec⟩ := cell_ev k ns a hns ha ha1
  obtain ⟨c0, ec0⟩ := cell_ev k ns 0 hns (by omega) (by omega)
  have h : (Fn dfs X0 (k+1+1) "_law_drawn" [.scr ns, .imm (.int a), .imm (.int p), .imm (.int w)]).sat N0 fun r => ∃ l : List Int, (l.length : Int) = w ∧ (∀ z ∈ l, 0 ≤ z ∧ z < p) ∧ r = (.lsi (l.map .int), true) := by
    rw [fn__law_drawn]
    unfold b__law_drawn
    refine callD_sat ?_
    simp [-List.map_map, sat_ok, sat_bad, sat_exc, sat_bind, sat_calm, sat_iteb, sat_ite, osat_next, osat_ret, osat_brk, osat_cnt, osat_bad, osat_exc, osat_st, osat_iteb, osat_ite, ev_lit', ev_glob', ev_var', ev_bin', ev_neg', ev_not', ev_and', ev_or', ev_cmp', ev_chain', ev_ife', ev_call', ev_blt', ev_mth', ev_idx', ev_slc', ev_slcL', ev_slcH', ev_slcN', ev_rev', ev_dgk', ev_dgt', ev_fcall', ev_lst', ev_tup', evs_cons', evC_cons', src_ex', src_zip', src_zip3', src_enm', src_rv', rs_asg', rs_unp', rs_ifs', rs_ret', rs_retn', rs_pas', rs_brk', rs_cnt', rs_app', rs_seti', rs_for', rs_pops', rs_rse', rs_ext', rs_clr', rs_kapp', rs_kaps', rs_kself', rs_rel', rs_kclr', ev_dct, imm_ok, scr_imm, scr_lsi, scr_lsd, scr_tpd, evs_nil, evC_nil, rs_nil, rs_whl, rs_exs', rs_apx', runh_cons, runh_nil, excSub, excAll, clrO_n, clrO_r, endH_0, endH_1, putH_0, putH_1, setSlot_pr, setFz_pr, asg_nm, asg_tup, asg_tpd, asg_lsi, asg_lsd, asgs_nil, asgs_cons, norm_imm, norm_lsi, norm_lsd, norm_tpd, norm_scr, forF_c, lcTurn_c, thenQ_n, thenQ_r, wipe_n, wipe_c, onOwn_c, hasL_c, isi_pr', ise_pr, isExc, isVw, wipeV_go, wipeGo_c, kapOk_c, kapR_n, kapR_c, kapR_a, wipeGo_n, srtset_pr, lenset_pr, lzip_pr, len_pr, tup_pr, tup_pt, tup_pd, tup_pp, lst_pr, lst_ps, lst_pt, lst_pd, lst_pp, int_pi, int_pb, sum_pr, all_pr, any_pr, min_pr, max_pr, lrg_1, lrg_2, trg_1, trg_2, List.cons_append, List.nil_append, Cf.dflt, Cf.cl, rdTag, pim, ofConst, bin_add, bin_sub, bin_mul, bin_fdiv, bin_mod, bin_pow, bin_str, bin_srep, bin_tup, bin_lst, bin_rep, bin_trep, isNil, cmp_eqi, cmp_nei, cmp_lti, cmp_lei, cmp_gti, cmp_gei, cmp_eqs, cmp_nes, cmp_eqb, cmp_neb, atI_c0, atI_c1, atI_c2, cmp_isn, cmp_isnn, cmp_eql, cmp_nel, cmp_eqln, cmp_neln, cmp_eqnn, cmp_nenn, cmp_inl, cmp_ninl, enmD_pims, zipD3_pims, src_r1s, src_r2s, rng_ls, rng_ts, asI_int, asB_bl, lenD, mkL, mkT, allImm, tagsOf, okSt, List.set, List.getElem?_cons_zero, List.getElem?_cons_succ, isiB, tyD, asInts_fn, asInts_map, items_tup, items_lsi, items_lsd, items_scr, zipD_pims, idx_lsi, idx_tup, idx_scr, idx_lsd, idx_tpd, slc_tup, slc_lsi, slc_lsd, slc_tpd, ev_mth', mtOk, mtTy, mth_lix, mth_join, srt_pi, srt_pl, isL, isT, sameK, mutss, muts, okIn, appD, setD, dlen, callD, List.map_cons, List.map_nil, List.length_cons, List.length_nil, List.replicate, Option.map_some, Option.map_none, List.all_nil, List.all_cons, Option.some.injEq, exists_eq_left', List.getD_cons_zero, List.getD_cons_succ, T0, Tag.child, Tag.root, Tag.join, List.isEmpty_nil, sizeLine_eq, d__law_drawn, ec]
    refine ⟨Rok_of (by omega) (by omega) (by omega) (by omega), forGo_inv (I := fun i ρ => ∃ (c' : Int) (y : Option D) (l : List Int), ρ = [some (.scr ns), some (.imm (.int a)), some (.imm (.int p)), some (.imm (.int w)), some (.imm (.int c')), some (.lsi (l.map .int)), y] ∧ l.length = i ∧ ∀ z ∈ l, 0 ≤ z ∧ z < p) ⟨_, none, [], rfl, rfl, by simp⟩ ?_ ?_⟩
    · rintro i hi _ ⟨c', y, l, rfl, hl, hz⟩
      rw [rangeL_get]
      rw [rangeL_len] at hi
      have nx : ∀ x : Int, ∀ z ∈ l ++ [x % p], 0 ≤ z ∧ z < p := fun x z hz' => by
        rcases List.mem_append.mp hz' with h | h
        · exact hz z h
        · rw [List.mem_singleton.mp h]; exact ⟨Int.emod_nonneg _ (by omega), Int.emod_lt_of_pos _ (by omega)⟩
      simp [-List.map_map, sat_ok, sat_bad, sat_exc, sat_bind, sat_calm, sat_iteb, sat_ite, osat_next, osat_ret, osat_brk, osat_cnt, osat_bad, osat_exc, osat_st, osat_iteb, osat_ite, ev_lit', ev_glob', ev_var', ev_bin', ev_neg', ev_not', ev_and', ev_or', ev_cmp', ev_chain', ev_ife', ev_call', ev_blt', ev_mth', ev_idx', ev_slc', ev_slcL', ev_slcH', ev_slcN', ev_rev', ev_dgk', ev_dgt', ev_fcall', ev_lst', ev_tup', evs_cons', evC_cons', src_ex', src_zip', src_zip3', src_enm', src_rv', rs_asg', rs_unp', rs_ifs', rs_ret', rs_retn', rs_pas', rs_brk', rs_cnt', rs_app', rs_seti', rs_for', rs_pops', rs_rse', rs_ext', rs_clr', rs_kapp', rs_kaps', rs_kself', rs_rel', rs_kclr', ev_dct, imm_ok, scr_imm, scr_lsi, scr_lsd, scr_tpd, evs_nil, evC_nil, rs_nil, rs_whl, rs_exs', rs_apx', runh_cons, runh_nil, excSub, excAll, clrO_n, clrO_r, endH_0, endH_1, putH_0, putH_1, setSlot_pr, setFz_pr, asg_nm, asg_tup, asg_tpd, asg_lsi, asg_lsd, asgs_nil, asgs_cons, norm_imm, norm_lsi, norm_lsd, norm_tpd, norm_scr, forF_c, lcTurn_c, thenQ_n, thenQ_r, wipe_n, wipe_c, onOwn_c, hasL_c, isi_pr', ise_pr, isExc, isVw, wipeV_go, wipeGo_c, kapOk_c, kapR_n, kapR_c, kapR_a, wipeGo_n, srtset_pr, lenset_pr, lzip_pr, len_pr, tup_pr, tup_pt, tup_pd, tup_pp, lst_pr, lst_ps, lst_pt, lst_pd, lst_pp, int_pi, int_pb, sum_pr, all_pr, any_pr, min_pr, max_pr, lrg_1, lrg_2, trg_1, trg_2, List.cons_append, List.nil_append, Cf.dflt, Cf.cl, rdTag, pim, ofConst, bin_add, bin_sub, bin_mul, bin_fdiv, bin_mod, bin_pow, bin_str, bin_srep, bin_tup, bin_lst, bin_rep, bin_trep, isNil, cmp_eqi, cmp_nei, cmp_lti, cmp_lei, cmp_gti, cmp_gei, cmp_eqs, cmp_nes, cmp_eqb, cmp_neb, atI_c0, atI_c1, atI_c2, cmp_isn, cmp_isnn, cmp_eql, cmp_nel, cmp_eqln, cmp_neln, cmp_eqnn, cmp_nenn, cmp_inl, cmp_ninl, enmD_pims, zipD3_pims, src_r1s, src_r2s, rng_ls, rng_ts, asI_int, asB_bl, lenD, mkL, mkT, allImm, tagsOf, okSt, List.set, List.getElem?_cons_zero, List.getElem?_cons_succ, isiB, tyD, asInts_fn, asInts_map, items_tup, items_lsi, items_lsd, items_scr, zipD_pims, idx_lsi, idx_tup, idx_scr, idx_lsd, idx_tpd, slc_tup, slc_lsi, slc_lsd, slc_tpd, ev_mth', mtOk, mtTy, mth_lix, mth_join, srt_pi, srt_pl, isL, isT, sameK, mutss, muts, okIn, appD, setD, dlen, callD, List.map_cons, List.map_nil, List.length_cons, List.length_nil, List.replicate, Option.map_some, Option.map_none, List.all_nil, List.all_cons, Option.some.injEq, exists_eq_left', List.getD_cons_zero, List.getD_cons_succ, T0, Tag.child, Tag.root, Tag.join, List.isEmpty_nil, sizeLine_eq, ec0]
      split
      · exact ⟨by omega, by omega, by omega, _, _, l ++ [c' % p], ⟨rfl, by simp, rfl⟩, by simp [hl], nx _⟩
      · exact ⟨cmul_r (by omega) (by omega), cmul_r (by omega) (by omega), cmul_r (by omega) (by omega), by omega, by omega, _, _, l ++ [_], ⟨rfl, by rw [List.map_append]; rfl, rfl⟩, by simp [hl], nx _⟩
    · rintro _ ⟨c', y, l, rfl, hl, hz⟩
      rw [rangeL_len] at hl
      simp [-List.map_map, sat_ok, sat_bad, sat_exc, sat_bind, sat_calm, sat_iteb, sat_ite, osat_next, osat_ret, osat_brk, osat_cnt, osat_bad, osat_exc, osat_st, osat_iteb, osat_ite, ev_lit', ev_glob', ev_var', ev_bin', ev_neg', ev_not', ev_and', ev_or', ev_cmp', ev_chain', ev_ife', ev_call', ev_blt', ev_mth', ev_idx', ev_slc', ev_slcL', ev_slcH', ev_slcN', ev_rev', ev_dgk', ev_dgt', ev_fcall', ev_lst', ev_tup', evs_cons', evC_cons', src_ex', src_zip', src_zip3', src_enm', src_rv', rs_asg', rs_unp', rs_ifs', rs_ret', rs_retn', rs_pas', rs_brk', rs_cnt', rs_app', rs_seti', rs_for', rs_pops', rs_rse', rs_ext', rs_clr', rs_kapp', rs_kaps', rs_kself', rs_rel', rs_kclr', ev_dct, imm_ok, scr_imm, scr_lsi, scr_lsd, scr_tpd, evs_nil, evC_nil, rs_nil, rs_whl, rs_exs', rs_apx', runh_cons, runh_nil, excSub, excAll, clrO_n, clrO_r, endH_0, endH_1, putH_0, putH_1, setSlot_pr, setFz_pr, asg_nm, asg_tup, asg_tpd, asg_lsi, asg_lsd, asgs_nil, asgs_cons, norm_imm, norm_lsi, norm_lsd, norm_tpd, norm_scr, forF_c, lcTurn_c, thenQ_n, thenQ_r, wipe_n, wipe_c, onOwn_c, hasL_c, isi_pr', ise_pr, isExc, isVw, wipeV_go, wipeGo_c, kapOk_c, kapR_n, kapR_c, kapR_a, wipeGo_n, srtset_pr, lenset_pr, lzip_pr, len_pr, tup_pr, tup_pt, tup_pd, tup_pp, lst_pr, lst_ps, lst_pt, lst_pd, lst_pp, int_pi, int_pb, sum_pr, all_pr, any_pr, min_pr, max_pr, lrg_1, lrg_2, trg_1, trg_2, List.cons_append, List.nil_append, Cf.dflt, Cf.cl, rdTag, pim, ofConst, bin_add, bin_sub, bin_mul, bin_fdiv, bin_mod, bin_pow, bin_str, bin_srep, bin_tup, bin_lst, bin_rep, bin_trep, isNil, cmp_eqi, cmp_nei, cmp_lti, cmp_lei, cmp_gti, cmp_gei, cmp_eqs, cmp_nes, cmp_eqb, cmp_neb, atI_c0, atI_c1, atI_c2, cmp_isn, cmp_isnn, cmp_eql, cmp_nel, cmp_eqln, cmp_neln, cmp_eqnn, cmp_nenn, cmp_inl, cmp_ninl, enmD_pims, zipD3_pims, src_r1s, src_r2s, rng_ls, rng_ts, asI_int, asB_bl, lenD, mkL, mkT, allImm, tagsOf, okSt, List.set, List.getElem?_cons_zero, List.getElem?_cons_succ, isiB, tyD, asInts_fn, asInts_map, items_tup, items_lsi, items_lsd, items_scr, zipD_pims, idx_lsi, idx_tup, idx_scr, idx_lsd, idx_tpd, slc_tup, slc_lsi, slc_lsd, slc_tpd, ev_mth', mtOk, mtTy, mth_lix, mth_join, srt_pi, srt_pl, isL, isT, sameK, mutss, muts, okIn, appD, setD, dlen, callD, List.map_cons, List.map_nil, List.length_cons, List.length_nil, List.replicate, Option.map_some, Option.map_none, List.all_nil, List.all_cons, Option.some.injEq, exists_eq_left', List.getD_cons_zero, List.getD_cons_succ, T0, Tag.child, Tag.root, Tag.join, List.isEmpty_nil, sizeLine_eq]
      exact ⟨l, by omega, hz, rfl⟩
  obtain ⟨r, e, p, h1, h2, rfl⟩ := sat_ex h
  exact ⟨p, h1, h2, e⟩

theorem bin_shr {i j : Int} {s t : Tag} {Ex : String → Prop} {Q : DT → Prop} : (binD .RShift (.imm (.int i), s) (.imm (.int j), t)).sat Ex Q ↔ 0 ≤ j ∧ Q (pim (.int (i / 2 ^ j.toNat))) := by
  show ((if 0 ≤ j then M.ok (I.int (i / 2 ^ j.toNat)) else .bad).bind fun z => .ok (pim z)).sat Ex Q ↔ _
  by_cases h : 0 ≤ j
  · rw [if_pos h]; exact ⟨fun q => ⟨h, q⟩, fun q => q.2⟩
  · rw [if_neg h]; exact ⟨fun q => q.elim, fun q => h q.1⟩
theorem bin_and {i j : Int} {s t : Tag} {Ex : String → Prop} {Q : DT → Prop} : (binD .BitAnd (.imm (.int i), s) (.imm (.int j), t)).sat Ex Q = Q (pim (.int (Builtin.bitAnd i j))) := (rfl)

theorem fits_ev (H : List Int) : ∀ (d k : Nat) (r : I), RuOk d r → Fn dfs X0 (k+d+1) "fits" [.imm r, .lsi (H.map .int)] = .ok (.imm (.bl (fitsR d r H)), true)
  | 0, k, r, h => by
    obtain ⟨x, h0, h1, rfl⟩ := h
    refine sat_eq ?_
    rw [fn_fits]
    unfold b_fits
    refine callD_sat ?_
    simp [-List.map_map, sat_ok, sat_bad, sat_exc, sat_bind, sat_calm, sat_iteb, sat_ite, osat_next, osat_ret, osat_brk, osat_cnt, osat_bad, osat_exc, osat_st, osat_iteb, osat_ite, ev_lit', ev_glob', ev_var', ev_bin', ev_neg', ev_not', ev_and', ev_or', ev_cmp', ev_chain', ev_ife', ev_call', ev_blt', ev_mth', ev_idx', ev_slc', ev_slcL', ev_slcH', ev_slcN', ev_rev', ev_dgk', ev_dgt', ev_fcall', ev_lst', ev_tup', evs_cons', evC_cons', src_ex', src_zip', src_zip3', src_enm', src_rv', rs_asg', rs_unp', rs_ifs', rs_ret', rs_retn', rs_pas', rs_brk', rs_cnt', rs_app', rs_seti', rs_for', rs_pops', rs_rse', rs_ext', rs_clr', rs_kapp', rs_kaps', rs_kself', rs_rel', rs_kclr', ev_dct, imm_ok, scr_imm, scr_lsi, scr_lsd, scr_tpd, evs_nil, evC_nil, rs_nil, rs_whl, rs_exs', rs_apx', runh_cons, runh_nil, excSub, excAll, clrO_n, clrO_r, endH_0, endH_1, putH_0, putH_1, setSlot_pr, setFz_pr, asg_nm, asg_tup, asg_tpd, asg_lsi, asg_lsd, asgs_nil, asgs_cons, norm_imm, norm_lsi, norm_lsd, norm_tpd, norm_scr, forF_c, lcTurn_c, thenQ_n, thenQ_r, wipe_n, wipe_c, onOwn_c, hasL_c, isi_pr', ise_pr, isExc, isVw, wipeV_go, wipeGo_c, kapOk_c, kapR_n, kapR_c, kapR_a, wipeGo_n, srtset_pr, lenset_pr, lzip_pr, len_pr, tup_pr, tup_pt, tup_pd, tup_pp, lst_pr, lst_ps, lst_pt, lst_pd, lst_pp, int_pi, int_pb, sum_pr, all_pr, any_pr, min_pr, max_pr, lrg_1, lrg_2, trg_1, trg_2, List.cons_append, List.nil_append, Cf.dflt, Cf.cl, rdTag, pim, ofConst, bin_add, bin_sub, bin_mul, bin_fdiv, bin_mod, bin_pow, bin_str, bin_srep, bin_tup, bin_lst, bin_rep, bin_trep, isNil, cmp_eqi, cmp_nei, cmp_lti, cmp_lei, cmp_gti, cmp_gei, cmp_eqs, cmp_nes, cmp_eqb, cmp_neb, atI_c0, atI_c1, atI_c2, cmp_isn, cmp_isnn, cmp_eql, cmp_nel, cmp_eqln, cmp_neln, cmp_eqnn, cmp_nenn, cmp_inl, cmp_ninl, enmD_pims, zipD3_pims, src_r1s, src_r2s, rng_ls, rng_ts, asI_int, asB_bl, lenD, mkL, mkT, allImm, tagsOf, okSt, List.set, List.getElem?_cons_zero, List.getElem?_cons_succ, isiB, tyD, asInts_fn, asInts_map, items_tup, items_lsi, items_lsd, items_scr, zipD_pims, idx_lsi, idx_tup, idx_scr, idx_lsd, idx_tpd, slc_tup, slc_lsi, slc_lsd, slc_tpd, ev_mth', mtOk, mtTy, mth_lix, mth_join, srt_pi, srt_pl, isL, isT, sameK, mutss, muts, okIn, appD, setD, dlen, callD, List.map_cons, List.map_nil, List.length_cons, List.length_nil, List.replicate, Option.map_some, Option.map_none, List.all_nil, List.all_cons, Option.some.injEq, exists_eq_left', List.getD_cons_zero, List.getD_cons_succ, T0, Tag.child, Tag.root, Tag.join, List.isEmpty_nil, sizeLine_eq, d_fits, ix_h0, ix_h1, fitsR_h]
  | d + 1, k, r, h => by
    rcases h with ⟨x, h0, h1, rfl⟩ | ⟨c, rs, rfl, k1, k2, k3, ha⟩
    · refine sat_eq ?_
      rw [fn_fits]
      unfold b_fits
      refine callD_sat ?_
      simp [-List.map_map, sat_ok, sat_bad, sat_exc, sat_bind, sat_calm, sat_iteb, sat_ite, osat_next, osat_ret, osat_brk, osat_cnt, osat_bad, osat_exc, osat_st, osat_iteb, osat_ite, ev_lit', ev_glob', ev_var', ev_bin', ev_neg', ev_not', ev_and', ev_or', ev_cmp', ev_chain', ev_ife', ev_call', ev_blt', ev_mth', ev_idx', ev_slc', ev_slcL', ev_slcH', ev_slcN', ev_rev', ev_dgk', ev_dgt', ev_fcall', ev_lst', ev_tup', evs_cons', evC_cons', src_ex', src_zip', src_zip3', src_enm', src_rv', rs_asg', rs_unp', rs_ifs', rs_ret', rs_retn', rs_pas', rs_brk', rs_cnt', rs_app', rs_seti', rs_for', rs_pops', rs_rse', rs_ext', rs_clr', rs_kapp', rs_kaps', rs_kself', rs_rel', rs_kclr', ev_dct, imm_ok, scr_imm, scr_lsi, scr_lsd, scr_tpd, evs_nil, evC_nil, rs_nil, rs_whl, rs_exs', rs_apx', runh_cons, runh_nil, excSub, excAll, clrO_n, clrO_r, endH_0, endH_1, putH_0, putH_1, setSlot_pr, setFz_pr, asg_nm, asg_tup, asg_tpd, asg_lsi, asg_lsd, asgs_nil, asgs_cons, norm_imm, norm_lsi, norm_lsd, norm_tpd, norm_scr, forF_c, lcTurn_c, thenQ_n, thenQ_r, wipe_n, wipe_c, onOwn_c, hasL_c, isi_pr', ise_pr, isExc, isVw, wipeV_go, wipeGo_c, kapOk_c, kapR_n, kapR_c, kapR_a, wipeGo_n, srtset_pr, lenset_pr, lzip_pr, len_pr, tup_pr, tup_pt, tup_pd, tup_pp, lst_pr, lst_ps, lst_pt, lst_pd, lst_pp, int_pi, int_pb, sum_pr, all_pr, any_pr, min_pr, max_pr, lrg_1, lrg_2, trg_1, trg_2, List.cons_append, List.nil_append, Cf.dflt, Cf.cl, rdTag, pim, ofConst, bin_add, bin_sub, bin_mul, bin_fdiv, bin_mod, bin_pow, bin_str, bin_srep, bin_tup, bin_lst, bin_rep, bin_trep, isNil, cmp_eqi, cmp_nei, cmp_lti, cmp_lei, cmp_gti, cmp_gei, cmp_eqs, cmp_nes, cmp_eqb, cmp_neb, atI_c0, atI_c1, atI_c2, cmp_isn, cmp_isnn, cmp_eql, cmp_nel, cmp_eqln, cmp_neln, cmp_eqnn, cmp_nenn, cmp_inl, cmp_ninl, enmD_pims, zipD3_pims, src_r1s, src_r2s, rng_ls, rng_ts, asI_int, asB_bl, lenD, mkL, mkT, allImm, tagsOf, okSt, List.set, List.getElem?_cons_zero, List.getElem?_cons_succ, isiB, tyD, asInts_fn, asInts_map, items_tup, items_lsi, items_lsd, items_scr, zipD_pims, idx_lsi, idx_tup, idx_scr, idx_lsd, idx_tpd, slc_tup, slc_lsi, slc_lsd, slc_tpd, ev_mth', mtOk, mtTy, mth_lix, mth_join, srt_pi, srt_pl, isL, isT, sameK, mutss, muts, okIn, appD, setD, dlen, callD, List.map_cons, List.map_nil, List.length_cons, List.length_nil, List.replicate, Option.map_some, Option.map_none, List.all_nil, List.all_cons, Option.some.injEq, exists_eq_left', List.getD_cons_zero, List.getD_cons_succ, T0, Tag.child, Tag.root, Tag.join, List.isEmpty_nil, sizeLine_eq, d_fits, ix_h0, ix_h1, fitsR_h]
    · have ih : ∀ r ∈ rs, Fn dfs X0 (k + (d + 1)) "fits" [.imm r, .lsi (H.map .int)] = .ok (.imm (.bl (fitsR d r H)), true) := fun r hr => fits_ev H d k r (ha r hr)
      refine sat_eq ?_
      rw [fn_fits]
      unfold b_fits
      refine callD_sat ?_
      simp [-List.map_map, sat_ok, sat_bad, sat_exc, sat_bind, sat_calm, sat_iteb, sat_ite, osat_next, osat_ret, osat_brk, osat_cnt, osat_bad, osat_exc, osat_st, osat_iteb, osat_ite, ev_lit', ev_glob', ev_var', ev_bin', ev_neg', ev_not', ev_and', ev_or', ev_cmp', ev_chain', ev_ife', ev_call', ev_blt', ev_mth', ev_idx', ev_slc', ev_slcL', ev_slcH', ev_slcN', ev_rev', ev_dgk', ev_dgt', ev_fcall', ev_lst', ev_tup', evs_cons', evC_cons', src_ex', src_zip', src_zip3', src_enm', src_rv', rs_asg', rs_unp', rs_ifs', rs_ret', rs_retn', rs_pas', rs_brk', rs_cnt', rs_app', rs_seti', rs_for', rs_pops', rs_rse', rs_ext', rs_clr', rs_kapp', rs_kaps', rs_kself', rs_rel', rs_kclr', ev_dct, imm_ok, scr_imm, scr_lsi, scr_lsd, scr_tpd, evs_nil, evC_nil, rs_nil, rs_whl, rs_exs', rs_apx', runh_cons, runh_nil, excSub, excAll, clrO_n, clrO_r, endH_0, endH_1, putH_0, putH_1, setSlot_pr, setFz_pr, asg_nm, asg_tup, asg_tpd, asg_lsi, asg_lsd, asgs_nil, asgs_cons, norm_imm, norm_lsi, norm_lsd, norm_tpd, norm_scr, forF_c, lcTurn_c, thenQ_n, thenQ_r, wipe_n, wipe_c, onOwn_c, hasL_c, isi_pr', ise_pr, isExc, isVw, wipeV_go, wipeGo_c, kapOk_c, kapR_n, kapR_c, kapR_a, wipeGo_n, srtset_pr, lenset_pr, lzip_pr, len_pr, tup_pr, tup_pt, tup_pd, tup_pp, lst_pr, lst_ps, lst_pt, lst_pd, lst_pp, int_pi, int_pb, sum_pr, all_pr, any_pr, min_pr, max_pr, lrg_1, lrg_2, trg_1, trg_2, List.cons_append, List.nil_append, Cf.dflt, Cf.cl, rdTag, pim, ofConst, bin_add, bin_sub, bin_mul, bin_fdiv, bin_mod, bin_pow, bin_str, bin_srep, bin_tup, bin_lst, bin_rep, bin_trep, isNil, cmp_eqi, cmp_nei, cmp_lti, cmp_lei, cmp_gti, cmp_gei, cmp_eqs, cmp_nes, cmp_eqb, cmp_neb, atI_c0, atI_c1, atI_c2, cmp_isn, cmp_isnn, cmp_eql, cmp_nel, cmp_eqln, cmp_neln, cmp_eqnn, cmp_nenn, cmp_inl, cmp_ninl, enmD_pims, zipD3_pims, src_r1s, src_r2s, rng_ls, rng_ts, asI_int, asB_bl, lenD, mkL, mkT, allImm, tagsOf, okSt, List.set, List.getElem?_cons_zero, List.getElem?_cons_succ, isiB, tyD, asInts_fn, asInts_map, items_tup, items_lsi, items_lsd, items_scr, zipD_pims, idx_lsi, idx_tup, idx_scr, idx_lsd, idx_tpd, slc_tup, slc_lsi, slc_lsd, slc_tpd, ev_mth', mtOk, mtTy, mth_lix, mth_join, srt_pi, srt_pl, isL, isT, sameK, mutss, muts, okIn, appD, setD, dlen, callD, List.map_cons, List.map_nil, List.length_cons, List.length_nil, List.replicate, Option.map_some, Option.map_none, List.all_nil, List.all_cons, Option.some.injEq, exists_eq_left', List.getD_cons_zero, List.getD_cons_succ, T0, Tag.child, Tag.root, Tag.join, List.isEmpty_nil, sizeLine_eq, d_fits, ix_s0, ix_s1, ix_s2, strHS]
      refine ev_lcf rs (fun r => pim r) (fun r => fitsR d r H) (fun r => r) ?_ (fun r hr => ?_) ?_
      · simp [-List.map_map, sat_ok, sat_bad, sat_exc, sat_bind, sat_calm, sat_iteb, sat_ite, osat_next, osat_ret, osat_brk, osat_cnt, osat_bad, osat_exc, osat_st, osat_iteb, osat_ite, ev_lit', ev_glob', ev_var', ev_bin', ev_neg', ev_not', ev_and', ev_or', ev_cmp', ev_chain', ev_ife', ev_call', ev_blt', ev_mth', ev_idx', ev_slc', ev_slcL', ev_slcH', ev_slcN', ev_rev', ev_dgk', ev_dgt', ev_fcall', ev_lst', ev_tup', evs_cons', evC_cons', src_ex', src_zip', src_zip3', src_enm', src_rv', rs_asg', rs_unp', rs_ifs', rs_ret', rs_retn', rs_pas', rs_brk', rs_cnt', rs_app', rs_seti', rs_for', rs_pops', rs_rse', rs_ext', rs_clr', rs_kapp', rs_kaps', rs_kself', rs_rel', rs_kclr', ev_dct, imm_ok, scr_imm, scr_lsi, scr_lsd, scr_tpd, evs_nil, evC_nil, rs_nil, rs_whl, rs_exs', rs_apx', runh_cons, runh_nil, excSub, excAll, clrO_n, clrO_r, endH_0, endH_1, putH_0, putH_1, setSlot_pr, setFz_pr, asg_nm, asg_tup, asg_tpd, asg_lsi, asg_lsd, asgs_nil, asgs_cons, norm_imm, norm_lsi, norm_lsd, norm_tpd, norm_scr, forF_c, lcTurn_c, thenQ_n, thenQ_r, wipe_n, wipe_c, onOwn_c, hasL_c, isi_pr', ise_pr, isExc, isVw, wipeV_go, wipeGo_c, kapOk_c, kapR_n, kapR_c, kapR_a, wipeGo_n, srtset_pr, lenset_pr, lzip_pr, len_pr, tup_pr, tup_pt, tup_pd, tup_pp, lst_pr, lst_ps, lst_pt, lst_pd, lst_pp, int_pi, int_pb, sum_pr, all_pr, any_pr, min_pr, max_pr, lrg_1, lrg_2, trg_1, trg_2, List.cons_append, List.nil_append, Cf.dflt, Cf.cl, rdTag, pim, ofConst, bin_add, bin_sub, bin_mul, bin_fdiv, bin_mod, bin_pow, bin_str, bin_srep, bin_tup, bin_lst, bin_rep, bin_trep, isNil, cmp_eqi, cmp_nei, cmp_lti, cmp_lei, cmp_gti, cmp_gei, cmp_eqs, cmp_nes, cmp_eqb, cmp_neb, atI_c0, atI_c1, atI_c2, cmp_isn, cmp_isnn, cmp_eql, cmp_nel, cmp_eqln, cmp_neln, cmp_eqnn, cmp_nenn, cmp_inl, cmp_ninl, enmD_pims, zipD3_pims, src_r1s, src_r2s, rng_ls, rng_ts, asI_int, asB_bl, lenD, mkL, mkT, allImm, tagsOf, okSt, List.set, List.getElem?_cons_zero, List.getElem?_cons_succ, isiB, tyD, asInts_fn, asInts_map, items_tup, items_lsi, items_lsd, items_scr, zipD_pims, idx_lsi, idx_tup, idx_scr, idx_lsd, idx_tpd, slc_tup, slc_lsi, slc_lsd, slc_tpd, ev_mth', mtOk, mtTy, mth_lix, mth_join, srt_pi, srt_pl, isL, isT, sameK, mutss, muts, okIn, appD, setD, dlen, callD, List.map_cons, List.map_nil, List.length_cons, List.length_nil, List.replicate, Option.map_some, Option.map_none, List.all_nil, List.all_cons, Option.some.injEq, exists_eq_left', List.getD_cons_zero, List.getD_cons_succ, T0, Tag.child, Tag.root, Tag.join, List.isEmpty_nil, sizeLine_eq, ix_s2]
        try rfl
      · have e := ih r hr
        simp [-List.map_map, sat_ok, sat_bad, sat_exc, sat_bind, sat_calm, sat_iteb, sat_ite, osat_next, osat_ret, osat_brk, osat_cnt, osat_bad, osat_exc, osat_st, osat_iteb, osat_ite, ev_lit', ev_glob', ev_var', ev_bin', ev_neg', ev_not', ev_and', ev_or', ev_cmp', ev_chain', ev_ife', ev_call', ev_blt', ev_mth', ev_idx', ev_slc', ev_slcL', ev_slcH', ev_slcN', ev_rev', ev_dgk', ev_dgt', ev_fcall', ev_lst', ev_tup', evs_cons', evC_cons', src_ex', src_zip', src_zip3', src_enm', src_rv', rs_asg', rs_unp', rs_ifs', rs_ret', rs_retn', rs_pas', rs_brk', rs_cnt', rs_app', rs_seti', rs_for', rs_pops', rs_rse', rs_ext', rs_clr', rs_kapp', rs_kaps', rs_kself', rs_rel', rs_kclr', ev_dct, imm_ok, scr_imm, scr_lsi, scr_lsd, scr_tpd, evs_nil, evC_nil, rs_nil, rs_whl, rs_exs', rs_apx', runh_cons, runh_nil, excSub, excAll, clrO_n, clrO_r, endH_0, endH_1, putH_0, putH_1, setSlot_pr, setFz_pr, asg_nm, asg_tup, asg_tpd, asg_lsi, asg_lsd, asgs_nil, asgs_cons, norm_imm, norm_lsi, norm_lsd, norm_tpd, norm_scr, forF_c, lcTurn_c, thenQ_n, thenQ_r, wipe_n, wipe_c, onOwn_c, hasL_c, isi_pr', ise_pr, isExc, isVw, wipeV_go, wipeGo_c, kapOk_c, kapR_n, kapR_c, kapR_a, wipeGo_n, srtset_pr, lenset_pr, lzip_pr, len_pr, tup_pr, tup_pt, tup_pd, tup_pp, lst_pr, lst_ps, lst_pt, lst_pd, lst_pp, int_pi, int_pb, sum_pr, all_pr, any_pr, min_pr, max_pr, lrg_1, lrg_2, trg_1, trg_2, List.cons_append, List.nil_append, Cf.dflt, Cf.cl, rdTag, pim, ofConst, bin_add, bin_sub, bin_mul, bin_fdiv, bin_mod, bin_pow, bin_str, bin_srep, bin_tup, bin_lst, bin_rep, bin_trep, isNil, cmp_eqi, cmp_nei, cmp_lti, cmp_lei, cmp_gti, cmp_gei, cmp_eqs, cmp_nes, cmp_eqb, cmp_neb, atI_c0, atI_c1, atI_c2, cmp_isn, cmp_isnn, cmp_eql, cmp_nel, cmp_eqln, cmp_neln, cmp_eqnn, cmp_nenn, cmp_inl, cmp_ninl, enmD_pims, zipD3_pims, src_r1s, src_r2s, rng_ls, rng_ts, asI_int, asB_bl, lenD, mkL, mkT, allImm, tagsOf, okSt, List.set, List.getElem?_cons_zero, List.getElem?_cons_succ, isiB, tyD, asInts_fn, asInts_map, items_tup, items_lsi, items_lsd, items_scr, zipD_pims, idx_lsi, idx_tup, idx_scr, idx_lsd, idx_tpd, slc_tup, slc_lsi, slc_lsd, slc_tpd, ev_mth', mtOk, mtTy, mth_lix, mth_join, srt_pi, srt_pl, isL, isT, sameK, mutss, muts, okIn, appD, setD, dlen, callD, List.map_cons, List.map_nil, List.length_cons, List.length_nil, List.replicate, Option.map_some, Option.map_none, List.all_nil, List.all_cons, Option.some.injEq, exists_eq_left', List.getD_cons_zero, List.getD_cons_succ, T0, Tag.child, Tag.root, Tag.join, List.isEmpty_nil, sizeLine_eq, e]
      · simp [-List.map_map, sat_ok, sat_bad, sat_exc, sat_bind, sat_calm, sat_iteb, sat_ite, osat_next, osat_ret, osat_brk, osat_cnt, osat_bad, osat_exc, osat_st, osat_iteb, osat_ite, ev_lit', ev_glob', ev_var', ev_bin', ev_neg', ev_not', ev_and', ev_or', ev_cmp', ev_chain', ev_ife', ev_call', ev_blt', ev_mth', ev_idx', ev_slc', ev_slcL', ev_slcH', ev_slcN', ev_rev', ev_dgk', ev_dgt', ev_fcall', ev_lst', ev_tup', evs_cons', evC_cons', src_ex', src_zip', src_zip3', src_enm', src_rv', rs_asg', rs_unp', rs_ifs', rs_ret', rs_retn', rs_pas', rs_brk', rs_cnt', rs_app', rs_seti', rs_for', rs_pops', rs_rse', rs_ext', rs_clr', rs_kapp', rs_kaps', rs_kself', rs_rel', rs_kclr', ev_dct, imm_ok, scr_imm, scr_lsi, scr_lsd, scr_tpd, evs_nil, evC_nil, rs_nil, rs_whl, rs_exs', rs_apx', runh_cons, runh_nil, excSub, excAll, clrO_n, clrO_r, endH_0, endH_1, putH_0, putH_1, setSlot_pr, setFz_pr, asg_nm, asg_tup, asg_tpd, asg_lsi, asg_lsd, asgs_nil, asgs_cons, norm_imm, norm_lsi, norm_lsd, norm_tpd, norm_scr, forF_c, lcTurn_c, thenQ_n, thenQ_r, wipe_n, wipe_c, onOwn_c, hasL_c, isi_pr', ise_pr, isExc, isVw, wipeV_go, wipeGo_c, kapOk_c, kapR_n, kapR_c, kapR_a, wipeGo_n, srtset_pr, lenset_pr, lzip_pr, len_pr, tup_pr, tup_pt, tup_pd, tup_pp, lst_pr, lst_ps, lst_pt, lst_pd, lst_pp, int_pi, int_pb, sum_pr, all_pr, any_pr, min_pr, max_pr, lrg_1, lrg_2, trg_1, trg_2, List.cons_append, List.nil_append, Cf.dflt, Cf.cl, rdTag, pim, ofConst, bin_add, bin_sub, bin_mul, bin_fdiv, bin_mod, bin_pow, bin_str, bin_srep, bin_tup, bin_lst, bin_rep, bin_trep, isNil, cmp_eqi, cmp_nei, cmp_lti, cmp_lei, cmp_gti, cmp_gei, cmp_eqs, cmp_nes, cmp_eqb, cmp_neb, atI_c0, atI_c1, atI_c2, cmp_isn, cmp_isnn, cmp_eql, cmp_nel, cmp_eqln, cmp_neln, cmp_eqnn, cmp_nenn, cmp_inl, cmp_ninl, enmD_pims, zipD3_pims, src_r1s, src_r2s, rng_ls, rng_ts, asI_int, asB_bl, lenD, mkL, mkT, allImm, tagsOf, okSt, List.set, List.getElem?_cons_zero, List.getElem?_cons_succ, isiB, tyD, asInts_fn, asInts_map, items_tup, items_lsi, items_lsd, items_scr, zipD_pims, idx_lsi, idx_tup, idx_scr, idx_lsd, idx_tpd, slc_tup, slc_lsi, slc_lsd, slc_tpd, ev_mth', mtOk, mtTy, mth_lix, mth_join, srt_pi, srt_pl, isL, isT, sameK, mutss, muts, okIn, appD, setD, dlen, callD, List.map_cons, List.map_nil, List.length_cons, List.length_nil, List.replicate, Option.map_some, Option.map_none, List.all_nil, List.all_cons, Option.some.injEq, exists_eq_left', List.getD_cons_zero, List.getD_cons_succ, T0, Tag.child, Tag.root, Tag.join, List.isEmpty_nil, sizeLine_eq, ix_s1]
        rfl

end Lk14

open PySem PySem.Spec L2 Iv Nm
namespace Lk14
theorem lhands_ev (k : Nat) (b : Int) : Fn dfs X0 (k+1) "_law_hands" [.imm (.int b)] = .ok (.lsi ((handsB b).map .int), true) := by
  refine sat_eq ?_
  rw [fn__law_hands]
  unfold b__law_hands
  refine callD_sat ?_
  simp [-List.map_map, sat_ok, sat_bad, sat_exc, sat_bind, sat_calm, sat_iteb, sat_ite, osat_next, osat_ret, osat_brk, osat_cnt, osat_bad, osat_exc, osat_st, osat_iteb, osat_ite, ev_lit', ev_glob', ev_var', ev_bin', ev_neg', ev_not', ev_and', ev_or', ev_cmp', ev_chain', ev_ife', ev_call', ev_blt', ev_mth', ev_idx', ev_slc', ev_slcL', ev_slcH', ev_slcN', ev_rev', ev_dgk', ev_dgt', ev_fcall', ev_lst', ev_tup', evs_cons', evC_cons', src_ex', src_zip', src_zip3', src_enm', src_rv', rs_asg', rs_unp', rs_ifs', rs_ret', rs_retn', rs_pas', rs_brk', rs_cnt', rs_app', rs_seti', rs_for', rs_pops', rs_rse', rs_ext', rs_clr', rs_kapp', rs_kaps', rs_kself', rs_rel', rs_kclr', ev_dct, imm_ok, scr_imm, scr_lsi, scr_lsd, scr_tpd, evs_nil, evC_nil, rs_nil, rs_whl, rs_exs', rs_apx', runh_cons, runh_nil, excSub, excAll, clrO_n, clrO_r, endH_0, endH_1, putH_0, putH_1, setSlot_pr, setFz_pr, asg_nm, asg_tup, asg_tpd, asg_lsi, asg_lsd, asgs_nil, asgs_cons, norm_imm, norm_lsi, norm_lsd, norm_tpd, norm_scr, forF_c, lcTurn_c, thenQ_n, thenQ_r, wipe_n, wipe_c, onOwn_c, hasL_c, isi_pr', ise_pr, isExc, isVw, wipeV_go, wipeGo_c, kapOk_c, kapR_n, kapR_c, kapR_a, wipeGo_n, srtset_pr, lenset_pr, lzip_pr, len_pr, tup_pr, tup_pt, tup_pd, tup_pp, lst_pr, lst_ps, lst_pt, lst_pd, lst_pp, int_pi, int_pb, sum_pr, all_pr, any_pr, min_pr, max_pr, lrg_1, lrg_2, trg_1, trg_2, List.cons_append, List.nil_append, Cf.dflt, Cf.cl, rdTag, pim, ofConst, bin_add, bin_sub, bin_mul, bin_fdiv, bin_mod, bin_pow, bin_str, bin_srep, bin_tup, bin_lst, bin_rep, bin_trep, isNil, cmp_eqi, cmp_nei, cmp_lti, cmp_lei, cmp_gti, cmp_gei, cmp_eqs, cmp_nes, cmp_eqb, cmp_neb, atI_c0, atI_c1, atI_c2, cmp_isn, cmp_isnn, cmp_eql, cmp_nel, cmp_eqln, cmp_neln, cmp_eqnn, cmp_nenn, cmp_inl, cmp_ninl, enmD_pims, zipD3_pims, src_r1s, src_r2s, rng_ls, rng_ts, asI_int, asB_bl, lenD, mkL, mkT, allImm, tagsOf, okSt, List.set, List.getElem?_cons_zero, List.getElem?_cons_succ, isiB, tyD, asInts_fn, asInts_map, items_tup, items_lsi, items_lsd, items_scr, zipD_pims, idx_lsi, idx_tup, idx_scr, idx_lsd, idx_tpd, slc_tup, slc_lsi, slc_lsd, slc_tpd, ev_mth', mtOk, mtTy, mth_lix, mth_join, srt_pi, srt_pl, isL, isT, sameK, mutss, muts, okIn, appD, setD, dlen, callD, List.map_cons, List.map_nil, List.length_cons, List.length_nil, List.replicate, Option.map_some, Option.map_none, List.all_nil, List.all_cons, Option.some.injEq, exists_eq_left', List.getD_cons_zero, List.getD_cons_succ, T0, Tag.child, Tag.root, Tag.join, List.isEmpty_nil, sizeLine_eq, d__law_hands]
  refine ev_lcf (List.range 10) (fun j => pim (.int (j : Int))) (fun (j : Nat) => decide (Builtin.bitAnd (b / 2 ^ j) 1 = 1)) (fun (j : Nat) => .int (j : Int)) ?_ (fun j hj => ?_) ?_
  · simp [-List.map_map, sat_ok, sat_bad, sat_exc, sat_bind, sat_calm, sat_iteb, sat_ite, osat_next, osat_ret, osat_brk, osat_cnt, osat_bad, osat_exc, osat_st, osat_iteb, osat_ite, ev_lit', ev_glob', ev_var', ev_bin', ev_neg', ev_not', ev_and', ev_or', ev_cmp', ev_chain', ev_ife', ev_call', ev_blt', ev_mth', ev_idx', ev_slc', ev_slcL', ev_slcH', ev_slcN', ev_rev', ev_dgk', ev_dgt', ev_fcall', ev_lst', ev_tup', evs_cons', evC_cons', src_ex', src_zip', src_zip3', src_enm', src_rv', rs_asg', rs_unp', rs_ifs', rs_ret', rs_retn', rs_pas', rs_brk', rs_cnt', rs_app', rs_seti', rs_for', rs_pops', rs_rse', rs_ext', rs_clr', rs_kapp', rs_kaps', rs_kself', rs_rel', rs_kclr', ev_dct, imm_ok, scr_imm, scr_lsi, scr_lsd, scr_tpd, evs_nil, evC_nil, rs_nil, rs_whl, rs_exs', rs_apx', runh_cons, runh_nil, excSub, excAll, clrO_n, clrO_r, endH_0, endH_1, putH_0, putH_1, setSlot_pr, setFz_pr, asg_nm, asg_tup, asg_tpd, asg_lsi, asg_lsd, asgs_nil, asgs_cons, norm_imm, norm_lsi, norm_lsd, norm_tpd, norm_scr, forF_c, lcTurn_c, thenQ_n, thenQ_r, wipe_n, wipe_c, onOwn_c, hasL_c, isi_pr', ise_pr, isExc, isVw, wipeV_go, wipeGo_c, kapOk_c, kapR_n, kapR_c, kapR_a, wipeGo_n, srtset_pr, lenset_pr, lzip_pr, len_pr, tup_pr, tup_pt, tup_pd, tup_pp, lst_pr, lst_ps, lst_pt, lst_pd, lst_pp, int_pi, int_pb, sum_pr, all_pr, any_pr, min_pr, max_pr, lrg_1, lrg_2, trg_1, trg_2, List.cons_append, List.nil_append, Cf.dflt, Cf.cl, rdTag, pim, ofConst, bin_add, bin_sub, bin_mul, bin_fdiv, bin_mod, bin_pow, bin_str, bin_srep, bin_tup, bin_lst, bin_rep, bin_trep, isNil, cmp_eqi, cmp_nei, cmp_lti, cmp_lei, cmp_gti, cmp_gei, cmp_eqs, cmp_nes, cmp_eqb, cmp_neb, atI_c0, atI_c1, atI_c2, cmp_isn, cmp_isnn, cmp_eql, cmp_nel, cmp_eqln, cmp_neln, cmp_eqnn, cmp_nenn, cmp_inl, cmp_ninl, enmD_pims, zipD3_pims, src_r1s, src_r2s, rng_ls, rng_ts, asI_int, asB_bl, lenD, mkL, mkT, allImm, tagsOf, okSt, List.set, List.getElem?_cons_zero, List.getElem?_cons_succ, isiB, tyD, asInts_fn, asInts_map, items_tup, items_lsi, items_lsd, items_scr, zipD_pims, idx_lsi, idx_tup, idx_scr, idx_lsd, idx_tpd, slc_tup, slc_lsi, slc_lsd, slc_tpd, ev_mth', mtOk, mtTy, mth_lix, mth_join, srt_pi, srt_pl, isL, isT, sameK, mutss, muts, okIn, appD, setD, dlen, callD, List.map_cons, List.map_nil, List.length_cons, List.length_nil, List.replicate, Option.map_some, Option.map_none, List.all_nil, List.all_cons, Option.some.injEq, exists_eq_left', List.getD_cons_zero, List.getD_cons_succ, T0, Tag.child, Tag.root, Tag.join, List.isEmpty_nil, sizeLine_eq]
    exact ⟨Rok_of (by omega) (by omega) (by omega) (by omega), rfl⟩
  · simp [-List.map_map, sat_ok, sat_bad, sat_exc, sat_bind, sat_calm, sat_iteb, sat_ite, osat_next, osat_ret, osat_brk, osat_cnt, osat_bad, osat_exc, osat_st, osat_iteb, osat_ite, ev_lit', ev_glob', ev_var', ev_bin', ev_neg', ev_not', ev_and', ev_or', ev_cmp', ev_chain', ev_ife', ev_call', ev_blt', ev_mth', ev_idx', ev_slc', ev_slcL', ev_slcH', ev_slcN', ev_rev', ev_dgk', ev_dgt', ev_fcall', ev_lst', ev_tup', evs_cons', evC_cons', src_ex', src_zip', src_zip3', src_enm', src_rv', rs_asg', rs_unp', rs_ifs', rs_ret', rs_retn', rs_pas', rs_brk', rs_cnt', rs_app', rs_seti', rs_for', rs_pops', rs_rse', rs_ext', rs_clr', rs_kapp', rs_kaps', rs_kself', rs_rel', rs_kclr', ev_dct, imm_ok, scr_imm, scr_lsi, scr_lsd, scr_tpd, evs_nil, evC_nil, rs_nil, rs_whl, rs_exs', rs_apx', runh_cons, runh_nil, excSub, excAll, clrO_n, clrO_r, endH_0, endH_1, putH_0, putH_1, setSlot_pr, setFz_pr, asg_nm, asg_tup, asg_tpd, asg_lsi, asg_lsd, asgs_nil, asgs_cons, norm_imm, norm_lsi, norm_lsd, norm_tpd, norm_scr, forF_c, lcTurn_c, thenQ_n, thenQ_r, wipe_n, wipe_c, onOwn_c, hasL_c, isi_pr', ise_pr, isExc, isVw, wipeV_go, wipeGo_c, kapOk_c, kapR_n, kapR_c, kapR_a, wipeGo_n, srtset_pr, lenset_pr, lzip_pr, len_pr, tup_pr, tup_pt, tup_pd, tup_pp, lst_pr, lst_ps, lst_pt, lst_pd, lst_pp, int_pi, int_pb, sum_pr, all_pr, any_pr, min_pr, max_pr, lrg_1, lrg_2, trg_1, trg_2, List.cons_append, List.nil_append, Cf.dflt, Cf.cl, rdTag, pim, ofConst, bin_add, bin_sub, bin_mul, bin_fdiv, bin_mod, bin_pow, bin_str, bin_srep, bin_tup, bin_lst, bin_rep, bin_trep, isNil, cmp_eqi, cmp_nei, cmp_lti, cmp_lei, cmp_gti, cmp_gei, cmp_eqs, cmp_nes, cmp_eqb, cmp_neb, atI_c0, atI_c1, atI_c2, cmp_isn, cmp_isnn, cmp_eql, cmp_nel, cmp_eqln, cmp_neln, cmp_eqnn, cmp_nenn, cmp_inl, cmp_ninl, enmD_pims, zipD3_pims, src_r1s, src_r2s, rng_ls, rng_ts, asI_int, asB_bl, lenD, mkL, mkT, allImm, tagsOf, okSt, List.set, List.getElem?_cons_zero, List.getElem?_cons_succ, isiB, tyD, asInts_fn, asInts_map, items_tup, items_lsi, items_lsd, items_scr, zipD_pims, idx_lsi, idx_tup, idx_scr, idx_lsd, idx_tpd, slc_tup, slc_lsi, slc_lsd, slc_tpd, ev_mth', mtOk, mtTy, mth_lix, mth_join, srt_pi, srt_pl, isL, isT, sameK, mutss, muts, okIn, appD, setD, dlen, callD, List.map_cons, List.map_nil, List.length_cons, List.length_nil, List.replicate, Option.map_some, Option.map_none, List.all_nil, List.all_cons, Option.some.injEq, exists_eq_left', List.getD_cons_zero, List.getD_cons_succ, T0, Tag.child, Tag.root, Tag.join, List.isEmpty_nil, sizeLine_eq, bin_shr, bin_and]
  · simp [-List.map_map, sat_ok, sat_bad, sat_exc, sat_bind, sat_calm, sat_iteb, sat_ite, osat_next, osat_ret, osat_brk, osat_cnt, osat_bad, osat_exc, osat_st, osat_iteb, osat_ite, ev_lit', ev_glob', ev_var', ev_bin', ev_neg', ev_not', ev_and', ev_or', ev_cmp', ev_chain', ev_ife', ev_call', ev_blt', ev_mth', ev_idx', ev_slc', ev_slcL', ev_slcH', ev_slcN', ev_rev', ev_dgk', ev_dgt', ev_fcall', ev_lst', ev_tup', evs_cons', evC_cons', src_ex', src_zip', src_zip3', src_enm', src_rv', rs_asg', rs_unp', rs_ifs', rs_ret', rs_retn', rs_pas', rs_brk', rs_cnt', rs_app', rs_seti', rs_for', rs_pops', rs_rse', rs_ext', rs_clr', rs_kapp', rs_kaps', rs_kself', rs_rel', rs_kclr', ev_dct, imm_ok, scr_imm, scr_lsi, scr_lsd, scr_tpd, evs_nil, evC_nil, rs_nil, rs_whl, rs_exs', rs_apx', runh_cons, runh_nil, excSub, excAll, clrO_n, clrO_r, endH_0, endH_1, putH_0, putH_1, setSlot_pr, setFz_pr, asg_nm, asg_tup, asg_tpd, asg_lsi, asg_lsd, asgs_nil, asgs_cons, norm_imm, norm_lsi, norm_lsd, norm_tpd, norm_scr, forF_c, lcTurn_c, thenQ_n, thenQ_r, wipe_n, wipe_c, onOwn_c, hasL_c, isi_pr', ise_pr, isExc, isVw, wipeV_go, wipeGo_c, kapOk_c, kapR_n, kapR_c, kapR_a, wipeGo_n, srtset_pr, lenset_pr, lzip_pr, len_pr, tup_pr, tup_pt, tup_pd, tup_pp, lst_pr, lst_ps, lst_pt, lst_pd, lst_pp, int_pi, int_pb, sum_pr, all_pr, any_pr, min_pr, max_pr, lrg_1, lrg_2, trg_1, trg_2, List.cons_append, List.nil_append, Cf.dflt, Cf.cl, rdTag, pim, ofConst, bin_add, bin_sub, bin_mul, bin_fdiv, bin_mod, bin_pow, bin_str, bin_srep, bin_tup, bin_lst, bin_rep, bin_trep, isNil, cmp_eqi, cmp_nei, cmp_lti, cmp_lei, cmp_gti, cmp_gei, cmp_eqs, cmp_nes, cmp_eqb, cmp_neb, atI_c0, atI_c1, atI_c2, cmp_isn, cmp_isnn, cmp_eql, cmp_nel, cmp_eqln, cmp_neln, cmp_eqnn, cmp_nenn, cmp_inl, cmp_ninl, enmD_pims, zipD3_pims, src_r1s, src_r2s, rng_ls, rng_ts, asI_int, asB_bl, lenD, mkL, mkT, allImm, tagsOf, okSt, List.set, List.getElem?_cons_zero, List.getElem?_cons_succ, isiB, tyD, asInts_fn, asInts_map, items_tup, items_lsi, items_lsd, items_scr, zipD_pims, idx_lsi, idx_tup, idx_scr, idx_lsd, idx_tpd, slc_tup, slc_lsi, slc_lsd, slc_tpd, ev_mth', mtOk, mtTy, mth_lix, mth_join, srt_pi, srt_pl, isL, isT, sameK, mutss, muts, okIn, appD, setD, dlen, callD, List.map_cons, List.map_nil, List.length_cons, List.length_nil, List.replicate, Option.map_some, Option.map_none, List.all_nil, List.all_cons, Option.some.injEq, exists_eq_left', List.getD_cons_zero, List.getD_cons_succ, T0, Tag.child, Tag.root, Tag.join, List.isEmpty_nil, sizeLine_eq]
    unfold handsB
    rw [List.map_map]
    rfl

def dueR (r : I) : List Int := ((List.range 10).filter fun (j : Nat) => decide ((j : Int) ∈ handsR 5 r)).map fun (j : Nat) => (j : Int)
theorem mem_due {r : I} (h : RuOk 5 r) {z : Int} : z ∈ dueR r ↔ z ∈ handsR 5 r := by
  unfold dueR
  rw [List.mem_map]
  constructor
  · rintro ⟨j, hj, rfl⟩
    simpa using (List.mem_filter.mp hj).2
  · intro hz
    obtain ⟨z0, z1⟩ := hands_rng h z hz
    exact ⟨z.toNat, List.mem_filter.mpr ⟨List.mem_range.mpr (by omega), by rw [decide_eq_true_eq, Int.toNat_of_nonneg z0]; exact hz⟩, Int.toNat_of_nonneg z0⟩
theorem due_sorted {r : I} (h : RuOk 5 r) : sortI (dedup (handsR 5 r)) = dueR r := by
  refine (sortI_is ?_ ?_).symm
  · refine (List.perm_ext_iff_of_nodup ?_ nodup_dedup).mpr fun z => by rw [mem_due h, mem_dedup]
    unfold dueR
    exact List.Pairwise.map _ (fun a b h z => h (Int.ofNat_inj.mp z)) (List.nodup_range.filter _)
  · unfold dueR
    have h1 : (List.range 10).Pairwise (· ≤ ·) := by decide
    exact List.Pairwise.map _ (fun a b h => by omega) (h1.filter _)
theorem let_in {r : I} (h : RuOk 5 r) {j : Nat} (hj : j < 10) : inD (.imm (.str (st [97 + j]))) (.imm (.str (st (textH hd3 5 r)))) = .ok (decide ((j : Int) ∈ handsR 5 r)) := by
  show M.ok (!(PySem.Builtin.Str.occurrences (st (textH hd3 5 r)) ⟨#[97 + j]⟩ 0 (st (textH hd3 5 r)).length 1).isEmpty) = _
  rw [StrLaws.found_one, st_list]
  congr 1
  rw [decide_eq_decide]
  have := letter_in (h := (j : Int)) (by omega) (by omega) h
  rw [Int.toNat_natCast] at this
  exact this
theorem inner (ns : List Int) (i : Nat) (r : I) (hns : ns.length ≤ 63) (hi : i < 3) (hr : RuOk 5 r) (h2 : (handsR 5 r).length ≤ 20) (y4 y5 y6 y7 y8 : Option D) :
    (runs (Cf.dflt (Fn dfs X0 9) cl_law 1000) b_rest [some (.scr ns), some (.imm (.int (i : Int))), some (.imm r), some (.imm (.str (st (textH hd3 5 r)))), y4, y5, y6, y7, y8]).sat N0 fun o => ∃ y4 y5 y6 y7 y8 : Option D, o = .next [some (.scr ns), some (.imm (.int (i : Int))), some (.imm r), some (.imm (.str (st (textH hd3 5 r)))), y4, y5, y6, y7, y8] := by
  have e4 := hands_ev 2 r hr h2
  rw [due_sorted hr] at e4
  obtain ⟨l, l1, l2, ed⟩ := drawn_ev 7 ns (7 + (i : Int)) 1024 6 hns (by omega) (by omega) (by omega) (by omega) (by omega) (by omega)
  have hs := st_len (l := textH hd3 5 r)
  unfold b_rest cl_law
  simp [-List.map_map, sat_ok, sat_bad, sat_exc, sat_bind, sat_calm, sat_iteb, sat_ite, osat_next, osat_ret, osat_brk, osat_cnt, osat_bad, osat_exc, osat_st, osat_iteb, osat_ite, ev_lit', ev_glob', ev_var', ev_bin', ev_neg', ev_not', ev_and', ev_or', ev_cmp', ev_chain', ev_ife', ev_call', ev_blt', ev_mth', ev_idx', ev_slc', ev_slcL', ev_slcH', ev_slcN', ev_rev', ev_dgk', ev_dgt', ev_fcall', ev_lst', ev_tup', evs_cons', evC_cons', src_ex', src_zip', src_zip3', src_enm', src_rv', rs_asg', rs_unp', rs_ifs', rs_ret', rs_retn', rs_pas', rs_brk', rs_cnt', rs_app', rs_seti', rs_for', rs_pops', rs_rse', rs_ext', rs_clr', rs_kapp', rs_kaps', rs_kself', rs_rel', rs_kclr', ev_dct, imm_ok, scr_imm, scr_lsi, scr_lsd, scr_tpd, evs_nil, evC_nil, rs_nil, rs_whl, rs_exs', rs_apx', runh_cons, runh_nil, excSub, excAll, clrO_n, clrO_r, endH_0, endH_1, putH_0, putH_1, setSlot_pr, setFz_pr, asg_nm, asg_tup, asg_tpd, asg_lsi, asg_lsd, asgs_nil, asgs_cons, norm_imm, norm_lsi, norm_lsd, norm_tpd, norm_scr, forF_c, lcTurn_c, thenQ_n, thenQ_r, wipe_n, wipe_c, onOwn_c, hasL_c, isi_pr', ise_pr, isExc, isVw, wipeV_go, wipeGo_c, kapOk_c, kapR_n, kapR_c, kapR_a, wipeGo_n, srtset_pr, lenset_pr, lzip_pr, len_pr, tup_pr, tup_pt, tup_pd, tup_pp, lst_pr, lst_ps, lst_pt, lst_pd, lst_pp, int_pi, int_pb, sum_pr, all_pr, any_pr, min_pr, max_pr, lrg_1, lrg_2, trg_1, trg_2, List.cons_append, List.nil_append, Cf.dflt, Cf.cl, rdTag, pim, ofConst, bin_add, bin_sub, bin_mul, bin_fdiv, bin_mod, bin_pow, bin_str, bin_srep, bin_tup, bin_lst, bin_rep, bin_trep, isNil, cmp_eqi, cmp_nei, cmp_lti, cmp_lei, cmp_gti, cmp_gei, cmp_eqs, cmp_nes, cmp_eqb, cmp_neb, atI_c0, atI_c1, atI_c2, cmp_isn, cmp_isnn, cmp_eql, cmp_nel, cmp_eqln, cmp_neln, cmp_eqnn, cmp_nenn, cmp_inl, cmp_ninl, enmD_pims, zipD3_pims, src_r1s, src_r2s, rng_ls, rng_ts, asI_int, asB_bl, lenD, mkL, mkT, allImm, tagsOf, okSt, List.set, List.getElem?_cons_zero, List.getElem?_cons_succ, isiB, tyD, asInts_fn, asInts_map, items_tup, items_lsi, items_lsd, items_scr, zipD_pims, idx_lsi, idx_tup, idx_scr, idx_lsd, idx_tpd, slc_tup, slc_lsi, slc_lsd, slc_tpd, ev_mth', mtOk, mtTy, mth_lix, mth_join, srt_pi, srt_pl, isL, isT, sameK, mutss, muts, okIn, appD, setD, dlen, callD, List.map_cons, List.map_nil, List.length_cons, List.length_nil, List.replicate, Option.map_some, Option.map_none, List.all_nil, List.all_cons, Option.some.injEq, exists_eq_left', List.getD_cons_zero, List.getD_cons_succ, T0, Tag.child, Tag.root, Tag.join, List.isEmpty_nil, sizeLine_eq]
  refine ev_lcf (List.range 10) (fun j => pim (.int (j : Int))) (fun (j : Nat) => decide ((j : Int) ∈ handsR 5 r)) (fun (j : Nat) => .int (j : Int)) ?_ (fun j hj => ?_) ?_
  · simp [-List.map_map, sat_ok, sat_bad, sat_exc, sat_bind, sat_calm, sat_iteb, sat_ite, osat_next, osat_ret, osat_brk, osat_cnt, osat_bad, osat_exc, osat_st, osat_iteb, osat_ite, ev_lit', ev_glob', ev_var', ev_bin', ev_neg', ev_not', ev_and', ev_or', ev_cmp', ev_chain', ev_ife', ev_call', ev_blt', ev_mth', ev_idx', ev_slc', ev_slcL', ev_slcH', ev_slcN', ev_rev', ev_dgk', ev_dgt', ev_fcall', ev_lst', ev_tup', evs_cons', evC_cons', src_ex', src_zip', src_zip3', src_enm', src_rv', rs_asg', rs_unp', rs_ifs', rs_ret', rs_retn', rs_pas', rs_brk', rs_cnt', rs_app', rs_seti', rs_for', rs_pops', rs_rse', rs_ext', rs_clr', rs_kapp', rs_kaps', rs_kself', rs_rel', rs_kclr', ev_dct, imm_ok, scr_imm, scr_lsi, scr_lsd, scr_tpd, evs_nil, evC_nil, rs_nil, rs_whl, rs_exs', rs_apx', runh_cons, runh_nil, excSub, excAll, clrO_n, clrO_r, endH_0, endH_1, putH_0, putH_1, setSlot_pr, setFz_pr, asg_nm, asg_tup, asg_tpd, asg_lsi, asg_lsd, asgs_nil, asgs_cons, norm_imm, norm_lsi, norm_lsd, norm_tpd, norm_scr, forF_c, lcTurn_c, thenQ_n, thenQ_r, wipe_n, wipe_c, onOwn_c, hasL_c, isi_pr', ise_pr, isExc, isVw, wipeV_go, wipeGo_c, kapOk_c, kapR_n, kapR_c, kapR_a, wipeGo_n, srtset_pr, lenset_pr, lzip_pr, len_pr, tup_pr, tup_pt, tup_pd, tup_pp, lst_pr, lst_ps, lst_pt, lst_pd, lst_pp, int_pi, int_pb, sum_pr, all_pr, any_pr, min_pr, max_pr, lrg_1, lrg_2, trg_1, trg_2, List.cons_append, List.nil_append, Cf.dflt, Cf.cl, rdTag, pim, ofConst, bin_add, bin_sub, bin_mul, bin_fdiv, bin_mod, bin_pow, bin_str, bin_srep, bin_tup, bin_lst, bin_rep, bin_trep, isNil, cmp_eqi, cmp_nei, cmp_lti, cmp_lei, cmp_gti, cmp_gei, cmp_eqs, cmp_nes, cmp_eqb, cmp_neb, atI_c0, atI_c1, atI_c2, cmp_isn, cmp_isnn, cmp_eql, cmp_nel, cmp_eqln, cmp_neln, cmp_eqnn, cmp_nenn, cmp_inl, cmp_ninl, enmD_pims, zipD3_pims, src_r1s, src_r2s, rng_ls, rng_ts, asI_int, asB_bl, lenD, mkL, mkT, allImm, tagsOf, okSt, List.set, List.getElem?_cons_zero, List.getElem?_cons_succ, isiB, tyD, asInts_fn, asInts_map, items_tup, items_lsi, items_lsd, items_scr, zipD_pims, idx_lsi, idx_tup, idx_scr, idx_lsd, idx_tpd, slc_tup, slc_lsi, slc_lsd, slc_tpd, ev_mth', mtOk, mtTy, mth_lix, mth_join, srt_pi, srt_pl, isL, isT, sameK, mutss, muts, okIn, appD, setD, dlen, callD, List.map_cons, List.map_nil, List.length_cons, List.length_nil, List.replicate, Option.map_some, Option.map_none, List.all_nil, List.all_cons, Option.some.injEq, exists_eq_left', List.getD_cons_zero, List.getD_cons_succ, T0, Tag.child, Tag.root, Tag.join, List.isEmpty_nil, sizeLine_eq]
    exact ⟨Rok_of (by omega) (by omega) (by omega) (by omega), rfl⟩
  · have hj := List.mem_range.mp hj
    have e1 : ∀ t, idxD (.imm (.str (Str.ofString "abcdefghij")), t) (j : Int) = .ok (pim (.str (st [97 + j]))) := fun t => ix_let (by omega) (by omega)
    have e2 : cmpD .In (.imm (.str (st [97 + j]))) (.imm (.str (st (textH hd3 5 r)))) = .ok (decide ((j : Int) ∈ handsR 5 r)) := let_in hr hj
    simp [-List.map_map, sat_ok, sat_bad, sat_exc, sat_bind, sat_calm, sat_iteb, sat_ite, osat_next, osat_ret, osat_brk, osat_cnt, osat_bad, osat_exc, osat_st, osat_iteb, osat_ite, ev_lit', ev_glob', ev_var', ev_bin', ev_neg', ev_not', ev_and', ev_or', ev_cmp', ev_chain', ev_ife', ev_call', ev_blt', ev_mth', ev_idx', ev_slc', ev_slcL', ev_slcH', ev_slcN', ev_rev', ev_dgk', ev_dgt', ev_fcall', ev_lst', ev_tup', evs_cons', evC_cons', src_ex', src_zip', src_zip3', src_enm', src_rv', rs_asg', rs_unp', rs_ifs', rs_ret', rs_retn', rs_pas', rs_brk', rs_cnt', rs_app', rs_seti', rs_for', rs_pops', rs_rse', rs_ext', rs_clr', rs_kapp', rs_kaps', rs_kself', rs_rel', rs_kclr', ev_dct, imm_ok, scr_imm, scr_lsi, scr_lsd, scr_tpd, evs_nil, evC_nil, rs_nil, rs_whl, rs_exs', rs_apx', runh_cons, runh_nil, excSub, excAll, clrO_n, clrO_r, endH_0, endH_1, putH_0, putH_1, setSlot_pr, setFz_pr, asg_nm, asg_tup, asg_tpd, asg_lsi, asg_lsd, asgs_nil, asgs_cons, norm_imm, norm_lsi, norm_lsd, norm_tpd, norm_scr, forF_c, lcTurn_c, thenQ_n, thenQ_r, wipe_n, wipe_c, onOwn_c, hasL_c, isi_pr', ise_pr, isExc, isVw, wipeV_go, wipeGo_c, kapOk_c, kapR_n, kapR_c, kapR_a, wipeGo_n, srtset_pr, lenset_pr, lzip_pr, len_pr, tup_pr, tup_pt, tup_pd, tup_pp, lst_pr, lst_ps, lst_pt, lst_pd, lst_pp, int_pi, int_pb, sum_pr, all_pr, any_pr, min_pr, max_pr, lrg_1, lrg_2, trg_1, trg_2, List.cons_append, List.nil_append, Cf.dflt, Cf.cl, rdTag, pim, ofConst, bin_add, bin_sub, bin_mul, bin_fdiv, bin_mod, bin_pow, bin_str, bin_srep, bin_tup, bin_lst, bin_rep, bin_trep, isNil, cmp_eqi, cmp_nei, cmp_lti, cmp_lei, cmp_gti, cmp_gei, cmp_eqs, cmp_nes, cmp_eqb, cmp_neb, atI_c0, atI_c1, atI_c2, cmp_isn, cmp_isnn, cmp_eql, cmp_nel, cmp_eqln, cmp_neln, cmp_eqnn, cmp_nenn, cmp_inl, cmp_ninl, enmD_pims, zipD3_pims, src_r1s, src_r2s, rng_ls, rng_ts, asI_int, asB_bl, lenD, mkL, mkT, allImm, tagsOf, okSt, List.set, List.getElem?_cons_zero, List.getElem?_cons_succ, isiB, tyD, asInts_fn, asInts_map, items_tup, items_lsi, items_lsd, items_scr, zipD_pims, idx_lsi, idx_tup, idx_scr, idx_lsd, idx_tpd, slc_tup, slc_lsi, slc_lsd, slc_tpd, ev_mth', mtOk, mtTy, mth_lix, mth_join, srt_pi, srt_pl, isL, isT, sameK, mutss, muts, okIn, appD, setD, dlen, callD, List.map_cons, List.map_nil, List.length_cons, List.length_nil, List.replicate, Option.map_some, Option.map_none, List.all_nil, List.all_cons, Option.some.injEq, exists_eq_left', List.getD_cons_zero, List.getD_cons_succ, T0, Tag.child, Tag.root, Tag.join, List.isEmpty_nil, sizeLine_eq, e1, e2]
  · have ed2 : ((List.range 10).filter fun (j : Nat) => decide ((j : Int) ∈ handsR 5 r)).map (fun (j : Nat) => I.int (j : Int)) = (dueR r).map I.int := by unfold dueR; rw [List.map_map]; rfl
    rw [ed2]
    simp [-List.map_map, sat_ok, sat_bad, sat_exc, sat_bind, sat_calm, sat_iteb, sat_ite, osat_next, osat_ret, osat_brk, osat_cnt, osat_bad, osat_exc, osat_st, osat_iteb, osat_ite, ev_lit', ev_glob', ev_var', ev_bin', ev_neg', ev_not', ev_and', ev_or', ev_cmp', ev_chain', ev_ife', ev_call', ev_blt', ev_mth', ev_idx', ev_slc', ev_slcL', ev_slcH', ev_slcN', ev_rev', ev_dgk', ev_dgt', ev_fcall', ev_lst', ev_tup', evs_cons', evC_cons', src_ex', src_zip', src_zip3', src_enm', src_rv', rs_asg', rs_unp', rs_ifs', rs_ret', rs_retn', rs_pas', rs_brk', rs_cnt', rs_app', rs_seti', rs_for', rs_pops', rs_rse', rs_ext', rs_clr', rs_kapp', rs_kaps', rs_kself', rs_rel', rs_kclr', ev_dct, imm_ok, scr_imm, scr_lsi, scr_lsd, scr_tpd, evs_nil, evC_nil, rs_nil, rs_whl, rs_exs', rs_apx', runh_cons, runh_nil, excSub, excAll, clrO_n, clrO_r, endH_0, endH_1, putH_0, putH_1, setSlot_pr, setFz_pr, asg_nm, asg_tup, asg_tpd, asg_lsi, asg_lsd, asgs_nil, asgs_cons, norm_imm, norm_lsi, norm_lsd, norm_tpd, norm_scr, forF_c, lcTurn_c, thenQ_n, thenQ_r, wipe_n, wipe_c, onOwn_c, hasL_c, isi_pr', ise_pr, isExc, isVw, wipeV_go, wipeGo_c, kapOk_c, kapR_n, kapR_c, kapR_a, wipeGo_n, srtset_pr, lenset_pr, lzip_pr, len_pr, tup_pr, tup_pt, tup_pd, tup_pp, lst_pr, lst_ps, lst_pt, lst_pd, lst_pp, int_pi, int_pb, sum_pr, all_pr, any_pr, min_pr, max_pr, lrg_1, lrg_2, trg_1, trg_2, List.cons_append, List.nil_append, Cf.dflt, Cf.cl, rdTag, pim, ofConst, bin_add, bin_sub, bin_mul, bin_fdiv, bin_mod, bin_pow, bin_str, bin_srep, bin_tup, bin_lst, bin_rep, bin_trep, isNil, cmp_eqi, cmp_nei, cmp_lti, cmp_lei, cmp_gti, cmp_gei, cmp_eqs, cmp_nes, cmp_eqb, cmp_neb, atI_c0, atI_c1, atI_c2, cmp_isn, cmp_isnn, cmp_eql, cmp_nel, cmp_eqln, cmp_neln, cmp_eqnn, cmp_nenn, cmp_inl, cmp_ninl, enmD_pims, zipD3_pims, src_r1s, src_r2s, rng_ls, rng_ts, asI_int, asB_bl, lenD, mkL, mkT, allImm, tagsOf, okSt, List.set, List.getElem?_cons_zero, List.getElem?_cons_succ, isiB, tyD, asInts_fn, asInts_map, items_tup, items_lsi, items_lsd, items_scr, zipD_pims, idx_lsi, idx_tup, idx_scr, idx_lsd, idx_tpd, slc_tup, slc_lsi, slc_lsd, slc_tpd, ev_mth', mtOk, mtTy, mth_lix, mth_join, srt_pi, srt_pl, isL, isT, sameK, mutss, muts, okIn, appD, setD, dlen, callD, List.map_cons, List.map_nil, List.length_cons, List.length_nil, List.replicate, Option.map_some, Option.map_none, List.all_nil, List.all_cons, Option.some.injEq, exists_eq_left', List.getD_cons_zero, List.getD_cons_succ, T0, Tag.child, Tag.root, Tag.join, List.isEmpty_nil, sizeLine_eq, e4, ed]
    refine ev_lci (dueR r) (fun z => pim (.int z)) (fun _ => .bl false) ?_ (fun z hz => ?_) ?_
    · simp [-List.map_map, sat_ok, sat_bad, sat_exc, sat_bind, sat_calm, sat_iteb, sat_ite, osat_next, osat_ret, osat_brk, osat_cnt, osat_bad, osat_exc, osat_st, osat_iteb, osat_ite, ev_lit', ev_glob', ev_var', ev_bin', ev_neg', ev_not', ev_and', ev_or', ev_cmp', ev_chain', ev_ife', ev_call', ev_blt', ev_mth', ev_idx', ev_slc', ev_slcL', ev_slcH', ev_slcN', ev_rev', ev_dgk', ev_dgt', ev_fcall', ev_lst', ev_tup', evs_cons', evC_cons', src_ex', src_zip', src_zip3', src_enm', src_rv', rs_asg', rs_unp', rs_ifs', rs_ret', rs_retn', rs_pas', rs_brk', rs_cnt', rs_app', rs_seti', rs_for', rs_pops', rs_rse', rs_ext', rs_clr', rs_kapp', rs_kaps', rs_kself', rs_rel', rs_kclr', ev_dct, imm_ok, scr_imm, scr_lsi, scr_lsd, scr_tpd, evs_nil, evC_nil, rs_nil, rs_whl, rs_exs', rs_apx', runh_cons, runh_nil, excSub, excAll, clrO_n, clrO_r, endH_0, endH_1, putH_0, putH_1, setSlot_pr, setFz_pr, asg_nm, asg_tup, asg_tpd, asg_lsi, asg_lsd, asgs_nil, asgs_cons, norm_imm, norm_lsi, norm_lsd, norm_tpd, norm_scr, forF_c, lcTurn_c, thenQ_n, thenQ_r, wipe_n, wipe_c, onOwn_c, hasL_c, isi_pr', ise_pr, isExc, isVw, wipeV_go, wipeGo_c, kapOk_c, kapR_n, kapR_c, kapR_a, wipeGo_n, srtset_pr, lenset_pr, lzip_pr, len_pr, tup_pr, tup_pt, tup_pd, tup_pp, lst_pr, lst_ps, lst_pt, lst_pd, lst_pp, int_pi, int_pb, sum_pr, all_pr, any_pr, min_pr, max_pr, lrg_1, lrg_2, trg_1, trg_2, List.cons_append, List.nil_append, Cf.dflt, Cf.cl, rdTag, pim, ofConst, bin_add, bin_sub, bin_mul, bin_fdiv, bin_mod, bin_pow, bin_str, bin_srep, bin_tup, bin_lst, bin_rep, bin_trep, isNil, cmp_eqi, cmp_nei, cmp_lti, cmp_lei, cmp_gti, cmp_gei, cmp_eqs, cmp_nes, cmp_eqb, cmp_neb, atI_c0, atI_c1, atI_c2, cmp_isn, cmp_isnn, cmp_eql, cmp_nel, cmp_eqln, cmp_neln, cmp_eqnn, cmp_nenn, cmp_inl, cmp_ninl, enmD_pims, zipD3_pims, src_r1s, src_r2s, rng_ls, rng_ts, asI_int, asB_bl, lenD, mkL, mkT, allImm, tagsOf, okSt, List.set, List.getElem?_cons_zero, List.getElem?_cons_succ, isiB, tyD, asInts_fn, asInts_map, items_tup, items_lsi, items_lsd, items_scr, zipD_pims, idx_lsi, idx_tup, idx_scr, idx_lsd, idx_tpd, slc_tup, slc_lsi, slc_lsd, slc_tpd, ev_mth', mtOk, mtTy, mth_lix, mth_join, srt_pi, srt_pl, isL, isT, sameK, mutss, muts, okIn, appD, setD, dlen, callD, List.map_cons, List.map_nil, List.length_cons, List.length_nil, List.replicate, Option.map_some, Option.map_none, List.all_nil, List.all_cons, Option.some.injEq, exists_eq_left', List.getD_cons_zero, List.getD_cons_succ, T0, Tag.child, Tag.root, Tag.join, List.isEmpty_nil, sizeLine_eq]
      rw [List.map_map]
      rfl
    · simp [-List.map_map, sat_ok, sat_bad, sat_exc, sat_bind, sat_calm, sat_iteb, sat_ite, osat_next, osat_ret, osat_brk, osat_cnt, osat_bad, osat_exc, osat_st, osat_iteb, osat_ite, ev_lit', ev_glob', ev_var', ev_bin', ev_neg', ev_not', ev_and', ev_or', ev_cmp', ev_chain', ev_ife', ev_call', ev_blt', ev_mth', ev_idx', ev_slc', ev_slcL', ev_slcH', ev_slcN', ev_rev', ev_dgk', ev_dgt', ev_fcall', ev_lst', ev_tup', evs_cons', evC_cons', src_ex', src_zip', src_zip3', src_enm', src_rv', rs_asg', rs_unp', rs_ifs', rs_ret', rs_retn', rs_pas', rs_brk', rs_cnt', rs_app', rs_seti', rs_for', rs_pops', rs_rse', rs_ext', rs_clr', rs_kapp', rs_kaps', rs_kself', rs_rel', rs_kclr', ev_dct, imm_ok, scr_imm, scr_lsi, scr_lsd, scr_tpd, evs_nil, evC_nil, rs_nil, rs_whl, rs_exs', rs_apx', runh_cons, runh_nil, excSub, excAll, clrO_n, clrO_r, endH_0, endH_1, putH_0, putH_1, setSlot_pr, setFz_pr, asg_nm, asg_tup, asg_tpd, asg_lsi, asg_lsd, asgs_nil, asgs_cons, norm_imm, norm_lsi, norm_lsd, norm_tpd, norm_scr, forF_c, lcTurn_c, thenQ_n, thenQ_r, wipe_n, wipe_c, onOwn_c, hasL_c, isi_pr', ise_pr, isExc, isVw, wipeV_go, wipeGo_c, kapOk_c, kapR_n, kapR_c, kapR_a, wipeGo_n, srtset_pr, lenset_pr, lzip_pr, len_pr, tup_pr, tup_pt, tup_pd, tup_pp, lst_pr, lst_ps, lst_pt, lst_pd, lst_pp, int_pi, int_pb, sum_pr, all_pr, any_pr, min_pr, max_pr, lrg_1, lrg_2, trg_1, trg_2, List.cons_append, List.nil_append, Cf.dflt, Cf.cl, rdTag, pim, ofConst, bin_add, bin_sub, bin_mul, bin_fdiv, bin_mod, bin_pow, bin_str, bin_srep, bin_tup, bin_lst, bin_rep, bin_trep, isNil, cmp_eqi, cmp_nei, cmp_lti, cmp_lei, cmp_gti, cmp_gei, cmp_eqs, cmp_nes, cmp_eqb, cmp_neb, atI_c0, atI_c1, atI_c2, cmp_isn, cmp_isnn, cmp_eql, cmp_nel, cmp_eqln, cmp_neln, cmp_eqnn, cmp_nenn, cmp_inl, cmp_ninl, enmD_pims, zipD3_pims, src_r1s, src_r2s, rng_ls, rng_ts, asI_int, asB_bl, lenD, mkL, mkT, allImm, tagsOf, okSt, List.set, List.getElem?_cons_zero, List.getElem?_cons_succ, isiB, tyD, asInts_fn, asInts_map, items_tup, items_lsi, items_lsd, items_scr, zipD_pims, idx_lsi, idx_tup, idx_scr, idx_lsd, idx_tpd, slc_tup, slc_lsi, slc_lsd, slc_tpd, ev_mth', mtOk, mtTy, mth_lix, mth_join, srt_pi, srt_pl, isL, isT, sameK, mutss, muts, okIn, appD, setD, dlen, callD, List.map_cons, List.map_nil, List.length_cons, List.length_nil, List.replicate, Option.map_some, Option.map_none, List.all_nil, List.all_cons, Option.some.injEq, exists_eq_left', List.getD_cons_zero, List.getD_cons_succ, T0, Tag.child, Tag.root, Tag.join, List.isEmpty_nil, sizeLine_eq]
    have ei : cmpD .In (.imm (.bl true)) (.lsi ((dueR r).map fun _ => I.bl false)) = .ok false := by
      show (if flatI (.bl true) = true ∧ ((dueR r).map fun _ => I.bl false).all flatI = true then M.ok (((dueR r).map fun _ => I.bl false).any fun y => eqI y (.bl true)) else inAny (.imm (.bl true)) (I.pys ((dueR r).map fun _ => I.bl false))) = _
      rw [if_pos ⟨rfl, by rw [List.all_map, List.all_eq_true]; exact fun _ _ => rfl⟩]
      congr 1
      rw [List.any_map, List.any_eq_false]
      intro z _
      show ¬ (false == true) = true
      decide
    have dl : (dueR r).length ≤ 10 := by
      unfold dueR
      rw [List.length_map]
      exact Nat.le_trans (List.length_filter_le _ _) (by simp)
    rw [ei]
    simp [-List.map_map, sat_ok, sat_bad, sat_exc, sat_bind, sat_calm, sat_iteb, sat_ite, osat_next, osat_ret, osat_brk, osat_cnt, osat_bad, osat_exc, osat_st, osat_iteb, osat_ite, ev_lit', ev_glob', ev_var', ev_bin', ev_neg', ev_not', ev_and', ev_or', ev_cmp', ev_chain', ev_ife', ev_call', ev_blt', ev_mth', ev_idx', ev_slc', ev_slcL', ev_slcH', ev_slcN', ev_rev', ev_dgk', ev_dgt', ev_fcall', ev_lst', ev_tup', evs_cons', evC_cons', src_ex', src_zip', src_zip3', src_enm', src_rv', rs_asg', rs_unp', rs_ifs', rs_ret', rs_retn', rs_pas', rs_brk', rs_cnt', rs_app', rs_seti', rs_for', rs_pops', rs_rse', rs_ext', rs_clr', rs_kapp', rs_kaps', rs_kself', rs_rel', rs_kclr', ev_dct, imm_ok, scr_imm, scr_lsi, scr_lsd, scr_tpd, evs_nil, evC_nil, rs_nil, rs_whl, rs_exs', rs_apx', runh_cons, runh_nil, excSub, excAll, clrO_n, clrO_r, endH_0, endH_1, putH_0, putH_1, setSlot_pr, setFz_pr, asg_nm, asg_tup, asg_tpd, asg_lsi, asg_lsd, asgs_nil, asgs_cons, norm_imm, norm_lsi, norm_lsd, norm_tpd, norm_scr, forF_c, lcTurn_c, thenQ_n, thenQ_r, wipe_n, wipe_c, onOwn_c, hasL_c, isi_pr', ise_pr, isExc, isVw, wipeV_go, wipeGo_c, kapOk_c, kapR_n, kapR_c, kapR_a, wipeGo_n, srtset_pr, lenset_pr, lzip_pr, len_pr, tup_pr, tup_pt, tup_pd, tup_pp, lst_pr, lst_ps, lst_pt, lst_pd, lst_pp, int_pi, int_pb, sum_pr, all_pr, any_pr, min_pr, max_pr, lrg_1, lrg_2, trg_1, trg_2, List.cons_append, List.nil_append, Cf.dflt, Cf.cl, rdTag, pim, ofConst, bin_add, bin_sub, bin_mul, bin_fdiv, bin_mod, bin_pow, bin_str, bin_srep, bin_tup, bin_lst, bin_rep, bin_trep, isNil, cmp_eqi, cmp_nei, cmp_lti, cmp_lei, cmp_gti, cmp_gei, cmp_eqs, cmp_nes, cmp_eqb, cmp_neb, atI_c0, atI_c1, atI_c2, cmp_isn, cmp_isnn, cmp_eql, cmp_nel, cmp_eqln, cmp_neln, cmp_eqnn, cmp_nenn, cmp_inl, cmp_ninl, enmD_pims, zipD3_pims, src_r1s, src_r2s, rng_ls, rng_ts, asI_int, asB_bl, lenD, mkL, mkT, allImm, tagsOf, okSt, List.set, List.getElem?_cons_zero, List.getElem?_cons_succ, isiB, tyD, asInts_fn, asInts_map, items_tup, items_lsi, items_lsd, items_scr, zipD_pims, idx_lsi, idx_tup, idx_scr, idx_lsd, idx_tpd, slc_tup, slc_lsi, slc_lsd, slc_tpd, ev_mth', mtOk, mtTy, mth_lix, mth_join, srt_pi, srt_pl, isL, isT, sameK, mutss, muts, okIn, appD, setD, dlen, callD, List.map_cons, List.map_nil, List.length_cons, List.length_nil, List.replicate, Option.map_some, Option.map_none, List.all_nil, List.all_cons, Option.some.injEq, exists_eq_left', List.getD_cons_zero, List.getD_cons_succ, T0, Tag.child, Tag.root, Tag.join, List.isEmpty_nil, sizeLine_eq]
    refine ⟨by omega, ?_⟩
    refine forGo_inv (I := fun j ρ => ∃ y5 y7 y8 : Option D, ρ = [some (.scr ns), some (.imm (.int (i : Int))), some (.imm r), some (.imm (.str (st (textH hd3 5 r)))), some (.lsi ((dueR r).map I.int)), y5, some (.lsi ((dueR r).map I.int ++ [I.int 0])), y7, y8]) ⟨_, _, _, rfl⟩ ?_ ?_
    · rintro j hj _ ⟨y5, y7, y8, rfl⟩
      rw [List.getElem_map, List.getElem_map]
      generalize l[j]'(by simpa using hj) = b
      have f1 := lhands_ev 8 b
      generalize handsB b = H at *
      have f2 : ∀ H, Fn dfs X0 9 "fits" [.imm r, .lsi (List.map I.int H)] = .ok (.imm (.bl (fitsR 5 r H)), true) := fun H => fits_ev H 5 3 r hr
      simp [-List.map_map, sat_ok, sat_bad, sat_exc, sat_bind, sat_calm, sat_iteb, sat_ite, osat_next, osat_ret, osat_brk, osat_cnt, osat_bad, osat_exc, osat_st, osat_iteb, osat_ite, ev_lit', ev_glob', ev_var', ev_bin', ev_neg', ev_not', ev_and', ev_or', ev_cmp', ev_chain', ev_ife', ev_call', ev_blt', ev_mth', ev_idx', ev_slc', ev_slcL', ev_slcH', ev_slcN', ev_rev', ev_dgk', ev_dgt', ev_fcall', ev_lst', ev_tup', evs_cons', evC_cons', src_ex', src_zip', src_zip3', src_enm', src_rv', rs_asg', rs_unp', rs_ifs', rs_ret', rs_retn', rs_pas', rs_brk', rs_cnt', rs_app', rs_seti', rs_for', rs_pops', rs_rse', rs_ext', rs_clr', rs_kapp', rs_kaps', rs_kself', rs_rel', rs_kclr', ev_dct, imm_ok, scr_imm, scr_lsi, scr_lsd, scr_tpd, evs_nil, evC_nil, rs_nil, rs_whl, rs_exs', rs_apx', runh_cons, runh_nil, excSub, excAll, clrO_n, clrO_r, endH_0, endH_1, putH_0, putH_1, setSlot_pr, setFz_pr, asg_nm, asg_tup, asg_tpd, asg_lsi, asg_lsd, asgs_nil, asgs_cons, norm_imm, norm_lsi, norm_lsd, norm_tpd, norm_scr, forF_c, lcTurn_c, thenQ_n, thenQ_r, wipe_n, wipe_c, onOwn_c, hasL_c, isi_pr', ise_pr, isExc, isVw, wipeV_go, wipeGo_c, kapOk_c, kapR_n, kapR_c, kapR_a, wipeGo_n, srtset_pr, lenset_pr, lzip_pr, len_pr, tup_pr, tup_pt, tup_pd, tup_pp, lst_pr, lst_ps, lst_pt, lst_pd, lst_pp, int_pi, int_pb, sum_pr, all_pr, any_pr, min_pr, max_pr, lrg_1, lrg_2, trg_1, trg_2, List.cons_append, List.nil_append, Cf.dflt, Cf.cl, rdTag, pim, ofConst, bin_add, bin_sub, bin_mul, bin_fdiv, bin_mod, bin_pow, bin_str, bin_srep, bin_tup, bin_lst, bin_rep, bin_trep, isNil, cmp_eqi, cmp_nei, cmp_lti, cmp_lei, cmp_gti, cmp_gei, cmp_eqs, cmp_nes, cmp_eqb, cmp_neb, atI_c0, atI_c1, atI_c2, cmp_isn, cmp_isnn, cmp_eql, cmp_nel, cmp_eqln, cmp_neln, cmp_eqnn, cmp_nenn, cmp_inl, cmp_ninl, enmD_pims, zipD3_pims, src_r1s, src_r2s, rng_ls, rng_ts, asI_int, asB_bl, lenD, mkL, mkT, allImm, tagsOf, okSt, List.set, List.getElem?_cons_zero, List.getElem?_cons_succ, isiB, tyD, asInts_fn, asInts_map, items_tup, items_lsi, items_lsd, items_scr, zipD_pims, idx_lsi, idx_tup, idx_scr, idx_lsd, idx_tpd, slc_tup, slc_lsi, slc_lsd, slc_tpd, ev_mth', mtOk, mtTy, mth_lix, mth_join, srt_pi, srt_pl, isL, isT, sameK, mutss, muts, okIn, appD, setD, dlen, callD, List.map_cons, List.map_nil, List.length_cons, List.length_nil, List.replicate, Option.map_some, Option.map_none, List.all_nil, List.all_cons, Option.some.injEq, exists_eq_left', List.getD_cons_zero, List.getD_cons_succ, T0, Tag.child, Tag.root, Tag.join, List.isEmpty_nil, sizeLine_eq, f1, f2]
      refine ev_lcf H (fun z => pim (.int z)) (fun z => decide (z ∈ dueR r)) (fun z => .int z) ?_ (fun z hz => ?_) ?_
      · simp [-List.map_map, sat_ok, sat_bad, sat_exc, sat_bind, sat_calm, sat_iteb, sat_ite, osat_next, osat_ret, osat_brk, osat_cnt, osat_bad, osat_exc, osat_st, osat_iteb, osat_ite, ev_lit', ev_glob', ev_var', ev_bin', ev_neg', ev_not', ev_and', ev_or', ev_cmp', ev_chain', ev_ife', ev_call', ev_blt', ev_mth', ev_idx', ev_slc', ev_slcL', ev_slcH', ev_slcN', ev_rev', ev_dgk', ev_dgt', ev_fcall', ev_lst', ev_tup', evs_cons', evC_cons', src_ex', src_zip', src_zip3', src_enm', src_rv', rs_asg', rs_unp', rs_ifs', rs_ret', rs_retn', rs_pas', rs_brk', rs_cnt', rs_app', rs_seti', rs_for', rs_pops', rs_rse', rs_ext', rs_clr', rs_kapp', rs_kaps', rs_kself', rs_rel', rs_kclr', ev_dct, imm_ok, scr_imm, scr_lsi, scr_lsd, scr_tpd, evs_nil, evC_nil, rs_nil, rs_whl, rs_exs', rs_apx', runh_cons, runh_nil, excSub, excAll, clrO_n, clrO_r, endH_0, endH_1, putH_0, putH_1, setSlot_pr, setFz_pr, asg_nm, asg_tup, asg_tpd, asg_lsi, asg_lsd, asgs_nil, asgs_cons, norm_imm, norm_lsi, norm_lsd, norm_tpd, norm_scr, forF_c, lcTurn_c, thenQ_n, thenQ_r, wipe_n, wipe_c, onOwn_c, hasL_c, isi_pr', ise_pr, isExc, isVw, wipeV_go, wipeGo_c, kapOk_c, kapR_n, kapR_c, kapR_a, wipeGo_n, srtset_pr, lenset_pr, lzip_pr, len_pr, tup_pr, tup_pt, tup_pd, tup_pp, lst_pr, lst_ps, lst_pt, lst_pd, lst_pp, int_pi, int_pb, sum_pr, all_pr, any_pr, min_pr, max_pr, lrg_1, lrg_2, trg_1, trg_2, List.cons_append, List.nil_append, Cf.dflt, Cf.cl, rdTag, pim, ofConst, bin_add, bin_sub, bin_mul, bin_fdiv, bin_mod, bin_pow, bin_str, bin_srep, bin_tup, bin_lst, bin_rep, bin_trep, isNil, cmp_eqi, cmp_nei, cmp_lti, cmp_lei, cmp_gti, cmp_gei, cmp_eqs, cmp_nes, cmp_eqb, cmp_neb, atI_c0, atI_c1, atI_c2, cmp_isn, cmp_isnn, cmp_eql, cmp_nel, cmp_eqln, cmp_neln, cmp_eqnn, cmp_nenn, cmp_inl, cmp_ninl, enmD_pims, zipD3_pims, src_r1s, src_r2s, rng_ls, rng_ts, asI_int, asB_bl, lenD, mkL, mkT, allImm, tagsOf, okSt, List.set, List.getElem?_cons_zero, List.getElem?_cons_succ, isiB, tyD, asInts_fn, asInts_map, items_tup, items_lsi, items_lsd, items_scr, zipD_pims, idx_lsi, idx_tup, idx_scr, idx_lsd, idx_tpd, slc_tup, slc_lsi, slc_lsd, slc_tpd, ev_mth', mtOk, mtTy, mth_lix, mth_join, srt_pi, srt_pl, isL, isT, sameK, mutss, muts, okIn, appD, setD, dlen, callD, List.map_cons, List.map_nil, List.length_cons, List.length_nil, List.replicate, Option.map_some, Option.map_none, List.all_nil, List.all_cons, Option.some.injEq, exists_eq_left', List.getD_cons_zero, List.getD_cons_succ, T0, Tag.child, Tag.root, Tag.join, List.isEmpty_nil, sizeLine_eq]
        rw [List.map_map]
        rfl
      · simp [-List.map_map, sat_ok, sat_bad, sat_exc, sat_bind, sat_calm, sat_iteb, sat_ite, osat_next, osat_ret, osat_brk, osat_cnt, osat_bad, osat_exc, osat_st, osat_iteb, osat_ite, ev_lit', ev_glob', ev_var', ev_bin', ev_neg', ev_not', ev_and', ev_or', ev_cmp', ev_chain', ev_ife', ev_call', ev_blt', ev_mth', ev_idx', ev_slc', ev_slcL', ev_slcH', ev_slcN', ev_rev', ev_dgk', ev_dgt', ev_fcall', ev_lst', ev_tup', evs_cons', evC_cons', src_ex', src_zip', src_zip3', src_enm', src_rv', rs_asg', rs_unp', rs_ifs', rs_ret', rs_retn', rs_pas', rs_brk', rs_cnt', rs_app', rs_seti', rs_for', rs_pops', rs_rse', rs_ext', rs_clr', rs_kapp', rs_kaps', rs_kself', rs_rel', rs_kclr', ev_dct, imm_ok, scr_imm, scr_lsi, scr_lsd, scr_tpd, evs_nil, evC_nil, rs_nil, rs_whl, rs_exs', rs_apx', runh_cons, runh_nil, excSub, excAll, clrO_n, clrO_r, endH_0, endH_1, putH_0, putH_1, setSlot_pr, setFz_pr, asg_nm, asg_tup, asg_tpd, asg_lsi, asg_lsd, asgs_nil, asgs_cons, norm_imm, norm_lsi, norm_lsd, norm_tpd, norm_scr, forF_c, lcTurn_c, thenQ_n, thenQ_r, wipe_n, wipe_c, onOwn_c, hasL_c, isi_pr', ise_pr, isExc, isVw, wipeV_go, wipeGo_c, kapOk_c, kapR_n, kapR_c, kapR_a, wipeGo_n, srtset_pr, lenset_pr, lzip_pr, len_pr, tup_pr, tup_pt, tup_pd, tup_pp, lst_pr, lst_ps, lst_pt, lst_pd, lst_pp, int_pi, int_pb, sum_pr, all_pr, any_pr, min_pr, max_pr, lrg_1, lrg_2, trg_1, trg_2, List.cons_append, List.nil_append, Cf.dflt, Cf.cl, rdTag, pim, ofConst, bin_add, bin_sub, bin_mul, bin_fdiv, bin_mod, bin_pow, bin_str, bin_srep, bin_tup, bin_lst, bin_rep, bin_trep, isNil, cmp_eqi, cmp_nei, cmp_lti, cmp_lei, cmp_gti, cmp_gei, cmp_eqs, cmp_nes, cmp_eqb, cmp_neb, atI_c0, atI_c1, atI_c2, cmp_isn, cmp_isnn, cmp_eql, cmp_nel, cmp_eqln, cmp_neln, cmp_eqnn, cmp_nenn, cmp_inl, cmp_ninl, enmD_pims, zipD3_pims, src_r1s, src_r2s, rng_ls, rng_ts, asI_int, asB_bl, lenD, mkL, mkT, allImm, tagsOf, okSt, List.set, List.getElem?_cons_zero, List.getElem?_cons_succ, isiB, tyD, asInts_fn, asInts_map, items_tup, items_lsi, items_lsd, items_scr, zipD_pims, idx_lsi, idx_tup, idx_scr, idx_lsd, idx_tpd, slc_tup, slc_lsi, slc_lsd, slc_tpd, ev_mth', mtOk, mtTy, mth_lix, mth_join, srt_pi, srt_pl, isL, isT, sameK, mutss, muts, okIn, appD, setD, dlen, callD, List.map_cons, List.map_nil, List.length_cons, List.length_nil, List.replicate, Option.map_some, Option.map_none, List.all_nil, List.all_cons, Option.some.injEq, exists_eq_left', List.getD_cons_zero, List.getD_cons_succ, T0, Tag.child, Tag.root, Tag.join, List.isEmpty_nil, sizeLine_eq]
      · have ef : fitsR 5 r H = fitsR 5 r (H.filter fun z => decide (z ∈ dueR r)) := fits_same hr fun h hh => by
          rw [List.mem_filter, decide_eq_true_eq]
          exact ⟨fun a => ⟨a, (mem_due hr).mpr hh⟩, fun a => a.1⟩
        simp [-List.map_map, sat_ok, sat_bad, sat_exc, sat_bind, sat_calm, sat_iteb, sat_ite, osat_next, osat_ret, osat_brk, osat_cnt, osat_bad, osat_exc, osat_st, osat_iteb, osat_ite, ev_lit', ev_glob', ev_var', ev_bin', ev_neg', ev_not', ev_and', ev_or', ev_cmp', ev_chain', ev_ife', ev_call', ev_blt', ev_mth', ev_idx', ev_slc', ev_slcL', ev_slcH', ev_slcN', ev_rev', ev_dgk', ev_dgt', ev_fcall', ev_lst', ev_tup', evs_cons', evC_cons', src_ex', src_zip', src_zip3', src_enm', src_rv', rs_asg', rs_unp', rs_ifs', rs_ret', rs_retn', rs_pas', rs_brk', rs_cnt', rs_app', rs_seti', rs_for', rs_pops', rs_rse', rs_ext', rs_clr', rs_kapp', rs_kaps', rs_kself', rs_rel', rs_kclr', ev_dct, imm_ok, scr_imm, scr_lsi, scr_lsd, scr_tpd, evs_nil, evC_nil, rs_nil, rs_whl, rs_exs', rs_apx', runh_cons, runh_nil, excSub, excAll, clrO_n, clrO_r, endH_0, endH_1, putH_0, putH_1, setSlot_pr, setFz_pr, asg_nm, asg_tup, asg_tpd, asg_lsi, asg_lsd, asgs_nil, asgs_cons, norm_imm, norm_lsi, norm_lsd, norm_tpd, norm_scr, forF_c, lcTurn_c, thenQ_n, thenQ_r, wipe_n, wipe_c, onOwn_c, hasL_c, isi_pr', ise_pr, isExc, isVw, wipeV_go, wipeGo_c, kapOk_c, kapR_n, kapR_c, kapR_a, wipeGo_n, srtset_pr, lenset_pr, lzip_pr, len_pr, tup_pr, tup_pt, tup_pd, tup_pp, lst_pr, lst_ps, lst_pt, lst_pd, lst_pp, int_pi, int_pb, sum_pr, all_pr, any_pr, min_pr, max_pr, lrg_1, lrg_2, trg_1, trg_2, List.cons_append, List.nil_append, Cf.dflt, Cf.cl, rdTag, pim, ofConst, bin_add, bin_sub, bin_mul, bin_fdiv, bin_mod, bin_pow, bin_str, bin_srep, bin_tup, bin_lst, bin_rep, bin_trep, isNil, cmp_eqi, cmp_nei, cmp_lti, cmp_lei, cmp_gti, cmp_gei, cmp_eqs, cmp_nes, cmp_eqb, cmp_neb, atI_c0, atI_c1, atI_c2, cmp_isn, cmp_isnn, cmp_eql, cmp_nel, cmp_eqln, cmp_neln, cmp_eqnn, cmp_nenn, cmp_inl, cmp_ninl, enmD_pims, zipD3_pims, src_r1s, src_r2s, rng_ls, rng_ts, asI_int, asB_bl, lenD, mkL, mkT, allImm, tagsOf, okSt, List.set, List.getElem?_cons_zero, List.getElem?_cons_succ, isiB, tyD, asInts_fn, asInts_map, items_tup, items_lsi, items_lsd, items_scr, zipD_pims, idx_lsi, idx_tup, idx_scr, idx_lsd, idx_tpd, slc_tup, slc_lsi, slc_lsd, slc_tpd, ev_mth', mtOk, mtTy, mth_lix, mth_join, srt_pi, srt_pl, isL, isT, sameK, mutss, muts, okIn, appD, setD, dlen, callD, List.map_cons, List.map_nil, List.length_cons, List.length_nil, List.replicate, Option.map_some, Option.map_none, List.all_nil, List.all_cons, Option.some.injEq, exists_eq_left', List.getD_cons_zero, List.getD_cons_succ, T0, Tag.child, Tag.root, Tag.join, List.isEmpty_nil, sizeLine_eq, f2, ← ef]
    · rintro _ ⟨y5, y7, y8, rfl⟩
      simp [-List.map_map, sat_ok, sat_bad, sat_exc, sat_bind, sat_calm, sat_iteb, sat_ite, osat_next, osat_ret, osat_brk, osat_cnt, osat_bad, osat_exc, osat_st, osat_iteb, osat_ite, ev_lit', ev_glob', ev_var', ev_bin', ev_neg', ev_not', ev_and', ev_or', ev_cmp', ev_chain', ev_ife', ev_call', ev_blt', ev_mth', ev_idx', ev_slc', ev_slcL', ev_slcH', ev_slcN', ev_rev', ev_dgk', ev_dgt', ev_fcall', ev_lst', ev_tup', evs_cons', evC_cons', src_ex', src_zip', src_zip3', src_enm', src_rv', rs_asg', rs_unp', rs_ifs', rs_ret', rs_retn', rs_pas', rs_brk', rs_cnt', rs_app', rs_seti', rs_for', rs_pops', rs_rse', rs_ext', rs_clr', rs_kapp', rs_kaps', rs_kself', rs_rel', rs_kclr', ev_dct, imm_ok, scr_imm, scr_lsi, scr_lsd, scr_tpd, evs_nil, evC_nil, rs_nil, rs_whl, rs_exs', rs_apx', runh_cons, runh_nil, excSub, excAll, clrO_n, clrO_r, endH_0, endH_1, putH_0, putH_1, setSlot_pr, setFz_pr, asg_nm, asg_tup, asg_tpd, asg_lsi, asg_lsd, asgs_nil, asgs_cons, norm_imm, norm_lsi, norm_lsd, norm_tpd, norm_scr, forF_c, lcTurn_c, thenQ_n, thenQ_r, wipe_n, wipe_c, onOwn_c, hasL_c, isi_pr', ise_pr, isExc, isVw, wipeV_go, wipeGo_c, kapOk_c, kapR_n, kapR_c, kapR_a, wipeGo_n, srtset_pr, lenset_pr, lzip_pr, len_pr, tup_pr, tup_pt, tup_pd, tup_pp, lst_pr, lst_ps, lst_pt, lst_pd, lst_pp, int_pi, int_pb, sum_pr, all_pr, any_pr, min_pr, max_pr, lrg_1, lrg_2, trg_1, trg_2, List.cons_append, List.nil_append, Cf.dflt, Cf.cl, rdTag, pim, ofConst, bin_add, bin_sub, bin_mul, bin_fdiv, bin_mod, bin_pow, bin_str, bin_srep, bin_tup, bin_lst, bin_rep, bin_trep, isNil, cmp_eqi, cmp_nei, cmp_lti, cmp_lei, cmp_gti, cmp_gei, cmp_eqs, cmp_nes, cmp_eqb, cmp_neb, atI_c0, atI_c1, atI_c2, cmp_isn, cmp_isnn, cmp_eql, cmp_nel, cmp_eqln, cmp_neln, cmp_eqnn, cmp_nenn, cmp_inl, cmp_ninl, enmD_pims, zipD3_pims, src_r1s, src_r2s, rng_ls, rng_ts, asI_int, asB_bl, lenD, mkL, mkT, allImm, tagsOf, okSt, List.set, List.getElem?_cons_zero, List.getElem?_cons_succ, isiB, tyD, asInts_fn, asInts_map, items_tup, items_lsi, items_lsd, items_scr, zipD_pims, idx_lsi, idx_tup, idx_scr, idx_lsd, idx_tpd, slc_tup, slc_lsi, slc_lsd, slc_tpd, ev_mth', mtOk, mtTy, mth_lix, mth_join, srt_pi, srt_pl, isL, isT, sameK, mutss, muts, okIn, appD, setD, dlen, callD, List.map_cons, List.map_nil, List.length_cons, List.length_nil, List.replicate, Option.map_some, Option.map_none, List.all_nil, List.all_cons, Option.some.injEq, exists_eq_left', List.getD_cons_zero, List.getD_cons_succ, T0, Tag.child, Tag.root, Tag.join, List.isEmpty_nil, sizeLine_eq]

end Lk14

/-! Iv Rp: what gives out a token. -/
namespace Iv
open PySem PySem.Spec L2
open PyProof.Rows hiding St
theorem up1 {α : Type} {M : Model} {A : Around} {t : Sem α} {Q : α → Shared → Prop} {E : Value → Shared → Prop} {s : Shared} (hn : 1 ≤ s.toks) (h : wpAny M A t Q E s) : wpAny M A t (fun a s' => 1 ≤ s'.toks ∧ Q a s') E s :=
  wpAny_mono (PySem.wpAny_toks_of hn h) (fun _ _ q => q) fun _ _ q => q.2
def PEr (X : Cx) (e : Expr) (t : TE) : Prop := ∀ (pins : List (Addr × Obj)) (s : Shared) (σ : St) (H : Hp) (Q : VK), Inv X pins σ H s → t σ H Q → wpAny (model X.prog X.w) X.A (eval e X.env) (fun v s' => 1 ≤ s'.toks ∧ EP X pins σ Q v s') X.xe s
def PAr (X : Cx) (es : List Expr) (t : TA) : Prop := ∀ (pos : Pos) (pins : List (Addr × Obj)) (s : Shared) (σ : St) (H : Hp) (Q : List V → Hp → Prop), Inv X pins σ H s → t σ H Q → wpAny (model X.prog X.w) X.A (spliced (backTo pos (starEach es X.env))) (fun v s' => 1 ≤ s'.toks ∧ AP X pins σ Q v s') X.xe s
section
variable {X : Cx}
theorem per_int {i : Int} {j pos} : PEr X (.Constant (.int i) j pos) (L2.tC (.int i)) := fun _ s _ H _ I h => wpAny_Constant_int ⟨Nat.le_add_left 1 s.toks, .int i, H, I.tok _, ⟨_, rfl⟩, h⟩
theorem per_op {op : Operator} {r : R2} {a b : Expr} {ta tb : TE} {pos : Pos} (ho : OpR X (binaryOp op) r) (ha : PEr X a ta) (hb : PE X b tb) : PEr X (.BinOp a op b pos) (tOp r ta tb) := fun pins s σ H Q I h =>
  wpAny_BinOp (thn (ha pins s σ H _ I h) fun v s1 ⟨h1, x, H1, I1, r1, q1⟩ => thn (up1 h1 (hb.run pins s1 σ H1 _ I1 q1)) fun u s2 ⟨h2, y, H2, I2, r2, q2⟩ => up1 h2 (ho pins s2 σ H2 x y v u Q I2 r1 r2 q2))
theorem par_tail {e : Expr} {es : List Expr} {te : TE} {t : TA} (ha : PE X e te) (hr : PAr X es t) (hs : starEach (e :: es) X.env = (false, eval e X.env) :: starEach es X.env := by rfl) : PAr X (e :: es) (tCons te t) := by
  intro pos pins s σ H Q I h
  rw [hs]
  show wpAny _ _ (spliced ((false, eval e X.env) :: backTo pos (starEach es X.env))) _ _ s
  refine Calls.spliced_cons (thn (ha.run pins s σ H _ I h) fun u s1 ⟨x, H1, I1, r1, q1⟩ => ?_)
  exact thn (hr pos pins s1 σ H1 _ I1 q1) fun us s2 ⟨h2, xs, H2, I2, r2, q2⟩ => ⟨h2, x :: xs, H2, I2, .cons r1 r2, q2⟩
theorem par_head {e : Expr} {es : List Expr} {te : TE} {t : TA} (ha : PEr X e te) (hr : PA X es t) (hs : starEach (e :: es) X.env = (false, eval e X.env) :: starEach es X.env := by rfl) : PAr X (e :: es) (tCons te t) := by
  intro pos pins s σ H Q I h
  rw [hs]
  show wpAny _ _ (spliced ((false, eval e X.env) :: backTo pos (starEach es X.env))) _ _ s
  refine Calls.spliced_cons (thn (ha pins s σ H _ I h) fun u s1 ⟨h1, x, H1, I1, r1, q1⟩ => ?_)
  exact thn (up1 h1 (hr.run pos pins s1 σ H1 _ I1 q1)) fun us s2 ⟨h2, xs, H2, I2, r2, q2⟩ => ⟨h2, x :: xs, H2, I2, .cons r1 r2, q2⟩
theorem per_callS {CX : CXT} {k : Nat} {f : Addr} {fd : FuncData} {ps : List Str} {sp : Sp} {E : St → XK} {x : Str} {e : Expr} {es : List Expr} {t : TA} {p pos : Pos} (F : FnOk X.prog X.w X.K X.mg X.base CX k f fd ps sp) (hr : Room k X.A) (hg : Gl X x) (hm : X.mg x = some (.ref f)) (hk : PySem.W.keepIn X.K (.ref f) = true) (hb : L2.Binds X.K fd ps []) (hx : ∀ σ, PassesAt CX X σ (E σ))
    (ha : PAr X (e :: es) t) (hdb : (x == ("__debug__" : Str)) = false := by decide) (he : starEach (e :: es) X.env = (false, eval e X.env) :: starEach es X.env := by rfl) (hpl : (backTo pos (starEach es X.env)).any (·.1) = false := by rfl) :
    PEr X (.Call (.Name x p) (e :: es) [] pos) (tCallS sp E t) := by
  intro pins s σ H Q I h
  refine wpAny_Call_Name_kw (ld_glob I hg hm ?_ hdb)
  refine PySem.W.callWith_K (h₀ := X.base) I.ok.mod.kin hk (thn (ha pos pins s σ H _ I h) fun us s1 ⟨h1, vs, H1, I1, r, q⟩ => ⟨I1.kIn, ?_⟩) he hpl
  exact up1 h1 (run_fnS F hr hb (hx σ) I1 r q)
/-- name = value, which gives out a token; the rest wants one -/
theorem pss_setR {i : Nat} {x : Str} {e : Expr} {te : TE} {pos' pos : Pos} {rest : List Stmt} {u : TS} (hN : X.N.Nodup) (hi : X.N[i]? = some x) (hx : Loc X.env.scope x) (he : PEr X e te) (h2 : PSsT X rest u) (hs : swapsWith e (some (.Name x pos')) pos.line X.env = pure false := by rfl) (hf : X.fn x = true ∨ X.env.scope.names.lookup x = some .local := by first | exact .inl rfl | exact .inr rfl | assumption) :
    PSs X (.Assign [.Name x pos'] e pos :: rest) (tSeq (tAsg te (gName i)) u) := by
  refine ⟨fun pins s σ H D I h => ?_⟩
  refine wpAny_execs_cons (wpAny_Assign_Name (thn (he pins s σ H _ I h) fun v s1 ⟨h1, y, H1, I1, r1, q1⟩ => ?_) hs)
  refine thn (up1 h1 (store_ok (Q := fun _ s2 => Inv X pins (σ.set i (some y)) H1 s2) I1 hN hi hx r1 (fun s2 I2 => I2) hf)) fun _ s2 ⟨h3, I2⟩ => ?_
  exact h2 pins s2 _ H1 D h3 I2 q1
/-- name = value, a token out -/
theorem pst_set {i : Nat} {x : Str} {e : Expr} {te : TE} {pos' pos : Pos} (hN : X.N.Nodup) (hi : X.N[i]? = some x) (hx : Loc X.env.scope x) (he : PET X e te) (hs : swapsWith e (some (.Name x pos')) pos.line X.env = pure false := by rfl) (hf : X.fn x = true ∨ X.env.scope.names.lookup x = some .local := by first | exact .inl rfl | exact .inr rfl | assumption) :
    PST X (.Assign [.Name x pos'] e pos) (tAsg te (gName i)) := by
  intro pins s σ H D h0 I h
  refine wpAny_Assign_Name (thn (he pins s σ H _ h0 I h) fun v s1 ⟨y, H1, I1, r1, q1⟩ => ?_) hs
  exact store_ok I1 hN hi hx r1 (fun s2 I2 => ⟨_, H1, I2, q1⟩) hf
end
end Iv

namespace Lk14
open PySem PySem.Spec L2 Iv Nm CwR
open PyProof.Rows hiding St
abbrev EE := Iv.E
def eT : EE := .call "_law_text" [.var 2]
theorem osat_get {o : Iv.O} {Q : Iv.O → Prop} (h : o.sat N0 Q) : Q o := by
  cases o with
  | bad => exact h.elim
  | exc c ρ => exact h.elim
  | _ => exact h
theorem post_ok {P : Program} {w : World} {K : PySem.W.Frag} {mg : Str → Option Value} {base : Heap} {fa : Addr} (hbl : ∀ b ∈ bltAll, mg (b : Str) = none) : ∀ (cdv : Value) (A : Around) (outer : List PySem.Env) (s : Shared) (H : Hp) (E : XK) (W : WC), (∀ cf : Cf, cf.F = Fn dfs X0 9 → Gx gs exs cf 9 (cxOf (L2.CX P w) P w K mg base N_law ("law" : Str) (defScope s_law) fa cdv A outer s H E) (defScope s_law) (fun _ => true) W) →
      ∃ T, PSs (cxOf (L2.CX P w) P w K mg base N_law ("law" : Str) (defScope s_law) fa cdv A outer s H E) ((defBody s_law).drop 0) T ∧
        ∀ ns : List Int, ns.length ≤ 63 → (∀ z ∈ ns, Builtin.Int.intBits z ≤ 1048576) → ∃ ρ', runs (Cf.dflt (Fn dfs X0 9) cl_law 1000) b_law (some (.scr ns) :: List.replicate (N_law.length - 1) none) = .next ρ' ∧ ∀ D fm σ' H', SR (Cf.dflt (Fn dfs X0 9) cl_law 1000) K fm ρ' σ' H' → (∀ H'', D.rt (.bl true) H'') → T D σ' H' := by
  intro cdv A outer s H E W G
  have G1 := G (cfH (Fn dfs X0 9)) rfl
  have G2 := G (Cf.dflt (Fn dfs X0 9) cl_law 1000) rfl
  obtain ⟨fd', fdd, psd, md, kd, bd, ld, Fd⟩ := G1.gd.fn "_law_drawn_rule" 2 (by decide +kernel)
  have hr := G1.gd.room rfl
  have tk : Takes (cxOf (L2.CX P w) P w K mg base N_law "law" (defScope s_law) fa cdv A outer s H E) (fun cls d _ H => E cls d H) := takes_of rfl rfl rfl rfl
  refine ⟨_, pss_cons (ps_for (passes_of rfl) rfl (pi_range1 rfl (hbl "range" (by decide)) (pa_cons pe_int pa_nil)) (pg_name (i := 1) sc_law.nd rfl (.inl rfl))
      (pss_setR (i := 2) sc_law.nd rfl (.inl rfl) (per_callS Fd hr rfl md kd bd (fun σ => passAt tk σ) (par_tail (pv 0) (par_head (per_op op_add per_int (pe_op op_mul pe_int (pv 1))) pa_nil)))
      (psst_cons (pst_set (i := 3) sc_law.nd rfl (.inr rfl) (pet_replT (pet_replT (pet_replC (snd_A (e := eT) (show chk gs N_law (defScope s_law) (fun _ => true) eT _ = true by decide +kernel) G1.gd)))))
      (PSsT.of (snd_sts gs exs (Cf.dflt (Fn dfs X0 9) cl_law 1000) 9 b_rest (m := mutss b_rest) (show chkSs gs exs N_law (defScope s_law) (fun _ => true) b_rest _ = true by decide +kernel) (fun _ hj => hj) G2)))))
    (pss_one (ps_ret pe_bl)), fun ns hns hb => ?_⟩
  refine ⟨_, rfl, fun D fm σ0 H0 sr q => ?_⟩
  refine ⟨3, rfl, by decide, by decide, ?_⟩
  refine for_range (lo := 0) (n := 3) (fun i σ H' => ∃ (fm' : Fm) (y1 y2 y3 y4 y5 y6 y7 y8 : Option Iv.D), SR (Cf.dflt (Fn dfs X0 9) cl_law 1000) K fm' [some (.scr ns), y1, y2, y3, y4, y5, y6, y7, y8] σ H')
    ⟨fm, none, none, none, none, none, none, none, none, sr⟩ ?_ ?_
  · rintro i σ H' hi ⟨fm', y1, y2, y3, y4, y5, y6, y7, y8, sr⟩
    rw [show (0 : Int) + (i : Int) = (i : Int) from Int.zero_add _]
    have sr1 := sr.setI (n := 1) (.int (i : Int))
    obtain ⟨v0, g0, r0⟩ := sr1.slA.2 0 _ rfl
    obtain ⟨v1, g1, r1⟩ := sr1.slA.2 1 _ rfl
    cases rep_imm r1
    obtain ⟨r, hr5, h1, h2, er⟩ := drule_ev 2 ns (1 + 2 * (i : Int)) hns (by omega) (by omega)
    refine ⟨v0, g0, _, g1, _, _, rfl, rfl, cmul_l (by omega) (by omega), _, _, rfl, rfl, ?_⟩
    refine spD_imm (.cons (r0.weak (fun _ _ => trivial) (fun _ _ => trivial)) (.cons rep_in .nil)) rfl er fun v2 H2 s2 rv2 => ?_
    have sr2 := (sr1.same s2).setI (n := 2) rv2
    have et : Fn dfs X0 9 "_law_text" [.imm r] = .ok (.imm (.str (st (textR 5 r))), true) := ltext_ev 5 3 r (by omega) hr5
    refine ⟨_, sr2.slA, (.imm (.str (st (textR 5 r))), T0), sat_eq ?_, fun v3 H3 s3 r3 => ?_⟩
    · unfold eT
      simp [-List.map_map, sat_ok, sat_bad, sat_exc, sat_bind, sat_calm, sat_iteb, sat_ite, osat_next, osat_ret, osat_brk, osat_cnt, osat_bad, osat_exc, osat_st, osat_iteb, osat_ite, ev_lit', ev_glob', ev_var', ev_bin', ev_neg', ev_not', ev_and', ev_or', ev_cmp', ev_chain', ev_ife', ev_call', ev_blt', ev_mth', ev_idx', ev_slc', ev_slcL', ev_slcH', ev_slcN', ev_rev', ev_dgk', ev_dgt', ev_fcall', ev_lst', ev_tup', evs_cons', evC_cons', src_ex', src_zip', src_zip3', src_enm', src_rv', rs_asg', rs_unp', rs_ifs', rs_ret', rs_retn', rs_pas', rs_brk', rs_cnt', rs_app', rs_seti', rs_for', rs_pops', rs_rse', rs_ext', rs_clr', rs_kapp', rs_kaps', rs_kself', rs_rel', rs_kclr', ev_dct, imm_ok, scr_imm, scr_lsi, scr_lsd, scr_tpd, evs_nil, evC_nil, rs_nil, rs_whl, rs_exs', rs_apx', runh_cons, runh_nil, excSub, excAll, clrO_n, clrO_r, endH_0, endH_1, putH_0, putH_1, setSlot_pr, setFz_pr, asg_nm, asg_tup, asg_tpd, asg_lsi, asg_lsd, asgs_nil, asgs_cons, norm_imm, norm_lsi, norm_lsd, norm_tpd, norm_scr, forF_c, lcTurn_c, thenQ_n, thenQ_r, wipe_n, wipe_c, onOwn_c, hasL_c, isi_pr', ise_pr, isExc, isVw, wipeV_go, wipeGo_c, kapOk_c, kapR_n, kapR_c, kapR_a, wipeGo_n, srtset_pr, lenset_pr, lzip_pr, len_pr, tup_pr, tup_pt, tup_pd, tup_pp, lst_pr, lst_ps, lst_pt, lst_pd, lst_pp, int_pi, int_pb, sum_pr, all_pr, any_pr, min_pr, max_pr, lrg_1, lrg_2, trg_1, trg_2, List.cons_append, List.nil_append, Cf.dflt, Cf.cl, rdTag, pim, ofConst, bin_add, bin_sub, bin_mul, bin_fdiv, bin_mod, bin_pow, bin_str, bin_srep, bin_tup, bin_lst, bin_rep, bin_trep, isNil, cmp_eqi, cmp_nei, cmp_lti, cmp_lei, cmp_gti, cmp_gei, cmp_eqs, cmp_nes, cmp_eqb, cmp_neb, atI_c0, atI_c1, atI_c2, cmp_isn, cmp_isnn, cmp_eql, cmp_nel, cmp_eqln, cmp_neln, cmp_eqnn, cmp_nenn, cmp_inl, cmp_ninl, enmD_pims, zipD3_pims, src_r1s, src_r2s, rng_ls, rng_ts, asI_int, asB_bl, lenD, mkL, mkT, allImm, tagsOf, okSt, List.set, List.getElem?_cons_zero, List.getElem?_cons_succ, isiB, tyD, asInts_fn, asInts_map, items_tup, items_lsi, items_lsd, items_scr, zipD_pims, idx_lsi, idx_tup, idx_scr, idx_lsd, idx_tpd, slc_tup, slc_lsi, slc_lsd, slc_tpd, ev_mth', mtOk, mtTy, mth_lix, mth_join, srt_pi, srt_pl, isL, isT, sameK, mutss, muts, okIn, appD, setD, dlen, callD, List.map_cons, List.map_nil, List.length_cons, List.length_nil, List.replicate, Option.map_some, Option.map_none, List.all_nil, List.all_cons, Option.some.injEq, exists_eq_left', List.getD_cons_zero, List.getD_cons_succ, T0, Tag.child, Tag.root, Tag.join, List.isEmpty_nil, sizeLine_eq, cfH, et]
    cases rep_imm r3
    have b0 : (st (textR 5 r)).length ≤ 450000 := by rw [st_len]; exact Nat.le_trans (textR_len hr5) (lenB_le (by omega))
    have lp : (Str.ofString "(").length = 1 := by decide +kernel
    have c1 := TK.replace_len (st (textR 5 r)) (Str.ofString "all (") (Str.ofString "(")
    rw [lp] at c1
    have c2 := TK.replace_len (Txt.replace (st (textR 5 r)) (Str.ofString "all (") (Str.ofString "(")) (Str.ofString "one (") (Str.ofString "(")
    rw [lp] at c2
    refine ⟨_, rfl, by rw [lp]; omega, _, rfl, by rw [lp]; omega, _, rfl, by rw [lp]; omega, ?_⟩
    rw [words_out hr5]
    have sr3 := (sr2.same s3).setI (n := 3) (.str (st (textH hd3 5 r)))
    obtain ⟨y4', y5', y6', y7', y8', eo⟩ := osat_get (inner ns i r hns hi hr5 h2 y4 y5 y6 y7 y8)
    refine ⟨fm', _, sr3, ?_⟩
    have eo2 : runs (Cf.dflt (Fn dfs X0 9) cl_law 1000) b_rest ((([some (.scr ns), y1, y2, y3, y4, y5, y6, y7, y8].set 1 (some (.imm (.int (i : Int))))).set 2 (some (.imm r))).set 3 (some (.imm (.str (st (textH hd3 5 r)))))) = .next _ := eo
    rw [eo2]
    exact fun fm2 σ2 H4 sr4 _ => ⟨fm2, _, _, _, _, _, _, _, _, sr4⟩
  · rintro σ H' ⟨fm', y1, y2, y3, y4, y5, y6, y7, y8, sr⟩
    exact q H'
end Lk14

namespace Lk14
open PySem PySem.Spec L2 Iv
open PyProof.Rows hiding St
theorem all_mk {l : PySem.W.OpenLaw} {w : World} {K : PySem.W.Frag} {h : Heap} {mg : Str → Option Value} {fa f0 f1 f2 f3 f4 f5 f6 f7 : Addr} (X : K.In h) (G : h.Ns mainGlobals mg) (hfa : mg "law" = some (.ref fa))
    {od0 an0 od1 an1 od2 an2 od3 an3 od4 an4 od5 an5 od6 an6 od7 an7 : Option Addr} {sl0 sl1 sl2 sl3 sl4 sl5 sl6 sl7 : Array (Option Value)} {oc0 kV0 dc0 pm0 cd0 ct0 oc1 kV1 dc1 pm1 cd1 ct1 oc2 kV2 dc2 pm2 cd2 ct2 oc3 kV3 dc3 pm3 cd3 ct3 oc4 kV4 dc4 pm4 cd4 ct4 oc5 kV5 dc5 pm5 cd5 ct5 oc6 kV6 dc6 pm6 cd6 ct6 oc7 kV7 dc7 pm7 cd7 ct7 : Value}
    (a0 : PySem.W.nsIn K mainGlobals "hands_written" = some (some (.ref f0))) (l0 : K.lookup f0 = some ⟨oc0, od0,   .func (PySem.W.fnOf "hands_written" "hands_written" (defArgs s_hands_written) (defBody s_hands_written) (defScope s_hands_written) .none kV0 dc0 pm0 an0 cd0 ct0), sl0⟩) (c0 : PySem.W.codeIn K cd0 "hands_written" = true) (k0 : PySem.W.keepIn K (.ref f0) = true)
    (a1 : PySem.W.nsIn K mainGlobals "fits" = some (some (.ref f1))) (l1 : K.lookup f1 = some ⟨oc1, od1,   .func (PySem.W.fnOf "fits" "fits" (defArgs s_fits) (defBody s_fits) (defScope s_fits) .none kV1 dc1 pm1 an1 cd1 ct1), sl1⟩) (c1 : PySem.W.codeIn K cd1 "fits" = true) (k1 : PySem.W.keepIn K (.ref f1) = true)
    (a2 : PySem.W.nsIn K mainGlobals "hands_in" = some (some (.ref f2))) (l2 : K.lookup f2 = some ⟨oc2, od2,   .func (PySem.W.fnOf "hands_in" "hands_in" (defArgs s_hands_in) (defBody s_hands_in) (defScope s_hands_in) .none kV2 dc2 pm2 an2 cd2 ct2), sl2⟩) (c2 : PySem.W.codeIn K cd2 "hands_in" = true) (k2 : PySem.W.keepIn K (.ref f2) = true)
    (a3 : PySem.W.nsIn K mainGlobals "_law_cell_at" = some (some (.ref f3))) (l3 : K.lookup f3 = some ⟨oc3, od3,   .func (PySem.W.fnOf "_law_cell_at" "_law_cell_at" (defArgs s__law_cell_at) (defBody s__law_cell_at) (defScope s__law_cell_at) .none kV3 dc3 pm3 an3 cd3 ct3), sl3⟩) (c3 : PySem.W.codeIn K cd3 "_law_cell_at" = true) (k3 : PySem.W.keepIn K (.ref f3) = true)
    (a4 : PySem.W.nsIn K mainGlobals "_law_drawn" = some (some (.ref f4))) (l4 : K.lookup f4 = some ⟨oc4, od4,   .func (PySem.W.fnOf "_law_drawn" "_law_drawn" (defArgs s__law_drawn) (defBody s__law_drawn) (defScope s__law_drawn) .none kV4 dc4 pm4 an4 cd4 ct4), sl4⟩) (c4 : PySem.W.codeIn K cd4 "_law_drawn" = true) (k4 : PySem.W.keepIn K (.ref f4) = true)
    (a5 : PySem.W.nsIn K mainGlobals "_law_text" = some (some (.ref f5))) (l5 : K.lookup f5 = some ⟨oc5, od5,   .func (PySem.W.fnOf "_law_text" "_law_text" (defArgs s__law_text) (defBody s__law_text) (defScope s__law_text) .none kV5 dc5 pm5 an5 cd5 ct5), sl5⟩) (c5 : PySem.W.codeIn K cd5 "_law_text" = true) (k5 : PySem.W.keepIn K (.ref f5) = true)
    (a6 : PySem.W.nsIn K mainGlobals "_law_hands" = some (some (.ref f6))) (l6 : K.lookup f6 = some ⟨oc6, od6,   .func (PySem.W.fnOf "_law_hands" "_law_hands" (defArgs s__law_hands) (defBody s__law_hands) (defScope s__law_hands) .none kV6 dc6 pm6 an6 cd6 ct6), sl6⟩) (c6 : PySem.W.codeIn K cd6 "_law_hands" = true) (k6 : PySem.W.keepIn K (.ref f6) = true)
    (a7 : PySem.W.nsIn K mainGlobals "law" = some (some (.ref f7))) (l7 : K.lookup f7 = some ⟨oc7, od7,   .func (PySem.W.fnOf "law" "law" (defArgs s_law) (defBody s_law) (defScope s_law) .none kV7 dc7 pm7 an7 cd7 ct7), sl7⟩) (c7 : PySem.W.codeIn K cd7 "law" = true) (k7 : PySem.W.keepIn K (.ref f7) = true)
    (z0 : PySem.W.nsIn K mainGlobals "len" = some none)
    (z1 : PySem.W.nsIn K mainGlobals "tuple" = some none)
    (z2 : PySem.W.nsIn K mainGlobals "list" = some none)
    (z3 : PySem.W.nsIn K mainGlobals "sum" = some none)
    (z4 : PySem.W.nsIn K mainGlobals "int" = some none)
    (z5 : PySem.W.nsIn K mainGlobals "str" = some none)
    (z6 : PySem.W.nsIn K mainGlobals "all" = some none)
    (z7 : PySem.W.nsIn K mainGlobals "any" = some none)
    (z8 : PySem.W.nsIn K mainGlobals "sorted" = some none)
    (z9 : PySem.W.nsIn K mainGlobals "min" = some none)
    (z10 : PySem.W.nsIn K mainGlobals "max" = some none)
    (z11 : PySem.W.nsIn K mainGlobals "isinstance" = some none)
    (z12 : PySem.W.nsIn K mainGlobals "bool" = some none)
    (z13 : PySem.W.nsIn K mainGlobals "range" = some none)
    (z14 : PySem.W.nsIn K mainGlobals "zip" = some none)
    (z15 : PySem.W.nsIn K mainGlobals "enumerate" = some none)
    (z16 : PySem.W.nsIn K mainGlobals "reversed" = some none)
    (z17 : PySem.W.nsIn K mainGlobals "set" = some none)
    (z18 : PySem.W.nsIn K mainGlobals "dict" = some none)
    {y_law_rule y_law_drawn_rule : Addr} {yod_law_rule yan_law_rule yod_law_drawn_rule yan_law_drawn_rule : Option Addr} {ysl_law_rule ysl_law_drawn_rule : Array (Option Value)} {yoc_law_rule ykV_law_rule ydc_law_rule ypm_law_rule ycd_law_rule yct_law_rule yoc_law_drawn_rule ykV_law_drawn_rule ydc_law_drawn_rule ypm_law_drawn_rule ycd_law_drawn_rule yct_law_drawn_rule : Value}
    (ya_law_rule : PySem.W.nsIn K mainGlobals "_law_rule" = some (some (.ref y_law_rule)))
    (yl_law_rule : K.lookup y_law_rule = some ⟨yoc_law_rule, yod_law_rule, .func (PySem.W.fnOf "_law_rule" "_law_rule" (defArgs sRU) (defBody sRU) (defScope sRU) .none ykV_law_rule ydc_law_rule ypm_law_rule yan_law_rule ycd_law_rule yct_law_rule), ysl_law_rule⟩)
    (yc_law_rule : PySem.W.codeIn K ycd_law_rule "_law_rule" = true)
    (yk_law_rule : PySem.W.keepIn K (.ref y_law_rule) = true)
    (ya_law_drawn_rule : PySem.W.nsIn K mainGlobals "_law_drawn_rule" = some (some (.ref y_law_drawn_rule)))
    (yl_law_drawn_rule : K.lookup y_law_drawn_rule = some ⟨yoc_law_drawn_rule, yod_law_drawn_rule, .func (PySem.W.fnOf "_law_drawn_rule" "_law_drawn_rule" (defArgs sDR) (defBody sDR) (defScope sDR) .none ykV_law_drawn_rule ydc_law_drawn_rule ypm_law_drawn_rule yan_law_drawn_rule ycd_law_drawn_rule yct_law_drawn_rule), ysl_law_drawn_rule⟩)
    (yc_law_drawn_rule : PySem.W.codeIn K ycd_law_drawn_rule "_law_drawn_rule" = true)
    (yk_law_drawn_rule : PySem.W.keepIn K (.ref y_law_drawn_rule) = true)
    : ∃ fd : FuncData, (∀ (s : Shared) (v : Value), BindsTo s fd ⟨[v], []⟩ [("_law_script", v)]) ∧ ∀ base : Heap, K.In base → base.Ns mainGlobals mg → FnOk l.prog w K mg base (L2.CX l.prog w) 10 fa fd ["_law_script"] (spLaw K) := by
  have e := hfa.symm.trans (PySem.W.mg_of X G a7)
  cases e
  have F0 := fun_mk (st := s_hands_written) l0 c0 k0
  have F1 := fun_mk (st := s_fits) l1 c1 k1
  have F2 := fun_mk (st := s_hands_in) l2 c2 k2
  have F3 := fun_mk (st := s__law_cell_at) l3 c3 k3
  have F4 := fun_mk (st := s__law_drawn) l4 c4 k4
  have F5 := fun_mk (st := s__law_text) l5 c5 k5
  have F6 := fun_mk (st := s__law_hands) l6 c6 k6
  have F7 := fun_mk (st := s_law) l7 c7 k7
  have D0 : DfOk K mg gs exs d_hands_written := ⟨⟨_, _, _, F0, PySem.W.mg_of X G a0, F0.binds (ps := ["rule"]) fun _ _ _ _ _ _ us hl => match us, hl with | [_], _ => rfl⟩, sc_hands_written, by decide, by decide, ck_hands_written, by decide⟩
  have D1 : DfOk K mg gs exs d_fits := ⟨⟨_, _, _, F1, PySem.W.mg_of X G a1, F1.binds (ps := ["rule", "hands"]) fun _ _ _ _ _ _ us hl => match us, hl with | [_, _], _ => rfl⟩, sc_fits, by decide, by decide, ck_fits, by decide⟩
  have D2 : DfOk K mg gs exs d_hands_in := ⟨⟨_, _, _, F2, PySem.W.mg_of X G a2, F2.binds (ps := ["rule"]) fun _ _ _ _ _ _ us hl => match us, hl with | [_], _ => rfl⟩, sc_hands_in, by decide, by decide, ck_hands_in, by decide⟩
  have D3 : DfOk K mg gs exs d__law_cell_at := ⟨⟨_, _, _, F3, PySem.W.mg_of X G a3, F3.binds (ps := ["_law_script", "_law_k"]) fun _ _ _ _ _ _ us hl => match us, hl with | [_, _], _ => rfl⟩, sc__law_cell_at, by decide, by decide, ck__law_cell_at, by decide⟩
  have D4 : DfOk K mg gs exs d__law_drawn := ⟨⟨_, _, _, F4, PySem.W.mg_of X G a4, F4.binds (ps := ["_law_script", "_law_at", "_law_base", "_law_many"]) fun _ _ _ _ _ _ us hl => match us, hl with | [_, _, _, _], _ => rfl⟩, sc__law_drawn, by decide, by decide, ck__law_drawn, by decide⟩
  have D5 : DfOk K mg gs exs d__law_text := ⟨⟨_, _, _, F5, PySem.W.mg_of X G a5, F5.binds (ps := ["_law_rule_here"]) fun _ _ _ _ _ _ us hl => match us, hl with | [_], _ => rfl⟩, sc__law_text, by decide, by decide, ck__law_text, by decide⟩
  have D6 : DfOk K mg gs exs d__law_hands := ⟨⟨_, _, _, F6, PySem.W.mg_of X G a6, F6.binds (ps := ["_law_cell"]) fun _ _ _ _ _ _ us hl => match us, hl with | [_], _ => rfl⟩, sc__law_hands, by decide, by decide, ck__law_hands, by decide⟩
  have hd : ∀ d ∈ dfs, DfOk K mg gs exs d := (List.forall_mem_cons.mpr ⟨D0, (List.forall_mem_cons.mpr ⟨D1, (List.forall_mem_cons.mpr ⟨D2, (List.forall_mem_cons.mpr ⟨D3, (List.forall_mem_cons.mpr ⟨D4, (List.forall_mem_cons.mpr ⟨D5, (List.forall_mem_cons.mpr ⟨D6, (fun _ h => nomatch h)⟩)⟩)⟩)⟩)⟩)⟩)⟩)
  have hbl : ∀ b ∈ bltAll, mg (b : Str) = none := (List.forall_mem_cons.mpr ⟨PySem.W.mg_none_of X G z0, (List.forall_mem_cons.mpr ⟨PySem.W.mg_none_of X G z1, (List.forall_mem_cons.mpr ⟨PySem.W.mg_none_of X G z2, (List.forall_mem_cons.mpr ⟨PySem.W.mg_none_of X G z3, (List.forall_mem_cons.mpr ⟨PySem.W.mg_none_of X G z4, (List.forall_mem_cons.mpr ⟨PySem.W.mg_none_of X G z5, (List.forall_mem_cons.mpr ⟨PySem.W.mg_none_of X G z6, (List.forall_mem_cons.mpr ⟨PySem.W.mg_none_of X G z7, (List.forall_mem_cons.mpr ⟨PySem.W.mg_none_of X G z8, (List.forall_mem_cons.mpr ⟨PySem.W.mg_none_of X G z9, (List.forall_mem_cons.mpr ⟨PySem.W.mg_none_of X G z10, (List.forall_mem_cons.mpr ⟨PySem.W.mg_none_of X G z11, (List.forall_mem_cons.mpr ⟨PySem.W.mg_none_of X G z12, (List.forall_mem_cons.mpr ⟨PySem.W.mg_none_of X G z13, (List.forall_mem_cons.mpr ⟨PySem.W.mg_none_of X G z14, (List.forall_mem_cons.mpr ⟨PySem.W.mg_none_of X G z15, (List.forall_mem_cons.mpr ⟨PySem.W.mg_none_of X G z16, (List.forall_mem_cons.mpr ⟨PySem.W.mg_none_of X G z17, (List.forall_mem_cons.mpr ⟨PySem.W.mg_none_of X G z18, (fun _ h => nomatch h)⟩)⟩)⟩)⟩)⟩)⟩)⟩)⟩)⟩)⟩)⟩)⟩)⟩)⟩)⟩)⟩)⟩)⟩)⟩)
  have hcs : ∀ p ∈ gs.consts, ∃ u v i, mg (p.1 : Str) = some u ∧ RelV v u ∧ ofConst p.2 = some i ∧ ∀ H, RepI K H i v := (fun _ h => nomatch h)
  have hex : ∀ c ∈ exs, ExOk K mg c := (fun _ h => nomatch h)
  have hxa : gs.ts ≠ [] → XAll K mg gs.ts := fun h => absurd rfl h
  have YF_law_rule := fun_mk (st := sRU) yl_law_rule yc_law_rule yk_law_rule
  have Yb_law_rule := YF_law_rule.binds (ps := ["_law_row", "_law_state", "_law_deep"]) fun _ _ _ _ _ _ us hl => match us, hl with | [_, _, _], _ => rfl
  have YF_law_drawn_rule := fun_mk (st := sDR) yl_law_drawn_rule yc_law_drawn_rule yk_law_drawn_rule
  have Yb_law_drawn_rule := YF_law_drawn_rule.binds (ps := ["_law_script", "_law_at"]) fun _ _ _ _ _ _ us hl => match us, hl with | [_, _], _ => rfl
  have O__law_drawn_rule : ∀ base : Heap, OutOk l.prog w K mg base dfs X0 gs "_law_drawn_rule" 2 := fun base => out_rule hbl YF_law_rule (PySem.W.mg_of X G ya_law_rule) yk_law_rule Yb_law_rule YF_law_drawn_rule (PySem.W.mg_of X G ya_law_drawn_rule) yk_law_drawn_rule Yb_law_drawn_rule
  have hg : ∀ base : Heap, ∀ p ∈ gs.funs, (∃ d, dfs.find? (·.name == p.1) = some d ∧ d.ps.length = p.2) ∨ (dfs.find? (·.name == p.1) = none ∧ OutOk l.prog w K mg base dfs X0 gs p.1 p.2) := fun base => (List.forall_mem_cons.mpr ⟨.inl ⟨d_hands_written, rfl, rfl⟩, (List.forall_mem_cons.mpr ⟨.inl ⟨d_fits, rfl, rfl⟩, (List.forall_mem_cons.mpr ⟨.inl ⟨d_hands_in, rfl, rfl⟩, (List.forall_mem_cons.mpr ⟨.inl ⟨d__law_cell_at, rfl, rfl⟩, (List.forall_mem_cons.mpr ⟨.inl ⟨d__law_drawn, rfl, rfl⟩, (List.forall_mem_cons.mpr ⟨.inl ⟨d__law_text, rfl, rfl⟩, (List.forall_mem_cons.mpr ⟨.inl ⟨d__law_hands, rfl, rfl⟩, (List.forall_mem_cons.mpr ⟨.inr ⟨rfl, O__law_drawn_rule base⟩, (fun _ h => nomatch h)⟩)⟩)⟩)⟩)⟩)⟩)⟩)⟩)
  have hM : ∀ base : Heap, ∀ f ∈ gs.mf, dfs.find? (·.name == f) = none ∧ OutM l.prog w K mg base dfs X0 gs f := fun base => (fun _ h => nomatch h)
  refine ⟨PySem.W.fnOf "law" "law" (defArgs s_law) (defBody s_law) (defScope s_law) .none kV7 dc7 pm7 an7 cd7 ct7, fun s v => .of_eq rfl, fun base _ _ => ?_⟩
  exact law_tail (ds := dfs) (X := X0) (k := 9) (n := 0) (cls := cl_law) (fuel := 1000) (pre := b_law) hd hbl (fun x c h => hcs _ h) hex rfl hxa (fun f n h => hg base _ h) (hM base) F7 sc_law (by decide) rfl (by decide) ck_law (post_ok hbl)
end Lk14
open PySem PySem.W PyProof.Rows
set_option maxHeartbeats 0 in
theorem PySem.Challenge.cw_fewopen_k14_hands_of_rules_holds : PySem.Challenge.rw_fewopen_k14_hands_of_rules.Holds := by
  w_on; o_law; k_head; (case hw => w_witness2)
  k_fill
  refine L2.walk_ofB (l := PySem.Challenge.rw_fewopen_k14_hands_of_rules) (n := 63) (k := 10) (x := "_law_script") (CX := fun w => L2.CX (PySem.Challenge.rw_fewopen_k14_hands_of_rules).prog w) (sp := fun w => Iv.spLaw _) rfl (by decide) rfl ⟨rfl, by decide, by decide⟩ (fun w h Y => PySem.W.kIn_of Y) ?F (fun _ _ a ns hl hb _ hS => ⟨a, ns, rfl, hS, hl, hb, fun _ => rfl⟩) (fun _ _ _ _ _ h => by obtain ⟨_, _, _, _, _, _, _, _, _, _, _, _, z⟩ := h; exact z.elim)
  case F =>
    intro w mg fa h KX G hmg
    refine' Lk14.all_mk KX G hmg ?a0 ?l0 ?c0 ?k0 ?a1 ?l1 ?c1 ?k1 ?a2 ?l2 ?c2 ?k2 ?a3 ?l3 ?c3 ?k3 ?a4 ?l4 ?c4 ?k4 ?a5 ?l5 ?c5 ?k5 ?a6 ?l6 ?c6 ?k6 ?a7 ?l7 ?c7 ?k7 ?z0 ?z1 ?z2 ?z3 ?z4 ?z5 ?z6 ?z7 ?z8 ?z9 ?z10 ?z11 ?z12 ?z13 ?z14 ?z15 ?z16 ?z17 ?z18 ?ya_law_rule ?yl_law_rule ?yc_law_rule ?yk_law_rule ?ya_law_drawn_rule ?yl_law_drawn_rule ?yc_law_drawn_rule ?yk_law_drawn_rule
    (case a0 => k_is); (case l0 => k_is); (case c0 => k_is); (case k0 => k_is); (case a1 => k_is); (case l1 => k_is); (case c1 => k_is); (case k1 => k_is); (case a2 => k_is); (case l2 => k_is); (case c2 => k_is); (case k2 => k_is)
    (case a3 => k_is); (case l3 => k_is); (case c3 => k_is); (case k3 => k_is); (case a4 => k_is); (case l4 => k_is); (case c4 => k_is); (case k4 => k_is); (case a5 => k_is); (case l5 => k_is); (case c5 => k_is); (case k5 => k_is)
    (case a6 => k_is); (case l6 => k_is); (case c6 => k_is); (case k6 => k_is); (case a7 => k_is); (case l7 => k_is); (case c7 => k_is); (case k7 => k_is); (case z0 => k_is); (case z1 => k_is); (case z2 => k_is); (case z3 => k_is)
    (case z4 => k_is); (case z5 => k_is); (case z6 => k_is); (case z7 => k_is); (case z8 => k_is); (case z9 => k_is); (case z10 => k_is); (case z11 => k_is); (case z12 => k_is); (case z13 => k_is); (case z14 => k_is); (case z15 => k_is)
    (case z16 => k_is); (case z17 => k_is); (case z18 => k_is); (case ya_law_rule => k_is); (case yl_law_rule => k_is); (case yc_law_rule => k_is); (case yk_law_rule => k_is); (case ya_law_drawn_rule => k_is); (case yl_law_drawn_rule => k_is); (case yc_law_drawn_rule => k_is); (case yk_law_drawn_rule => k_is)

