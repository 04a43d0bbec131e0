import PyProof.Rows.All
import Wide.All
import OpenK.AllK
import Wide.FinOn
import HandS.ForMost
import HandS.Wide
import HandS.WideBits
import HandS.IsInst
import HandS.TupAny
import HandS.TupMul
import HandS.Deep
import HandS.Zip
import HandS.Flow
import HandS.Style
import HandS.TupLe
import HandS.RaiseMore
import KE.DatumIndex
import KE.DataCmp
import KE.DataMinMax
import KE.KTupSum
import ObjForm.LawKit
import KE.GoesEnum
import KE.GoesZip
import HandS.Conv
import HandS.Ends
import KE.KStateDown
import HandS.Words
import HandS.Defaults
import HandS.Head0
import HandS.Head1
import HandS.Head2
import HandS.HeadEnd
import HandS.HeadHook1
import HandS.HeadHook2
import PySem.Challenge.RW_promisedhall_k91_whole_one_share
section
set_option Elab.async false
set_option linter.all false
set_option maxRecDepth 100000
/-! A small interpreter over data: terms, their evaluation. No walk here. -/
namespace Iv
open PySem PySem.Spec PyProof.Rows L2
abbrev D := PyData
/-! ### equality of data, decided -/
mutual
def same : D → D → Bool
  | .none, .none => true
  | .bool a, .bool b => a == b
  | .int a, .int b => a == b
  | .str a, .str b => a == b
  | .list a, .list b => sames a b
  | .tuple a, .tuple b => sames a b
  | _, _ => false
def sames : List D → List D → Bool
  | [], [] => true
  | a :: r, b :: t => same a b && sames r t
  | _, _ => false
end
mutual
theorem same_eq : ∀ {a b : D}, same a b = true → a = b
  | .none, b, h => by cases b <;> simp [same] at h ⊢
  | .bool x, b, h => by cases b <;> simp [same] at h ⊢; exact h
  | .int x, b, h => by cases b <;> simp [same] at h ⊢; exact h
  | .str x, b, h => by cases b <;> simp [same] at h ⊢; exact h
  | .list x, b, h => by
    cases b <;> simp only [same, Bool.false_eq_true] at h
    rw [sames_eq h]
  | .tuple x, b, h => by
    cases b <;> simp only [same, Bool.false_eq_true] at h
    rw [sames_eq h]
  | .dict x, b, h => by cases b <;> simp [same] at h
theorem sames_eq : ∀ {a b : List D}, sames a b = true → a = b
  | [], [], _ => rfl
  | [], _ :: _, h => by simp [sames] at h
  | _ :: _, [], h => by simp [sames] at h
  | x :: r, y :: t, h => by
    rw [sames, Bool.and_eq_true] at h
    rw [same_eq h.1, sames_eq h.2]
end
/-! ### slots -/
/-- a name's slot: nothing, a value that never changes, a list of one's own (fz: it may become a value; else it belongs to the caller) -/
inductive Sl where
  | un
  | sh (d : D)
  | own (fz : Bool) (ds : List D)
abbrev Ev := List Sl
inductive Bo where | add | sub | mul | fdv | mod | pow
  deriving DecidableEq
inductive Co where | eq | ne | lt | le | gt | ge | is | isn | inn | nin
  deriving DecidableEq
/-- builtins of one argument, of two -/
inductive B1 where | len | abs | max | min | sum | all | any | int | str | repr | list | tup | sorted
  deriving DecidableEq
inductive B2 where | max | min | dvm
  deriving DecidableEq
inductive M1 where | lrng | fr | join | fl | scr
  deriving DecidableEq
/-- how a thing is walked -/
inductive Ik where | walk | enm | zip | rng | rng2
  deriving DecidableEq
/-- a target: a name, an item of a name's list; a tuple of targets -/
inductive Tg where
  | nm (i : Nat)
  | tp (is : List Nat)
inductive Ex where
  | var (i : Nat)
  | mu (i : Nat)
  | cst (d : D)
  | glo (x : Str) (d : D)
  | bin (o : Bo) (a b : Ex)
  | neg (a : Ex)
  | nt (a : Ex)
  | and (a b : Ex)
  | or (a b : Ex)
  | cmp (o : Co) (a b : Ex)
  | chn (o p : Co) (a b c : Ex)
  | ite (c a b : Ex)
  | tup (as : Ex)
  | lst (as : Ex)
  | rep (as n : Ex)
  | nil
  | cons (a as : Ex)
  | idx (a i : Ex)
  | slc (a lo hi : Ex)
  | noe
  | call (j : Nat) (as : Ex)
  | calk (j : Nat) (as ks : Ex) (perm : List Nat)
  | b1 (b : B1) (a : Ex)
  | b2 (b : B2) (a c : Ex)
  | isi (a : Ex) (ts : List String)
  | m1 (m : M1) (a b : Ex)
  | cf (j : Nat) (a : Ex)
  | lc (own : List (Str × Nat)) (g : Tg) (k : Ik) (a b : Ex) (c e : Ex)
/-! ### operations on data -/
def tyName : D → String
  | .none => "NoneType" | .bool _ => "bool" | .int _ => "int" | .str _ => "str" | .list _ => "list" | .tuple _ => "tuple" | .dict _ => "dict"
def isaD (d : D) (t : String) : Option Bool :=
  match t with
  | "int" => some (match d with | .int _ => true | .bool _ => true | _ => false)
  | "bool" => some (match d with | .bool _ => true | _ => false)
  | "str" => some (match d with | .str _ => true | _ => false)
  | "tuple" => some (match d with | .tuple _ => true | _ => false)
  | "list" => some (match d with | .list _ => true | _ => false)
  | _ => none
def isaAny (d : D) : List String → Option Bool
  | [] => some false
  | t :: r => match isaD d t with
    | some true => some true
    | some false => isaAny d r
    | none => none
def truth : D → Option Bool
  | .none => some false
  | .bool b => some b
  | .int i => some (i != 0)
  | .str x => if x.length ≤ sizeLine then some ((x.length : Int) != 0) else none
  | .list ds => some (!ds.isEmpty)
  | .tuple ds => some (!ds.isEmpty)
  | .dict _ => none
/-- what is known of the size of ints -/
def mulOk (i j : Int) : Bool := decide (i.natAbs.log2 + j.natAbs.log2 < 1000000)
def divOk (j : Int) : Bool := decide (0 < j) && decide (j.natAbs.log2 < 9000)
def addD : D → D → Option D
  | .int i, .int j => some (.int (i + j))
  | .str a, .str b => if a.length + b.length ≤ sizeLine then some (.str (a ++ b)) else none
  | .list a, .list b => if a.length + b.length ≤ sizeLine then some (.list (a ++ b)) else none
  | .tuple a, .tuple b => if a.length + b.length ≤ sizeLine then some (.tuple (a ++ b)) else none
  | _, _ => none
def mulD : D → D → Option D
  | .int i, .int j => if mulOk i j then some (.int (i * j)) else none
  | .tuple a, .int k => if a ≠ [] ∧ 2 ≤ k ∧ k ≤ 1000 ∧ a.length ≤ 1000 then some (.tuple (List.replicate k.toNat a).flatten) else none
  | _, _ => none
/-- [..] * n -/
def repD : D → D → Option D
  | .list a, .int k => if -(2 ^ 63) ≤ k ∧ k < 2 ^ 63 ∧ a.length * k.toNat ≤ sizeLine then some (.list (List.replicate k.toNat a).flatten) else none
  | _, _ => none
def binD : Bo → D → D → Option D
  | .add, a, b => addD a b
  | .mul, a, b => mulD a b
  | .sub, .int i, .int j => some (.int (i - j))
  | .fdv, .int i, .int j => if divOk j then some (.int (i / j)) else none
  | .mod, .int i, .int j => if 0 < j then some (.int (i % j)) else none
  | .pow, .int i, .int j => if 0 ≤ j ∧ j ≤ 1000000 ∧ i.natAbs < 2 ^ 64 then some (.int (i ^ j.toNat)) else none
  | _, _, _ => none
mutual
/-- no list in it -/
def nl : D → Bool
  | .list _ => false
  | .dict _ => false
  | .tuple ds => nls ds
  | _ => true
def nls : List D → Bool
  | [] => true
  | d :: r => nl d && nls r
end
def flat : D → Bool
  | .none => true | .bool _ => true | .int _ => true | .str _ => true | _ => false
def eqD (a b : D) : Option Bool :=
  match a, b with
  | .int i, .int j => some (decide (i = j))
  | .str i, .str j => some (decide (i = j))
  | _, _ => if SeqAt.shaped a && SeqAt.shaped b then some (PyData.eqv a b) else none
/-- two rows of ints in their order -/
def intsOf : List D → Option (List Int)
  | [] => some []
  | .int i :: r => (intsOf r).map (i :: ·)
  | _ :: _ => none
def ltD : D → D → Option Bool
  | .int i, .int j => some (decide (i < j))
  | .tuple a, .tuple b => match intsOf a, intsOf b with
    | some x, some y => some (HT.lexLt x y)
    | _, _ => none
  | _, _ => none
/-- two rows in their order, the greater one first -/
def gtD (a b : D) : Option Bool := if PySem.W.alike a b && decide (a.depth ≤ 60) then some (PySem.W.dataLt b a) else none
def inD (x : D) : D → Option Bool
  | .list ds => if flat x && ds.all flat then some (ds.any fun y => PyData.eqv y x)
    else if SeqAt.shaped x && SeqAt.shaped (.list ds) then some (ds.any fun y => PyData.eqv y x) else none
  | .tuple ds => if flat x && ds.all flat then some (ds.any fun y => PyData.eqv y x) else none
  | .str z => match x with
    | .str y => some (!(Builtin.Str.occurrences z y 0 z.length 1).isEmpty)
    | _ => none
  | _ => none
def isNone : D → Bool
  | .none => true
  | _ => false
def cmpD : Co → D → D → Option Bool
  | .eq, a, b => eqD a b
  | .ne, a, b => (eqD a b).map (!·)
  | .lt, a, b => ltD a b
  | .gt, .int i, .int j => some (decide (j < i))
  | .gt, .tuple a, .tuple b => gtD (.tuple a) (.tuple b)
  | .le, .int i, .int j => some (decide (i ≤ j))
  | .ge, .int i, .int j => some (decide (j ≤ i))
  | .is, a, .none => some (isNone a)
  | .isn, a, .none => some (!isNone a)
  | .is, .bool a, .bool b => some (decide (a = b))
  | .isn, .bool a, .bool b => some (!decide (a = b))
  | .inn, a, b => inD a b
  | .nin, a, b => (inD a b).map (!·)
  | _, _, _ => none
def idxD : D → D → Option D
  | .list ds, .int i => atI ds i
  | .tuple ds, .int i => atI ds i
  | .str z, .int i => if z.length ≤ sizeLine then (atI z.cps.toList i).map fun c => .str ⟨#[c]⟩ else none
  | _, _ => none
def partOf (t : Ex) (d : D) : Option (Option Int) := match t with
  | .noe => some none
  | _ => match d with
    | .int i => some (some i)
    | _ => none
/-- xs[lo:hi] -/
def cutL {α : Type} (xs : List α) (lo hi : Option Int) : List α := (xs.drop (HT.sIx xs.length 0 lo)).take (HT.sIx xs.length xs.length hi - HT.sIx xs.length 0 lo)
def slcD (l h : Option Int) : D → Option D
  | .list ds => some (.list (cutL ds l h))
  | .tuple ds => some (.tuple (cutL ds l h))
  | .str z => if z.length ≤ sizeLine then some (.str (cutS z l h)) else none
  | _ => none
def boolsOf : List D → Option (List Bool)
  | [] => some []
  | .bool b :: r => (boolsOf r).map (b :: ·)
  | _ :: _ => none
def itemsOf : D → Option (List D)
  | .list ds => some ds
  | .tuple ds => some ds
  | .str z => some (z.cps.toList.map fun c => .str ⟨#[c]⟩)
  | _ => none
def b1D : B1 → D → Option D
  | .len, .list ds => some (.int ds.length)
  | .len, .tuple ds => some (.int ds.length)
  | .len, .str z => if z.length ≤ sizeLine then some (.int z.length) else none
  | .abs, .int i => some (.int (if i < 0 then -i else i))
  | .int, .int i => some (.int i)
  | .int, .bool b => some (.int (if b then 1 else 0))
  | .all, .list ds => (boolsOf ds).map fun bs => .bool (bs.all id)
  | .any, .list ds => (boolsOf ds).map fun bs => .bool (bs.any id)
  | .sum, .list ds => (intsOf ds).map fun ns => .int ns.sum
  | .max, .list ds => match intsOf ds with
    | some (n :: ns) => some (.int (ns.foldl (fun m x => if x > m then x else m) n))
    | _ => none
  | .min, .list ds => match intsOf ds with
    | some (n :: ns) => some (.int (ns.foldl (fun m x => if x < m then x else m) n))
    | _ => none
  | .sum, .tuple ds => (intsOf ds).map fun ns => .int ns.sum
  | .max, .tuple ds => match intsOf ds with
    | some (n :: ns) => some (.int (ns.foldl (fun m x => if x > m then x else m) n))
    | _ => none
  | .min, .tuple ds => match intsOf ds with
    | some (n :: ns) => some (.int (ns.foldl (fun m x => if x < m then x else m) n))
    | _ => none
  | .str, .int i => if i.natAbs.log2 < 1920 then some (.str (toString i)) else none
  | .str, .str z => some (.str z)
  | .list, .list ds => some (.list ds)
  | .list, .tuple ds => some (.list ds)
  | .tup, .list ds => some (.tuple ds)
  | .tup, .tuple ds => some (.tuple ds)
  | .repr, d => if d.showable && !d.hasDict && decide (d.depth ≤ 60) && decide (d.shown.length ≤ sizeLine) then some (.str d.shown) else none
  | _, _ => none
def b2D : B2 → D → D → Option D
  | .max, .int i, .int j => some (.int (if j > i then j else i))
  | .min, .int i, .int j => some (.int (if j < i then j else i))
  | .dvm, .int i, .int j => if 0 < j ∧ Builtin.divisionGoesByPylong i j = false then some (.tuple [.int (i / j), .int (i % j)]) else none
  | _, _, _ => none
def rngD (lo hi : Int) : List D := (List.range (hi - lo).toNat).map fun i => .int (lo + (i : Nat))
def small62 (i : Int) : Bool := decide (-(2 ^ 62) ≤ i) && decide (i < 2 ^ 62)
/-- the items that a walk gives -/
def walkD : Ik → D → D → Option (List D)
  | .walk, a, _ => itemsOf a
  | .enm, a, _ => (itemsOf a).map fun ds => ds.zipIdx.map fun p => .tuple [.int (p.2 : Nat), p.1]
  | .zip, a, b => match itemsOf a, itemsOf b with
    | some x, some y => some ((x.zip y).map fun p => .tuple [p.1, p.2])
    | _, _ => none
  | .rng, .int i, _ => if small62 i then some (rngD 0 i) else none
  | .rng2, .int i, .int j => if small62 i && small62 j then some (rngD i j) else none
  | _, _, _ => none
/-! ### evaluation -/
abbrev Fn := Nat → List Sl → Option (D × List Sl)
/-- an operand: a value, or the list at a name, read when it is wanted -/
inductive Op where
  | v (d : D)
  | s (i : Nat)
def res (e : Ev) : Op → Option D
  | .v d => some d
  | .s i => match e[i]? with
    | some (.sh d) => some d
    | some (.own _ ds) => some (.list ds)
    | _ => none
def opd (a : Ex) (r : Option (D × Ev)) (e : Ev) : Option (Op × Ev) :=
  match a with
  | .var i => match e[i]? with
    | some (.sh _) => some (.s i, e)
    | some (.own _ _) => some (.s i, e)
    | _ => none
  | _ => match r with
    | some (d, e') => some (.v d, e')
    | none => none
/-- a name read as a value: a list of one's own becomes a value -/
def rdv (e : Ev) (i : Nat) : Option (D × Ev) :=
  match e[i]? with
  | some (.sh d) => some (d, e)
  | some (.own true ds) => some (.list ds, e.set i (.sh (.list ds)))
  | _ => none
def wipeE (e : Ev) : List Nat → Ev
  | [] => e
  | i :: r => (wipeE e r).set i .un
def setAll : Ev → List Nat → List D → Option Ev
  | e, [], [] => some e
  | e, i :: is, d :: ds => setAll (e.set i (.sh d)) is ds
  | _, _, _ => none
def bindT (g : Tg) (d : D) (e : Ev) : Option Ev :=
  match g with
  | .nm i => some (e.set i (.sh d))
  | .tp is => match d with
    | .tuple ds => setAll e is ds
    | _ => none
def backE (e0 e : Ev) : List Nat → Ev
  | [] => e
  | i :: r => (backE e0 e r).set i (e0.getD i .un)
/-- a call's arguments: the values, the lists lent -/
def argSl : Ex → List D → Ev → Option (List Sl)
  | .nil, [], _ => some []
  | .cons a r, d :: ds, e => match argSl r ds e with
    | some t => match a with
      | .mu i => match e[i]? with
        | some (.own _ xs) => some (.own false xs :: t)
        | some (.sh x) => some (.sh x :: t)
        | _ => none
      | _ => some (.sh d :: t)
    | none => none
  | _, _, _ => none
def musOf : Ex → List Nat
  | .cons (.mu i) r => i :: musOf r
  | .cons _ r => musOf r
  | _ => []
def nodupB : List Nat → Bool
  | [] => true
  | a :: r => !r.contains a && nodupB r
/-- behind a call: the lent lists as they are now -/
def wbk : Ex → List Sl → Ev → Option Ev
  | .nil, [], e => some e
  | .cons a r, o :: os, e => match a with
    | .mu i => match e[i]?, o with
      | some (.own fz _), .own _ ys => wbk r os (e.set i (.own fz ys))
      | some (.sh _), .sh _ => wbk r os e
      | _, _ => none
    | _ => wbk r os e
  | _, _, _ => none
def permL {α : Type} (perm : List Nat) (xs : List α) : Option (List α) := perm.mapM fun i => xs[i]?
/-- the turns of a comprehension -/
def lcGo (own : List Nat) (g : Tg) (c : Ev → Option (Bool × Ev)) (f : Ev → Option (D × Ev)) : List D → Ev → List D → Option (List D × Ev)
  | [], e, acc => some (acc, e)
  | d :: ds, e, acc =>
    match bindT g d (wipeE e own) with
    | none => none
    | some e1 => match c e1 with
      | none => none
      | some (false, e2) => lcGo own g c f ds e2 acc
      | some (true, e2) => match f e2 with
        | none => none
        | some (y, e3) => if acc.length < sizeLine then lcGo own g c f ds e3 (acc ++ [y]) else none
def op1 (a : Ex) (fa : Ev → Option (D × Ev)) (k : D → Option D) (e : Ev) : Option (D × Ev) :=
  match opd a (fa e) e with
  | some (x, e1) => match res e1 x with
    | some p => (k p).map fun d => (d, e1)
    | none => none
  | none => none
def op2 (a : Ex) (fa : Ev → Option (D × Ev)) (b : Ex) (fb : Ev → Option (D × Ev)) (k : D → D → Option D) (e : Ev) : Option (D × Ev) :=
  match opd a (fa e) e with
  | some (x, e1) => match opd b (fb e1) e1 with
    | some (y, e2) => match res e2 x, res e2 y with
      | some p, some q => (k p q).map fun d => (d, e2)
      | _, _ => none
    | none => none
  | none => none
/-- a test -/
def opT (a : Ex) (fa : Ev → Option (D × Ev)) (e : Ev) : Option (Bool × Ev) :=
  match opd a (fa e) e with
  | some (x, e1) => match res e1 x with
    | some p => (truth p).map fun d => (d, e1)
    | none => none
  | none => none
/-- a comprehension's test, if there is one -/
def lcT (c : Ex) (fc : Ev → Option (D × Ev)) (e : Ev) : Option (Bool × Ev) :=
  match c with
  | .noe => some (true, e)
  | _ => opT c fc e
def negD : D → Option D
  | .int i => some (.int (-i))
  | _ => none
/-- only the values without lists are seen -/
def mskS : Sl → Sl
  | .sh d => if nl d then .sh d else .un
  | _ => .un
/-- lists of one's own are seen as values -/
def frzS : Sl → Sl
  | .own _ ds => .sh (.list ds)
  | s => s
def ev (Φ : Fn) : Ex → Ev → Option (D × Ev)
  | .var i, e => rdv e i
  | .mu i, e => match e[i]? with
    | some (.sh _) => some (.none, e)
    | some (.own _ _) => some (.none, e)
    | _ => none
  | .cst d, e => some (d, e)
  | .glo _ d, e => some (d, e)
  | .bin o a b, e => op2 a (ev Φ a) b (ev Φ b) (binD o) e
  | .neg a, e => op1 a (ev Φ a) negD e
  | .nt a, e => op1 a (ev Φ a) (fun d => (truth d).map fun b => .bool (!b)) e
  | .and a b, e => match ev Φ a e with
    | some (.bool true, e1) => match ev Φ b e1 with
      | some (.bool t, e2) => some (.bool t, e2)
      | _ => none
    | some (.bool false, e1) => some (.bool false, e1)
    | _ => none
  | .or a b, e => match ev Φ a e with
    | some (.bool true, e1) => some (.bool true, e1)
    | some (.bool false, e1) => match ev Φ b e1 with
      | some (.bool t, e2) => some (.bool t, e2)
      | _ => none
    | _ => none
  | .cmp o a b, e => op2 a (ev Φ a) b (ev Φ b) (fun p q => (cmpD o p q).map .bool) e
  | .chn o p a b c, e => match ev Φ a e with
    | some (x, e1) => match ev Φ b e1 with
      | some (y, e2) => match cmpD o x y with
        | some true => match ev Φ c e2 with
          | some (z, e3) => (cmpD p y z).map fun d => (.bool d, e3)
          | none => none
        | some false => some (.bool false, e2)
        | none => none
      | none => none
    | none => none
  | .ite c a b, e => match opT c (ev Φ c) e with
    | some (true, e1) => ev Φ a e1
    | some (false, e1) => ev Φ b e1
    | none => none
  | .tup as, e => match ev Φ as e with
    | some (.tuple ds, e1) => if ds.length ≤ sizeLine then some (.tuple ds, e1) else none
    | _ => none
  | .lst as, e => match ev Φ as e with
    | some (.tuple ds, e1) => if ds.length ≤ sizeLine then some (.list ds, e1) else none
    | _ => none
  | .rep as n, e => match ev Φ as e with
    | some (.tuple ds, e1) => if ds.length ≤ sizeLine then match ev Φ n e1 with
        | some (k, e2) => (repD (.list ds) k).map fun d => (d, e2)
        | none => none
      else none
    | _ => none
  | .nil, e => some (.tuple [], e)
  | .cons a r, e => match ev Φ a e with
    | some (d, e1) => match ev Φ r e1 with
      | some (.tuple ds, e2) => some (.tuple (d :: ds), e2)
      | _ => none
    | none => none
  | .idx a i, e => op2 a (ev Φ a) i (ev Φ i) idxD e
  | .slc a lo hi, e => match opd a (ev Φ a e) e with
    | some (x, e1) => match ev Φ lo e1 with
      | some (l, e2) => match ev Φ hi e2 with
        | some (h, e3) => match res e3 x, partOf lo l, partOf hi h with
          | some p, some pl, some ph => (slcD pl ph p).map fun d => (d, e3)
          | _, _, _ => none
        | none => none
      | none => none
    | none => none
  | .noe, e => some (.none, e)
  | .call j as, e => match ev Φ as e with
    | some (.tuple ds, e1) => match argSl as ds e1 with
      | some sl => if nodupB (musOf as) then match Φ j sl with
          | some (d, os) => (wbk as os e1).map fun e2 => (d, e2)
          | none => none
        else none
      | none => none
    | _ => none
  | .calk j as ks perm, e => match ev Φ as e with
    | some (.tuple ds, e1) => match ev Φ ks e1 with
      | some (.tuple es, e2) => match permL perm ((ds ++ es).map Sl.sh) with
        | some sl => (Φ j sl).map fun p => (p.1, e2)
        | none => none
      | _ => none
    | _ => none
  | .b1 b a, e => op1 a (ev Φ a) (b1D b) e
  | .b2 b a c, e => op2 a (ev Φ a) c (ev Φ c) (b2D b) e
  | .isi a ts, e => op1 a (ev Φ a) (fun d => (isaAny d ts).map .bool) e
  | .m1 m a b, e => match m with
    | .lrng => match ev Φ a e with
      | some (.int i, e1) => if small62 i && decide (i ≤ 16777216) then some (.list (rngD 0 i), e1) else none
      | _ => none
    | .fr => match ev Φ a e with
      | some (.list ds, e1) => some (.list ds, e1)
      | _ => none
    | .fl => match ev Φ a (e.map mskS) with
      | some (.list ds, _) => if nls ds then some (.list ds, e) else none
      | _ => none
    | .scr => match ev Φ a (e.map frzS) with
      | some (d, _) => if flat d then some (d, e) else none
      | none => none
    | _ => none
  | .cf j a, e => match ev Φ a e with
    | some (.list ds, e1) => (Φ j [.own false ds]).map fun p => (p.1, e1)
    | _ => none
  | .lc own g k a b c f, e => match ev Φ a e with
    | some (x, e1) => match ev Φ b e1 with
      | some (y, e2) => match walkD k x y with
        | some ds =>
          match lcGo (own.map (·.2)) g (lcT c (ev Φ c)) (ev Φ f) ds e2 [] with
          | some (acc, e3) => some (.list acc, backE e2 e3 (own.map (·.2)))
          | none => none
        | none => none
      | none => none
    | none => none
/-! ### statements -/
inductive Sm where
  | nilB
  | consB (s b : Sm)
  | pass
  | nev
  | asg (g : Tg) (e : Ex)
  | aso (i : Nat) (e : Ex)
  | asp (is : List Nat) (os : List Bool) (as : Ex)
  | ast (i : Nat) (k : Ex) (j : Nat) (e : Ex)
  | sub (i : Nat) (k e : Ex)
  | sw2 (i : Nat) (k : Ex) (j : Nat) (l : Ex) (e : Ex)
  | kill (i : Nat) (js : List Nat) (d : D)
  | aug (i : Nat) (k : Ex) (o : Bo) (e : Ex)
  | app (i : Nat) (e : Ex)
  | ext (i : Nat) (e : Ex)
  | exp (e : Ex)
  | ifs (c : Ex) (a b : Sm)
  | for_ (g : Tg) (k : Ik) (a b : Ex) (s : Sm)
  | whl (c : Ex) (s : Sm)
  | ret (e : Ex)
  | retn
  | retv (i : Nat)
  | brk
  | cnt
inductive Out where
  | nx (e : Ev)
  | rt (d : D) (e : Ev)
  | bk (e : Ev)
  | ct (e : Ev)
def tst (Φ : Fn) (c : Ex) (e : Ev) : Option (Bool × Ev) := opT c (ev Φ c) e
/-- a name may be stored: what is not the caller's list -/
def putOk (e : Ev) (i : Nat) : Bool := match e[i]? with
  | some (.own false _) => false
  | some _ => true
  | none => false
def tgIxs : Tg → List Nat
  | .nm i => [i]
  | .tp is => is
def tgOk (e : Ev) (g : Tg) : Bool := (tgIxs g).all (putOk e)
def putSl : Ev → List Nat → List Bool → List D → Option Ev
  | e, [], [], [] => some e
  | e, i :: is, o :: os, d :: ds => match o, d with
    | true, .list xs => if putOk e i then putSl (e.set i (.own true xs)) is os ds else none
    | false, d => if putOk e i then putSl (e.set i (.sh d)) is os ds else none
    | _, _ => none
  | _, _, _, _ => none
def ownAt (e : Ev) (i : Nat) : Option (Bool × List D) := match e[i]? with
  | some (.own fz ds) => some (fz, ds)
  | _ => none
def setAt (e : Ev) (i : Nat) (k v : D) : Option Ev :=
  match ownAt e i, k with
  | some (fz, ds), .int n => match ixN ds.length n with
    | some j => some (e.set i (.own fz (ds.set j v)))
    | none => none
  | _, _ => none
/-- each of these lists has one more item, and is not seen again -/
def killGo (i : Nat) : List Nat → Ev → Option Ev
  | [], e => some e
  | j :: js, e => match e[j]? with
    | some (.own true ds) => if ds.length < sizeLine then killGo i js ((e.set j .un).set i .un) else none
    | _ => none
def forGo (g : Tg) (f : Ev → Option Out) : List D → Ev → Option Out
  | [], e => some (.nx e)
  | d :: ds, e =>
    if tgOk e g then match bindT g d e with
      | none => none
      | some e1 => match f e1 with
        | none => none
        | some (.nx e2) => forGo g f ds e2
        | some (.ct e2) => forGo g f ds e2
        | some (.bk e2) => some (.nx e2)
        | some (.rt v e2) => some (.rt v e2)
    else none
def whlGo (c : Ev → Option (Bool × Ev)) (f : Ev → Option Out) : Nat → Ev → Option Out
  | 0, _ => none
  | n + 1, e => match c e with
    | none => none
    | some (false, e1) => some (.nx e1)
    | some (true, e1) => match f e1 with
      | none => none
      | some (.nx e2) => whlGo c f n e2
      | some (.ct e2) => whlGo c f n e2
      | some (.bk e2) => some (.nx e2)
      | some (.rt v e2) => some (.rt v e2)
/-- more turns than any loop takes -/
def turns : Nat := 1000000
def exs (Φ : Fn) : Sm → Ev → Option Out
  | .nilB, e => some (.nx e)
  | .consB s b, e => match exs Φ s e with
    | some (.nx e1) => exs Φ b e1
    | some o => some o
    | none => none
  | .pass, e => some (.nx e)
  | .nev, _ => none
  | .asg g x, e => match ev Φ x e with
    | some (d, e1) => if tgOk e1 g then (bindT g d e1).map .nx else none
    | none => none
  | .aso i x, e => match ev Φ x e with
    | some (.list ds, e1) => if putOk e1 i then some (.nx (e1.set i (.own true ds))) else none
    | _ => none
  | .asp is os as, e => match ev Φ as e with
    | some (.tuple ds, e1) => (putSl e1 is os ds).map .nx
    | _ => none
  | .ast i k j x, e => match ev Φ x e with
    | some (.tuple [d1, d2], e1) => if (ownAt e1 i).isSome then match ev Φ k e1 with
        | some (n, e2) => match setAt e2 i n d1 with
          | some e3 => if putOk e3 j then some (.nx (e3.set j (.sh d2))) else none
          | none => none
        | none => none
      else none
    | _ => none
  | .sub i k x, e => match ev Φ x e with
    | some (d, e1) => if (ownAt e1 i).isSome then match ev Φ k e1 with
        | some (n, e2) => (setAt e2 i n d).map .nx
        | none => none
      else none
    | none => none
  | .sw2 i k j l x, e => match ev Φ x e with
    | some (.tuple [d1, d2], e1) => if (ownAt e1 i).isSome then match ev Φ k e1 with
        | some (n, e2) => match setAt e2 i n d1 with
          | some e3 => if (ownAt e3 j).isSome then match ev Φ l e3 with
              | some (m, e4) => (setAt e4 j m d2).map .nx
              | none => none
            else none
          | none => none
        | none => none
      else none
    | _ => none
  | .kill i js d, e => if putOk e i && nodupB (i :: js) then (killGo i js e).map .nx else none
  | .aug i k o x, e => if (ownAt e i).isSome then match ev Φ k e with
      | some (.int n, e1) => match ownAt e1 i with
        | some (_, ds) => match atI ds n with
          | some (.int v) => match ev Φ x e1 with
            | some (.int d, e2) => match o with
              | .add => (setAt e2 i (.int n) (.int (v + d))).map .nx
              | _ => none
            | _ => none
          | _ => none
        | none => none
      | _ => none
    else none
  | .app i x, e => if (ownAt e i).isSome then match ev Φ x e with
      | some (d, e1) => match ownAt e1 i with
        | some (fz, ds) => if ds.length < sizeLine then some (.nx (e1.set i (.own fz (ds ++ [d])))) else none
        | none => none
      | none => none
    else none
  | .ext i x, e => if (ownAt e i).isSome then match ev Φ x e with
      | some (.list xs, e1) => match ownAt e1 i with
        | some (fz, ds) => if ds.length + xs.length ≤ sizeLine then some (.nx (e1.set i (.own fz (ds ++ xs)))) else none
        | none => none
      | _ => none
    else none
  | .exp x, e => match ev Φ x e with
    | some (_, e1) => some (.nx e1)
    | none => none
  | .ifs c a b, e => match tst Φ c e with
    | some (true, e1) => exs Φ a e1
    | some (false, e1) => exs Φ b e1
    | none => none
  | .for_ g k a b s, e => match ev Φ a e with
    | some (x, e1) => match ev Φ b e1 with
      | some (y, e2) => match walkD k x y with
        | some ds => forGo g (exs Φ s) ds e2
        | none => none
      | none => none
    | none => none
  | .whl c s, e => whlGo (tst Φ c) (exs Φ s) turns e
  | .ret x, e => match ev Φ x e with
    | some (d, e1) => some (.rt d e1)
    | none => none
  | .retn, e => some (.rt .none e)
  | .retv i, e => match e[i]? with
    | some (.own true ds) => some (.rt (.list ds) (e.set i .un))
    | _ => none
  | .brk, e => some (.bk e)
  | .cnt, e => some (.ct e)
/-- a def: how many parameters, how many names, its body -/
structure Df where
  np : Nat
  nn : Nat
  body : Sm
/-- what the caller finds in the lent lists -/
def outs : List Sl → Ev → Option (List Sl)
  | [], _ => some []
  | .own _ _ :: r, .own false ys :: t => (outs r t).map (.own false ys :: ·)
  | .sh d :: r, _ :: t => (outs r t).map (.sh d :: ·)
  | _, _ => none
def run (Φ : Fn) (f : Df) (args : List Sl) : Option (D × List Sl) :=
  if args.length = f.np then
    match exs Φ f.body (args ++ List.replicate (f.nn - f.np) .un) with
    | some (.rt d e) => (outs args e).map fun o => (d, o)
    | some (.nx e) => (outs args e).map fun o => (.none, o)
    | _ => none
  else none
/-- the defs of a text, the last one first: each calls such as stand behind it -/
def tab : List Df → Fn
  | [], _, _ => none
  | f :: r, j, a => if j = r.length then run (tab r) f a else tab r j a
end Iv
end
section
set_option Elab.async false
set_option linter.all false
set_option maxRecDepth 100000
/-! The interpreter's states held against the layer's heaps. -/
namespace Iv
open PySem PySem.Spec PyProof.Rows L2
/-! ### data stay as the heap grows -/
mutual
theorem dp_mono {K : PySem.W.Frag} {F H : Hp} (e : Same F H) : ∀ {d : D} {v : V}, Dp K F v d → Dp K H v d
  | .none, _, h => by cases h; exact .non
  | .bool _, _, h => by cases h; exact .bl _
  | .int _, _, h => by cases h; exact .int _
  | .str _, _, h => by cases h; exact .str _
  | .list ds, _, h => by
    cases h with
    | lst h1 h2 => exact .lst (e.seq h1) (dps_mono e h2)
  | .tuple ds, _, h => by
    cases h with
    | tup h1 h2 => exact .tup (by
        rcases h1 with (h | ⟨o, h⟩) | h
        · exact .inl (.inl (e _ _ h))
        · exact .inl (.inr ⟨o, e _ _ h⟩)
        · exact .inr h) (dps_mono e h2)
  | .dict _, _, h => by cases h
theorem dps_mono {K : PySem.W.Frag} {F H : Hp} (e : Same F H) : ∀ {ds : List D} {vs : List V}, DpAll K F vs ds → DpAll K H vs ds
  | [], _, h => by cases h; exact .nil
  | d :: ds, _, h => by
    cases h with
    | cons h1 h2 => exact .cons (dp_mono e h1) (dps_mono e h2)
end
theorem dps_len {K : PySem.W.Frag} {F : Hp} : ∀ {ds : List D} {vs : List V}, DpAll K F vs ds → vs.length = ds.length
  | [], _, h => by cases h; rfl
  | d :: ds, _, h => by
    cases h with
    | cons h1 h2 => simp [dps_len h2]
theorem dps_get {K : PySem.W.Frag} {F : Hp} : ∀ {ds : List D} {vs : List V} {j : Nat} {d : D}, DpAll K F vs ds → ds[j]? = some d → ∃ v, vs[j]? = some v ∧ Dp K F v d
  | [], _, _, _, _, e => by simp at e
  | d :: ds, _, 0, _, h, e => by
    cases h with
    | cons h1 h2 =>
      simp at e
      subst e
      exact ⟨_, rfl, h1⟩
  | d :: ds, _, j + 1, _, h, e => by
    cases h with
    | cons h1 h2 => exact dps_get (j := j) h2 (by simpa using e)
theorem dps_app {K : PySem.W.Frag} {F : Hp} : ∀ {ds es : List D} {vs us : List V}, DpAll K F vs ds → DpAll K F us es → DpAll K F (vs ++ us) (ds ++ es)
  | [], _, _, _, h, h' => by cases h; exact h'
  | d :: ds, _, _, _, h, h' => by
    cases h with
    | cons h1 h2 => exact .cons h1 (dps_app h2 h')
theorem dps_set {K : PySem.W.Frag} {F : Hp} {d : D} {v : V} (q : Dp K F v d) : ∀ {ds : List D} {vs : List V} (j : Nat), DpAll K F vs ds → DpAll K F (vs.set j v) (ds.set j d)
  | [], _, _, h => by cases h; exact .nil
  | _ :: _, _, 0, h => by
    cases h with
    | cons h1 h2 => exact .cons q h2
  | _ :: _, _, j + 1, h => by
    cases h with
    | cons h1 h2 => exact .cons h1 (dps_set q j h2)
theorem dps_drop {K : PySem.W.Frag} {F : Hp} : ∀ {ds : List D} {vs : List V} (n : Nat), DpAll K F vs ds → DpAll K F (vs.drop n) (ds.drop n)
  | _, _, 0, h => h
  | [], _, _ + 1, h => by cases h; exact .nil
  | _ :: _, _, n + 1, h => by
    cases h with
    | cons h1 h2 => exact dps_drop n h2
theorem dps_take {K : PySem.W.Frag} {F : Hp} : ∀ {ds : List D} {vs : List V} (n : Nat), DpAll K F vs ds → DpAll K F (vs.take n) (ds.take n)
  | _, _, 0, h => .nil
  | [], _, _ + 1, h => by cases h; exact .nil
  | _ :: _, _, n + 1, h => by
    cases h with
    | cons h1 h2 => exact .cons h1 (dps_take n h2)
theorem dps_rep {K : PySem.W.Frag} {F : Hp} {ds : List D} {vs : List V} (h : DpAll K F vs ds) : ∀ n : Nat, DpAll K F (List.replicate n vs).flatten (List.replicate n ds).flatten
  | 0 => .nil
  | n + 1 => by
    rw [List.replicate_succ, List.replicate_succ, List.flatten_cons, List.flatten_cons]
    exact dps_app h (dps_rep h n)
theorem dps_cut {K : PySem.W.Frag} {F : Hp} {ds : List D} {vs : List V} (h : DpAll K F vs ds) (lo hi : Option Int) : DpAll K F (cutV vs lo hi) (cutL ds lo hi) := by
  have e := dps_len h
  unfold cutV cutL
  rw [e]
  exact dps_take _ (dps_drop _ h)
/-! ### a state -/
def OwnAt (fz : Bool) (e : Ev) (σ : L2.St) (b : Addr) : Prop := ∃ (i : Nat) (ds : List D), e[i]? = some (.own fz ds) ∧ σ[i]? = some (some (.ref b))
structure Rel (K : PySem.W.Frag) (z : L2.St) (e : Ev) (σ : L2.St) (F H : Hp) : Prop where
  len : e.length = σ.length
  sub : Same F H
  sh : ∀ (i : Nat) (d : D), e[i]? = some (.sh d) → ∃ v, σ[i]? = some (some v) ∧ Dp K F v d
  own : ∀ (i : Nat) (fz : Bool) (ds : List D), e[i]? = some (.own fz ds) → ∃ a vs, σ[i]? = some (some (.ref a)) ∧ H a = some (.lst vs) ∧ F a = none ∧ DpAll K F vs ds
  inj : ∀ (i j : Nat) (fz fz' : Bool) (ds ds' : List D) (a : Addr), e[i]? = some (.own fz ds) → e[j]? = some (.own fz' ds') → σ[i]? = some (some (.ref a)) → σ[j]? = some (some (.ref a)) → i = j
  io : ∀ (i : Nat) (ds : List D), e[i]? = some (.own false ds) → σ[i]? = z[i]?
structure Stp (e : Ev) (σ : L2.St) (F H : Hp) (e' : Ev) (σ' : L2.St) (F' H' : Hp) : Prop where
  fs : Same F F'
  keep : ∀ b o, H b = some o → (∀ fz, ¬ OwnAt fz e σ b) → H' b = some o
  there : ∀ b, H b ≠ none → H' b ≠ none
  new : ∀ b, F' b ≠ none → F b ≠ none ∨ H b = none ∨ OwnAt true e σ b
  owT : ∀ b, OwnAt true e' σ' b → OwnAt true e σ b
  owF : ∀ b, OwnAt false e' σ' b → OwnAt false e σ b
  nf : ∀ b o u, F' b = some (.frz o u) → F b = some (.frz o u)
theorem Stp.refl {e : Ev} {σ : L2.St} {F H : Hp} : Stp e σ F H e σ F H :=
  ⟨Same.refl _, fun _ _ h _ => h, fun _ h => h, fun _ h => .inl h, fun _ h => h, fun _ h => h, fun _ _ _ h => h⟩
theorem Stp.trans {e e1 e2 : Ev} {σ σ1 σ2 : L2.St} {F F1 F2 H H1 H2 : Hp} (a : Stp e σ F H e1 σ1 F1 H1) (b : Stp e1 σ1 F1 H1 e2 σ2 F2 H2) : Stp e σ F H e2 σ2 F2 H2 where
  fs := a.fs.trans b.fs
  keep := fun x o h n => b.keep x o (a.keep x o h n) fun fz q => by
    cases fz with
    | false => exact n false (a.owF x q)
    | true => exact n true (a.owT x q)
  there := fun x h => b.there x (a.there x h)
  new := fun x h => by
    have back : H1 x = none → H x = none := fun q => by
      cases r : H x with
      | none => rfl
      | some o => exact absurd q (a.there x (by rw [r]; simp))
    rcases b.new x h with q | q | q
    · exact a.new x q
    · exact .inr (.inl (back q))
    · exact .inr (.inr (a.owT x q))
  owT := fun x q => a.owT x (b.owT x q)
  owF := fun x q => a.owF x (b.owF x q)
  nf := fun x o u h => a.nf x o u (b.nf x o u h)
theorem Rel.frees {K : PySem.W.Frag} {z : L2.St} {e : Ev} {σ : L2.St} {F H : Hp} (R : Rel K z e σ F H) {p : Addr} (h : H p = none) : F p = none := by
  cases q : F p with
  | none => rfl
  | some o => rw [R.sub p o q] at h; cases h
theorem nf_upd {F F' : Hp} {p : Addr} {us : List V} (h : ∀ b o u, F' b = some (.frz o u) → F b = some (.frz o u)) : ∀ b o u, upd F' p (.lst us) b = some (.frz o u) → F b = some (.frz o u) := fun b o u q => by
  by_cases hb : b = p
  · subst hb
    rw [upd_same] at q
    cases q
  · rw [upd_ne hb] at q
    exact h b o u q
section
variable {K : PySem.W.Frag} {z : L2.St} {e : Ev} {σ : L2.St} {F H : Hp} {p : Addr} {o : HO}
theorem Same.upd2 (h : Same F H) (n : H p = none) : Same (upd F p o) (upd H p o) := fun b u q => by
  by_cases hb : b = p
  · subst hb; rw [upd_same] at q ⊢; exact q
  · rw [upd_ne hb] at q ⊢; exact h b u q
theorem Same.fresh (n : H p = none) : Same H (upd H p o) := fun b u q => by
  rw [upd_ne (ne_of_none q n)]; exact q
/-- a new object, known at once -/
theorem Rel.new (R : Rel K z e σ F H) (n : H p = none) : Rel K z e σ (upd F p o) (upd H p o) where
  len := R.len
  sub := Same.upd2 R.sub n
  sh := fun i d h => by
    obtain ⟨v, h1, h2⟩ := R.sh i d h
    exact ⟨v, h1, dp_mono (Same.fresh (R.frees n)) h2⟩
  own := fun i fz ds h => by
    obtain ⟨a, vs, h1, h2, h3, h4⟩ := R.own i fz ds h
    have ne : a ≠ p := ne_of_none h2 n
    exact ⟨a, vs, h1, by rw [upd_ne ne]; exact h2, by rw [upd_ne ne]; exact h3, dps_mono (Same.fresh (R.frees n)) h4⟩
  inj := R.inj
  io := R.io
theorem Stp.new1 (R : Rel K z e σ F H) (n : H p = none) (no : ∀ o' u, o ≠ .frz o' u := by intro _ _ h; cases h) : Stp e σ F H e σ (upd F p o) (upd H p o) where
  fs := Same.fresh (R.frees n)
  keep := fun b u h _ => Same.fresh n b u h
  there := fun b h => by
    by_cases hb : b = p
    · subst hb; exact absurd n h
    · rw [upd_ne hb]; exact h
  new := fun b h => by
    by_cases hb : b = p
    · subst hb; exact .inr (.inl n)
    · rw [upd_ne hb] at h; exact .inl h
  owT := fun _ h => h
  owF := fun _ h => h
  nf := fun b o' u h => by
    by_cases hb : b = p
    · subst hb
      rw [upd_same] at h
      exact absurd (Option.some.inj h) (no o' u)
    · rw [upd_ne hb] at h
      exact h
/-- a new object, not known yet -/
theorem Rel.newH (R : Rel K z e σ F H) (n : H p = none) : Rel K z e σ F (upd H p o) where
  len := R.len
  sub := fun b u q => Same.fresh n b u (R.sub b u q)
  sh := R.sh
  own := fun i fz ds h => by
    obtain ⟨a, vs, h1, h2, h3, h4⟩ := R.own i fz ds h
    exact ⟨a, vs, h1, by rw [upd_ne (ne_of_none h2 n)]; exact h2, h3, h4⟩
  inj := R.inj
  io := R.io
theorem Stp.newH (n : H p = none) : Stp e σ F H e σ F (upd H p o) where
  fs := Same.refl _
  keep := fun b u h _ => Same.fresh n b u h
  there := fun b h => by
    by_cases hb : b = p
    · subst hb; exact absurd n h
    · rw [upd_ne hb]; exact h
  new := fun b h => .inl h
  owT := fun _ h => h
  owF := fun _ h => h
  nf := fun _ _ _ h => h
/-- what is known not yet, becomes known -/
theorem Rel.know (R : Rel K z e σ F H) (h : H p = some o) (hF : F p = none) (no : ∀ fz, ¬ OwnAt fz e σ p) : Rel K z e σ (upd F p o) H where
  len := R.len
  sub := fun b u q => by
    by_cases hb : b = p
    · subst hb; rw [upd_same] at q; rw [h]; exact q
    · rw [upd_ne hb] at q; exact R.sub b u q
  sh := fun i d q => by
    obtain ⟨v, h1, h2⟩ := R.sh i d q
    exact ⟨v, h1, dp_mono (Same.fresh hF) h2⟩
  own := fun i fz ds q => by
    obtain ⟨a, vs, h1, h2, h3, h4⟩ := R.own i fz ds q
    have ne : a ≠ p := fun w => no fz ⟨i, ds, q, by rw [h1, w]⟩
    exact ⟨a, vs, h1, h2, by rw [upd_ne ne]; exact h3, dps_mono (Same.fresh hF) h4⟩
  inj := R.inj
  io := R.io
end
theorem lt_of_get {α : Type} {l : List α} {i : Nat} {x : α} (h : l[i]? = some x) : i < l.length := (List.getElem?_eq_some_iff.mp h).1
theorem set_get {α : Type} {l : List α} {i j : Nat} {x y : α} (h : (l.set i x)[j]? = some y) : (j = i ∧ y = x) ∨ (j ≠ i ∧ l[j]? = some y) := by
  by_cases e : j = i
  · subst e
    have hl := lt_of_get h
    rw [List.length_set] at hl
    rw [List.getElem?_set_self hl] at h
    exact .inl ⟨rfl, (Option.some.inj h).symm⟩
  · rw [List.getElem?_set_ne (Ne.symm e)] at h
    exact .inr ⟨e, h⟩
section
variable {K : PySem.W.Frag} {z : L2.St} {e : Ev} {σ : L2.St} {F H : Hp} {i : Nat} {ds : List D}
/-- a list of one's own becomes a value -/
theorem Rel.freeze (R : Rel K z e σ F H) (h : e[i]? = some (.own true ds)) : ∃ a vs, σ[i]? = some (some (.ref a)) ∧ H a = some (.lst vs) ∧ F a = none ∧ DpAll K F vs ds ∧
    Rel K z (e.set i (.sh (.list ds))) σ (upd F a (.lst vs)) H ∧ Stp e σ F H (e.set i (.sh (.list ds))) σ (upd F a (.lst vs)) H ∧ Dp K (upd F a (.lst vs)) (.ref a) (.list ds) := by
  obtain ⟨a, vs, h1, h2, h3, h4⟩ := R.own i true ds h
  have mono : Same F (upd F a (.lst vs)) := Same.fresh h3
  have dp : Dp K (upd F a (.lst vs)) (.ref a) (.list ds) := .lst (.inl (.inl upd_same)) (dps_mono mono h4)
  refine ⟨a, vs, h1, h2, h3, h4, ⟨by rw [List.length_set]; exact R.len, ?_, ?_, ?_, ?_, ?_⟩, ⟨mono, fun _ _ q _ => q, fun _ q => q, ?_, ?_, ?_, nf_upd fun _ _ _ q => q⟩, dp⟩
  · intro b u q
    by_cases hb : b = a
    · subst hb; rw [upd_same] at q; rw [h2]; exact q
    · rw [upd_ne hb] at q; exact R.sub b u q
  · intro j d q
    rcases set_get q with ⟨rfl, e1⟩ | ⟨ne, q⟩
    · cases e1
      exact ⟨_, h1, dp⟩
    · obtain ⟨v, g1, g2⟩ := R.sh j d q
      exact ⟨v, g1, dp_mono mono g2⟩
  · intro j fz es q
    rcases set_get q with ⟨rfl, e1⟩ | ⟨ne, q⟩
    · cases e1
    · obtain ⟨b, us, g1, g2, g3, g4⟩ := R.own j fz es q
      have nb : b ≠ a := fun w => ne (R.inj j i fz true es ds a q h (by rw [g1, w]) h1)
      exact ⟨b, us, g1, g2, by rw [upd_ne nb]; exact g3, dps_mono mono g4⟩
  · intro j k fz fz' es es' b q q' g g'
    rcases set_get q with ⟨rfl, e1⟩ | ⟨ne, q⟩
    · cases e1
    · rcases set_get q' with ⟨rfl, e1⟩ | ⟨ne', q'⟩
      · cases e1
      · exact R.inj j k fz fz' es es' b q q' g g'
  · intro j es q
    rcases set_get q with ⟨rfl, e1⟩ | ⟨ne, q⟩
    · cases e1
    · exact R.io j es q
  · intro b q
    by_cases hb : b = a
    · subst hb; exact .inr (.inr ⟨i, ds, h, h1⟩)
    · rw [upd_ne hb] at q; exact .inl q
  · rintro b ⟨j, es, q, g⟩
    rcases set_get q with ⟨rfl, e1⟩ | ⟨ne, q⟩
    · cases e1
    · exact ⟨j, es, q, g⟩
  · rintro b ⟨j, es, q, g⟩
    rcases set_get q with ⟨rfl, e1⟩ | ⟨ne, q⟩
    · cases e1
    · exact ⟨j, es, q, g⟩
end
/-! ### operands -/
def OpRel (K : PySem.W.Frag) (F : Hp) (σ : L2.St) (v : V) : Op → Prop
  | .v d => Dp K F v d
  | .s i => σ[i]? = some (some v)
theorem OpRel.mono {K : PySem.W.Frag} {F F' : Hp} {σ : L2.St} {v : V} {o : Op} (e : Same F F') (h : OpRel K F σ v o) : OpRel K F' σ v o := by
  cases o with
  | v d => exact dp_mono e h
  | s i => exact h
/-- a value that is read: its items are known -/
inductive Rdp (K : PySem.W.Frag) (F H : Hp) : V → D → Prop
  | non : Rdp K F H .non .none
  | bl (b : Bool) : Rdp K F H (.bl b) (.bool b)
  | int (i : Int) : Rdp K F H (.int i) (.int i)
  | str (x : Str) : Rdp K F H (.str x) (.str x)
  | lst {a : Addr} {xs : List V} {ds : List D} : SqL K H a xs → DpAll K F xs ds → Rdp K F H (.ref a) (.list ds)
  | tup {a : Addr} {xs : List V} {ds : List D} : SqT K H a xs → SqT K F a xs → DpAll K F xs ds → Rdp K F H (.ref a) (.tuple ds)
theorem same_t {K : PySem.W.Frag} {F H : Hp} {a : Addr} {xs : List V} (e : Same F H) (h1 : SqT K F a xs) : SqT K H a xs := by
  rcases h1 with (h | ⟨o, h⟩) | h
  · exact .inl (.inl (e _ _ h))
  · exact .inl (.inr ⟨o, e _ _ h⟩)
  · exact .inr h
theorem Rdp.of {K : PySem.W.Frag} {F H : Hp} (e : Same F H) {v : V} {d : D} (h : Dp K F v d) : Rdp K F H v d := by
  cases h with
  | non => exact .non
  | bl b => exact .bl b
  | int i => exact .int i
  | str x => exact .str x
  | lst h1 h2 => exact .lst (e.seq h1) h2
  | tup h1 h2 => exact .tup (same_t e h1) h1 h2
theorem Rdp.dp {K : PySem.W.Frag} {F H : Hp} (e : Same F H) {v : V} {d : D} (h : Rdp K F H v d) : Dp K H v d := by
  cases h with
  | non => exact .non
  | bl b => exact .bl b
  | int i => exact .int i
  | str x => exact .str x
  | lst h1 h2 => exact .lst h1 (dps_mono e h2)
  | tup h1 _ h2 => exact .tup h1 (dps_mono e h2)
theorem Rel.res {K : PySem.W.Frag} {z : L2.St} {e : Ev} {σ : L2.St} {F H : Hp} (R : Rel K z e σ F H) {v : V} {o : Op} {d : D} (h : OpRel K F σ v o) (r : res e o = some d) : Rdp K F H v d := by
  cases o with
  | v d' =>
    have e1 : d' = d := Option.some.inj r
    subst e1
    exact .of R.sub h
  | s i =>
    have h : σ[i]? = some (some v) := h
    have r : (match e[i]? with
      | some (.sh d) => some d
      | some (.own _ ds) => some (PyData.list ds)
      | _ => none) = some d := r
    cases q : e[i]? with
    | none => rw [q] at r; cases r
    | some w =>
      rw [q] at r
      cases w with
      | un => cases r
      | sh d' =>
        cases r
        obtain ⟨w, g1, g2⟩ := R.sh i _ q
        rw [h] at g1
        cases g1
        exact .of R.sub g2
      | own fz ds =>
        cases r
        obtain ⟨a, vs, g1, g2, g3, g4⟩ := R.own i _ _ q
        rw [h] at g1
        cases g1
        exact .lst (.inl (.inl g2)) g4
end Iv
end
section
set_option Elab.async false
set_option linter.all false
set_option maxRecDepth 100000
set_option maxHeartbeats 1000000
/-! Operators: what the layer's rules ask, answered from data. -/
namespace Iv
open PySem PySem.Spec PyProof.Rows L2
theorem pe_imp {X : Cx} {e : Expr} {t t' : TE} (h : PE X e t) (w : ∀ σ H Q, t' σ H Q → t σ H Q) : PE X e t' := ⟨fun pins s σ H Q I q => h.run pins s σ H Q I (w _ _ _ q)⟩
theorem pt_imp {X : Cx} {e : Expr} {t t' : TT} (h : PT X e t) (w : ∀ σ H Q, t' σ H Q → t σ H Q) : PT X e t' := ⟨fun pins s σ H Q I q => h.run pins s σ H Q I (w _ _ _ q)⟩
theorem pw_imp {X : Cx} {e : Expr} {t t' : TT} (h : PW X e t) (w : ∀ σ H Q, t' σ H Q → t σ H Q) : PW X e t' := ⟨fun wh pins s σ H Q I q => h.run wh pins s σ H Q I (w _ _ _ q)⟩
theorem pa_imp {X : Cx} {es : List Expr} {t t' : TA} (h : PA X es t) (w : ∀ σ H Q, t' σ H Q → t σ H Q) : PA X es t' := ⟨fun pos pins s σ H Q I q => h.run pos pins s σ H Q I (w _ _ _ q)⟩
theorem ps_imp {X : Cx} {st : Stmt} {t t' : TS} (h : PS X st t) (w : ∀ D σ H, t' D σ H → t D σ H) : PS X st t' := ⟨fun pins s σ H D I q => h.run pins s σ H D I (w _ _ _ q)⟩
theorem pss_imp {X : Cx} {st : List Stmt} {t t' : TS} (h : PSs X st t) (w : ∀ D σ H, t' D σ H → t D σ H) : PSs X st t' := ⟨fun pins s σ H D I q => h.run pins s σ H D I (w _ _ _ q)⟩
theorem opr_or {X : Cx} {f : Value → Value → Sem Value} {r r' : R2} (h : OpR X f r) (h' : OpR X f r') : OpR X f (fun x y H Q => r x y H Q ∨ r' x y H Q) := by
  intro pins s σ H x y v u Q I rx ry q
  rcases q with q | q
  · exact h pins s σ H x y v u Q I rx ry q
  · exact h' pins s σ H x y v u Q I rx ry q
/-! ### what a term's reading is -/
/-- the end of a reading: the value d, known -/
def Fin (K : PySem.W.Frag) (z : L2.St) (e : Ev) (σ : L2.St) (F H : Hp) (e' : Ev) (d : D) (Q : VK) : Prop :=
  ∀ v F' H', Rel K z e' σ F' H' → Stp e σ F H e' σ F' H' → Dp K F' v d → Q v H'
def SemE (Φ : Fn) (K : PySem.W.Frag) (z : L2.St) (t : Ex) : TE := fun σ H Q => ∃ e F d e', Rel K z e σ F H ∧ ev Φ t e = some (d, e') ∧ Fin K z e σ F H e' d Q
def SemO (Φ : Fn) (K : PySem.W.Frag) (z : L2.St) (t : Ex) : TE := fun σ H Q => ∃ e F o e', Rel K z e σ F H ∧ opd t (ev Φ t e) e = some (o, e') ∧
  ∀ v F' H', Rel K z e' σ F' H' → Stp e σ F H e' σ F' H' → OpRel K F' σ v o → Q v H'
def SemT (Φ : Fn) (K : PySem.W.Frag) (z : L2.St) (t : Ex) : TT := fun σ H Q => ∃ e F b e', Rel K z e σ F H ∧ opT t (ev Φ t) e = some (b, e') ∧
  ∀ F' H', Rel K z e' σ F' H' → Stp e σ F H e' σ F' H' → Q b H'
/-- a value at a state that is as it was -/
theorem Fin.val {K : PySem.W.Frag} {z : L2.St} {e : Ev} {σ : L2.St} {F H : Hp} {d : D} {Q : VK} (q : Fin K z e σ F H e d Q) (R : Rel K z e σ F H) {v : V} (h : Dp K F v d) : Q v H := q v F H R Stp.refl h
theorem Fin.lst {K : PySem.W.Frag} {z : L2.St} {e : Ev} {σ : L2.St} {F H : Hp} {ds : List D} {vs : List V} {Q : VK} (q : Fin K z e σ F H e (.list ds) Q) (R : Rel K z e σ F H) (h : DpAll K F vs ds) : ∀ p, H p = none → Q (.ref p) (upd H p (.lst vs)) := fun p n =>
  q (.ref p) (upd F p (.lst vs)) (upd H p (.lst vs)) (R.new n) (Stp.new1 R n) (.lst (.inl (.inl upd_same)) (dps_mono (Same.fresh (R.frees n)) h))
theorem Fin.tup {K : PySem.W.Frag} {z : L2.St} {e : Ev} {σ : L2.St} {F H : Hp} {ds : List D} {vs : List V} {Q : VK} (q : Fin K z e σ F H e (.tuple ds) Q) (R : Rel K z e σ F H) (h : DpAll K F vs ds) : ∀ p, H p = none → Q (.ref p) (upd H p (.tup vs)) := fun p n =>
  q (.ref p) (upd F p (.tup vs)) (upd H p (.tup vs)) (R.new n) (Stp.new1 R n) (.tup (.inl (.inl upd_same)) (dps_mono (Same.fresh (R.frees n)) h))
/-- what an operation on values answers -/
def Ans2 (K : PySem.W.Frag) (r : R2) (k : D → D → Option D) : Prop := ∀ (z : L2.St) (e : Ev) (σ : L2.St) (F H : Hp) (x y : V) (p q d : D) (Q : VK), Rel K z e σ F H → Rdp K F H x p → Rdp K F H y q → k p q = some d → Fin K z e σ F H e d Q → r x y H Q
def Ans1 (K : PySem.W.Frag) (r : V → Hp → VK → Prop) (k : D → Option D) : Prop := ∀ (z : L2.St) (e : Ev) (σ : L2.St) (F H : Hp) (x : V) (p d : D) (Q : VK), Rel K z e σ F H → Rdp K F H x p → k p = some d → Fin K z e σ F H e d Q → r x H Q
theorem op2_get {a b : Ex} {fa fb : Ev → Option (D × Ev)} {k : D → D → Option D} {e e' : Ev} {d : D} (h : op2 a fa b fb k e = some (d, e')) :
    ∃ x e1 y p q, opd a (fa e) e = some (x, e1) ∧ opd b (fb e1) e1 = some (y, e') ∧ res e' x = some p ∧ res e' y = some q ∧ k p q = some d := by
  unfold op2 at h
  cases h1 : opd a (fa e) e with
  | none => rw [h1] at h; cases h
  | some w =>
    obtain ⟨x, e1⟩ := w
    rw [h1] at h
    simp only at h
    cases h2 : opd b (fb e1) e1 with
    | none => rw [h2] at h; cases h
    | some w =>
      obtain ⟨y, e2⟩ := w
      rw [h2] at h
      simp only at h
      cases h3 : res e2 x with
      | none => rw [h3] at h; cases h
      | some p =>
        cases h4 : res e2 y with
        | none => rw [h3, h4] at h; cases h
        | some q =>
          rw [h3, h4] at h
          simp only at h
          cases h5 : k p q with
          | none => rw [h5] at h; cases h
          | some d' =>
            rw [h5] at h
            simp only [Option.map_some, Option.some.injEq, Prod.mk.injEq] at h
            obtain ⟨rfl, rfl⟩ := h
            exact ⟨x, e1, y, p, q, rfl, h2, h3, h4, h5⟩
theorem op1_get {a : Ex} {fa : Ev → Option (D × Ev)} {k : D → Option D} {e e' : Ev} {d : D} (h : op1 a fa k e = some (d, e')) :
    ∃ x p, opd a (fa e) e = some (x, e') ∧ res e' x = some p ∧ k p = some d := by
  unfold op1 at h
  cases h1 : opd a (fa e) e with
  | none => rw [h1] at h; cases h
  | some w =>
    obtain ⟨x, e1⟩ := w
    rw [h1] at h
    simp only at h
    cases h3 : res e1 x with
    | none => rw [h3] at h; cases h
    | some p =>
      rw [h3] at h
      simp only at h
      cases h5 : k p with
      | none => rw [h5] at h; cases h
      | some d' =>
        rw [h5] at h
        simp only [Option.map_some, Option.some.injEq, Prod.mk.injEq] at h
        obtain ⟨rfl, rfl⟩ := h
        exact ⟨x, p, rfl, h3, h5⟩
theorem opT_get {a : Ex} {fa : Ev → Option (D × Ev)} {e e' : Ev} {b : Bool} (h : opT a fa e = some (b, e')) :
    ∃ x p, opd a (fa e) e = some (x, e') ∧ res e' x = some p ∧ truth p = some b := by
  unfold opT at h
  cases h1 : opd a (fa e) e with
  | none => rw [h1] at h; cases h
  | some w =>
    obtain ⟨x, e1⟩ := w
    rw [h1] at h
    simp only at h
    cases h3 : res e1 x with
    | none => rw [h3] at h; cases h
    | some p =>
      rw [h3] at h
      simp only at h
      cases h5 : truth p with
      | none => rw [h5] at h; cases h
      | some d' =>
        rw [h5] at h
        simp only [Option.map_some, Option.some.injEq, Prod.mk.injEq] at h
        obtain ⟨rfl, rfl⟩ := h
        exact ⟨x, p, rfl, h3, h5⟩
/-- two operands, then an operation -/
theorem sem2 {Φ : Fn} {K : PySem.W.Frag} {z : L2.St} {a b : Ex} {k : D → D → Option D} {r : R2} (hr : Ans2 K r k) {σ : L2.St} {H : Hp} {Q : VK}
    (h : ∃ e F d e', Rel K z e σ F H ∧ op2 a (ev Φ a) b (ev Φ b) k e = some (d, e') ∧ Fin K z e σ F H e' d Q) : tOp r (SemO Φ K z a) (SemO Φ K z b) σ H Q := by
  obtain ⟨e, F, d, e', R, h, q⟩ := h
  obtain ⟨x, e1, y, p, p', h1, h2, h3, h4, h5⟩ := op2_get h
  refine ⟨e, F, x, e1, R, h1, fun v F1 H1 R1 S1 o1 => ⟨e1, F1, y, e', R1, h2, fun u F2 H2 R2 S2 o2 => ?_⟩⟩
  exact hr z e' σ F2 H2 v u p p' d Q R2 (R2.res (o1.mono S2.fs) h3) (R2.res o2 h4) h5 fun w F3 H3 R3 S3 dp => q w F3 H3 R3 ((S1.trans S2).trans S3) dp
theorem sem1 {Φ : Fn} {K : PySem.W.Frag} {z : L2.St} {a : Ex} {k : D → Option D} {r : V → Hp → VK → Prop} (hr : Ans1 K r k) {σ : L2.St} {H : Hp} {Q : VK}
    (h : ∃ e F d e', Rel K z e σ F H ∧ op1 a (ev Φ a) k e = some (d, e') ∧ Fin K z e σ F H e' d Q) : SemO Φ K z a σ H (fun x H1 => r x H1 Q) := by
  obtain ⟨e, F, d, e', R, h, q⟩ := h
  obtain ⟨x, p, h1, h3, h5⟩ := op1_get h
  refine ⟨e, F, x, e', R, h1, fun v F1 H1 R1 S1 o1 => ?_⟩
  exact hr z e' σ F1 H1 v p d Q R1 (R1.res o1 h3) h5 fun w F3 H3 R3 S3 dp => q w F3 H3 R3 (S1.trans S3) dp
/-! ### operators -/
section
variable {X : Cx}
/-- list + list, of any lists that are read -/
def rCatG (K : PySem.W.Frag) : R2 := fun x y H Q => ∃ l b xs zs, x = .ref l ∧ y = .ref b ∧ SqL K H l xs ∧ SqL K H b zs ∧ xs.length + zs.length ≤ sizeLine ∧ ∀ p, H p = none → Q (.ref p) (upd H p (.lst (xs ++ zs)))
theorem op_catG : OpR X (binaryOp .Add) (rCatG X.K) := by
  intro pins s σ H x y v u Q I rx ry h
  obtain ⟨l, b, xs, zs, rfl, rfl, hl, hb, hz, q⟩ := h
  cases rx
  cases ry
  obtain ⟨its, r, ⟨⟨c1, d1, t1, s1⟩, n1, g1, k1, k2, k3⟩, _⟩ := I.list hl
  obtain ⟨its2, r2, ⟨⟨c2, d2, t2, s2⟩, n2, g2, m1, m2, m3⟩, _⟩ := I.list hb
  simp only at k1 k2 k3 m1 m2 m3
  subst k1 k2 k3 m1 m2 m3
  have e1 := r.length
  have e2 := r2.length
  refine concat_meets ⟨_, g1, rfl⟩ ⟨_, g2, rfl⟩ noFill_list_add seq_list_add PySem.F.slot_list_add PySem.F.entry_list_add (PySem.F.args_list_add_2 _ _) (list_addW l b its.toArray its2.toArray n1 n2 none none s1 s2 (by rw [List.size_toArray, List.size_toArray]; omega)) ⟨g1, g2, ?_⟩
  rw [show its.toArray ++ its2.toArray = (its ++ its2).toArray by simp]
  exact ⟨.ref _, _, I.lnew (t' := s.toks) (r.append r2) (by rw [List.length_append]; omega), rfl, q _ I.fresh⟩
def rStr : R2 := fun x y H Q => ∃ i j, x = .str i ∧ y = .str j ∧ i.length + j.length ≤ sizeLine ∧ Q (.str (i ++ j)) H
def rBin (K : PySem.W.Frag) : Bo → R2
  | .add => fun x y H Q => rI0 (fun i j => .int (i + j)) x y H Q ∨ rStr x y H Q ∨ rCatG K x y H Q ∨ rCatA K x y H Q
  | .sub => rI0 fun i j => .int (i - j)
  | .mul => fun x y H Q => rI CMulW (fun i j => .int (i * j)) x y H Q ∨ rRepT K x y H Q
  | .fdv => rI CDivW fun i j => .int (i / j)
  | .mod => rI (fun _ j => 0 < j) fun i j => .int (i % j)
  | .pow => rI CPow fun i j => .int (i ^ j.toNat)
def boOp : Bo → Operator
  | .add => .Add | .sub => .Sub | .mul => .Mult | .fdv => .FloorDiv | .mod => .Mod | .pow => .Pow
theorem op_bin : ∀ o : Bo, OpR X (binaryOp (boOp o)) (rBin X.K o)
  | .add => opr_or op_add (opr_or op_add_str (opr_or op_catG op_catA))
  | .sub => op_sub
  | .mul => opr_or op_mulW op_repT
  | .fdv => op_fdivW
  | .mod => op_mod
  | .pow => op_pow
theorem ans_bin {K : PySem.W.Frag} : ∀ o : Bo, Ans2 K (rBin K o) (binD o) := by
  intro o z e σ F H x y p q d Q R hx hy hk hq
  cases o with
  | add =>
    have hk : addD p q = some d := hk
    cases hx with
    | int i =>
      cases hy with
      | int j =>
        cases hk
        exact .inl ⟨i, j, rfl, rfl, hq.val R (.int _)⟩
      | _ => simp [addD] at hk
    | str i =>
      cases hy with
      | str j =>
        simp only [addD] at hk
        split at hk
        · rename_i hz
          cases hk
          exact .inr (.inl ⟨i, j, rfl, rfl, hz, hq.val R (.str _)⟩)
        · cases hk
      | _ => simp [addD] at hk
    | lst h1 h2 =>
      cases hy with
      | lst g1 g2 =>
        simp only [addD] at hk
        split at hk
        · rename_i hz
          cases hk
          exact .inr (.inr (.inl ⟨_, _, _, _, rfl, rfl, h1, g1, by rw [dps_len h2, dps_len g2]; exact hz, hq.lst R (dps_app h2 g2)⟩))
        · cases hk
      | _ => simp [addD] at hk
    | tup h1 h1' h2 =>
      cases hy with
      | tup g1 g1' g2 =>
        simp only [addD] at hk
        split at hk
        · rename_i hz
          cases hk
          refine .inr (.inr (.inr ⟨_, _, _, _, rfl, rfl, h1, g1, by rw [dps_len h2, dps_len g2]; exact hz, fun n => ?_, fun n m => ?_, fun n m => ?_⟩))
          · subst n
            cases h2
            exact hq.val R (.tup g1' g2)
          · subst m
            cases g2
            refine hq.val R ?_
            rw [List.append_nil]
            exact .tup h1' h2
          · exact hq.tup R (dps_app h2 g2)
        · cases hk
      | _ => simp [addD] at hk
    | _ => simp [addD] at hk
  | sub =>
    cases hx with
    | int i =>
      cases hy with
      | int j =>
        cases hk
        exact ⟨i, j, rfl, rfl, hq.val R (.int _)⟩
      | _ => simp [binD] at hk
    | _ => simp [binD] at hk
  | mul =>
    cases hx with
    | int i =>
      cases hy with
      | int j =>
        simp only [binD, mulD] at hk
        split at hk
        · rename_i hz
          cases hk
          exact .inl ⟨i, j, rfl, rfl, (show i.natAbs.log2 + j.natAbs.log2 < 1000000 from of_decide_eq_true hz), hq.val R (.int _)⟩
        · cases hk
      | _ => simp [binD, mulD] at hk
    | tup h1 h1' h2 =>
      cases hy with
      | int k =>
        simp only [binD, mulD] at hk
        split at hk
        · rename_i hz
          cases hk
          have l := dps_len h2
          exact .inr ⟨_, k, _, rfl, rfl, h1, fun q => hz.1 (by rw [q] at l; exact List.eq_nil_of_length_eq_zero l.symm), hz.2.1, hz.2.2.1, by rw [l]; exact hz.2.2.2, hq.tup R (dps_rep h2 _)⟩
        · cases hk
      | _ => simp [binD, mulD] at hk
    | _ => simp [binD, mulD] at hk
  | fdv =>
    cases hx with
    | int i =>
      cases hy with
      | int j =>
        simp only [binD] at hk
        split at hk
        · rename_i hz
          cases hk
          unfold divOk at hz
          rw [Bool.and_eq_true] at hz
          exact ⟨i, j, rfl, rfl, ⟨of_decide_eq_true hz.1, of_decide_eq_true hz.2⟩, hq.val R (.int _)⟩
        · cases hk
      | _ => simp [binD] at hk
    | _ => simp [binD] at hk
  | mod =>
    cases hx with
    | int i =>
      cases hy with
      | int j =>
        simp only [binD] at hk
        split at hk
        · rename_i hz
          cases hk
          exact ⟨i, j, rfl, rfl, hz, hq.val R (.int _)⟩
        · cases hk
      | _ => simp [binD] at hk
    | _ => simp [binD] at hk
  | pow =>
    cases hx with
    | int i =>
      cases hy with
      | int j =>
        simp only [binD] at hk
        split at hk
        · rename_i hz
          cases hk
          exact ⟨i, j, rfl, rfl, hz, hq.val R (.int _)⟩
        · cases hk
      | _ => simp [binD] at hk
    | _ => simp [binD] at hk
/-! ### subscripts -/
theorem ans_idx {K : PySem.W.Frag} : Ans2 K (rIx K) idxD := by
  intro z e σ F H x y p q d Q R hx hy hk hq
  cases hy with
  | int i =>
    cases hx with
    | lst h1 h2 =>
      have hk : atI _ i = some d := hk
      unfold atI at hk
      rw [← dps_len h2] at hk
      cases e1 : ixN _ i with
      | none => rw [e1] at hk; cases hk
      | some j =>
        rw [e1] at hk
        obtain ⟨v, g1, g2⟩ := dps_get h2 hk
        exact .inl ⟨_, _, i, v, rfl, rfl, h1, by unfold atI; rw [e1]; exact g1, hq.val R g2⟩
    | tup h1 h1' h2 =>
      have hk : atI _ i = some d := hk
      unfold atI at hk
      rw [← dps_len h2] at hk
      cases e1 : ixN _ i with
      | none => rw [e1] at hk; cases hk
      | some j =>
        rw [e1] at hk
        obtain ⟨v, g1, g2⟩ := dps_get h2 hk
        exact .inr (.inl ⟨_, _, i, v, rfl, rfl, h1, by unfold atI; rw [e1]; exact g1, hq.val R g2⟩)
    | str w =>
      simp only [idxD] at hk
      split at hk
      · rename_i hz
        cases e1 : atI w.cps.toList i with
        | none => rw [e1] at hk; cases hk
        | some c =>
          rw [e1] at hk
          cases hk
          exact .inr (.inr ⟨w, i, c, rfl, rfl, hz, e1, hq.val R (.str _)⟩)
      · cases hk
    | _ => simp [idxD] at hk
  | _ => cases hx <;> simp [idxD] at hk
/-! ### comparisons -/
theorem decide_inj_int {i j : Int} : decide (V.int i = V.int j) = decide (i = j) := by
  by_cases h : i = j
  · subst h; simp
  · rw [decide_eq_false h, decide_eq_false fun q => h (V.int.inj q)]
theorem decide_inj_str {i j : Str} : decide (V.str i = V.str j) = decide (i = j) := by
  by_cases h : i = j
  · subst h; simp
  · rw [decide_eq_false h, decide_eq_false fun q => h (V.str.inj q)]
def rEqA (K : PySem.W.Frag) : R2 := fun x y H Q => rEq x y H Q ∨ rEqD K x y H Q
def rNeA (K : PySem.W.Frag) : R2 := fun x y H Q => rNe x y H Q ∨ rNeD K x y H Q
theorem dp_of {K : PySem.W.Frag} {z : L2.St} {e : Ev} {σ : L2.St} {F H : Hp} {x : V} {p : D} (R : Rel K z e σ F H) (h : Rdp K F H x p) : Dp K H x p := h.dp R.sub
theorem eqD_cases {a b : D} {r : Bool} (h : eqD a b = some r) : (∃ i j, a = .int i ∧ b = .int j ∧ r = decide (i = j)) ∨ (∃ i j, a = .str i ∧ b = .str j ∧ r = decide (i = j)) ∨ (SeqAt.shaped a = true ∧ SeqAt.shaped b = true ∧ r = PyData.eqv a b) := by
  unfold eqD at h
  split at h
  · exact .inl ⟨_, _, rfl, rfl, (Option.some.inj h).symm⟩
  · exact .inr (.inl ⟨_, _, rfl, rfl, (Option.some.inj h).symm⟩)
  · split at h
    · rename_i hz
      rw [Bool.and_eq_true] at hz
      exact .inr (.inr ⟨hz.1, hz.2, (Option.some.inj h).symm⟩)
    · cases h
theorem ans_eq {K : PySem.W.Frag} {z : L2.St} {e : Ev} {σ : L2.St} {F H : Hp} {x y : V} {p q : D} {b : Bool} {Q : VK} (R : Rel K z e σ F H) (hx : Rdp K F H x p) (hy : Rdp K F H y q) (hk : eqD p q = some b) (hq : Q (.bl b) H) : rEqA K x y H Q := by
  rcases eqD_cases hk with ⟨i, j, rfl, rfl, rfl⟩ | ⟨i, j, rfl, rfl, rfl⟩ | ⟨h1, h2, rfl⟩
  · cases hx
    cases hy
    exact .inl ⟨rfl, by rw [decide_inj_int]; exact hq⟩
  · cases hx
    cases hy
    exact .inl ⟨rfl, by rw [decide_inj_str]; exact hq⟩
  · exact .inr ⟨p, q, dp_of R hx, dp_of R hy, h1, h2, hq⟩
theorem ans_ne {K : PySem.W.Frag} {z : L2.St} {e : Ev} {σ : L2.St} {F H : Hp} {x y : V} {p q : D} {b : Bool} {Q : VK} (R : Rel K z e σ F H) (hx : Rdp K F H x p) (hy : Rdp K F H y q) (hk : eqD p q = some b) (hq : Q (.bl (!b)) H) : rNeA K x y H Q := by
  rcases eqD_cases hk with ⟨i, j, rfl, rfl, rfl⟩ | ⟨i, j, rfl, rfl, rfl⟩ | ⟨h1, h2, rfl⟩
  · cases hx
    cases hy
    exact .inl ⟨rfl, by rw [decide_inj_int]; exact hq⟩
  · cases hx
    cases hy
    exact .inl ⟨rfl, by rw [decide_inj_str]; exact hq⟩
  · exact .inr ⟨p, q, dp_of R hx, dp_of R hy, h1, h2, hq⟩
theorem ints_vs {K : PySem.W.Frag} {F : Hp} : ∀ {ds : List D} {vs : List V} {ns : List Int}, DpAll K F vs ds → intsOf ds = some ns → vs = ns.map V.int
  | [], _, _, h, e => by
    cases h
    cases e
    rfl
  | d :: ds, _, ns, h, e => by
    cases h with
    | cons h1 h2 =>
      cases d with
      | int i =>
        cases h1
        simp only [intsOf] at e
        cases e1 : intsOf ds with
        | none => rw [e1] at e; cases e
        | some ms =>
          rw [e1] at e
          cases e
          rw [ints_vs h2 e1]
          rfl
      | _ => simp [intsOf] at e
theorem eqv_flat {K : PySem.W.Frag} {F : Hp} {x y : V} {d c : D} (h : Dp K F x d) (g : Dp K F y c) (f : flat d = true) (f' : flat c = true) : eqV y x = PyData.eqv c d := by
  cases h <;> cases g <;> first | rfl | (simp [flat] at f) | (simp [flat] at f') | simp [eqV, PyData.eqv]
theorem flat_v {K : PySem.W.Frag} {F : Hp} {x : V} {d : D} (h : Dp K F x d) (f : flat d = true) : flatV x = true := by
  cases h <;> first | rfl | (simp [flat] at f)
theorem flats_v {K : PySem.W.Frag} {F : Hp} : ∀ {vs : List V} {ds : List D}, DpAll K F vs ds → ds.all flat = true → vs.all flatV = true
  | _, [], h, _ => by cases h; rfl
  | _, d :: ds, h, f => by
    cases h with
    | cons h1 h2 =>
      rw [List.all_cons, Bool.and_eq_true] at f
      rw [List.all_cons, flat_v h1 f.1, flats_v h2 f.2]
      rfl
theorem in_flat {K : PySem.W.Frag} {F : Hp} {x : V} {d : D} (h : Dp K F x d) (f : flat d = true) : ∀ {vs : List V} {ds : List D}, DpAll K F vs ds → ds.all flat = true → inV x vs = ds.any fun y => PyData.eqv y d
  | _, [], g, _ => by cases g; rfl
  | _, c :: ds, g, f' => by
    cases g with
    | cons g1 g2 =>
      rw [List.all_cons, Bool.and_eq_true] at f'
      have ih := in_flat h f g2 f'.2
      unfold inV at ih ⊢
      rw [List.any_cons, List.any_cons, ih, eqv_flat h g1 f f'.1]
def rInS (neg : Bool) : R2 := fun x y H Q => ∃ i j, x = .str i ∧ y = .str j ∧ Q (.bl (if neg then !(!(Builtin.Str.occurrences j i 0 j.length 1).isEmpty) else !(Builtin.Str.occurrences j i 0 j.length 1).isEmpty)) H
def rInA (K : PySem.W.Frag) : R2 := fun x y H Q => rIn K false x y H Q ∨ rInD K x y H Q ∨ rInS false x y H Q
def rNinA (K : PySem.W.Frag) : R2 := fun x y H Q => rIn K true x y H Q ∨ rNotInD K x y H Q ∨ rInS true x y H Q
theorem flat_dp {K : PySem.W.Frag} {F H : Hp} {x : V} {d : D} (h : Rdp K F H x d) (f : flat d = true) : Dp K F x d := by
  cases h with
  | non => exact .non
  | bl b => exact .bl b
  | int i => exact .int i
  | str i => exact .str i
  | _ => simp [flat] at f
theorem ans_in {K : PySem.W.Frag} {z : L2.St} {e : Ev} {σ : L2.St} {F H : Hp} {x y : V} {p q : D} {b : Bool} {Q : VK} (R : Rel K z e σ F H) (hx : Rdp K F H x p) (hy : Rdp K F H y q) (hk : inD p q = some b) : (Q (.bl b) H → rInA K x y H Q) ∧ (Q (.bl (!b)) H → rNinA K x y H Q) := by
  cases hy with
  | lst h1 h2 =>
    simp only [inD] at hk
    split at hk
    · rename_i hf
      rw [Bool.and_eq_true] at hf
      cases hk
      have hd := flat_dp hx hf.1
      exact ⟨fun hq => .inl ⟨_, _, rfl, .inl h1, flat_v hd hf.1, flats_v h2 hf.2, by rw [in_flat hd hf.1 h2 hf.2]; exact hq⟩,
        fun hq => .inl ⟨_, _, rfl, .inl h1, flat_v hd hf.1, flats_v h2 hf.2, by rw [in_flat hd hf.1 h2 hf.2]; exact hq⟩⟩
    · split at hk
      · rename_i hf
        rw [Bool.and_eq_true] at hf
        cases hk
        exact ⟨fun hq => .inr (.inl ⟨_, _, dp_of R hx, dp_of R (.lst h1 h2), hf.1, hf.2, hq⟩), fun hq => .inr (.inl ⟨_, _, dp_of R hx, dp_of R (.lst h1 h2), hf.1, hf.2, hq⟩)⟩
      · cases hk
  | tup h1 h1' h2 =>
    simp only [inD] at hk
    split at hk
    · rename_i hf
      rw [Bool.and_eq_true] at hf
      cases hk
      have hd := flat_dp hx hf.1
      exact ⟨fun hq => .inl ⟨_, _, rfl, .inr h1, flat_v hd hf.1, flats_v h2 hf.2, by rw [in_flat hd hf.1 h2 hf.2]; exact hq⟩,
        fun hq => .inl ⟨_, _, rfl, .inr h1, flat_v hd hf.1, flats_v h2 hf.2, by rw [in_flat hd hf.1 h2 hf.2]; exact hq⟩⟩
    · cases hk
  | str w =>
    simp only [inD] at hk
    cases hx with
    | str i =>
      cases hk
      exact ⟨fun hq => .inr (.inr ⟨i, w, rfl, rfl, hq⟩), fun hq => .inr (.inr ⟨i, w, rfl, rfl, hq⟩)⟩
    | _ => simp at hk
  | _ => simp [inD] at hk
/-- t > u, rows of ints -/
def rGtT (K : PySem.W.Frag) : R2 := fun x y H Q => ∃ a b ns ms, x = .ref a ∧ y = .ref b ∧ SqT K H a (ns.map V.int) ∧ SqT K H b (ms.map V.int) ∧ Q (.bl (HT.lexLt ms ns)) H
def rLtA (K : PySem.W.Frag) : R2 := fun x y H Q => rI0 (fun i j => .bl (decide (i < j))) x y H Q ∨ rLtT K x y H Q
def rIsA (K : PySem.W.Frag) : R2 := fun x y H Q => (y = .non ∧ Q (.bl (decide (x = .non))) H) ∨ ∃ a b, x = .bl a ∧ y = .bl b ∧ Q (.bl (decide (a = b))) H
def rIsnA (K : PySem.W.Frag) : R2 := fun x y H Q => (y = .non ∧ Q (.bl (!decide (x = .non))) H) ∨ ∃ a b, x = .bl a ∧ y = .bl b ∧ Q (.bl (!decide (a = b))) H
def rGtD (K : PySem.W.Frag) : R2 := fun x y H Q => ∃ d e, Dp K H x d ∧ Dp K H y e ∧ PySem.W.alike d e = true ∧ d ≠ .none ∧ d.depth ≤ 60 ∧ Q (.bl (PySem.W.dataLt e d)) H
def rGtA (K : PySem.W.Frag) : R2 := fun x y H Q => rI0 (fun i j => .bl (decide (j < i))) x y H Q ∨ rGtD K x y H Q
theorem op_gtD (hu : X.A.units + 64 < cLine) : OpR X (compareOp .Gt) (rGtD X.K) := by
  intro pins s σ H x y v u Q I rx ry h
  obtain ⟨d, e, hd, he, sd, se, hz, q⟩ := h
  obtain ⟨as, r1⟩ := Dp.reads I d x v hd rx
  obtain ⟨bs, r2⟩ := Dp.reads I e y u he ry
  exact PySem.W.gt_data r1 r2 sd se (by omega) ⟨.bl _, H, I, rfl, q⟩
def rCmp (K : PySem.W.Frag) : Co → R2
  | .eq => rEqA K
  | .ne => rNeA K
  | .lt => rLtA K
  | .le => rI0 fun i j => .bl (decide (i ≤ j))
  | .gt => rGtA K
  | .ge => rI0 fun i j => .bl (decide (j ≤ i))
  | .is => rIsA K
  | .isn => rIsnA K
  | .inn => rInA K
  | .nin => rNinA K
def coOp : Co → CmpOp
  | .eq => .Eq | .ne => .NotEq | .lt => .Lt | .le => .LtE | .gt => .Gt | .ge => .GtE | .is => .Is | .isn => .IsNot | .inn => .In | .nin => .NotIn
theorem op_cmp (hu : X.A.units + 65 < cLine) : ∀ o : Co, OpR X (compareOp (coOp o)) (rCmp X.K o)
  | .eq => opr_or op_eq (op_eqD (by omega))
  | .ne => opr_or op_ne (op_neD (by omega))
  | .lt => opr_or op_lt (op_ltT (by omega))
  | .le => op_le
  | .gt => opr_or op_gt (op_gtD (by omega))
  | .ge => op_ge
  | .is => opr_or op_isN op_is_bl
  | .isn => opr_or op_notN op_isnot_bl
  | .inn => opr_or op_in_seq (opr_or (op_inD hu) op_in_str)
  | .nin => opr_or op_notIn_seq (opr_or (op_notInD hu) op_notIn_str)
theorem isn_v {K : PySem.W.Frag} {F H : Hp} {x : V} {d : D} (h : Rdp K F H x d) : decide (x = .non) = isNone d := by
  cases h <;> simp [isNone]
theorem ans_cmp {K : PySem.W.Frag} : ∀ o : Co, Ans2 K (rCmp K o) (fun p q => (cmpD o p q).map .bool) := by
  intro o z e σ F H x y p q d Q R hx hy hk hq
  obtain ⟨b, hk', rfl⟩ := Option.map_eq_some_iff.mp hk
  clear hk
  have hk : cmpD o p q = some b := hk'
  have fin : Q (.bl b) H := hq.val R (.bl b)
  cases o with
  | eq => exact ans_eq R hx hy hk fin
  | ne =>
    obtain ⟨c, hc, rfl⟩ := Option.map_eq_some_iff.mp (show (eqD p q).map (!·) = some b from hk)
    exact ans_ne R hx hy hc fin
  | lt =>
    have hk : ltD p q = some b := hk
    cases hx with
    | int i =>
      cases hy with
      | int j =>
        cases hk
        exact .inl ⟨i, j, rfl, rfl, fin⟩
      | _ => simp [ltD] at hk
    | tup h1 h1' h2 =>
      cases hy with
      | tup g1 g1' g2 =>
        simp only [ltD] at hk
        split at hk
        · rename_i ns ms e1 e2
          cases hk
          have v1 := ints_vs h2 e1
          have v2 := ints_vs g2 e2
          subst v1 v2
          exact .inr ⟨_, _, ns, ms, rfl, rfl, h1, g1, fin⟩
        · cases hk
      | _ => simp [ltD] at hk
    | _ => simp [ltD] at hk
  | le =>
    cases hx <;> cases hy <;> first | (simp [cmpD] at hk; done) | skip
    cases hk
    exact ⟨_, _, rfl, rfl, fin⟩
  | gt =>
    cases hx with
    | int i =>
      cases hy with
      | int j =>
        cases hk
        exact .inl ⟨i, j, rfl, rfl, fin⟩
      | _ => simp [cmpD] at hk
    | tup h1 h1' h2 =>
      cases hy with
      | tup g1 g1' g2 =>
        have hk : gtD (.tuple _) (.tuple _) = some b := hk
        unfold gtD at hk
        split at hk
        · rename_i hc
          rw [Bool.and_eq_true] at hc
          cases hk
          exact .inr ⟨_, _, dp_of R (.tup h1 h1' h2), dp_of R (.tup g1 g1' g2), hc.1, (fun q => by cases q), of_decide_eq_true hc.2, fin⟩
        · cases hk
      | _ => simp [cmpD] at hk
    | _ => cases hy <;> simp [cmpD] at hk
  | ge =>
    cases hx <;> cases hy <;> first | (simp [cmpD] at hk; done) | skip
    cases hk
    exact ⟨_, _, rfl, rfl, fin⟩
  | is =>
    cases hy with
    | non =>
      have hk : some (isNone p) = some b := by
        cases p <;> exact hk
      cases hk
      exact .inl ⟨rfl, by rw [isn_v hx]; exact fin⟩
    | bl c =>
      cases hx with
      | bl a =>
        cases hk
        exact .inr ⟨a, c, rfl, rfl, fin⟩
      | _ => simp [cmpD] at hk
    | _ => cases hx <;> simp [cmpD] at hk
  | isn =>
    cases hy with
    | non =>
      have hk : some (!isNone p) = some b := by
        cases p <;> exact hk
      cases hk
      exact .inl ⟨rfl, by rw [isn_v hx]; exact fin⟩
    | bl c =>
      cases hx with
      | bl a =>
        cases hk
        exact .inr ⟨a, c, rfl, rfl, fin⟩
      | _ => simp [cmpD] at hk
    | _ => cases hx <;> simp [cmpD] at hk
  | inn => exact (ans_in R hx hy hk).1 fin
  | nin =>
    obtain ⟨c, hc, rfl⟩ := Option.map_eq_some_iff.mp (show (inD p q).map (!·) = some b from hk)
    exact (ans_in R hx hy hc).2 fin
/-! ### truth -/
theorem tru_v {K : PySem.W.Frag} {z : L2.St} {e : Ev} {σ : L2.St} {F H : Hp} {x : V} {p : D} {b : Bool} (R : Rel K z e σ F H) (hx : Rdp K F H x p) (h : truth p = some b) : TruV K x H b := by
  have emp : ∀ {vs : List V} {ds : List D}, DpAll K F vs ds → vs.isEmpty = ds.isEmpty := fun {vs ds} h => by
    have e := dps_len h
    cases vs <;> cases ds <;> first | rfl | (simp at e)
  cases hx with
  | non => cases h; rfl
  | bl c => cases h; rfl
  | int i => cases h; rfl
  | str w =>
    simp only [truth] at h
    split at h
    · rename_i hz
      cases h
      exact ⟨hz, rfl⟩
    · cases h
  | lst h1 h2 =>
    cases h
    exact .inl ⟨_, h1, by rw [emp h2]⟩
  | tup h1 h1' h2 =>
    cases h
    exact .inr (.inl ⟨_, h1, by rw [emp h2]⟩)
theorem ans_neg {K : PySem.W.Frag} : Ans1 K (rU fun i => .int (-i)) negD := by
  intro z e σ F H x p d Q R hx hk hq
  cases hx <;> first | (simp [negD] at hk; done) | skip
  cases hk
  exact ⟨_, rfl, hq.val R (.int _)⟩
theorem ans_nt {K : PySem.W.Frag} : Ans1 K (fun x H Q => ∃ k, TruV K x H k ∧ Q (.bl (!k)) H) (fun d => (truth d).map fun b => .bool (!b)) := by
  intro z e σ F H x p d Q R hx hk hq
  obtain ⟨b, hb, rfl⟩ := Option.map_eq_some_iff.mp hk
  exact ⟨b, tru_v R hx hb, hq.val R (.bl _)⟩
end
end Iv
end
section
set_option Elab.async false
set_option linter.all false
set_option maxRecDepth 100000
set_option maxHeartbeats 1000000
/-! Builtins by their names, answered from data. -/
namespace Iv
open PySem PySem.Spec PyProof.Rows L2
def AnsL1 (K : PySem.W.Frag) (r : List V → Hp → VK → Prop) (k : D → Option D) : Prop := Ans1 K (fun x H Q => r [x] H Q) k
def AnsL2 (K : PySem.W.Frag) (r : List V → Hp → VK → Prop) (k : D → D → Option D) : Prop := Ans2 K (fun x y H Q => r [x, y] H Q) k
section
variable {X : Cx}
theorem dep_ints : ∀ ns : List Int, PyData.depthAll (ns.map PyData.int) ≤ 1
  | [] => by simp [PyData.depthAll]
  | n :: ns => by
    have := dep_ints ns
    simp only [List.map_cons, PyData.depthAll, PyData.depth]
    omega
theorem alk_ints (ns : List Int) : PySem.W.AlikeAll (ns.map PyData.int) := by
  refine ⟨fun x hx y hy => ?_, fun x hx => ?_⟩
  · obtain ⟨i, _, rfl⟩ := List.mem_map.mp hx
    obtain ⟨j, _, rfl⟩ := List.mem_map.mp hy
    simp only [PySem.W.alike]
  · obtain ⟨i, _, rfl⟩ := List.mem_map.mp hx
    intro e; cases e
theorem maxD_ints : ∀ (ns : List Int) (n : Int), PySem.W.maxD (.int n) (ns.map PyData.int) = .int (ns.foldl (fun m x => if x > m then x else m) n)
  | [], n => rfl
  | a :: ns, n => by
    show List.foldl _ (if PySem.W.dataLt (.int n) (.int a) = true then PyData.int a else .int n) (ns.map PyData.int) = _
    rw [PySem.W.dataLt_int, List.foldl_cons]
    by_cases h : a > n
    · rw [if_pos (by simpa using h), if_pos h]
      exact maxD_ints ns a
    · rw [if_neg (by simpa using h), if_neg h]
      exact maxD_ints ns n
theorem minD_ints : ∀ (ns : List Int) (n : Int), PySem.W.minD (.int n) (ns.map PyData.int) = .int (ns.foldl (fun m x => if x < m then x else m) n)
  | [], n => rfl
  | a :: ns, n => by
    show List.foldl _ (if PySem.W.dataLt (.int a) (.int n) = true then PyData.int a else .int n) (ns.map PyData.int) = _
    rw [PySem.W.dataLt_int, List.foldl_cons]
    by_cases h : a < n
    · rw [if_pos (by simpa using h), if_pos h]
      exact minD_ints ns a
    · rw [if_neg (by simpa using h), if_neg h]
      exact minD_ints ns n
/-- what a built-in says of a tuple of ints -/
def rTI (K : PySem.W.Frag) (f : List Int → Option Int) : List V → Hp → VK → Prop := fun vs H Q => ∃ x ns m, vs = [x] ∧ Dp K H x (.tuple (ns.map .int)) ∧ f ns = some m ∧ Q (.int m) H
def maxI : List Int → Option Int
  | [] => none
  | n :: ns => some (ns.foldl (fun m x => if x > m then x else m) n)
def minI : List Int → Option Int
  | [] => none
  | n :: ns => some (ns.foldl (fun m x => if x < m then x else m) n)
theorem tup_in {s : Shared} {pins : List (Addr × Obj)} {σ : L2.St} {H : Hp} {x : V} {u : Value} {ns : List Int} (I : L2.Inv X pins σ H s) (r : RelV x u) (h : Dp X.K H x (.tuple (ns.map .int))) : ∃ a vs, u = .ref a ∧ s.heap.IsTuple a vs ∧ IntsAre vs.toList ns := by
  obtain ⟨as, r1⟩ := Dp.reads I _ x u h r
  cases r1 with
  | tuple g1 g2 g3 g4 => exact ⟨_, _, rfl, ⟨_, g1, g2, _, g3⟩, (readsAll_intsAre0 g4).1⟩
theorem cr_maxT (hc : X.calm = true) (hu : X.A.units + 64 < cLine) : CallR X (.builtin "max") (rTI X.K maxI) := by
  intro pins s σ H vs us Q I r h
  obtain ⟨x, ns, m, rfl, hd, e, q⟩ := h
  cases r with
  | cons r1 r2 =>
    cases r2
    obtain ⟨a, its, rfl, ht, hi⟩ := tup_in I r1 hd
    cases ns with
    | nil => cases e
    | cons n ns =>
      cases e
      have dp := dep_ints (n :: ns)
      refine PySem.W.max_tuple_data (x := .int n) (xs := ns.map .int) (I.ok.hd hc) ht (ints_readAll _ hi) (alk_ints (n :: ns)) (by show _ + PyData.depthAll ((n :: ns).map PyData.int) < _; omega) fun i v h' tk bs _ rd k => ?_
      rw [maxD_ints] at rd
      cases rd
      exact ⟨.int _, H, I.kept k, ⟨_, rfl⟩, q⟩
theorem cr_minT (hc : X.calm = true) (hu : X.A.units + 64 < cLine) : CallR X (.builtin "min") (rTI X.K minI) := by
  intro pins s σ H vs us Q I r h
  obtain ⟨x, ns, m, rfl, hd, e, q⟩ := h
  cases r with
  | cons r1 r2 =>
    cases r2
    obtain ⟨a, its, rfl, ht, hi⟩ := tup_in I r1 hd
    cases ns with
    | nil => cases e
    | cons n ns =>
      cases e
      have dp := dep_ints (n :: ns)
      refine PySem.W.min_tuple_data (x := .int n) (xs := ns.map .int) (I.ok.hd hc) ht (ints_readAll _ hi) (alk_ints (n :: ns)) (by show _ + PyData.depthAll ((n :: ns).map PyData.int) < _; omega) fun i v h' tk bs _ rd k => ?_
      rw [minD_ints] at rd
      cases rd
      exact ⟨.int _, H, I.kept k, ⟨_, rfl⟩, q⟩
theorem ints_num : ∀ {vs : List Value} {ns : List Int}, IntsAre vs ns → ∃ xs : Array (Int × Tok), vs.toArray = intItems xs ∧ xs.toList.map (·.1) = ns
  | _, _, .nil => ⟨#[], by simp [intItems], rfl⟩
  | _, _, .cons n t h => by
    obtain ⟨xs, e1, e2⟩ := ints_num h
    refine ⟨⟨(n, t) :: xs.toList⟩, ?_, by simp [e2]⟩
    apply Array.ext'
    have := congrArg Array.toList e1
    simp [intItems] at this ⊢
    exact this
theorem cr_sumT (hc : X.calm = true) : CallR X (.builtin "sum") (rTI X.K fun ns => some ns.sum) := by
  intro pins s σ H vs us Q I r h
  obtain ⟨x, ns, m, rfl, hd, e, q⟩ := h
  cases r with
  | cons r1 r2 =>
    cases r2
    obtain ⟨a, its, rfl, ht, hi⟩ := tup_in I r1 hd
    cases e
    obtain ⟨xs, e1, e2⟩ := ints_num hi
    have e1 : its = intItems xs := by rw [← e1]
    rw [e1] at ht
    refine PySem.W.ktm_sumG (I.ok.hd hc) ht fun h' tk t' k => ⟨.int _, H, I.kept k, ⟨t', ?_⟩, q⟩
    rw [preSum_eq, List.take_of_length_le (by simp), ← e2, ]
end
theorem ints_map : ∀ {ds : List D} {ns : List Int}, intsOf ds = some ns → ds = ns.map .int
  | [], ns, e => by cases e; rfl
  | d :: ds, ns, e => by
    cases d with
    | int i =>
      simp only [intsOf] at e
      cases e1 : intsOf ds with
      | none => rw [e1] at e; cases e
      | some ms =>
        rw [e1] at e
        cases e
        rw [ints_map e1]
        rfl
    | _ => simp [intsOf] at e
section
variable {K : PySem.W.Frag}
def rLenA (K : PySem.W.Frag) : List V → Hp → VK → Prop := fun xs H Q => (∃ p ys, xs = [.ref p] ∧ (SqL K H p ys ∨ SqT K H p ys) ∧ Q (.int ys.length) H) ∨ (∃ z, xs = [.str z] ∧ z.length ≤ sizeLine ∧ Q (.int z.length) H)
theorem ans_len : AnsL1 K (rLenA K) (b1D .len) := by
  intro z e σ F H x p d Q R hx hk hq
  cases hx with
  | lst h1 h2 =>
    cases hk
    exact .inl ⟨_, _, rfl, .inl h1, by rw [dps_len h2]; exact hq.val R (.int _)⟩
  | tup h1 h1' h2 =>
    cases hk
    exact .inl ⟨_, _, rfl, .inr h1, by rw [dps_len h2]; exact hq.val R (.int _)⟩
  | str w =>
    simp only [b1D] at hk
    split at hk
    · rename_i hz
      cases hk
      exact .inr ⟨w, rfl, hz, hq.val R (.int _)⟩
    · cases hk
  | _ => simp [b1D] at hk
theorem ans_abs : AnsL1 K (fun xs H Q => ∃ i, xs = [.int i] ∧ Q (.int (if i < 0 then -i else i)) H) (b1D .abs) := by
  intro z e σ F H x p d Q R hx hk hq
  cases hx <;> first | (simp [b1D] at hk; done) | skip
  cases hk
  exact ⟨_, rfl, hq.val R (.int _)⟩
theorem ans_int : AnsL1 K (fun xs H Q => (∃ i, xs = [.int i] ∧ Q (.int i) H) ∨ ∃ k, xs = [.bl k] ∧ Q (.int (if k then 1 else 0)) H) (b1D .int) := by
  intro z e σ F H x p d Q R hx hk hq
  cases hx with
  | int i =>
    cases hk
    exact .inl ⟨i, rfl, hq.val R (.int _)⟩
  | bl b =>
    cases hk
    exact .inr ⟨b, rfl, hq.val R (.int _)⟩
  | _ => simp [b1D] at hk
theorem bools_vs {F : Hp} : ∀ {ds : List D} {vs : List V} {ns : List Bool}, DpAll K F vs ds → boolsOf ds = some ns → vs = ns.map V.bl
  | [], _, _, h, e => by
    cases h
    cases e
    rfl
  | d :: ds, _, ns, h, e => by
    cases h with
    | cons h1 h2 =>
      cases d with
      | bool i =>
        cases h1
        simp only [boolsOf] at e
        cases e1 : boolsOf ds with
        | none => rw [e1] at e; cases e
        | some ms =>
          rw [e1] at e
          cases e
          rw [bools_vs h2 e1]
          rfl
      | _ => simp [boolsOf] at e
theorem ans_all : AnsL1 K (rAll K) (b1D .all) := by
  intro z e σ F H x p d Q R hx hk hq
  cases hx with
  | lst h1 h2 =>
    obtain ⟨bs, e1, rfl⟩ := Option.map_eq_some_iff.mp (show (boolsOf _).map (fun bs => PyData.bool (bs.all id)) = some d from hk)
    have v := bools_vs h2 e1
    subst v
    exact ⟨_, bs, rfl, h1, hq.val R (.bl _)⟩
  | _ => simp [b1D] at hk
theorem ans_any : AnsL1 K (rAny K) (b1D .any) := by
  intro z e σ F H x p d Q R hx hk hq
  cases hx with
  | lst h1 h2 =>
    obtain ⟨bs, e1, rfl⟩ := Option.map_eq_some_iff.mp (show (boolsOf _).map (fun bs => PyData.bool (bs.any id)) = some d from hk)
    have v := bools_vs h2 e1
    subst v
    exact ⟨_, bs, rfl, h1, hq.val R (.bl _)⟩
  | _ => simp [b1D] at hk
theorem ans_sum : AnsL1 K (fun xs H Q => rSum K xs H Q ∨ rTI K (fun ns => some ns.sum) xs H Q) (b1D .sum) := by
  intro z e σ F H x p d Q R hx hk hq
  cases hx with
  | lst h1 h2 =>
    obtain ⟨bs, e1, rfl⟩ := Option.map_eq_some_iff.mp (show (intsOf _).map (fun ns => PyData.int ns.sum) = some d from hk)
    have v := ints_vs h2 e1
    subst v
    exact .inl ⟨_, bs, rfl, h1, hq.val R (.int _)⟩
  | tup h1 h1' h2 =>
    obtain ⟨bs, e1, rfl⟩ := Option.map_eq_some_iff.mp (show (intsOf _).map (fun ns => PyData.int ns.sum) = some d from hk)
    have v := ints_map e1
    subst v
    exact .inr ⟨_, bs, _, rfl, dp_of R (.tup h1 h1' h2), rfl, hq.val R (.int _)⟩
  | _ => simp [b1D] at hk
theorem foldmax : ∀ (ns : List Int) (n : Int), (ns.foldl (fun m x => if x > m then x else m) n ∈ n :: ns) ∧ ∀ y ∈ n :: ns, y ≤ ns.foldl (fun m x => if x > m then x else m) n
  | [], n => ⟨by simp, by simp⟩
  | a :: ns, n => by
    rw [List.foldl_cons]
    obtain ⟨h1, h2⟩ := foldmax ns (if a > n then a else n)
    generalize List.foldl _ _ ns = M at h1 h2
    by_cases h : a > n
    · rw [if_pos h] at h1 h2
      refine ⟨List.mem_cons_of_mem _ h1, fun y hy => ?_⟩
      rcases List.mem_cons.mp hy with rfl | hy
      · have := h2 a List.mem_cons_self
        omega
      · exact h2 y hy
    · rw [if_neg h] at h1 h2
      refine ⟨?_, fun y hy => ?_⟩
      · rcases List.mem_cons.mp h1 with e | h1
        · rw [e]; exact List.mem_cons_self
        · exact List.mem_cons_of_mem _ (List.mem_cons_of_mem _ h1)
      · rcases List.mem_cons.mp hy with rfl | hy
        · exact h2 y List.mem_cons_self
        · rcases List.mem_cons.mp hy with rfl | hy
          · have := h2 n List.mem_cons_self
            omega
          · exact h2 y (List.mem_cons_of_mem _ hy)
theorem foldmin : ∀ (ns : List Int) (n : Int), (ns.foldl (fun m x => if x < m then x else m) n ∈ n :: ns) ∧ ∀ y ∈ n :: ns, ns.foldl (fun m x => if x < m then x else m) n ≤ y
  | [], n => ⟨by simp, by simp⟩
  | a :: ns, n => by
    rw [List.foldl_cons]
    obtain ⟨h1, h2⟩ := foldmin ns (if a < n then a else n)
    generalize List.foldl _ _ ns = M at h1 h2
    by_cases h : a < n
    · rw [if_pos h] at h1 h2
      refine ⟨List.mem_cons_of_mem _ h1, fun y hy => ?_⟩
      rcases List.mem_cons.mp hy with rfl | hy
      · have := h2 a List.mem_cons_self
        omega
      · exact h2 y hy
    · rw [if_neg h] at h1 h2
      refine ⟨?_, fun y hy => ?_⟩
      · rcases List.mem_cons.mp h1 with e | h1
        · rw [e]; exact List.mem_cons_self
        · exact List.mem_cons_of_mem _ (List.mem_cons_of_mem _ h1)
      · rcases List.mem_cons.mp hy with rfl | hy
        · exact h2 y List.mem_cons_self
        · rcases List.mem_cons.mp hy with rfl | hy
          · have := h2 n List.mem_cons_self
            omega
          · exact h2 y (List.mem_cons_of_mem _ hy)
theorem ans_max : AnsL1 K (fun xs H Q => rMax K xs H Q ∨ rTI K maxI xs H Q) (b1D .max) := by
  intro z e σ F H x p d Q R hx hk hq
  cases hx with
  | lst h1 h2 =>
    simp only [b1D] at hk
    split at hk
    · rename_i n ns e1
      cases hk
      have v := ints_vs h2 e1
      subst v
      obtain ⟨g1, g2⟩ := foldmax ns n
      exact .inl ⟨_, n :: ns, rfl, h1, Nat.zero_lt_succ _, fun m hm hb => by
        have e2 : m = ns.foldl (fun m x => if x > m then x else m) n := Int.le_antisymm (g2 m hm) (hb _ g1)
        rw [e2]
        exact hq.val R (.int _)⟩
    · cases hk
  | tup h1 h1' h2 =>
    simp only [b1D] at hk
    split at hk
    · rename_i n ns e1
      cases hk
      have v := ints_map e1
      subst v
      exact .inr ⟨_, n :: ns, _, rfl, dp_of R (.tup h1 h1' h2), rfl, hq.val R (.int _)⟩
    · cases hk
  | _ => simp [b1D] at hk
theorem ans_min : AnsL1 K (fun xs H Q => rMin K xs H Q ∨ rTI K minI xs H Q) (b1D .min) := by
  intro z e σ F H x p d Q R hx hk hq
  cases hx with
  | lst h1 h2 =>
    simp only [b1D] at hk
    split at hk
    · rename_i n ns e1
      cases hk
      have v := ints_vs h2 e1
      subst v
      obtain ⟨g1, g2⟩ := foldmin ns n
      exact .inl ⟨_, n :: ns, rfl, h1, Nat.zero_lt_succ _, fun m hm hb => by
        have e2 : m = ns.foldl (fun m x => if x < m then x else m) n := Int.le_antisymm (hb _ g1) (g2 m hm)
        rw [e2]
        exact hq.val R (.int _)⟩
    · cases hk
  | tup h1 h1' h2 =>
    simp only [b1D] at hk
    split at hk
    · rename_i n ns e1
      cases hk
      have v := ints_map e1
      subst v
      exact .inr ⟨_, n :: ns, _, rfl, dp_of R (.tup h1 h1' h2), rfl, hq.val R (.int _)⟩
    · cases hk
  | _ => simp [b1D] at hk
theorem ans_str : AnsL1 K (fun xs H Q => (∃ i, xs = [.int i] ∧ i.natAbs.log2 < 1920 ∧ Q (.str (toString i)) H) ∨ ∃ a, xs = [.str a] ∧ Q (.str a) H) (b1D .str) := by
  intro z e σ F H x p d Q R hx hk hq
  cases hx with
  | int i =>
    simp only [b1D] at hk
    split at hk
    · rename_i hz
      cases hk
      exact .inl ⟨i, rfl, hz, hq.val R (.str _)⟩
    · cases hk
  | str w =>
    cases hk
    exact .inr ⟨w, rfl, hq.val R (.str _)⟩
  | _ => simp [b1D] at hk
theorem ans_list : AnsL1 K (fun xs H Q => ∃ p ys, xs = [.ref p] ∧ (SqL K H p ys ∨ SqT K H p ys) ∧ ∀ l, H l = none → Q (.ref l) (upd H l (.lst ys))) (b1D .list) := by
  intro z e σ F H x p d Q R hx hk hq
  cases hx with
  | lst h1 h2 =>
    cases hk
    exact ⟨_, _, rfl, .inl h1, hq.lst R h2⟩
  | tup h1 h1' h2 =>
    cases hk
    exact ⟨_, _, rfl, .inr h1, hq.lst R h2⟩
  | _ => simp [b1D] at hk
theorem ans_tup : AnsL1 K (fun xs H Q => ∃ p ys, xs = [.ref p] ∧ ((SqL K H p ys ∧ ∀ l, H l = none → Q (.ref l) (upd H l (.tup ys))) ∨ (SqT K H p ys ∧ Q (.ref p) H))) (b1D .tup) := by
  intro z e σ F H x p d Q R hx hk hq
  cases hx with
  | lst h1 h2 =>
    cases hk
    exact ⟨_, _, rfl, .inl ⟨h1, hq.tup R h2⟩⟩
  | tup h1 h1' h2 =>
    cases hk
    exact ⟨_, _, rfl, .inr ⟨h1, hq.val R (.tup h1' h2)⟩⟩
  | _ => simp [b1D] at hk
def rRepr (K : PySem.W.Frag) : List V → Hp → VK → Prop := fun xs H Q => ∃ x d, xs = [x] ∧ Dp K H x d ∧ d.showable = true ∧ d.hasDict = false ∧ d.depth ≤ 60 ∧ d.shown.length ≤ sizeLine ∧ Q (.str d.shown) H
theorem ans_repr : AnsL1 K (rRepr K) (b1D .repr) := by
  intro z e σ F H x p d Q R hx hk hq
  have hk : (if p.showable && !p.hasDict && decide (p.depth ≤ 60) && decide (p.shown.length ≤ sizeLine) then some (PyData.str p.shown) else none) = some d := by
    cases p <;> exact hk
  split at hk
  · rename_i hz
    cases hk
    simp only [Bool.and_eq_true, Bool.not_eq_true', decide_eq_true_eq] at hz
    exact ⟨x, p, rfl, dp_of R hx, hz.1.1.1, hz.1.1.2, hz.1.2, hz.2, hq.val R (.str _)⟩
  · cases hk
theorem call_repr {X : Cx} (hg : X.A.guards = some []) (hu : X.A.units + 64 < cLine) : CallR X (.builtin "repr") (rRepr X.K) := by
  intro pins s σ H xs us Q I r h
  obtain ⟨x, d, rfl, dp, h1, h2, h3, h4, q⟩ := h
  obtain ⟨u, rfl, rx⟩ := vals1 r
  obtain ⟨as, rd⟩ := dp.reads I _ _ _ rx
  cases dp with
  | non =>
    cases rx
    exact PySem.P.repr_of_none ⟨.str _, H, I.tok _, ⟨_, rfl⟩, by simpa only [PyData.shown] using q⟩
  | bl b =>
    cases rx
    exact PySem.P.repr_of_bool ⟨.str _, H, I.tok _, ⟨_, rfl⟩, by simpa only [PyData.shown] using q⟩
  | int i =>
    obtain ⟨t, rfl⟩ := rx
    exact PySem.P.repr_of_int (by simpa [PyData.showable] using h1) ⟨.str _, H, I.tok _, ⟨_, rfl⟩, by simpa only [PyData.shown] using q⟩
  | str w =>
    obtain ⟨t, rfl⟩ := rx
    exact PySem.P.repr_of_str ⟨.str _, H, I.tok _, ⟨_, rfl⟩, by simpa only [PyData.shown] using q⟩ (by simpa only [PyData.shown] using h4)
  | lst g1 g2 =>
    cases rx
    exact repr_of_reads' rd h1 (PyData.noDict_hsm h2) hg (by omega) (fun _ _ e => e) (fun h' u tk hk => ⟨.str _, H, I.kept hk, ⟨_, rfl⟩, q⟩) h4
  | tup g1 g2 =>
    cases rx
    exact repr_of_reads' rd h1 (PyData.noDict_hsm h2) hg (by omega) (fun _ _ e => e) (fun h' u tk hk => ⟨.str _, H, I.kept hk, ⟨_, rfl⟩, q⟩) h4
theorem ans_max2 : AnsL2 K (fun xs H Q => ∃ i j, xs = [.int i, .int j] ∧ Q (.int (if j > i then j else i)) H) (b2D .max) := by
  intro z e σ F H x y p q d Q R hx hy hk hq
  cases hx <;> cases hy <;> first | (simp [b2D] at hk; done) | skip
  cases hk
  exact ⟨_, _, rfl, hq.val R (.int _)⟩
theorem ans_min2 : AnsL2 K (fun xs H Q => ∃ i j, xs = [.int i, .int j] ∧ Q (.int (if j < i then j else i)) H) (b2D .min) := by
  intro z e σ F H x y p q d Q R hx hy hk hq
  cases hx <;> cases hy <;> first | (simp [b2D] at hk; done) | skip
  cases hk
  exact ⟨_, _, rfl, hq.val R (.int _)⟩
theorem ans_dvm : AnsL2 K (fun xs H Q => ∃ i j, xs = [.int i, .int j] ∧ CDivP i j ∧ ∀ p, H p = none → Q (.ref p) (upd H p (.tup [.int (i / j), .int (i % j)]))) (b2D .dvm) := by
  intro z e σ F H x y p q d Q R hx hy hk hq
  cases hx with
  | int i =>
    cases hy with
    | int j =>
      simp only [b2D] at hk
      split at hk
      · rename_i hz
        cases hk
        exact ⟨i, j, rfl, hz, hq.tup R (.cons (.int _) (.cons (.int _) .nil))⟩
      · cases hk
    | _ => simp [b2D] at hk
  | _ => simp [b2D] at hk
/-! ### isinstance -/
theorem tyx {F H : Hp} {z : L2.St} {e : Ev} {σ : L2.St} {x : V} {d : D} (R : Rel K z e σ F H) (h : Rdp K F H x d) : TyX K H x (.type (tyName d)) := by
  cases h with
  | non => exact .base .non
  | bl b => exact .base (.bl b)
  | int i => exact .base (.int i)
  | str w => exact .base (.str w)
  | lst h1 h2 =>
    rcases h1 with (h | ⟨o, h⟩) | ⟨o, its, n, hk, hc, _⟩
    · exact .base (.lst h)
    · exact .base (.frz h)
    · exact .kList hk hc
  | tup h1 h1' h2 =>
    rcases h1 with (h | ⟨o, h⟩) | ⟨o, its, n, hk, hc, _⟩
    · exact .base (.tup h)
    · exact .fTuple h
    · exact .kTuple hk hc
theorem kit_one {d : D} {t : String} {b : Bool} (nd : ∀ k, d ≠ .dict k) (h : isaD d t = some b) : PySem.W.kitOne K (.type (tyName d)) (.type t) = some b := by
  unfold isaD at h
  split at h
  all_goals first
    | (cases h; cases d <;> first
        | (exact absurd rfl (nd _))
        | exact kit_ty (a := "NoneType") (r := false) (by decide +kernel)
        | exact kit_ty (a := "bool") (r := false) (by decide +kernel)
        | exact kit_ty (a := "bool") (r := true) (by decide +kernel)
        | exact kit_ty (a := "int") (r := false) (by decide +kernel)
        | exact kit_ty (a := "int") (r := true) (by decide +kernel)
        | exact kit_ty (a := "str") (r := false) (by decide +kernel)
        | exact kit_ty (a := "str") (r := true) (by decide +kernel)
        | exact kit_ty (a := "list") (r := false) (by decide +kernel)
        | exact kit_ty (a := "list") (r := true) (by decide +kernel)
        | exact kit_ty (a := "tuple") (r := false) (by decide +kernel)
        | exact kit_ty (a := "tuple") (r := true) (by decide +kernel))
    | cases h
theorem kit_any {d : D} (nd : ∀ k, d ≠ .dict k) : ∀ {ts : List String} {b : Bool}, isaAny d ts = some b → PySem.W.kitAny K (.type (tyName d)) (ts.map .type) = some b
  | [], b, h => by
    cases h
    rfl
  | t :: ts, b, h => by
    unfold isaAny at h
    cases e : isaD d t with
    | none => rw [e] at h; cases h
    | some c =>
      rw [e] at h
      cases c with
      | true =>
        cases h
        exact kitAny_cons (kit_one nd e) (fun z => nomatch z) fun _ => rfl
      | false => exact kitAny_cons (kit_one nd e) (fun _ => kit_any nd h) fun z => nomatch z
theorem nodict {F H : Hp} {x : V} {d : D} (h : Rdp K F H x d) : ∀ k, d ≠ .dict k := by
  cases h <;> exact fun _ z => nomatch z
end
end Iv
end
section
set_option Elab.async false
set_option linter.all false
set_option maxRecDepth 100000
set_option maxHeartbeats 1000000
/-! zip and enumerate over lists, tuples and texts in any mix, as things that the layer's loops walk. -/
namespace Iv
open PySem PySem.Spec PyProof.Rows L2
/-! ### what is walked -/
inductive Kd where
  | l (a : Addr) (vs : List V)
  | t (a : Addr) (vs : List V)
  | s (z : Str) (tk : Tok)
def Kd.items : Kd → List V
  | .l _ vs => vs
  | .t _ vs => vs
  | .s z _ => z.cps.toList.map fun c => .str ⟨#[c]⟩
def Kd.val : Kd → Value
  | .l a _ => .ref a
  | .t a _ => .ref a
  | .s z tk => .str z tk
def Kd.G (K : PySem.W.Frag) (H : Hp) : Kd → Prop
  | .l a vs => SqL K H a vs
  | .t a vs => SqT K H a vs
  | .s _ _ => True
/-- its iterator's own state -/
def Kd.ow (it : Addr) (i : Nat) (h : Heap) : Kd → Prop
  | .l a _ => h.IsListIter it a i
  | .t a _ => h.IsTupleIter it a i
  | .s z tk => h.IsStrIter it (strIterType z) z tk i
def Kd.ob : Kd → Obj
  | .l a _ => { cls := .type "list_iterator", data := .fields #[.ref a, .int 0 0] }
  | .t a _ => { cls := .type "tuple_iterator", data := .fields #[.ref a, .int 0 0] }
  | .s z tk => { cls := .type (strIterType z), data := .fields #[.str z tk, .int 0 0] }
def Kd.ex : Kd → List Addr
  | .l a _ => [a]
  | .t a _ => [a]
  | .s _ _ => []
theorem kd_obj {k : Kd} {it : Addr} {i : Nat} {h : Heap} (w : k.ow it i h) : ∃ o, h.get? it = some o ∧ ∀ v, o.data ≠ .cell v := by
  cases k with
  | l a vs => obtain ⟨o, e, c, d⟩ := w; exact ⟨o, e, fun v q => by rw [d] at q; cases q⟩
  | t a vs => obtain ⟨o, e, c, d⟩ := w; exact ⟨o, e, fun v q => by rw [d] at q; cases q⟩
  | s z tk => obtain ⟨o, e, c, d⟩ := w; exact ⟨o, e, fun v q => by rw [d] at q; cases q⟩
theorem kd_keep {k : Kd} {it : Addr} {i : Nat} {h h' : Heap} (w : k.ow it i h) (e : ∀ o, h.get? it = some o → h'.get? it = some o) : k.ow it i h' := by
  cases k with
  | l a vs => exact Heap.IsListIter.at w e
  | t a vs => exact Heap.IsTupleIter.at w e
  | s z tk => obtain ⟨o, g, r⟩ := w; exact ⟨o, e o g, r⟩
theorem kd_ob {k : Kd} {it : Addr} {h : Heap} (e : h.get? it = some k.ob) : k.ow it 0 h := by
  cases k with
  | l a vs => exact ⟨_, e, rfl, rfl⟩
  | t a vs => exact ⟨_, e, rfl, rfl⟩
  | s z tk => exact ⟨_, e, rfl, rfl⟩
section
variable {X : Cx} {pins : List (Addr × Obj)} {σ : L2.St} {H : Hp} {s : Shared}
/-- what the iterator draws, as things stand -/
theorem kd_draw {k : Kd} {it : Addr} {A : Around} (I : Inv X pins σ H s) (g : k.G X.K H) (hh : A.handled = none) (hne : it ∉ k.ex) :
    ∃ (P : Nat → Value → Prop) (St : Nat → Heap → Prop), Draws X.prog X.w A it (it :: k.ex) k.items.length P St ∧ (∀ i, k.ow it i s.heap → St i s.heap) ∧ (∀ i h, St i h → k.ow it i h) ∧ ∀ i x, P i x → ∃ v, k.items[i]? = some v ∧ RelV v x := by
  cases k with
  | l a vs =>
    obtain ⟨its, r, p, _⟩ := I.list g
    have ne : a ≠ it := fun e => hne (by simp [Kd.ex, e])
    refine ⟨fun i v => its.toArray[i]? = some v, fun i h => h.IsListIter it a i ∧ h.IsList a its.toArray, ?_, fun i w => ⟨w, p.isList⟩, fun i h st => st.1, fun i x hx => ?_⟩
    · have D := Draws.list (prog := X.prog) (w := X.w) (A := A) hh it a ne its.toArray
      rw [List.size_toArray, ← r.length] at D
      exact D
    · have hx : its[i]? = some x := by simpa using hx
      have hi := lt_of_get hx
      rw [← r.length] at hi
      obtain ⟨y, e1, e2⟩ := r.get (List.getElem?_eq_getElem hi)
      rw [hx] at e1
      cases e1
      exact ⟨_, List.getElem?_eq_getElem hi, e2⟩
  | t a vs =>
    obtain ⟨its, r, p, _⟩ := I.tuple g
    have ne : a ≠ it := fun e => hne (by simp [Kd.ex, e])
    refine ⟨fun i v => its.toArray[i]? = some v, fun i h => h.IsTupleIter it a i ∧ h.IsTuple a its.toArray, ?_, fun i w => ⟨w, p⟩, fun i h st => st.1, fun i x hx => ?_⟩
    · have D := Draws.tuple (prog := X.prog) (w := X.w) (A := A) hh it a ne its.toArray
      rw [List.size_toArray, ← r.length] at D
      exact D
    · have hx : its[i]? = some x := by simpa using hx
      have hi := lt_of_get hx
      rw [← r.length] at hi
      obtain ⟨y, e1, e2⟩ := r.get (List.getElem?_eq_getElem hi)
      rw [hx] at e1
      cases e1
      exact ⟨_, List.getElem?_eq_getElem hi, e2⟩
  | s z tk =>
    refine ⟨fun i v => ∃ c u, z.cps[i]? = some c ∧ v = .str ⟨#[c]⟩ u, fun i h => h.IsStrIter it (strIterType z) z tk i, ?_, fun i w => w, fun i h st => st, fun i x ⟨c, t, hc, e⟩ => ?_⟩
    · have D := Draws.text (prog := X.prog) (w := X.w) (A := A) hh it z tk
      show Draws X.prog X.w A it [it] (z.cps.toList.map _).length _ _
      rw [List.length_map, Array.length_toList]
      exact D
    · subst e
      refine ⟨.str ⟨#[c]⟩, ?_, ⟨t, rfl⟩⟩
      show (z.cps.toList.map _)[i]? = _
      rw [List.getElem?_map, Array.getElem?_toList, hc]
      rfl
theorem kd_begins {k : Kd} (I : Inv X pins σ H s) (g : k.G X.K H) : ∃ F : Heap → Prop, Begins k.val k.ob F ∧ F s.heap := by
  cases k with
  | l a vs =>
    obtain ⟨its, r, p, _⟩ := I.list g
    exact ⟨_, begins_list a its.toArray, p.isList⟩
  | t a vs =>
    obtain ⟨its, r, p, _⟩ := I.tuple g
    exact ⟨_, begins_tuple a its.toArray, p⟩
  | s z tk => exact ⟨_, begins_text z tk, trivial⟩
theorem kd_ex {k : Kd} (I : Inv X pins σ H s) (g : k.G X.K H) : ∀ b ∈ k.ex, b < s.heap.objs.size := by
  intro b hb
  cases k with
  | l a vs =>
    obtain ⟨its, r, p, _⟩ := I.list g
    have e : b = a := by simpa [Kd.ex] using hb
    subst e
    exact p.lt
  | t a vs =>
    obtain ⟨its, r, p, _⟩ := I.tuple g
    have e : b = a := by simpa [Kd.ex] using hb
    subst e
    exact p.lt
  | s z tk => simp [Kd.ex] at hb
end
/-! ### pairs -/
/-- n turns; each lays a pair -/
def ItP (n : Nat) (G : Hp → Prop) (f g : Nat → Option V) : It :=
  ⟨fun i H => i < n ∧ G H, fun i H v H' => ∃ T x y, v = .ref T ∧ H T = none ∧ H' = upd H T (.tup [x, y]) ∧ f i = some x ∧ g i = some y, fun i H => i = n ∧ G H⟩
theorem turn_zipK {P : Program} {w : World} {K : PySem.W.Frag} {elts : List Expr} {kk : Nat} {tpos : Pos} {k1 k2 : Kd} {z TI TO i1 i2 : Addr} (S : ZipSep2 z TI TO i1 i2 (i1 :: k1.ex) (i2 :: k2.ex)) (n1 : i1 ∉ k1.ex) (n2 : i2 ∉ k2.ex) :
    Turn P w K (.Tuple elts kk tpos) (ItP (min k1.items.length k2.items.length) (fun H => k1.G K H ∧ k2.G K H) (fun i => k1.items[i]?) (fun i => k2.items[i]?)) [z, TI, TO, i1, i2] z
      (fun i h => IsZip h z TI TO .none ∧ IsTupOf2 h TI (.ref i1) (.ref i2) ∧ (∃ a1 a2, IsTupOf2 h TO a1 a2) ∧ k1.ow i1 i h ∧ k2.ow i2 i h) := by
  have obj : ∀ (i : Nat) (h : Heap), (IsZip h z TI TO .none ∧ IsTupOf2 h TI (.ref i1) (.ref i2) ∧ (∃ a1 a2, IsTupOf2 h TO a1 a2) ∧ k1.ow i1 i h ∧ k2.ow i2 i h) → ∀ b ∈ [z, TI, TO, i1, i2], ∃ o, h.get? b = some o ∧ ∀ v, o.data ≠ .cell v := by
    intro i h st b hb
    obtain ⟨hz, hTI, ⟨x, y, hTO⟩, h1, h2⟩ := st
    simp only [List.mem_cons, List.not_mem_nil, or_false] at hb
    rcases hb with rfl | rfl | rfl | rfl | rfl
    · exact ⟨_, hz, fun v q => nomatch q⟩
    · exact ⟨_, hTI, fun v q => nomatch q⟩
    · exact ⟨_, hTO, fun v q => nomatch q⟩
    · exact kd_obj h1
    · exact kd_obj h2
  have sub : ∀ b, b ∉ [z, TI, TO, i1, i2] → b ∉ [z, TO, i1, i2] := fun b h q => h (by
    simp only [List.mem_cons, List.not_mem_nil, or_false] at q ⊢
    rcases q with q | q | q | q
    · exact .inl q
    · exact .inr (.inr (.inl q))
    · exact .inr (.inr (.inr (.inl q)))
    · exact .inr (.inr (.inr (.inr q))))
  refine ⟨by simp, obj, fun i h h' st k => ?_, ?_, ?_, fun A i s Q E st h => wpAny_pyIter_zip st.1 h⟩
  · obtain ⟨hz, hTI, ⟨x, y, hTO⟩, h1, h2⟩ := st
    exact ⟨k z (by simp) _ hz, k TI (by simp) _ hTI, ⟨x, y, k TO (by simp) _ hTO⟩, kd_keep h1 fun o q => k i1 (by simp) o q, kd_keep h2 fun o q => k i2 (by simp) o q⟩
  · intro X hP hw hK hc i pins s σ H E I hf st hg
    subst hP hw hK
    have ob := obj i s.heap st
    obtain ⟨hz, hTI, hTO, h1, h2⟩ := st
    obtain ⟨hi, g1, g2⟩ := hg
    have hh : X.A.in1.handled = none := I.ok.hd hc
    obtain ⟨P1, S1, D1, a1, b1, c1⟩ := kd_draw (A := X.A.in1) I g1 hh n1
    obtain ⟨P2, S2, D2, a2, b2, c2⟩ := kd_draw (A := X.A.in1) I g2 hh n2
    have W := WalksT.zipD2 S D1 D2
    refine W.item i s _ _ hi ⟨hz, hTI, hTO, a1 i h1, a2 i h2⟩ fun T vals h' tk hP hT hTup hM hk => ⟨.ref T, rfl, ?_⟩
    refine W.go elts kk tpos i T { s with heap := h', toks := tk } _ _ hM fun h2' st' hk2 => ?_
    obtain ⟨x1, x2, p1, p2, rfl⟩ := hP
    obtain ⟨v1, e1, r1⟩ := c1 i x1 p1
    obtain ⟨v2, e2, r2⟩ := c2 i x2 p2
    have hap := W.apart i T h' hM
    have tup2 : h2'.IsTuple T #[x1, x2] := Heap.IsTuple.at hTup fun o e => hk2 T o hap e
    have I1 : Inv X pins σ (upd H T (.tup [v1, v2])) { s with heap := h2', toks := tk } :=
      I.turnedNew (t' := tk) (ch := [z, TI, TO, i1, i2]) (fun c o hb q => hk2 c o (sub c hb) (hk c o (sub c hb) q)) hf hT ⟨by show 2 ≤ sizeLine; decide, [x1, x2], .cons r1 (.cons r2 .nil), tup2⟩
    obtain ⟨s1, s2, s3, s4, s5⟩ := st'
    refine ⟨.ref T, _, I1, rfl, ⟨T, v1, v2, rfl, I.hok.fresh hT, rfl, e1, e2⟩, ⟨s1, s2, s3, b1 _ _ s4, b2 _ _ s5⟩, fun c hcm => ?_⟩
    obtain ⟨o, eo, _⟩ := ob c hcm
    rw [upd_ne (Nat.ne_of_lt (Nat.lt_of_lt_of_le (Heap.lt_size eo) hT))]
    exact (hf c hcm).1
  · intro X hP hw hK hc i pins s σ H E I hf st hg
    subst hP hw hK
    obtain ⟨hz, hTI, hTO, h1, h2⟩ := st
    obtain ⟨rfl, g1, g2⟩ := hg
    have hh : X.A.in1.handled = none := I.ok.hd hc
    obtain ⟨P1, S1, D1, a1, b1, c1⟩ := kd_draw (A := X.A.in1) I g1 hh n1
    obtain ⟨P2, S2, D2, a2, b2, c2⟩ := kd_draw (A := X.A.in1) I g2 hh n2
    have W := WalksT.zipD2 S D1 D2
    exact W.done s _ _ ⟨hz, hTI, hTO, a1 _ h1, a2 _ h2⟩ fun h' tk hk => ⟨rfl, I.turnedL (t' := tk) (ch := [z, TI, TO, i1, i2]) (fun c o hb q => hk c o (sub c hb) q) hf⟩
theorem turn_enumK {P : Program} {w : World} {K : PySem.W.Frag} {elts : List Expr} {kk : Nat} {tpos : Pos} {k : Kd} {e it : Addr} (he : e ≠ it) (ne : e ∉ k.ex) (ni : it ∉ k.ex) :
    Turn P w K (.Tuple elts kk tpos) (ItP k.items.length (fun H => k.G K H) (fun i => some (.int (i : Nat))) (fun i => k.items[i]?)) [e, it] e
      (fun i h => (∃ old, IsEnum h e it (0 + (i : Int)) old) ∧ k.ow it i h) := by
  have obj : ∀ (i : Nat) (h : Heap), ((∃ old, IsEnum h e it (0 + (i : Int)) old) ∧ k.ow it i h) → ∀ b ∈ [e, it], ∃ o, h.get? b = some o ∧ ∀ v, o.data ≠ .cell v := by
    intro i h st b hb
    obtain ⟨⟨old, g⟩, w⟩ := st
    simp only [List.mem_cons, List.not_mem_nil, or_false] at hb
    rcases hb with rfl | rfl
    · exact ⟨_, g, fun v q => nomatch q⟩
    · exact kd_obj w
  refine ⟨by simp, obj, fun i h h' st k => ?_, ?_, ?_, fun A i s Q E st h => let ⟨⟨_, g⟩, _⟩ := st; wpAny_pyIter_enum g h⟩
  · obtain ⟨⟨old, g⟩, w⟩ := st
    exact ⟨⟨old, k e (by simp) _ g⟩, kd_keep w fun o q => k it (by simp) o q⟩
  · intro X hP hw hK hc i pins s σ H E I hf st hg
    subst hP hw hK
    have ob := obj i s.heap st
    obtain ⟨g, w⟩ := st
    obtain ⟨hi, g1⟩ := hg
    have hh : X.A.in1.handled = none := I.ok.hd hc
    obtain ⟨P1, S1, D1, a1, b1, c1⟩ := kd_draw (A := X.A.in1) I g1 hh ni
    have W := WalksT.enumFrom 0 D1 e he (fun q => (List.mem_cons.mp q).elim he ne) List.mem_cons_self
    refine W.item i s _ _ hi ⟨g, a1 i w⟩ fun T vals h' tk hP hT hTup hM hk => ⟨.ref T, rfl, ?_⟩
    refine W.go elts kk tpos i T { s with heap := h', toks := tk } _ _ hM fun h2' st' hk2 => ?_
    obtain ⟨t, x2, p2, rfl⟩ := hP
    obtain ⟨v2, e2, r2⟩ := c1 i x2 p2
    have hap := W.apart i T h' hM
    have tup2 : h2'.IsTuple T #[.int (0 + (i : Int)) t, x2] := Heap.IsTuple.at hTup fun o q => hk2 T o hap q
    have I1 : Inv X pins σ (upd H T (.tup [.int (i : Nat), v2])) { s with heap := h2', toks := tk } :=
      I.turnedNew (t' := tk) (ch := [e, it]) (fun c o hb q => hk2 c o hb (hk c o hb q)) hf hT ⟨by show 2 ≤ sizeLine; decide, [.int (0 + (i : Int)) t, x2], .cons ⟨t, by rw [Int.zero_add]⟩ (.cons r2 .nil), tup2⟩
    obtain ⟨s1, s2⟩ := st'
    refine ⟨.ref T, _, I1, rfl, ⟨T, .int (i : Nat), v2, rfl, I.hok.fresh hT, rfl, rfl, e2⟩, ⟨s1, b1 _ _ s2⟩, fun c hcm => ?_⟩
    obtain ⟨o, eo, _⟩ := ob c hcm
    rw [upd_ne (Nat.ne_of_lt (Nat.lt_of_lt_of_le (Heap.lt_size eo) hT))]
    exact (hf c hcm).1
  · intro X hP hw hK hc i pins s σ H E I hf st hg
    subst hP hw hK
    obtain ⟨g, w⟩ := st
    obtain ⟨rfl, g1⟩ := hg
    have hh : X.A.in1.handled = none := I.ok.hd hc
    obtain ⟨P1, S1, D1, a1, b1, c1⟩ := kd_draw (A := X.A.in1) I g1 hh ni
    have W := WalksT.enumFrom 0 D1 e he (fun q => (List.mem_cons.mp q).elim he ne) List.mem_cons_self
    exact W.done s _ _ ⟨g, a1 _ w⟩ fun h' tk hk => ⟨rfl, I.turnedL (t' := tk) (ch := [e, it]) (fun c o hb q => hk c o hb q) hf⟩
/-! ### enumerate(v) begins, whatever v is -/
theorem meets_enum1 {v : Value} {o : Obj} {F : Heap → Prop} (B : Begins v o F) :
    Meets (Builtin.«enumerate.__new__» ⟨[.type "enumerate", v], []⟩) (fun _ R s => F s.heap ∧
      R (.ok (.ret (.ref (s.heap.push o).objs.size))) { s with heap := (s.heap.push o).push { cls := .type "enumerate", data := .fields #[.none, .bool false, .ref s.heap.objs.size, rawInt 0, .none, .none] } }) :=
  .of_wp fun prog w A R s h => by
    obtain ⟨hp, g, d, tk, os⟩ := s
    obtain ⟨h1, h⟩ := h
    have hsub := sub_enumerate
    have q1 : ∀ {A' : Around} {E : Value → Shared → Prop} {Q : Value → Shared → Prop}, Q (.ref hp.objs.size) ⟨hp.push o, g, d, tk, os⟩ → wpAny (model prog w) A' (pyIter v) Q E ⟨hp, g, d, tk, os⟩ := fun q => B.iter prog w _ _ ⟨hp, g, d, tk, os⟩ _ h1 q
    wp_walk using q1
    refine wpAny_stack_any fun st => wpAny_pure ?_
    split
    · rename_i c _ _ _ _ _
      cases (c == Value.type "enumerate") <;> (wp_walk using q1; exact ⟨_, rfl, h⟩)
    · wp_walk using q1
      exact ⟨_, rfl, h⟩
theorem enum1_begins {prog : Program} {w : World} {A : Around} {E : Value → Shared → Prop} {s : Shared} {v : Value} {o : Obj} {Fh : Heap → Prop} {Q : Value → Shared → Prop} (B : Begins v o Fh) (h1 : Fh s.heap)
    (h : ∀ h', IsEnum h' (s.heap.objs.size + 1) s.heap.objs.size 0 .none → h'.get? s.heap.objs.size = some o →
      (∀ b o, s.heap.get? b = some o → h'.get? b = some o) → Q (.ref (s.heap.objs.size + 1)) { s with heap := h' }) :
    wpAny (model prog w) A (call (.type "enumerate") [v]) Q E s := by
  refine callType_new PySem.F.called_enumerate (by decide) (PySem.F.typeCall_enumerate_1 _) (PySem.F.newCall_enumerate_1 _) (fun obj => PySem.F.args_object_init_2 obj _) PySem.F.entry_enumerate_new (meets_enum1 B) ⟨h1, ?_⟩
  have hz : (s.heap.push o).objs.size = s.heap.objs.size + 1 := Heap.size_push ..
  have he := Heap.get?_push_size (s.heap.push o) (o := { cls := .type "enumerate", data := .fields #[.none, .bool false, .ref s.heap.objs.size, rawInt 0, .none, .none] }) rfl
  rw [hz] at he
  show _ ∧ _
  rw [hz]
  exact ⟨⟨_, he, rfl⟩, h _ he (Heap.get?_push_of_some _ (Heap.get?_push_size _ B.free)) fun b o x => Heap.get?_push_of_some _ (Heap.get?_push_of_some _ x)⟩
/-! ### what a loop over data is told -/
structure ItOk (K : PySem.W.Frag) (J : It) (F0 : Hp) (ds : List D) : Prop where
  go : ∀ i F H, Same F0 F → Same F H → i < ds.length → J.go i H
  yld : ∀ i F H x H' d, Same F0 F → Same F H → ds[i]? = some d → J.yld i H x H' → (H' = H ∧ Dp K F x d) ∨ ∃ T xs, H T = none ∧ H' = upd H T (.tup xs) ∧ Dp K (upd F T (.tup xs)) x d
  stop : ∀ F H, Same F0 F → Same F H → J.stop ds.length H
section
variable {K : PySem.W.Frag} {F : Hp} {a : Addr} {vs : List V} {ds : List D}
theorem it_list (h : SqL K F a vs) (g : DpAll K F vs ds) : ItOk K (Itl K a) F ds where
  go := fun i F1 H s1 s2 hi => ⟨vs, _, (s1.trans s2).seq h, List.getElem?_eq_getElem (by rw [dps_len g]; exact hi)⟩
  yld := fun i F1 H x H' d s1 s2 hd hy => by
    obtain ⟨rfl, hy⟩ := hy
    obtain ⟨v, e1, e2⟩ := dps_get g hd
    have e3 := hy vs ((s1.trans s2).seq h)
    rw [e1] at e3
    cases e3
    exact .inl ⟨rfl, dp_mono s1 e2⟩
  stop := fun F1 H s1 s2 => ⟨vs, (s1.trans s2).seq h, by rw [dps_len g]; exact Nat.le_refl _⟩
theorem it_tup (h : SqT K F a vs) (g : DpAll K F vs ds) : ItOk K (Itt K a) F ds where
  go := fun i F1 H s1 s2 hi => ⟨vs, _, same_t (s1.trans s2) h, List.getElem?_eq_getElem (by rw [dps_len g]; exact hi)⟩
  yld := fun i F1 H x H' d s1 s2 hd hy => by
    obtain ⟨rfl, hy⟩ := hy
    obtain ⟨v, e1, e2⟩ := dps_get g hd
    have e3 := hy vs (same_t (s1.trans s2) h)
    rw [e1] at e3
    cases e3
    exact .inl ⟨rfl, dp_mono s1 e2⟩
  stop := fun F1 H s1 s2 => ⟨vs, same_t (s1.trans s2) h, by rw [dps_len g]; exact Nat.le_refl _⟩
theorem it_str (z : Str) : ItOk K (Its z) F (z.cps.toList.map fun c => .str ⟨#[c]⟩) where
  go := fun i F1 H s1 s2 hi => by simpa [Its] using hi
  yld := fun i F1 H x H' d s1 s2 hd hy => by
    obtain ⟨rfl, c, hc, rfl⟩ := hy
    rw [List.getElem?_map, Array.getElem?_toList, hc] at hd
    cases hd
    exact .inl ⟨rfl, .str _⟩
  stop := fun F1 H s1 s2 => by simp [Its]
theorem it_rng (lo hi : Int) : ItOk K (Itr lo (hi - lo).toNat) F (rngD lo hi) where
  go := fun i F1 H s1 s2 h => by simpa [Itr, rngD] using h
  yld := fun i F1 H x H' d s1 s2 hd hy => by
    obtain ⟨rfl, rfl⟩ := hy
    have hi' := lt_of_get hd
    unfold rngD at hd hi'
    rw [List.length_map, List.length_range] at hi'
    rw [List.getElem?_map, List.getElem?_range hi'] at hd
    cases hd
    exact .inl ⟨rfl, .int _⟩
  stop := fun F1 H s1 s2 => by
    show (hi - lo).toNat ≤ (rngD lo hi).length
    unfold rngD
    rw [List.length_map, List.length_range]
    exact Nat.le_refl _
/-- pairs of things -/
theorem it_pair {n : Nat} {G : Hp → Prop} {f g : Nat → Option V} (hG : ∀ H, Same F H → G H) (hl : ds.length = n) (hd : ∀ i d, ds[i]? = some d → ∃ p q, d = .tuple [p, q] ∧ (∀ v, f i = some v → Dp K F v p) ∧ (∀ v, g i = some v → Dp K F v q)) : ItOk K (ItP n G f g) F ds where
  go := fun i F1 H s1 s2 h => ⟨by rw [← hl]; exact h, hG H (s1.trans s2)⟩
  yld := fun i F1 H u H' d s1 s2 h hy => by
    obtain ⟨T, v, w, rfl, hT, rfl, e1, e2⟩ := hy
    obtain ⟨p, q, rfl, g1, g2⟩ := hd i d h
    refine .inr ⟨T, [v, w], hT, rfl, ?_⟩
    have m : Same F (upd F1 T (.tup [v, w])) := s1.trans (Same.fresh (by
      cases q : F1 T with
      | none => rfl
      | some o => rw [s2 T o q] at hT; cases hT))
    exact .tup (.inl (.inl upd_same)) (.cons (dp_mono m (g1 v e1)) (.cons (dp_mono m (g2 w e2)) .nil))
  stop := fun F1 H s1 s2 => ⟨hl, hG H (s1.trans s2)⟩
end
def evI (Φ : Fn) (k : Ik) (a b : Ex) (e : Ev) : Option (List D × Ev) :=
  match ev Φ a e with
  | some (x, e1) => match ev Φ b e1 with
    | some (y, e2) => (walkD k x y).map fun ds => (ds, e2)
    | none => none
  | none => none
def SemI (Φ : Fn) (K : PySem.W.Frag) (z : L2.St) (k : Ik) (a b : Ex) : TI := fun σ H R => ∃ e F ds e', Rel K z e σ F H ∧ evI Φ k a b e = some (ds, e') ∧
  ∀ J F' H', Rel K z e' σ F' H' → Stp e σ F H e' σ F' H' → ItOk K J F' ds → R J H'
theorem pi_imp {X : Cx} {tg it : Expr} {t t' : TI} (h : PI X tg it t) (w : ∀ σ H R, t' σ H R → t σ H R) : PI X tg it t' := ⟨fun pins s σ H R I q => h.run pins s σ H R I (w _ _ _ q)⟩
/-- what is iterated, of any of the three kinds -/
def Rdi (K : PySem.W.Frag) (F : Hp) (v : V) (ds : List D) : Prop := (∃ a vs, v = .ref a ∧ SqL K F a vs ∧ DpAll K F vs ds) ∨ (∃ a vs, v = .ref a ∧ SqT K F a vs ∧ DpAll K F vs ds) ∨ ∃ z, v = .str z ∧ ds = z.cps.toList.map fun c => .str ⟨#[c]⟩
theorem rdi_of {K : PySem.W.Frag} {F : Hp} {v : V} {d : D} {ds : List D} (h : Dp K F v d) (e : itemsOf d = some ds) : Rdi K F v ds := by
  cases h with
  | lst h1 h2 => cases e; exact .inl ⟨_, _, rfl, h1, h2⟩
  | tup h1 h2 => cases e; exact .inr (.inl ⟨_, _, rfl, h1, h2⟩)
  | str z => cases e; exact .inr (.inr ⟨z, rfl, rfl⟩)
  | _ => simp [itemsOf] at e
/-- for .. in a list, a tuple, a text -/
def iAny (K : PySem.W.Frag) (te : TE) : TI := fun σ H R => te σ H fun x H1 => (∃ a, x = .ref a ∧ (∃ xs, SqL K H1 a xs) ∧ R (Itl K a) H1) ∨ (∃ a, x = .ref a ∧ (∃ xs, SqT K H1 a xs) ∧ R (Itt K a) H1) ∨ ∃ z, x = .str z ∧ R (Its z) H1
theorem pi_any {X : Cx} {tg l : Expr} {te : TE} (hl : PE X l te) : PI X tg l (iAny X.K te) := by
  refine ⟨fun pins s σ H R I h => ?_⟩
  refine thn (hl.run pins s σ H _ I h) fun v s1 ⟨x, H1, I1, r1, q1⟩ => ?_
  have fp : ∀ b ∈ [s1.heap.objs.size], FpOk X pins H1 b := fun b hb => by
    have e : b = s1.heap.objs.size := by simpa using hb
    subst e
    exact I1.fpOk (Nat.le_refl _) (I1.hok.fresh (Nat.le_refl _))
  rcases q1 with ⟨a, rfl, ⟨xs, hq⟩, q⟩ | ⟨a, rfl, ⟨xs, hq⟩, q⟩ | ⟨w, rfl, q⟩
  · cases r1
    obtain ⟨its, rv, p, hz⟩ := I1.list hq
    exact wpAny_pyIter_list p.isList ⟨s1.heap.objs.size, [s1.heap.objs.size], _, _, H1, rfl, I1.kept (t' := s1.toks) fun b o e => Heap.get?_push_of_some _ e, turn_list a _, ⟨_, Heap.get?_push_size _ rfl, rfl, rfl⟩, fp, q⟩
  · cases r1
    obtain ⟨its, rv, p, hz⟩ := I1.tuple hq
    exact wpAny_pyIter_tuple (show s1.heap.IsTuple a its.toArray from p) ⟨s1.heap.objs.size, [s1.heap.objs.size], _, _, H1, rfl, I1.kept (t' := s1.toks) fun b o e => Heap.get?_push_of_some _ e, turn_tuple a _, ⟨_, Heap.get?_push_size _ rfl, rfl, rfl⟩, fp, q⟩
  · obtain ⟨t, rfl⟩ := r1
    refine wpAny_pyIter_strU ⟨s1.heap.objs.size, [s1.heap.objs.size], _, _, H1, rfl, I1.kept (t' := s1.toks) fun b o e => Heap.get?_push_of_some _ e, turn_str s1.heap.objs.size w t (strIterType w) ?_, ⟨_, Heap.get?_push_size _ rfl, rfl, rfl⟩, fp, q⟩
    unfold strIterType
    split
    · exact .inl rfl
    · exact .inr rfl
theorem s_walk {Φ : Fn} {X : Cx} {z : L2.St} {tg l : Expr} {a : Ex} (h : PE X l (SemE Φ X.K z a)) : PI X tg l (SemI Φ X.K z .walk a .noe) := by
  refine pi_imp (pi_any h) fun σ H R ⟨e, F, ds, e', Rl, he, q⟩ => ?_
  unfold evI at he
  cases h1 : ev Φ a e with
  | none => rw [h1] at he; cases he
  | some w =>
    obtain ⟨x, e1⟩ := w
    rw [h1] at he
    obtain ⟨ds', hw, ee⟩ := Option.map_eq_some_iff.mp he
    cases ee
    refine ⟨e, F, x, e', Rl, h1, fun v F1 H1 R1 S1 dp => ?_⟩
    rcases rdi_of dp hw with ⟨a, vs, rfl, g1, g2⟩ | ⟨a, vs, rfl, g1, g2⟩ | ⟨w, rfl, rfl⟩
    · exact .inl ⟨a, rfl, ⟨vs, R1.sub.seq g1⟩, q _ F1 H1 R1 S1 (it_list g1 g2)⟩
    · exact .inr (.inl ⟨a, rfl, ⟨vs, same_t R1.sub g1⟩, q _ F1 H1 R1 S1 (it_tup g1 g2)⟩)
    · exact .inr (.inr ⟨w, rfl, q _ F1 H1 R1 S1 (it_str w)⟩)
theorem kd_of {K : PySem.W.Frag} {F : Hp} {v : V} {ds : List D} {u : Value} (h : Rdi K F v ds) (r : RelV v u) : ∃ k : Kd, k.val = u ∧ DpAll K F k.items ds ∧ ∀ H, Same F H → k.G K H := by
  rcases h with ⟨a, vs, rfl, g1, g2⟩ | ⟨a, vs, rfl, g1, g2⟩ | ⟨w, rfl, rfl⟩
  · cases r
    exact ⟨.l a vs, rfl, g2, fun H m => m.seq g1⟩
  · cases r
    exact ⟨.t a vs, rfl, g2, fun H m => same_t m g1⟩
  · obtain ⟨t, rfl⟩ := r
    refine ⟨.s w t, rfl, ?_, fun _ _ => trivial⟩
    show DpAll K F (w.cps.toList.map fun c => V.str ⟨#[c]⟩) (w.cps.toList.map fun c => PyData.str ⟨#[c]⟩)
    induction w.cps.toList with
    | nil => exact .nil
    | cons c r ih => exact .cons (.str _) ih
/-- the pairs of enumerate -/
def enmL (ds : List D) : List D := ds.zipIdx.map fun p => .tuple [.int (p.2 : Nat), p.1]
def zipL (x y : List D) : List D := (x.zip y).map fun p => .tuple [p.1, p.2]
def iEnumA (K : PySem.W.Frag) (ta : TA) : TI := fun σ H R => ta σ H fun vs H1 => ∃ x, vs = [x] ∧ ∃ F ds, Same F H1 ∧ Rdi K F x ds ∧ ∀ J, ItOk K J F (enmL ds) → R J H1
theorem pi_enumA {X : Cx} {e : Expr} {ta : TA} {p pos tpos : Pos} {elts : List Expr} {kk : Nat} (hg : Gl X "enumerate") (hm : X.mg "enumerate" = none) (ha : PA X [e] ta) (hs : starEach [e] X.env = [(false, eval e X.env)]) :
    PI X (.Tuple elts kk tpos) (.Call (.Name "enumerate" p) [e] [] pos) (iEnumA X.K ta) := by
  refine ⟨fun pins s σ H R I h => ?_⟩
  refine Call_ (ld_blt I hg hm boot_enumerate (PyProof.Rows.callWith_type1 (thn (ha.run pos pins s σ H _ I h) fun us s1 ⟨vs, H1, I1, r1, q1⟩ => ?_) hs rfl))
  obtain ⟨x, rfl, F, ds, m, hr, q⟩ := q1
  obtain ⟨u, rfl, rx⟩ := vals1 r1
  obtain ⟨k, rfl, hd, hG⟩ := kd_of hr rx
  have g1 : k.G X.K H1 := hG H1 m
  obtain ⟨Fh, B, hb⟩ := kd_begins I1 g1
  refine enum1_begins B hb fun h' he hit hk => wpAny_pyIter_enum he ?_
  have I2 : Inv X pins σ H1 { s1 with heap := h' } := I1.kept (t' := s1.toks) hk
  have old := kd_ex I1 g1
  refine ⟨s1.heap.objs.size + 1, [s1.heap.objs.size + 1, s1.heap.objs.size], _, _, H1, rfl, I2, turn_enumK (k := k) (Nat.succ_ne_self _) (fun z => absurd (old _ z) (by show ¬ (s1.heap.objs.size + 1 : Nat) < _; omega)) (fun z => absurd (old _ z) (Nat.lt_irrefl _)), ⟨⟨.none, he⟩, kd_ob hit⟩, fun b hb => ?_, q _ (it_pair (F := F) hG ?_ fun i d hi => ?_)⟩
  · have e' : b = s1.heap.objs.size + 1 ∨ b = s1.heap.objs.size := by simpa using hb
    have hle : s1.heap.objs.size ≤ b := by
      rcases e' with z | z
      · rw [z]; exact Nat.le_add_right _ _
      · rw [z]; exact Nat.le_refl _
    exact I1.fpOk hle (I1.hok.fresh hle)
  · unfold enmL
    rw [List.length_map, List.length_zipIdx, dps_len hd]
  · unfold enmL at hi
    rw [List.getElem?_map, List.getElem?_zipIdx] at hi
    cases e1 : ds[i]? with
    | none => rw [e1] at hi; cases hi
    | some c =>
      rw [e1] at hi
      simp only [Option.map_some, Option.some.injEq, Nat.zero_add] at hi
      refine ⟨_, _, hi.symm, fun v e2 => ?_, fun v e2 => ?_⟩
      · cases e2
        exact .int _
      · obtain ⟨w, e3, e4⟩ := dps_get hd e1
        have e2 : k.items[i]? = some v := e2
        rw [e3] at e2
        cases e2
        exact e4
def iZipG (K : PySem.W.Frag) (ta : TA) : TI := fun σ H R => ta σ H fun vs H1 => ∃ x y, vs = [x, y] ∧ ∃ F ds es, Same F H1 ∧ Rdi K F x ds ∧ Rdi K F y es ∧ ∀ J, ItOk K J F (zipL ds es) → R J H1
theorem pi_zipG {X : Cx} {e e2 : Expr} {ta : TA} {p pos tpos : Pos} {elts : List Expr} {kk : Nat} (hg : Gl X "zip") (hm : X.mg "zip" = none) (ha : PA X [e, e2] ta)
    (hs : starEach [e, e2] X.env = (false, eval e X.env) :: starEach [e2] X.env) (hpl : (backTo pos (starEach [e2] X.env)).any (·.1) = false) :
    PI X (.Tuple elts kk tpos) (.Call (.Name "zip" p) [e, e2] [] pos) (iZipG X.K ta) := by
  refine ⟨fun pins s σ H R I h => ?_⟩
  refine Call_ (ld_blt I hg hm PyProof.Rows.boot_zip (PyProof.Rows.callWith_type1 (thn (ha.run pos pins s σ H _ I h) fun us s1 ⟨vs, H1, I1, r1, q1⟩ => ?_) hs hpl))
  obtain ⟨x, y, rfl, F, ds, es, m, hr, hr2, q⟩ := q1
  obtain ⟨u, u2, rfl, rx, ry⟩ := vals2 r1
  obtain ⟨k, rfl, hd, hG⟩ := kd_of hr rx
  obtain ⟨k2, rfl, hd2, hG2⟩ := kd_of hr2 ry
  obtain ⟨Fh, B, hb⟩ := kd_begins I1 (hG H1 m)
  obtain ⟨Fh2, B2, hb2⟩ := kd_begins I1 (hG2 H1 m)
  have old := kd_ex I1 (hG H1 m)
  have old2 := kd_ex I1 (hG2 H1 m)
  refine zip_begins2 B B2 hb hb2 fun h' hz hTI hTO h1 h2 hsz hk => wpAny_pyIter_zip hz ?_
  have I2 : Inv X pins σ H1 { s1 with heap := h' } := I1.kept (t' := s1.toks) hk
  refine ⟨s1.heap.objs.size + 4, [s1.heap.objs.size + 4, s1.heap.objs.size + 2, s1.heap.objs.size + 3, s1.heap.objs.size, s1.heap.objs.size + 1], _, _, H1, rfl, I2,
    turn_zipK (k1 := k) (k2 := k2) (zip_sep2 old old2) (fun z => absurd (old _ z) (Nat.lt_irrefl _)) (fun z => absurd (old2 _ z) (by show ¬ (s1.heap.objs.size + 1 : Nat) < _; omega)), ⟨hz, hTI, ⟨_, _, hTO⟩, kd_ob h1, kd_ob h2⟩, fun b hb => ?_,
    q _ (it_pair (F := F) (fun H m => ⟨hG H m, hG2 H m⟩) ?_ fun i d hi => ?_)⟩
  · have e' : b = s1.heap.objs.size + 4 ∨ b = s1.heap.objs.size + 2 ∨ b = s1.heap.objs.size + 3 ∨ b = s1.heap.objs.size ∨ b = s1.heap.objs.size + 1 := by simpa using hb
    have hle : s1.heap.objs.size ≤ b := by
      rcases e' with z | z | z | z | z
      · rw [z]; exact Nat.le_add_right _ _
      · rw [z]; exact Nat.le_add_right _ _
      · rw [z]; exact Nat.le_add_right _ _
      · rw [z]; exact Nat.le_refl _
      · rw [z]; exact Nat.le_add_right _ _
    exact I1.fpOk hle (I1.hok.fresh hle)
  · unfold zipL
    rw [List.length_map, List.length_zip, dps_len hd, dps_len hd2]
  · unfold zipL at hi
    rw [List.getElem?_map] at hi
    obtain ⟨w, e1, rfl⟩ := Option.map_eq_some_iff.mp hi
    obtain ⟨g1, g2⟩ := List.getElem?_zip_eq_some.mp e1
    refine ⟨_, _, rfl, fun v e2 => ?_, fun v e2 => ?_⟩
    · obtain ⟨w1, e3, e4⟩ := dps_get hd g1
      have e2 : k.items[i]? = some v := e2
      rw [e3] at e2
      cases e2
      exact e4
    · obtain ⟨w1, e3, e4⟩ := dps_get hd2 g2
      have e2 : k2.items[i]? = some v := e2
      rw [e3] at e2
      cases e2
      exact e4
/-! ### the walks of the terms -/
theorem evI1 {Φ : Fn} {k : Ik} {a : Ex} {e e' : Ev} {ds : List D} (h : evI Φ k a .noe e = some (ds, e')) : ∃ x, ev Φ a e = some (x, e') ∧ walkD k x .none = some ds := by
  unfold evI at h
  cases h1 : ev Φ a e with
  | none => rw [h1] at h; cases h
  | some w =>
    obtain ⟨x, e1⟩ := w
    rw [h1] at h
    obtain ⟨ds', hw, ee⟩ := Option.map_eq_some_iff.mp h
    obtain ⟨rfl, rfl⟩ := Prod.mk.inj ee
    exact ⟨x, rfl, hw⟩
theorem evI2 {Φ : Fn} {k : Ik} {a b : Ex} {e e' : Ev} {ds : List D} (h : evI Φ k a b e = some (ds, e')) : ∃ x e1 y, ev Φ a e = some (x, e1) ∧ ev Φ b e1 = some (y, e') ∧ walkD k x y = some ds := by
  unfold evI at h
  cases h1 : ev Φ a e with
  | none => rw [h1] at h; cases h
  | some w =>
    obtain ⟨x, e1⟩ := w
    rw [h1] at h
    simp only at h
    cases h2 : ev Φ b e1 with
    | none => rw [h2] at h; cases h
    | some w =>
      obtain ⟨y, e2⟩ := w
      rw [h2] at h
      obtain ⟨ds', hw, ee⟩ := Option.map_eq_some_iff.mp h
      obtain ⟨rfl, rfl⟩ := Prod.mk.inj ee
      exact ⟨x, e1, y, rfl, h2, hw⟩
theorem s_enum {Φ : Fn} {X : Cx} {z : L2.St} {l : Expr} {a : Ex} {p pos tpos : Pos} {elts : List Expr} {kk : Nat} (h : PE X l (SemE Φ X.K z a)) (hg : Gl X "enumerate") (hm : X.mg "enumerate" = none) (hs : ∀ r, starEach (l :: r) X.env = (false, eval l X.env) :: starEach r X.env) :
    PI X (.Tuple elts kk tpos) (.Call (.Name "enumerate" p) [l] [] pos) (SemI Φ X.K z .enm a .noe) := by
  refine pi_imp (pi_enumA hg hm (pa_cons h pa_nil (hs [])) (hs [])) fun σ H R ⟨e, F, ds, e', Rl, he, q⟩ => ?_
  obtain ⟨x, h1, hw⟩ := evI1 he
  refine ⟨e, F, x, e', Rl, h1, fun v F1 H1 R1 S1 dp => ⟨v, rfl, F1, ?_⟩⟩
  obtain ⟨xs, hx, rfl⟩ := Option.map_eq_some_iff.mp (show (itemsOf x).map enmL = some ds from hw)
  exact ⟨xs, R1.sub, rdi_of dp hx, fun J hJ => q J F1 H1 R1 S1 hJ⟩
theorem s_zip {Φ : Fn} {X : Cx} {z : L2.St} {l m : Expr} {a b : Ex} {p pos tpos : Pos} {elts : List Expr} {kk : Nat} (h : PE X l (SemE Φ X.K z a)) (h2 : PE X m (SemE Φ X.K z b)) (hg : Gl X "zip") (hm : X.mg "zip" = none) (hs : ∀ r, starEach (l :: r) X.env = (false, eval l X.env) :: starEach r X.env)
    (hs2 : ∀ r, starEach (m :: r) X.env = (false, eval m X.env) :: starEach r X.env) : PI X (.Tuple elts kk tpos) (.Call (.Name "zip" p) [l, m] [] pos) (SemI Φ X.K z .zip a b) := by
  refine pi_imp (pi_zipG hg hm (pa_cons h (pa_cons h2 pa_nil (hs2 [])) (hs [m])) (hs [m]) (by rw [hs2 []]; rfl)) fun σ H R ⟨e, F, ds, e', Rl, he, q⟩ => ?_
  obtain ⟨x, e1, y, g1, g2, hw⟩ := evI2 he
  refine ⟨e, F, x, e1, Rl, g1, fun v F1 H1 R1 S1 dp => ⟨e1, F1, y, e', R1, g2, fun u F2 H2 R2 S2 dp2 => ⟨v, u, rfl, F2, ?_⟩⟩⟩
  simp only [walkD] at hw
  split at hw
  · rename_i xs ys hx hy
    cases hw
    exact ⟨xs, ys, R2.sub, rdi_of (dp_mono S2.fs dp) hx, rdi_of dp2 hy, fun J hJ => q J F2 H2 R2 (S1.trans S2) hJ⟩
  · cases hw
theorem small62_of {i : Int} (h : small62 i = true) : -(2 ^ 62) ≤ i ∧ i < 2 ^ 62 := by
  unfold small62 at h
  rw [Bool.and_eq_true] at h
  exact ⟨of_decide_eq_true h.1, of_decide_eq_true h.2⟩
theorem s_rng {Φ : Fn} {X : Cx} {z : L2.St} {tg l : Expr} {a : Ex} {p pos : Pos} (h : PE X l (SemE Φ X.K z a)) (hg : Gl X "range") (hm : X.mg "range" = none) (hs : ∀ r, starEach (l :: r) X.env = (false, eval l X.env) :: starEach r X.env) :
    PI X tg (.Call (.Name "range" p) [l] [] pos) (SemI Φ X.K z .rng a .noe) := by
  refine pi_imp (pi_range1 hg hm (pa_cons h pa_nil (hs [])) (hs [])) fun σ H R ⟨e, F, ds, e', Rl, he, q⟩ => ?_
  obtain ⟨x, h1, hw⟩ := evI1 he
  refine ⟨e, F, x, e', Rl, h1, fun v F1 H1 R1 S1 dp => ?_⟩
  cases x with
  | int i =>
    cases dp
    simp only [walkD] at hw
    split at hw
    · rename_i hi
      cases hw
      obtain ⟨b1, b2⟩ := small62_of hi
      refine ⟨i, rfl, b1, b2, q _ F1 H1 R1 S1 ?_⟩
      have k := it_rng (K := X.K) (F := F1) 0 i
      rw [Int.sub_zero] at k
      exact k
    · cases hw
  | _ => simp [walkD] at hw
theorem s_rng2 {Φ : Fn} {X : Cx} {z : L2.St} {tg l m : Expr} {a b : Ex} {p pos : Pos} (h : PE X l (SemE Φ X.K z a)) (h2 : PE X m (SemE Φ X.K z b)) (hg : Gl X "range") (hm : X.mg "range" = none) (hs : ∀ r, starEach (l :: r) X.env = (false, eval l X.env) :: starEach r X.env)
    (hs2 : ∀ r, starEach (m :: r) X.env = (false, eval m X.env) :: starEach r X.env) : PI X tg (.Call (.Name "range" p) [l, m] [] pos) (SemI Φ X.K z .rng2 a b) := by
  refine pi_imp (pi_range2 hg hm (pa_cons h (pa_cons h2 pa_nil (hs2 [])) (hs [m])) (by rw [hs [m], hs2 []]; rfl) (hs2 [])) fun σ H R ⟨e, F, ds, e', Rl, he, q⟩ => ?_
  obtain ⟨x, e1, y, g1, g2, hw⟩ := evI2 he
  refine ⟨e, F, x, e1, Rl, g1, fun v F1 H1 R1 S1 dp => ⟨e1, F1, y, e', R1, g2, fun u F2 H2 R2 S2 dp2 => ?_⟩⟩
  cases x with
  | int i =>
    cases y with
    | int j =>
      cases dp
      cases dp2
      simp only [walkD] at hw
      split at hw
      · rename_i hi
        cases hw
        rw [Bool.and_eq_true] at hi
        obtain ⟨b1, b2⟩ := small62_of hi.1
        obtain ⟨b3, b4⟩ := small62_of hi.2
        exact ⟨i, j, rfl, ⟨b1, b2, b3, b4⟩, q _ F2 H2 R2 (S1.trans S2) (it_rng (K := X.K) (F := F2) i j)⟩
      · cases hw
    | _ => simp [walkD] at hw
  | _ => simp [walkD] at hw
end Iv
end
section
set_option Elab.async false
set_option linter.all false
set_option maxRecDepth 100000
set_option maxHeartbeats 1000000
/-! Calls of defs, over data. -/
namespace Iv
open PySem PySem.Spec PyProof.Rows L2
/-! ### a def's promise, where nothing is being shown (guards) -/
structure FnG (P : Program) (w : World) (K : PySem.W.Frag) (mg : Str → Option Value) (base : Heap) (k : Nat) (f : Addr) (fd : FuncData) (ps : List Str) (sp : Sp) : Prop where
  len : ∀ vs H Q E, sp vs H Q E → vs.length = ps.length
  run : ∀ (A : Around) (outer : List Env) (s : Shared) (H : Hp) (args : Args) (us : List Value) (vs : List V) (Q : VK) (E : XK), Room k A → A.guards = some [] → Env0 P w K mg base A outer s H → BindsTo s fd args (ps.zip us) → Vals vs us → sp vs H Q E →
    codeAny (model P w) A (.call (.ref f) args) (CR CX0 outer P w H s Q E) s
theorem FnG.up {P : Program} {w : World} {K : PySem.W.Frag} {mg : Str → Option Value} {base : Heap} {j k : Nat} {f : Addr} {fd : FuncData} {ps : List Str} {sp : Sp} (F : FnG P w K mg base j f fd ps sp) (h : j ≤ k) : FnG P w K mg base k f fd ps sp :=
  ⟨F.len, fun A outer s H args us vs Q E hr => F.run A outer s H args us vs Q E (hr.mono h)⟩
section
variable {X : Cx} {k : Nat} {f : Addr} {fd : FuncData} {ps : List Str} {sp : Sp} {x : Str} {p pos : Pos}
theorem runG {pins : List (Addr × Obj)} {σ : L2.St} {H : Hp} {s : Shared} {Q : VK} {args : Args} {us : List Value} {vs : List V} (F : FnG X.prog X.w X.K X.mg X.base k f fd ps sp) (hr : Room k X.A) (hg : X.A.guards = some [])
    (hb : BindsTo s fd args (ps.zip us)) (I : Inv X pins σ H s) (r : Vals vs us) (h : sp vs H Q E0) : codeAny (model X.prog X.w) X.A (.call (.ref f) args) (fun r s' => ∃ u, r = .ok (.ret u) ∧ EP X pins σ Q u s') s := by
  refine codeAny_mono (F.run X.A X.stack s H args us vs Q E0 hr hg I.env0 hb r h) fun r s' hq => ?_
  cases r with
  | error e => exact hq.elim
  | ok fl =>
    cases fl with
    | ret u => exact ⟨u, rfl, I.after hq⟩
    | next => exact hq.elim
    | brk => exact hq.elim
    | cont => exact hq.elim
theorem callG {pins : List (Addr × Obj)} {σ : L2.St} {H : Hp} {s : Shared} {Q : VK} {us zs : List Value} {kw : List (Str × Value)} {vs : List V} (F : FnG X.prog X.w X.K X.mg X.base k f fd ps sp) (hr : Room k X.A) (hg : X.A.guards = some [])
    (hb : BindsTo s fd ⟨us, kw⟩ (ps.zip zs)) (I : Inv X pins σ H s) (r : Vals vs zs) (h : sp vs H Q E0) : wpAny (model X.prog X.w) X.A (call (.ref f) us kw) (EP X pins σ Q) X.xe s := by
  refine wpAny_call (codeAny_mono (runG F hr hg hb I r h) fun r s' hq => ?_)
  obtain ⟨u, rfl, q⟩ := hq
  exact q
/-- f(a, ..): all parameters given, by position -/
def tCallG (sp : Sp) (ta : TA) : TE := fun σ H Q => ta σ H fun vs H1 => sp vs H1 Q E0
theorem pe_callG {e : Expr} {es : List Expr} {ta : TA} (F : FnG X.prog X.w X.K X.mg X.base k f fd ps sp) (hr : Room k X.A) (hgd : X.A.guards = some []) (hg : Gl X x) (hm : X.mg x = some (.ref f)) (hk : PySem.W.keepIn X.K (.ref f) = true) (hb : Binds X.K fd ps [])
    (ha : PA X (e :: es) ta) (hdb : (x == ("__debug__" : Str)) = false) (he : starEach (e :: es) X.env = (false, eval e X.env) :: starEach es X.env) (hpl : (backTo pos (starEach es X.env)).any (·.1) = false) :
    PE X (.Call (.Name x p) (e :: es) [] pos) (tCallG sp ta) := by
  refine ⟨fun pins s σ H Q I h => wpAny_Call_Name_kw (ld_glob I hg hm ?_ hdb)⟩
  refine PySem.W.callWith_K (h₀ := X.base) I.ok.mod.kin hk (thn (ha.run pos pins s σ H _ I h) fun us s1 ⟨vs, H1, I1, r, q⟩ => ⟨I1.kIn, ?_⟩) he hpl
  have hl : us.length = ps.length := by rw [← r.length]; exact F.len _ _ _ _ q
  have b := hb s1 us I1.kIn (by rw [List.append_nil]; exact hl)
  rw [List.append_nil] at b
  exact callG F hr hgd b I1 r q
theorem pe_callG0 (F : FnG X.prog X.w X.K X.mg X.base k f fd ps sp) (hr : Room k X.A) (hgd : X.A.guards = some []) (hg : Gl X x) (hm : X.mg x = some (.ref f)) (hk : PySem.W.keepIn X.K (.ref f) = true) (hb : Binds X.K fd ps [])
    (hdb : (x == ("__debug__" : Str)) = false) : PE X (.Call (.Name x p) [] [] pos) (tCallG sp tNil) := by
  refine ⟨fun pins s σ H Q I h => wpAny_Call_Name_kw (ld_glob I hg hm ?_ hdb)⟩
  refine PySem.W.callWith_K0 I.kIn hk ?_
  have hl : ([] : List V).length = ps.length := F.len _ _ _ _ h
  have b := hb s [] I.kIn (by simpa using hl)
  exact callG F hr hgd b I .nil h
/-- how n values and keywords of these names are put: by their places -/
def KwOk (K : PySem.W.Frag) (fd : FuncData) (ps : List Str) (n : Nat) (ks : List Str) (perm : List Nat) : Prop :=
  ∀ (s : Shared) (us ws : List Value), K.In s.heap → us.length = n → ws.length = ks.length → ∃ zs, permL perm (us ++ ws) = some zs ∧ BindsTo s fd ⟨us, ks.zip ws⟩ (ps.zip zs)
def tCallKG (sp : Sp) (n m : Nat) (perm : List Nat) (ta tk : TA) : TE := fun σ H Q => ta σ H fun vs H1 => tk σ H1 fun ws H2 => vs.length = n ∧ ws.length = m ∧ ∃ zs, permL perm (vs ++ ws) = some zs ∧ sp zs H2 Q E0
theorem permL_nil {α : Type} {xs : List α} : permL [] xs = some [] := rfl
theorem permL_cons {α : Type} {i : Nat} {r : List Nat} {xs : List α} : permL (i :: r) xs = match xs[i]? with
    | some x => (permL r xs).map (x :: ·)
    | none => none := by
  unfold permL
  rw [List.mapM_cons]
  cases xs[i]? with
  | none => rfl
  | some x =>
    cases h : List.mapM (fun i => xs[i]?) r with
    | none => rfl
    | some y => rfl
theorem perm_vals : ∀ {perm : List Nat} {vs ys : List V} {us zs : List Value}, Vals vs us → permL perm vs = some ys → permL perm us = some zs → Vals ys zs
  | [], _, _, _, _, _, h, h' => by
    cases h
    cases h'
    exact .nil
  | i :: r, vs, ys, us, zs, hv, h, h' => by
    rw [permL_cons] at h h'
    cases e1 : vs[i]? with
    | none => rw [e1] at h; cases h
    | some v =>
      obtain ⟨u, e2, rv⟩ := hv.get e1
      rw [e1] at h
      rw [e2] at h'
      obtain ⟨y1, g1, rfl⟩ := Option.map_eq_some_iff.mp h
      obtain ⟨z1, g2, rfl⟩ := Option.map_eq_some_iff.mp h'
      exact .cons rv (perm_vals hv g1 g2)
theorem pe_callKG {e : Expr} {es : List Expr} {kws : List Keyword} {ks : List Str} {perm : List Nat} {n : Nat} {ta tk : TA} (F : FnG X.prog X.w X.K X.mg X.base k f fd ps sp) (hr : Room k X.A) (hgd : X.A.guards = some []) (hg : Gl X x) (hm : X.mg x = some (.ref f)) (hk : PySem.W.keepIn X.K (.ref f) = true)
    (hb : KwOk X.K fd ps n ks perm) (ha : PA X (e :: es) ta) (hkw : PK X kws tk) (hdb : (x == ("__debug__" : Str)) = false) (hall : (backToKw pos (keywordEach kws X.env)).all (·.1.isSome) = true) (hks : (backToKw pos (keywordEach kws X.env)).filterMap (·.1) = ks)
    (he : starEach (e :: es) X.env = (false, eval e X.env) :: starEach es X.env) (hpl : ((backTo pos (starEach (e :: es) X.env)).any (·.1) || (backToKw pos (keywordEach kws X.env)).any (·.1.isNone)) = false) :
    PE X (.Call (.Name x p) (e :: es) kws pos) (tCallKG sp n ks.length perm ta tk) := by
  refine ⟨fun pins s σ H Q I h => wpAny_Call_Name_kw (ld_glob I hg hm ?_ hdb)⟩
  refine PySem.W.callWith_KW (h₀ := X.base) I.ok.mod.kin hk hall (thn (ha.run pos pins s σ H _ I h) fun us s1 ⟨vs, H1, I1, r, q⟩ => ?_) hpl he
  refine thn (hkw.run pos pins s1 σ H1 _ I1 q) fun ws s2 ⟨zs, H2, I2, rz, q2⟩ => ⟨I2.kIn, ?_⟩
  obtain ⟨l1, l2, ys, hp, q3⟩ := q2
  rw [hks]
  obtain ⟨os, hp2, b⟩ := hb s2 us ws I2.kIn (by rw [← r.length]; exact l1) (by rw [← rz.length]; exact l2)
  exact callG F hr hgd b I2 (perm_vals (r.append rz) hp hp2) q3
theorem pe_callKG0 {kws : List Keyword} {ks : List Str} {perm : List Nat} {tk : TA} (F : FnG X.prog X.w X.K X.mg X.base k f fd ps sp) (hr : Room k X.A) (hgd : X.A.guards = some []) (hg : Gl X x) (hm : X.mg x = some (.ref f)) (hk : PySem.W.keepIn X.K (.ref f) = true)
    (hb : KwOk X.K fd ps 0 ks perm) (hkw : PK X kws tk) (hdb : (x == ("__debug__" : Str)) = false) (hall : (backToKw pos (keywordEach kws X.env)).all (·.1.isSome) = true) (hks : (backToKw pos (keywordEach kws X.env)).filterMap (·.1) = ks)
    (hpl : ((backTo pos (starEach [] X.env)).any (·.1) || (backToKw pos (keywordEach kws X.env)).any (·.1.isNone)) = false) :
    PE X (.Call (.Name x p) [] kws pos) (tCallKG sp 0 ks.length perm tNil tk) := by
  refine ⟨fun pins s σ H Q I h => wpAny_Call_Name_kw (ld_glob I hg hm ?_ hdb)⟩
  refine PySem.W.callWith_KW0 (h₀ := X.base) I.ok.mod.kin hk hall ?_ hpl
  refine thn (hkw.run pos pins s σ H _ I h) fun ws s2 ⟨zs, H2, I2, rz, q2⟩ => ⟨I2.kIn, ?_⟩
  obtain ⟨l1, l2, ys, hp, q3⟩ := q2
  rw [hks]
  obtain ⟨os, hp2, b⟩ := hb s2 [] ws I2.kIn rfl (by rw [← rz.length]; exact l2)
  exact callG F hr hgd b I2 (perm_vals (Vals.append .nil rz) hp hp2) q3
end
/-! ### what a def promises over data -/
def SpF (K : PySem.W.Frag) (Φ : Fn) (j : Nat) : Sp := fun vs H Q _ => ∃ (args : List Sl) (F : Hp) (d : D) (os : List Sl), Rel K (vs.map some) args (vs.map some) F H ∧ (∀ (i : Nat) (ds : List D), args[i]? ≠ some (Sl.own true ds)) ∧ Φ j args = some (d, os) ∧
  ∀ v F' H', Rel K (vs.map some) os (vs.map some) F' H' → Stp args (vs.map some) F H os (vs.map some) F' H' → Dp K F' v d → Q v H'
/-! ### arguments -/
def ArgRel (K : PySem.W.Frag) (F : Hp) (σ : L2.St) : Ex → List V → List D → Prop
  | .cons a r, v :: vs, d :: ds => (match a with
      | .mu i => σ[i]? = some (some v)
      | _ => Dp K F v d) ∧ ArgRel K F σ r vs ds
  | .nil, [], [] => True
  | _, _, _ => False
def SemA (Φ : Fn) (K : PySem.W.Frag) (z : L2.St) (as : Ex) : TA := fun σ H Q => ∃ e F ds e', Rel K z e σ F H ∧ ev Φ as e = some (.tuple ds, e') ∧
  ∀ vs F' H', Rel K z e' σ F' H' → Stp e σ F H e' σ F' H' → ArgRel K F' σ as vs ds → Q vs H'
theorem argRel_mono {K : PySem.W.Frag} {F F' : Hp} {σ : L2.St} (m : Same F F') : ∀ {as : Ex} {vs : List V} {ds : List D}, ArgRel K F σ as vs ds → ArgRel K F' σ as vs ds
  | .cons a r, v :: vs, d :: ds, h => by
    refine ⟨?_, argRel_mono m h.2⟩
    have h1 := h.1
    cases a <;> first | exact h1 | exact dp_mono m h1
  | .nil, [], [], _ => trivial
  | .cons _ _, [], _, h => h.elim
  | .cons _ _, _ :: _, [], h => h.elim
  | .nil, _ :: _, _, h => h.elim
  | .nil, [], _ :: _, h => h.elim
def noMu : Ex → Bool
  | .cons (.mu _) _ => false
  | .cons _ r => noMu r
  | _ => true
theorem argRel_dps {K : PySem.W.Frag} {F : Hp} {σ : L2.St} : ∀ {as : Ex} {vs : List V} {ds : List D}, noMu as = true → ArgRel K F σ as vs ds → DpAll K F vs ds
  | .cons a r, v :: vs, d :: ds, n, h => by
    have h1 := h.1
    cases a <;> first | (exact .cons h1 (argRel_dps (by simpa [noMu] using n) h.2)) | (simp [noMu] at n)
  | .nil, [], [], _, _ => .nil
  | .cons _ _, [], _, _, h => h.elim
  | .cons _ _, _ :: _, [], _, h => h.elim
  | .nil, _ :: _, _, _, h => h.elim
  | .nil, [], _ :: _, _, h => h.elim
def muAt : Ex → Nat → Option Nat
  | .cons a r, 0 => match a with
    | .mu i => some i
    | _ => none
  | .cons _ r, n + 1 => muAt r n
  | _, _ => none
theorem mem_mus : ∀ {as : Ex} {p i : Nat}, muAt as p = some i → i ∈ musOf as
  | .cons a r, 0, i, h => by
    cases a <;> first | (cases h; done) | skip
    have e : _ = i := Option.some.inj h
    subst e
    simp [musOf]
  | .cons a r, p + 1, i, h => by
    have ih := mem_mus (as := r) (p := p) h
    cases a <;> simp [musOf, ih]
theorem mus_inj : ∀ {as : Ex} {p q i : Nat}, nodupB (musOf as) = true → muAt as p = some i → muAt as q = some i → p = q
  | .cons a r, 0, 0, _, _, _, _ => rfl
  | .cons a r, p + 1, q + 1, i, n, h, h' => by
    have n' : nodupB (musOf r) = true := by
      cases a <;> first | (simpa [musOf] using n) | skip
      have n : nodupB (_ :: musOf r) = true := n
      unfold nodupB at n
      rw [Bool.and_eq_true] at n
      exact n.2
    rw [mus_inj (as := r) n' h h']
  | .cons a r, 0, q + 1, i, n, h, h' => by
    cases a <;> first | (cases h; done) | skip
    have e : _ = i := Option.some.inj h
    subst e
    have n : nodupB (_ :: musOf r) = true := n
    unfold nodupB at n
    rw [Bool.and_eq_true] at n
    have m := mem_mus (as := r) h'
    simp [m] at n
  | .cons a r, p + 1, 0, i, n, h', h => by
    cases a <;> first | (cases h; done) | skip
    have e : _ = i := Option.some.inj h
    subst e
    have n : nodupB (_ :: musOf r) = true := n
    unfold nodupB at n
    rw [Bool.and_eq_true] at n
    have m := mem_mus (as := r) h'
    simp [m] at n
theorem nodup_tail {a : Ex} {r : Ex} (n : nodupB (musOf (.cons a r)) = true) : nodupB (musOf r) = true := by
  cases a <;> first | (simpa [musOf] using n) | skip
  have n : nodupB (_ :: musOf r) = true := n
  unfold nodupB at n
  rw [Bool.and_eq_true] at n
  exact n.2
/-- what stands at each place of a call -/
theorem argSl_get {K : PySem.W.Frag} {z : L2.St} {e : Ev} {σ : L2.St} {F H : Hp} (R : Rel K z e σ F H) : ∀ {as : Ex} {vs : List V} {ds : List D} {sl : List Sl}, ArgRel K F σ as vs ds → argSl as ds e = some sl →
    sl.length = vs.length ∧ ∀ p s, sl[p]? = some s → ∃ v, vs[p]? = some v ∧ ((∃ d, s = .sh d ∧ Dp K F v d) ∨ ∃ i fz xs, muAt as p = some i ∧ e[i]? = some (.own fz xs) ∧ s = .own false xs ∧ σ[i]? = some (some v))
  | .nil, [], [], sl, _, h => by
    cases h
    exact ⟨rfl, fun p s q => by simp at q⟩
  | .cons a r, v :: vs, d :: ds, sl, g, h => by
    unfold argSl at h
    cases h1 : argSl r ds e with
    | none => rw [h1] at h; cases h
    | some t =>
      rw [h1] at h
      obtain ⟨l, ih⟩ := argSl_get R g.2 h1
      have step : ∀ s0, sl = s0 :: t → ((∃ d, s0 = .sh d ∧ Dp K F v d) ∨ ∃ i fz xs, muAt (.cons a r) 0 = some i ∧ e[i]? = some (.own fz xs) ∧ s0 = .own false xs ∧ σ[i]? = some (some v)) →
          sl.length = (v :: vs).length ∧ ∀ p s, sl[p]? = some s → ∃ w, (v :: vs)[p]? = some w ∧ ((∃ d, s = .sh d ∧ Dp K F w d) ∨ ∃ i fz xs, muAt (.cons a r) p = some i ∧ e[i]? = some (.own fz xs) ∧ s = .own false xs ∧ σ[i]? = some (some w)) := by
        rintro s0 rfl q
        refine ⟨by simp [l], fun p s hp => ?_⟩
        cases p with
        | zero =>
          have e0 : s0 = s := by simpa using hp
          subst e0
          exact ⟨v, rfl, q⟩
        | succ p =>
          obtain ⟨w, e1, e2⟩ := ih p s (by simpa using hp)
          exact ⟨w, by simpa using e1, e2⟩
      have g1 := g.1
      cases a with
      | mu i =>
        simp only at h g1
        cases h2 : e[i]? with
        | none => rw [h2] at h; cases h
        | some w =>
          rw [h2] at h
          cases w with
          | un => cases h
          | sh x =>
            obtain ⟨w, e1, e2⟩ := R.sh i x h2
            rw [g1] at e1
            cases e1
            exact step _ (Option.some.inj h).symm (.inl ⟨x, rfl, e2⟩)
          | own fz xs => exact step _ (Option.some.inj h).symm (.inr ⟨i, fz, xs, rfl, h2, rfl, g1⟩)
      | _ => exact step _ (Option.some.inj h).symm (.inl ⟨d, rfl, g1⟩)
  | .cons _ _, [], _, _, g, _ => g.elim
  | .cons _ _, _ :: _, [], _, g, _ => g.elim
  | .nil, _ :: _, _, _, g, _ => g.elim
  | .nil, [], _ :: _, _, g, _ => g.elim
/-- what stands in the names behind a call -/
theorem wbk_get : ∀ {as : Ex} {os : List Sl} {e e2 : Ev}, nodupB (musOf as) = true → wbk as os e = some e2 → e2.length = e.length ∧
    ∀ i : Nat, (∃ (p : Nat) (fz : Bool) (xs : List D) (g : Bool) (ys : List D), muAt as p = some i ∧ e[i]? = some (.own fz xs) ∧ os[p]? = some (.own g ys) ∧ e2[i]? = some (.own fz ys)) ∨ (e2[i]? = e[i]? ∧ ∀ p, muAt as p = some i → ∃ d, e[i]? = some (.sh d))
  | .nil, [], e, e2, _, h => by
    cases h
    exact ⟨rfl, fun i => .inr ⟨rfl, fun p q => by cases p <;> cases q⟩⟩
  | .cons a r, o :: os, e, e2, n, h => by
    have n' := nodup_tail n
    have plain : (∀ i, a ≠ .mu i) → wbk r os e = some e2 → e2.length = e.length ∧
        ∀ i : Nat, (∃ (p : Nat) (fz : Bool) (xs : List D) (g : Bool) (ys : List D), muAt (.cons a r) p = some i ∧ e[i]? = some (.own fz xs) ∧ (o :: os)[p]? = some (.own g ys) ∧ e2[i]? = some (.own fz ys)) ∨ (e2[i]? = e[i]? ∧ ∀ p, muAt (.cons a r) p = some i → ∃ d, e[i]? = some (.sh d)) := by
      intro na h
      obtain ⟨l, ih⟩ := wbk_get n' h
      refine ⟨l, fun i => ?_⟩
      rcases ih i with ⟨p, fz, xs, g, ys, h1, h2, h3, h4⟩ | ⟨h1, h2⟩
      · exact .inl ⟨p + 1, fz, xs, g, ys, h1, h2, by simpa using h3, h4⟩
      · refine .inr ⟨h1, fun p q => ?_⟩
        cases p with
        | zero =>
          cases a <;> first | (cases q; done) | exact absurd rfl (na _)
        | succ p => exact h2 p q
    unfold wbk at h
    cases a with
    | mu j =>
      simp only at h
      split at h
      · rename_i fz xs g ys h2
        obtain ⟨l, ih⟩ := wbk_get n' h
        have lj := lt_of_get h2
        have nj : j ∉ musOf r := fun m => by
          have n : nodupB (j :: musOf r) = true := n
          unfold nodupB at n
          simp [m] at n
        refine ⟨by rw [l, List.length_set], fun i => ?_⟩
        by_cases ei : i = j
        · subst ei
          rcases ih i with ⟨p, fz', xs', g', ys', h1, h3, h4, h5⟩ | ⟨h1, h3⟩
          · exact absurd (mem_mus h1) nj
          · rw [List.getElem?_set_self lj] at h1
            exact .inl ⟨0, fz, xs, g, ys, rfl, h2, rfl, h1⟩
        · rcases ih i with ⟨p, fz', xs', g', ys', h1, h3, h4, h5⟩ | ⟨h1, h3⟩
          · rw [List.getElem?_set_ne (Ne.symm ei)] at h3
            exact .inl ⟨p + 1, fz', xs', g', ys', h1, h3, by simpa using h4, h5⟩
          · rw [List.getElem?_set_ne (Ne.symm ei)] at h1 h3
            refine .inr ⟨h1, fun p q => ?_⟩
            cases p with
            | zero =>
              have e0 : j = i := Option.some.inj q
              exact absurd e0.symm ei
            | succ p => exact h3 p q
      · rename_i x y h2
        obtain ⟨l, ih⟩ := wbk_get n' h
        refine ⟨l, fun i => ?_⟩
        rcases ih i with ⟨p, fz', xs', g', ys', h1, h3, h4, h5⟩ | ⟨h1, h3⟩
        · exact .inl ⟨p + 1, fz', xs', g', ys', h1, h3, by simpa using h4, h5⟩
        · refine .inr ⟨h1, fun p q => ?_⟩
          cases p with
          | zero =>
            have e0 : j = i := Option.some.inj q
            subst e0
            exact ⟨_, h2⟩
          | succ p => exact h3 p q
      · cases h
    | _ => exact plain (fun i q => nomatch q) h
  | .nil, _ :: _, _, _, _, h => by cases h
  | .cons a r, [], _, _, _, h => by cases h
/-! ### the states around a call -/
section
variable {K : PySem.W.Frag} {z : L2.St} {e e2 : Ev} {σ : L2.St} {F H F' H' : Hp} {as : Ex} {vs : List V} {ds : List D} {sl os : List Sl}
theorem call_in (R : Rel K z e σ F H) (n : nodupB (musOf as) = true) (g : ArgRel K F σ as vs ds) (h : argSl as ds e = some sl) :
    Rel K (vs.map some) sl (vs.map some) F H ∧ (∀ (i : Nat) (ds : List D), sl[i]? ≠ some (Sl.own true ds)) := by
  obtain ⟨l, q⟩ := argSl_get R g h
  have at1 : ∀ {p : Nat} {v : V}, vs[p]? = some v → (vs.map some)[p]? = some (some v) := fun e => by rw [List.getElem?_map, e]; rfl
  refine ⟨⟨by rw [List.length_map]; exact l, R.sub, fun p d e1 => ?_, fun p fz xs e1 => ?_, fun p p' fz fz' xs xs' a e1 e2 g1 g2 => ?_, fun _ _ _ => rfl⟩, fun p xs e1 => ?_⟩
  · obtain ⟨v, h1, h2⟩ := q p _ e1
    rcases h2 with ⟨d', e3, h2⟩ | ⟨i, fz, xs, _, _, e3, _⟩
    · cases e3
      exact ⟨v, at1 h1, h2⟩
    · cases e3
  · obtain ⟨v, h1, h2⟩ := q p _ e1
    rcases h2 with ⟨d', e3, h2⟩ | ⟨i, fz', xs', h2, h3, e3, h4⟩
    · cases e3
    · cases e3
      obtain ⟨a, us, b1, b2, b3, b4⟩ := R.own i _ _ h3
      rw [h4] at b1
      cases b1
      exact ⟨a, us, at1 h1, b2, b3, b4⟩
  · obtain ⟨v, h1, h2⟩ := q p _ e1
    obtain ⟨v', h1', h2'⟩ := q p' _ e2
    rw [at1 h1] at g1
    rw [at1 h1'] at g2
    cases g1
    cases g2
    rcases h2 with ⟨d', e3, h2⟩ | ⟨i, fz1, xs1, h2, h3, e3, h4⟩
    · cases e3
    · rcases h2' with ⟨d', e3', h2'⟩ | ⟨i', fz2, xs2, h2', h3', e3', h4'⟩
      · cases e3'
      · have ei := R.inj i i' _ _ _ _ a h3 h3' h4 h4'
        subst ei
        exact mus_inj n h2 h2'
  · obtain ⟨v, h1, h2⟩ := q p _ e1
    rcases h2 with ⟨d', e3, h2⟩ | ⟨i, fz, xs', _, _, e3, _⟩
    · cases e3
    · cases e3
theorem call_out (R : Rel K z e σ F H) (n : nodupB (musOf as) = true) (g : ArgRel K F σ as vs ds) (h : argSl as ds e = some sl) (R2 : Rel K (vs.map some) os (vs.map some) F' H') (S2 : Stp sl (vs.map some) F H os (vs.map some) F' H')
    (hw : wbk as os e = some e2) : Rel K z e2 σ F' H' ∧ Stp e σ F H e2 σ F' H' := by
  obtain ⟨l, q⟩ := argSl_get R g h
  obtain ⟨R1, no⟩ := call_in R n g h
  obtain ⟨l2, w⟩ := wbk_get n hw
  have at1 : ∀ {p : Nat} {v : V}, (vs.map some)[p]? = some (some v) → vs[p]? = some v := fun {p v} e => by
    rw [List.getElem?_map] at e
    cases e3 : vs[p]? with
    | none => rw [e3] at e; cases e
    | some u => rw [e3] at e; cases e; rfl
  -- what is lent is the caller's
  have lent : ∀ fz b, OwnAt fz sl (vs.map some) b → ∃ p i fz' xs, muAt as p = some i ∧ e[i]? = some (.own fz' xs) ∧ σ[i]? = some (some (.ref b)) := by
    rintro fz b ⟨p, xs, e1, g1⟩
    obtain ⟨v, h1, h2⟩ := q p _ e1
    have e4 := at1 g1
    rw [h1] at e4
    cases e4
    rcases h2 with ⟨d', e3, h2⟩ | ⟨i, fz', xs', h2, h3, e3, h4⟩
    · cases e3
    · exact ⟨p, i, fz', xs', h2, h3, h4⟩
  -- a name's list: lent, or as it was
  have own2 : ∀ (i : Nat) fz ys, e2[i]? = some (.own fz ys) → ∃ xs, e[i]? = some (.own fz xs) := fun i fz ys e1 => by
    rcases w i with ⟨p, fz', xs, g', ys', h1, h2, h3, h4⟩ | ⟨h1, h2⟩
    · rw [h4] at e1
      cases e1
      exact ⟨xs, h2⟩
    · exact ⟨ys, by rw [← h1]; exact e1⟩
  have ownAt2 : ∀ fz b, OwnAt fz e2 σ b → OwnAt fz e σ b := fun fz b ⟨i, ys, e1, g1⟩ => by
    obtain ⟨xs, e3⟩ := own2 i fz ys e1
    exact ⟨i, xs, e3, g1⟩
  refine ⟨⟨by rw [l2]; exact R.len, R2.sub, fun i d e1 => ?_, fun i fz ys e1 => ?_, fun i j fz fz' xs xs' a e1 e3 g1 g3 => ?_, fun i xs e1 => ?_⟩, ⟨S2.fs, fun b o hb nb => ?_, S2.there, fun b hb => ?_, fun b hb => ownAt2 _ _ hb, fun b hb => ownAt2 _ _ hb, S2.nf⟩⟩
  · rcases w i with ⟨p, fz', xs, g', ys', h1, h2, h3, h4⟩ | ⟨h1, h2⟩
    · rw [h4] at e1
      cases e1
    · rw [h1] at e1
      obtain ⟨v, b1, b2⟩ := R.sh i d e1
      exact ⟨v, b1, dp_mono S2.fs b2⟩
  · rcases w i with ⟨p, fz', xs, g', ys', h1, h2, h3, h4⟩ | ⟨h1, h2⟩
    · rw [h4] at e1
      cases e1
      obtain ⟨a, us, b1, b2, b3, b4⟩ := R2.own p _ _ h3
      have hp := lt_of_get h3
      obtain ⟨a', us', c1, c2, c3, c4⟩ := R.own i _ _ h2
      -- the place p holds the name's own list
      have hsl : p < sl.length := by
        have e5 := R2.len
        rw [List.length_map] at e5
        omega
      obtain ⟨v, d1, d2⟩ := q p _ (List.getElem?_eq_getElem hsl)
      have e6 := at1 b1
      rw [d1] at e6
      cases e6
      rcases d2 with ⟨d', e7, d2⟩ | ⟨i', fz2, xs2, d3, d4, d5, d6⟩
      · -- a value stands there: not with a lent name
        exfalso
        have hm : ∀ {as : Ex} {vs : List V} {ds : List D} {sl : List Sl} {p i : Nat} {fz : Bool} {xs : List D}, argSl as ds e = some sl → muAt as p = some i → e[i]? = some (.own fz xs) → sl[p]? = some (.own false xs) := by
          intro as
          induction as with
          | cons a r _ ihr =>
            intro vs ds sl p i fz xs h1 h2 h3
            cases ds with
            | nil => simp [argSl] at h1
            | cons d ds =>
              unfold argSl at h1
              cases h4 : argSl r ds e with
              | none => rw [h4] at h1; cases h1
              | some t =>
                rw [h4] at h1
                cases p with
                | zero =>
                  cases a <;> first | (cases h2; done) | skip
                  have e0 : _ = i := Option.some.inj h2
                  subst e0
                  simp only [h3] at h1
                  cases h1
                  rfl
                | succ p =>
                  have ih := ihr (vs := vs) h4 h2 h3
                  cases a with
                  | mu j =>
                    simp only at h1
                    split at h1
                    · cases h1; simpa using ih
                    · cases h1; simpa using ih
                    · cases h1
                  | _ => (cases h1; simpa using ih)
          | _ =>
            intro vs ds sl p i fz xs h1 h2 h3
            cases p <;> simp [muAt] at h2
        have e8 := hm (vs := vs) h h1 h2
        rw [List.getElem?_eq_getElem hsl, e7] at e8
        cases e8
      · have hm2 : i' = i := Option.some.inj (d3.symm.trans h1)
        subst hm2
        exact ⟨a, us, d6, b2, b3, b4⟩
    · rw [h1] at e1
      obtain ⟨a, us, b1, b2, b3, b4⟩ := R.own i _ _ e1
      have nl : ∀ fz, ¬ OwnAt fz sl (vs.map some) a := fun fz' z => by
        obtain ⟨p, j, fz2, xs2, c1, c2, c3⟩ := lent fz' a z
        have ej := R.inj i j _ _ _ _ a e1 c2 b1 c3
        subst ej
        obtain ⟨d, c4⟩ := h2 p c1
        rw [e1] at c4
        cases c4
      refine ⟨a, us, b1, S2.keep a _ b2 nl, ?_, dps_mono S2.fs b4⟩
      cases q3 : F' a with
      | none => rfl
      | some o =>
        rcases S2.new a (by rw [q3]; simp) with c | c | c
        · exact absurd b3 c
        · rw [b2] at c; cases c
        · exact absurd c (nl true)
  · obtain ⟨xs1, c1⟩ := own2 i fz xs e1
    obtain ⟨xs2, c2⟩ := own2 j fz' xs' e3
    exact R.inj i j _ _ _ _ a c1 c2 g1 g3
  · obtain ⟨xs1, c1⟩ := own2 i false xs e1
    exact R.io i xs1 c1
  · exact S2.keep b o hb fun fz z => by
      obtain ⟨p, i, fz', xs, c1, c2, c3⟩ := lent fz b z
      exact nb fz' ⟨i, xs, c2, c3⟩
  · rcases S2.new b hb with c | c | c
    · exact .inl c
    · exact .inr (.inl c)
    · obtain ⟨p, xs, e1, _⟩ := c
      exact absurd e1 (no p xs)
end
/-! ### argument lists and calls as terms -/
section
variable {Φ : Fn} {X : Cx} {z : L2.St}
theorem s_anil : PA X [] (SemA Φ X.K z .nil) := pa_imp pa_nil fun σ H Q ⟨e, F, ds, e', R, h, q⟩ => by
  have h : some (PyData.tuple [], e) = some (.tuple ds, e') := h
  cases h
  exact q [] F H R Stp.refl trivial
theorem ev_cons {a r : Ex} {e e' : Ev} {ds : List D} (h : ev Φ (.cons a r) e = some (.tuple ds, e')) : ∃ d e1 ts, ev Φ a e = some (d, e1) ∧ ev Φ r e1 = some (.tuple ts, e') ∧ ds = d :: ts := by
  simp only [ev] at h
  cases h1 : ev Φ a e with
  | none => rw [h1] at h; cases h
  | some w =>
    obtain ⟨d, e1⟩ := w
    rw [h1] at h
    simp only at h
    split at h
    · rename_i ts e2 h2
      cases h
      exact ⟨d, e1, ts, rfl, h2, rfl⟩
    · cases h
theorem s_acons {a r : Ex} {x : Expr} {es : List Expr} (na : ∀ i, a ≠ .mu i) (ha : PE X x (SemE Φ X.K z a)) (hr : PA X es (SemA Φ X.K z r)) (hs : starEach (x :: es) X.env = (false, eval x X.env) :: starEach es X.env) : PA X (x :: es) (SemA Φ X.K z (.cons a r)) := by
  refine pa_imp (pa_cons ha hr hs) fun σ H Q ⟨e, F, ds, e', R, h, q⟩ => ?_
  obtain ⟨d, e1, ts, h1, h2, rfl⟩ := ev_cons h
  refine ⟨e, F, d, e1, R, h1, fun v F1 H1 R1 S1 dp => ⟨e1, F1, ts, e', R1, h2, fun vs F2 H2 R2 S2 g => q (v :: vs) F2 H2 R2 (S1.trans S2) ⟨?_, g⟩⟩⟩
  cases a <;> first | exact absurd rfl (na _) | exact dp_mono S2.fs dp
theorem s_amu {i : Nat} {r : Ex} {x : Str} {p : Pos} {es : List Expr} (hN : X.N[i]? = some x) (hv : Vis X.env.scope x) (hd : (x == ("__debug__" : Str)) = false) (hcd : (x == ("__classdict__" : Str)) = false) (hr : PA X es (SemA Φ X.K z r))
    (hs : starEach (Expr.Name x p :: es) X.env = (false, eval (Expr.Name x p) X.env) :: starEach es X.env) : PA X (Expr.Name x p :: es) (SemA Φ X.K z (.cons (.mu i) r)) := by
  refine pa_imp (pa_cons (pe_var hN hv hd hcd) hr hs) fun σ H Q ⟨e, F, ds, e', R, h, q⟩ => ?_
  obtain ⟨d, e1, ts, h1, h2, rfl⟩ := ev_cons h
  have hv : (∃ v, σ[i]? = some (some v)) ∧ e1 = e ∧ d = .none := by
    have h1 : (match e[i]? with
      | some (.sh _) => some (PyData.none, e)
      | some (.own _ _) => some (PyData.none, e)
      | _ => none) = some (d, e1) := h1
    cases h3 : e[i]? with
    | none => rw [h3] at h1; cases h1
    | some w =>
      rw [h3] at h1
      cases w with
      | un => cases h1
      | sh c =>
        cases h1
        obtain ⟨v, e5, _⟩ := R.sh i c h3
        exact ⟨⟨v, e5⟩, rfl, rfl⟩
      | own fz xs =>
        cases h1
        obtain ⟨a, us, e5, _⟩ := R.own i fz xs h3
        exact ⟨⟨_, e5⟩, rfl, rfl⟩
  obtain ⟨⟨v, hv⟩, rfl, rfl⟩ := hv
  exact ⟨v, hv, e1, F, ts, e', R, h2, fun vs F2 H2 R2 S2 g => q (v :: vs) F2 H2 R2 S2 ⟨hv, g⟩⟩
end
end Iv
end
section
set_option Elab.async false
set_option linter.all false
set_option maxRecDepth 100000
set_option maxHeartbeats 1000000
/-! Names stored; comprehensions. -/
namespace Iv
open PySem PySem.Spec PyProof.Rows L2
/-! ### a slot is stored, slots are forgotten -/
section
variable {K : PySem.W.Frag} {z : L2.St} {e : Ev} {σ : L2.St} {F H : Hp} {i : Nat}
theorem Rel.put (R : Rel K z e σ F H) {d : D} {v : V} (h : Dp K F v d) : Rel K z (e.set i (.sh d)) (σ.set i (some v)) F H where
  len := by rw [List.length_set, List.length_set]; exact R.len
  sub := R.sub
  sh := fun j c q => by
    rcases set_get q with ⟨rfl, e1⟩ | ⟨ne, q⟩
    · cases e1
      have hl := lt_of_get q
      rw [List.length_set, R.len] at hl
      exact ⟨v, List.getElem?_set_self hl, h⟩
    · obtain ⟨w, g1, g2⟩ := R.sh j c q
      exact ⟨w, by rw [List.getElem?_set_ne (Ne.symm ne)]; exact g1, g2⟩
  own := fun j fz ds q => by
    rcases set_get q with ⟨rfl, e1⟩ | ⟨ne, q⟩
    · cases e1
    · obtain ⟨a, vs, g1, g2⟩ := R.own j fz ds q
      exact ⟨a, vs, by rw [List.getElem?_set_ne (Ne.symm ne)]; exact g1, g2⟩
  inj := fun j k fz fz' ds ds' a q q' g g' => by
    rcases set_get q with ⟨rfl, e1⟩ | ⟨ne, q⟩
    · cases e1
    · rcases set_get q' with ⟨rfl, e1⟩ | ⟨ne', q'⟩
      · cases e1
      · rw [List.getElem?_set_ne (Ne.symm ne)] at g
        rw [List.getElem?_set_ne (Ne.symm ne')] at g'
        exact R.inj j k fz fz' ds ds' a q q' g g'
  io := fun j ds q => by
    rcases set_get q with ⟨rfl, e1⟩ | ⟨ne, q⟩
    · cases e1
    · rw [List.getElem?_set_ne (Ne.symm ne)]
      exact R.io j ds q
theorem ownAt_put {fz : Bool} {d : D} {o : Option V} {b : Addr} (h : OwnAt fz (e.set i (.sh d)) (σ.set i o) b) : OwnAt fz e σ b := by
  obtain ⟨j, ds, q, g⟩ := h
  rcases set_get q with ⟨rfl, e1⟩ | ⟨ne, q⟩
  · cases e1
  · rw [List.getElem?_set_ne (Ne.symm ne)] at g
    exact ⟨j, ds, q, g⟩
theorem Stp.of_own {e' : Ev} {σ' : L2.St} (h : ∀ fz b, OwnAt fz e' σ' b → OwnAt fz e σ b) : Stp e σ F H e' σ' F H :=
  ⟨Same.refl _, fun _ _ h _ => h, fun _ h => h, fun _ h => .inl h, fun b q => h _ b q, fun b q => h _ b q, fun _ _ _ h => h⟩
theorem wipeE_len : ∀ vs : List Nat, (wipeE e vs).length = e.length
  | [] => rfl
  | v :: vs => by unfold wipeE; rw [List.length_set, wipeE_len vs]
theorem wipeE_in {s : Sl} {j : Nat} : ∀ {vs : List Nat}, j ∈ vs → (wipeE e vs)[j]? = some s → s = .un
  | v :: vs, h, q => by
    unfold wipeE at q
    rcases set_get q with ⟨rfl, e1⟩ | ⟨ne, q⟩
    · exact e1
    · rcases List.mem_cons.mp h with e2 | h
      · exact absurd e2 ne
      · exact wipeE_in h q
theorem wipeE_out {j : Nat} : ∀ {vs : List Nat}, j ∉ vs → (wipeE e vs)[j]? = e[j]?
  | [], _ => rfl
  | v :: vs, h => by
    unfold wipeE
    rw [List.getElem?_set_ne (fun q => h (by rw [q]; exact List.mem_cons_self))]
    exact wipeE_out fun q => h (List.mem_cons_of_mem _ q)
theorem wipe_in {σ : L2.St} {j : Nat} : ∀ {vs : List Nat} {x : Option V}, j ∈ vs → (wipe σ vs)[j]? = some x → x = none
  | v :: vs, x, h, q => by
    unfold wipe at q
    rcases set_get q with ⟨rfl, e1⟩ | ⟨ne, q⟩
    · exact e1
    · rcases List.mem_cons.mp h with e2 | h
      · exact absurd e2 ne
      · exact wipe_in h q
theorem wipe_out' {σ : L2.St} {j : Nat} : ∀ {vs : List Nat}, j ∉ vs → (wipe σ vs)[j]? = σ[j]?
  | [], _ => rfl
  | v :: vs, h => by
    unfold wipe
    rw [List.getElem?_set_ne (fun q => h (by rw [q]; exact List.mem_cons_self))]
    exact wipe_out' fun q => h (List.mem_cons_of_mem _ q)
theorem wipe_of {σ σ' : L2.St} {vs : List Nat} (hl : σ'.length = σ.length) (h : ∀ j, j ∉ vs → σ'[j]? = σ[j]?) : wipe σ' vs = wipe σ vs := by
  refine List.ext_getElem? fun j => ?_
  by_cases hj : j ∈ vs
  · cases e1 : (wipe σ' vs)[j]? with
    | none =>
      have l1 := List.getElem?_eq_none_iff.mp e1
      rw [wipe_length, hl] at l1
      exact (List.getElem?_eq_none_iff.mpr (by rw [wipe_length]; exact l1)).symm
    | some x =>
      have l1 := lt_of_get e1
      rw [wipe_length, hl] at l1
      have l2 : j < (wipe σ vs).length := by rw [wipe_length]; exact l1
      have e2 := List.getElem?_eq_getElem l2
      rw [wipe_in hj e1, e2, wipe_in hj e2]
  · rw [wipe_out' hj, wipe_out' hj, h j hj]
theorem own_wipe {fz : Bool} {vs : List Nat} {b : Addr} (h : OwnAt fz (wipeE e vs) (wipe σ vs) b) : OwnAt fz e σ b := by
  obtain ⟨j, ds, q, g⟩ := h
  by_cases hj : j ∈ vs
  · cases wipeE_in hj q
  · rw [wipeE_out hj] at q
    rw [wipe_out' hj] at g
    exact ⟨j, ds, q, g⟩
theorem Rel.wipe (R : Rel K z e σ F H) (vs : List Nat) : Rel K z (wipeE e vs) (L2.wipe σ vs) F H where
  len := by rw [wipeE_len, wipe_length]; exact R.len
  sub := R.sub
  sh := fun j c q => by
    by_cases hj : j ∈ vs
    · cases wipeE_in hj q
    · rw [wipeE_out hj] at q
      rw [wipe_out' hj]
      exact R.sh j c q
  own := fun j fz ds q => by
    by_cases hj : j ∈ vs
    · cases wipeE_in hj q
    · rw [wipeE_out hj] at q
      rw [wipe_out' hj]
      exact R.own j fz ds q
  inj := fun j k fz fz' ds ds' a q q' g g' => by
    by_cases hj : j ∈ vs
    · cases wipeE_in hj q
    · by_cases hk : k ∈ vs
      · cases wipeE_in hk q'
      · rw [wipeE_out hj] at q
        rw [wipeE_out hk] at q'
        rw [wipe_out' hj] at g
        rw [wipe_out' hk] at g'
        exact R.inj j k fz fz' ds ds' a q q' g g'
  io := fun j ds q => by
    by_cases hj : j ∈ vs
    · cases wipeE_in hj q
    · rw [wipeE_out hj] at q
      rw [wipe_out' hj]
      exact R.io j ds q
/-- an object that is known to none is changed -/
theorem Rel.mut (R : Rel K z e σ F H) {p : Addr} {o : HO} (hF : F p = none) (no : ∀ fz, ¬ OwnAt fz e σ p) : Rel K z e σ F (upd H p o) where
  len := R.len
  sub := fun b u q => by
    by_cases hb : b = p
    · subst hb; rw [hF] at q; cases q
    · rw [upd_ne hb]; exact R.sub b u q
  sh := R.sh
  own := fun j fz ds q => by
    obtain ⟨a, vs, h1, h2, h3, h4⟩ := R.own j fz ds q
    have ne : a ≠ p := fun w => no fz ⟨j, ds, q, by rw [h1, w]⟩
    exact ⟨a, vs, h1, by rw [upd_ne ne]; exact h2, h3, h4⟩
  inj := R.inj
  io := R.io
theorem Stp.mut {e' : Ev} {σ' : L2.St} {F' H' : Hp} (S : Stp e σ F H e' σ' F' H') {p : Addr} {o : HO} (hp : H p = none) : Stp e σ F H e' σ' F' (upd H' p o) :=
  ⟨S.fs, fun b u h n => by
    have ne : b ≠ p := ne_of_none h hp
    rw [upd_ne ne]
    exact S.keep b u h n, fun b h => by
    by_cases hb : b = p
    · subst hb; rw [upd_same]; simp
    · rw [upd_ne hb]; exact S.there b h, S.new, S.owT, S.owF, S.nf⟩
end
/-! ### targets -/
def gNames : List Nat → TGs
  | [] => gNil
  | i :: r => gCons (gName i) (gNames r)
def tgG (K : PySem.W.Frag) : Tg → TG
  | .nm i => gName i
  | .tp is => gTup K is.length (gNames is)
section
variable {K : PySem.W.Frag} {z : L2.St} {F H : Hp}
theorem gNames_ok : ∀ {is : List Nat} {ds : List D} {vs : List V} {e e1 : Ev} {σ : L2.St} {Q : L2.St → Hp → Prop}, Rel K z e σ F H → DpAll K F vs ds → setAll e is ds = some e1 →
    (∀ σ', Rel K z e1 σ' F H → Stp e σ F H e1 σ' F H → σ'.length = σ.length → (∀ j, j ∉ is → σ'[j]? = σ[j]?) → Q σ' H) → gNames is vs σ H Q
  | [], [], vs, e, e1, σ, Q, R, dp, h, q => by
    cases dp
    cases h
    exact ⟨rfl, q σ R Stp.refl rfl fun _ _ => rfl⟩
  | i :: is, d :: ds, vs, e, e1, σ, Q, R, dp, h, q => by
    cases dp with
    | cons d1 d2 =>
      refine ⟨_, _, rfl, ?_⟩
      refine gNames_ok (e := e.set i (.sh d)) (R.put d1) d2 h fun σ' R' S' hl hj => q σ' R' ((Stp.of_own fun fz b => ownAt_put).trans S') (by rw [hl, List.length_set]) fun j nj => ?_
      rw [hj j (fun m => nj (List.mem_cons_of_mem _ m)), List.getElem?_set_ne (fun m => nj (by rw [m]; exact List.mem_cons_self))]
  | [], _ :: _, _, _, _, _, _, _, _, h, _ => by cases h
  | _ :: _, [], _, _, _, _, _, _, _, h, _ => by cases h
theorem setAll_len : ∀ {is : List Nat} {ds : List D} {e e1 : Ev}, setAll e is ds = some e1 → is.length = ds.length
  | [], [], _, _, _ => rfl
  | _ :: is, _ :: ds, _, _, h => by rw [List.length_cons, List.length_cons, setAll_len (is := is) (ds := ds) h]
  | [], _ :: _, _, _, h => by cases h
  | _ :: _, [], _, _, h => by cases h
theorem tgG_ok {g : Tg} {d : D} {v : V} {e e1 : Ev} {σ : L2.St} {Q : L2.St → Hp → Prop} (R : Rel K z e σ F H) (dp : Dp K F v d) (h : bindT g d e = some e1)
    (q : ∀ σ', Rel K z e1 σ' F H → Stp e σ F H e1 σ' F H → σ'.length = σ.length → (∀ j, j ∉ tgIxs g → σ'[j]? = σ[j]?) → Q σ' H) : tgG K g v σ H Q := by
  cases g with
  | nm i =>
    cases h
    exact q _ (R.put dp) (Stp.of_own fun fz b => ownAt_put) (by rw [List.length_set]) fun j nj => List.getElem?_set_ne (fun m => nj (by simp [tgIxs, m]))
  | tp is =>
    cases dp with
    | tup h1 h2 =>
      have h : setAll e is _ = some e1 := h
      exact ⟨_, _, rfl, same_t R.sub h1, by rw [dps_len h2]; exact (setAll_len h).symm, gNames_ok R h2 h q⟩
    | _ => cases h
end
/-! ### comprehensions -/
def SemC (Φ : Fn) (K : PySem.W.Frag) (z : L2.St) (c : Ex) : TT := fun σ H Q => ∃ e F b e', Rel K z e σ F H ∧ lcT c (ev Φ c) e = some (b, e') ∧
  ∀ F' H', Rel K z e' σ F' H' → Stp e σ F H e' σ F' H' → Q b H'
/-- a fresh list, not known yet -/
def SemF (Φ : Fn) (K : PySem.W.Frag) (z : L2.St) (t : Ex) : TE := fun σ H Q => ∃ e F ds e', Rel K z e σ F H ∧ ev Φ t e = some (.list ds, e') ∧
  ∀ p us F' H', Rel K z e' σ F' H' → Stp e σ F H e' σ F' H' → H p = none → H' p = some (.lst us) → F' p = none → DpAll K F' us ds → Q (.ref p) H'
theorem Rel.noOwn {K : PySem.W.Frag} {z : L2.St} {e : Ev} {σ : L2.St} {F H : Hp} (R : Rel K z e σ F H) {p : Addr} (h : H p = none) : ∀ fz, ¬ OwnAt fz e σ p := by
  rintro fz ⟨i, ds, q, g⟩
  obtain ⟨a, vs, h1, h2, _⟩ := R.own i fz ds q
  rw [g] at h1
  cases h1
  rw [h] at h2
  cases h2
theorem Stp.noOwn {K : PySem.W.Frag} {z : L2.St} {e e' : Ev} {σ σ' : L2.St} {F H F' H' : Hp} (S : Stp e σ F H e' σ' F' H') (R : Rel K z e σ F H) {p : Addr} (h : H p = none) : ∀ fz, ¬ OwnAt fz e' σ' p := by
  rintro fz q
  cases fz with
  | true => exact R.noOwn h _ (S.owT p q)
  | false => exact R.noOwn h _ (S.owF p q)
theorem backE_len {e0 e : Ev} : ∀ vs : List Nat, (backE e0 e vs).length = e.length
  | [] => rfl
  | v :: vs => by unfold backE; rw [List.length_set, backE_len vs]
theorem backE_in {e0 e : Ev} {j : Nat} {s : Sl} : ∀ {vs : List Nat}, j ∈ vs → (backE e0 e vs)[j]? = some s → s = e0.getD j .un
  | v :: vs, h, q => by
    unfold backE at q
    rcases set_get q with ⟨rfl, e1⟩ | ⟨ne, q⟩
    · exact e1
    · rcases List.mem_cons.mp h with e2 | h
      · exact absurd e2 ne
      · exact backE_in h q
theorem backE_out {e0 e : Ev} {j : Nat} : ∀ {vs : List Nat}, j ∉ vs → (backE e0 e vs)[j]? = e[j]?
  | [], _ => rfl
  | v :: vs, h => by
    unfold backE
    rw [List.getElem?_set_ne (fun q => h (by rw [q]; exact List.mem_cons_self))]
    exact backE_out fun q => h (List.mem_cons_of_mem _ q)
theorem getD_some {e0 : Ev} {j : Nat} {s : Sl} (h : e0.getD j .un = s) (n : s ≠ .un) : e0[j]? = some s := by
  rw [List.getD_eq_getElem?_getD] at h
  cases q : e0[j]? with
  | none => rw [q] at h; exact absurd h.symm n
  | some w => rw [q] at h; rw [← h]; rfl
/-- behind a comprehension: its own names are as they were -/
theorem back_ok {K : PySem.W.Frag} {z : L2.St} {e2 en : Ev} {σ : L2.St} {F1 H1 F' H' : Hp} {vs : List Nat} (R1 : Rel K z e2 σ F1 H1) (Rn : Rel K z (wipeE en vs) (wipe σ vs) F' H') (S : Stp (wipeE e2 vs) (wipe σ vs) F1 H1 (wipeE en vs) (wipe σ vs) F' H') :
    Rel K z (backE e2 en vs) σ F' H' ∧ Stp e2 σ F1 H1 (backE e2 en vs) σ F' H' := by
  -- the own lists of the names that are back are no others
  have apart : ∀ j fz ds a, j ∈ vs → e2[j]? = some (.own fz ds) → σ[j]? = some (some (.ref a)) → ∀ fz', ¬ OwnAt fz' (wipeE e2 vs) (wipe σ vs) a := by
    rintro j fz ds a hj h g fz' ⟨k, ds', q, g'⟩
    by_cases hk : k ∈ vs
    · cases wipeE_in hk q
    · rw [wipeE_out hk] at q
      rw [wipe_out' hk] at g'
      have ejk := R1.inj j k fz fz' ds ds' a h q g g'
      subst ejk
      exact hk hj
  have ownS : ∀ j fz ds, (backE e2 en vs)[j]? = some (.own fz ds) → (j ∈ vs ∧ e2[j]? = some (.own fz ds)) ∨ (j ∉ vs ∧ (wipeE en vs)[j]? = some (.own fz ds)) := fun j fz ds q => by
    by_cases hj : j ∈ vs
    · exact .inl ⟨hj, getD_some (backE_in hj q).symm (fun z => nomatch z)⟩
    · rw [backE_out hj] at q
      exact .inr ⟨hj, by rw [wipeE_out hj]; exact q⟩
  have keepA : ∀ j fz ds a us, j ∈ vs → e2[j]? = some (.own fz ds) → σ[j]? = some (some (.ref a)) → H1 a = some (.lst us) → F1 a = none → H' a = some (.lst us) ∧ F' a = none := by
    intro j fz ds a us hj h g hH hF
    have ap := apart j fz ds a hj h g
    refine ⟨S.keep a _ hH ap, ?_⟩
    cases q : F' a with
    | none => rfl
    | some o =>
      rcases S.new a (by rw [q]; simp) with c | c | c
      · exact absurd hF c
      · rw [hH] at c; cases c
      · exact absurd c (ap true)
  have own2 : ∀ fz b, OwnAt fz (backE e2 en vs) σ b → OwnAt fz e2 σ b := by
    rintro fz b ⟨j, ds, q, g⟩
    rcases ownS j fz ds q with ⟨hj, h⟩ | ⟨hj, h⟩
    · exact ⟨j, ds, h, g⟩
    · have w : OwnAt fz (wipeE en vs) (wipe σ vs) b := ⟨j, ds, h, by rw [wipe_out' hj]; exact g⟩
      cases fz with
      | true => exact own_wipe (S.owT b w)
      | false => exact own_wipe (S.owF b w)
  refine ⟨⟨?_, Rn.sub, fun j d q => ?_, fun j fz ds q => ?_, fun j k fz fz' ds ds' a q q' g g' => ?_, fun j ds q => ?_⟩, ⟨S.fs, fun b o h n => S.keep b o h fun fz w => n fz (own_wipe w), S.there, fun b h => ?_, fun b => own2 _ b, fun b => own2 _ b, S.nf⟩⟩
  · have l := Rn.len
    rw [wipeE_len, wipe_length] at l
    rw [backE_len]
    exact l
  · by_cases hj : j ∈ vs
    · have q2 := getD_some (backE_in hj q).symm (fun z => nomatch z)
      obtain ⟨v, g1, g2⟩ := R1.sh j d q2
      exact ⟨v, g1, dp_mono S.fs g2⟩
    · rw [backE_out hj] at q
      obtain ⟨v, g1, g2⟩ := Rn.sh j d (by rw [wipeE_out hj]; exact q)
      rw [wipe_out' hj] at g1
      exact ⟨v, g1, g2⟩
  · rcases ownS j fz ds q with ⟨hj, h⟩ | ⟨hj, h⟩
    · obtain ⟨a, us, g1, g2, g3, g4⟩ := R1.own j fz ds h
      obtain ⟨k1, k2⟩ := keepA j fz ds a us hj h g1 g2 g3
      exact ⟨a, us, g1, k1, k2, dps_mono S.fs g4⟩
    · obtain ⟨a, us, g1, g2⟩ := Rn.own j fz ds h
      rw [wipe_out' hj] at g1
      exact ⟨a, us, g1, g2⟩
  · rcases ownS j fz ds q with ⟨hj, h⟩ | ⟨hj, h⟩
    · rcases ownS k fz' ds' q' with ⟨hk, h'⟩ | ⟨hk, h'⟩
      · exact R1.inj j k _ _ _ _ a h h' g g'
      · exfalso
        have w : OwnAt fz' (wipeE en vs) (wipe σ vs) a := ⟨k, ds', h', by rw [wipe_out' hk]; exact g'⟩
        cases fz' with
        | true => exact apart j fz ds a hj h g _ (S.owT a w)
        | false => exact apart j fz ds a hj h g _ (S.owF a w)
    · rcases ownS k fz' ds' q' with ⟨hk, h'⟩ | ⟨hk, h'⟩
      · exfalso
        have w : OwnAt fz (wipeE en vs) (wipe σ vs) a := ⟨j, ds, h, by rw [wipe_out' hj]; exact g⟩
        cases fz with
        | true => exact apart k fz' ds' a hk h' g' _ (S.owT a w)
        | false => exact apart k fz' ds' a hk h' g' _ (S.owF a w)
      · exact Rn.inj j k _ _ _ _ a h h' (by rw [wipe_out' hj]; exact g) (by rw [wipe_out' hk]; exact g')
  · rcases ownS j _ ds q with ⟨hj, h⟩ | ⟨hj, h⟩
    · exact R1.io j ds h
    · have w := Rn.io j ds h
      rw [wipe_out' hj] at w
      exact w
  · rcases S.new b h with c | c | c
    · exact .inl c
    · exact .inr (.inl c)
    · exact .inr (.inr (own_wipe c))
end Iv
end
section
set_option Elab.async false
set_option linter.all false
set_option maxRecDepth 100000
set_option maxHeartbeats 1000000
/-! Terms: each construct's reading. -/
namespace Iv
open PySem PySem.Spec PyProof.Rows L2
/-! ### a comprehension -/
theorem lcGo_cons {own : List Nat} {g : Tg} {c : Ev → Option (Bool × Ev)} {f : Ev → Option (D × Ev)} {d : D} {ds acc r : List D} {e e3 : Ev} (h : lcGo own g c f (d :: ds) e acc = some (r, e3)) :
    ∃ e1 b e2, bindT g d (wipeE e own) = some e1 ∧ c e1 = some (b, e2) ∧ ((b = false ∧ lcGo own g c f ds e2 acc = some (r, e3)) ∨ (b = true ∧ ∃ y e4, f e2 = some (y, e4) ∧ acc.length < sizeLine ∧ lcGo own g c f ds e4 (acc ++ [y]) = some (r, e3))) := by
  unfold lcGo at h
  cases h1 : bindT g d (wipeE e own) with
  | none => rw [h1] at h; cases h
  | some e1 =>
    rw [h1] at h
    simp only at h
    cases h2 : c e1 with
    | none => rw [h2] at h; cases h
    | some w =>
      obtain ⟨b, e2⟩ := w
      rw [h2] at h
      cases b with
      | false => exact ⟨e1, false, e2, rfl, h2, .inl ⟨rfl, h⟩⟩
      | true =>
        simp only at h
        cases h3 : f e2 with
        | none => rw [h3] at h; cases h
        | some w =>
          obtain ⟨y, e4⟩ := w
          rw [h3] at h
          simp only at h
          split at h
          · rename_i hz
            exact ⟨e1, true, e2, rfl, h2, .inr ⟨rfl, y, e4, h3, hz, h⟩⟩
          · cases h
theorem lc_loop {Φ : Fn} {K : PySem.W.Frag} {z : L2.St} {g : Tg} {c f : Ex} {vs : List Nat} {ds : List D} {J : It} {σ : L2.St} {e2 e3 : Ev} {F1 H1 : Hp} {r : List D} {Q : VK} {P : Addr} (hg : ∀ j ∈ tgIxs g, j ∈ vs) (R1 : Rel K z e2 σ F1 H1) (it : ItOk K J F1 ds) (nP : H1 P = none)
    (h : lcGo vs g (lcT c (ev Φ c)) (ev Φ f) ds e2 [] = some (r, e3))
    (q : ∀ us F' H', Rel K z (backE e2 e3 vs) σ F' H' → Stp e2 σ F1 H1 (backE e2 e3 vs) σ F' H' → H' P = some (.lst us) → F' P = none → DpAll K F' us r → Q (.ref P) H') :
    ∃ W : Nat → Nat → Hp → Prop, (∃ m, W 0 m (upd H1 P (.lst []))) ∧ ∀ i m H, W i m H →
      (J.stop i H ∧ Q (.ref P) H) ∨ (J.go i H ∧ ∃ Nx : Hp → Prop, (∀ H', Nx H' → ∃ m', m' < m ∧ W (i + 1) m' H') ∧ ∀ x H', J.yld i H x H' → tgG K g x (wipe σ vs) H' fun σ2 H2 => wipe σ2 vs = wipe σ vs ∧ SemC Φ K z c σ2 H2 fun b H3 =>
        if b = true then SemE Φ K z f σ2 H3 fun y H4 => ∃ acc, H4 P = some (.lst acc) ∧ acc.length < sizeLine ∧ Nx (upd H4 P (.lst (acc ++ [y]))) else Nx H3) := by
  let Wv : Nat → Hp → Prop := fun i H => ∃ en F us acc, Rel K z (wipeE en vs) (wipe σ vs) F H ∧ Stp (wipeE e2 vs) (wipe σ vs) F1 H1 (wipeE en vs) (wipe σ vs) F H ∧ H P = some (.lst us) ∧ F P = none ∧ DpAll K F us acc ∧
    lcGo vs g (lcT c (ev Φ c)) (ev Φ f) (ds.drop i) en acc = some (r, e3)
  have Rw := R1.wipe vs
  have fP : F1 P = none := R1.frees nP
  refine ⟨fun i m H => m = ds.length - i ∧ i ≤ ds.length ∧ Wv i H, ⟨ds.length, by simp, Nat.zero_le _, e2, F1, [], [], Rw.mut fP (Rw.noOwn nP), Stp.refl.mut nP, upd_same, fP, .nil, h⟩, ?_⟩
  rintro i m H ⟨rfl, hi, en, F, us, acc, R, S, hP, hF, dp, hgo⟩
  by_cases hlt : i < ds.length
  · refine .inr ⟨it.go i F H S.fs R.sub hlt, Wv (i + 1), fun H' w => ⟨ds.length - (i + 1), by omega, rfl, hlt, w⟩, fun x H' hy => ?_⟩
    have hd := List.getElem?_eq_getElem hlt
    rw [List.drop_eq_getElem_cons hlt] at hgo
    obtain ⟨e1, b, e4, hb, hc, hrest⟩ := lcGo_cons hgo
    -- the item comes, perhaps as a new pair
    have item : ∃ Fi, Rel K z (wipeE en vs) (wipe σ vs) Fi H' ∧ Stp (wipeE en vs) (wipe σ vs) F H (wipeE en vs) (wipe σ vs) Fi H' ∧ Dp K Fi x ds[i] := by
      rcases it.yld i F H x H' _ S.fs R.sub hd hy with ⟨rfl, d1⟩ | ⟨T, o, hT, rfl, d1⟩
      · exact ⟨F, R, Stp.refl, d1⟩
      · exact ⟨_, R.new hT, Stp.new1 R hT, d1⟩
    obtain ⟨Fi, Ri, Si, di⟩ := item
    refine tgG_ok Ri di hb fun σ2 R2 S2 hl hj => ⟨?_, ?_⟩
    · have w := wipe_of (vs := vs) hl fun j nj => hj j fun m => nj (hg j m)
      rw [w]
      exact wipe_of (by rw [wipe_length]) fun j nj => wipe_out' nj
    have ww : wipe σ2 vs = wipe σ vs := by
      have w := wipe_of (vs := vs) hl fun j nj => hj j fun m => nj (hg j m)
      rw [w]
      exact wipe_of (by rw [wipe_length]) fun j nj => wipe_out' nj
    refine ⟨e1, Fi, b, e4, R2, hc, fun F3 H3 R3 S3 => ?_⟩
    have S13 := (S.trans Si).trans (S2.trans S3)
    have noP3 : ∀ fz, ¬ OwnAt fz (wipeE e2 vs) (wipe σ vs) P := Rw.noOwn nP
    have keepP : ∀ {ea : Ev} {sa : L2.St} {Fa Ha : Hp} {eb : Ev} {sb : L2.St} {Fb Hb : Hp}, Stp (wipeE e2 vs) (wipe σ vs) F1 H1 ea sa Fa Ha → Stp ea sa Fa Ha eb sb Fb Hb → Ha P = some (.lst us) → Fa P = none → Hb P = some (.lst us) ∧ Fb P = none := by
      intro ea sa Fa Ha eb sb Fb Hb A B hA fA
      have no := A.noOwn Rw nP
      refine ⟨B.keep P _ hA no, ?_⟩
      cases q3 : Fb P with
      | none => rfl
      | some o =>
        rcases B.new P (by rw [q3]; simp) with c | c | c
        · exact absurd fA c
        · rw [hA] at c; cases c
        · exact absurd c (no true)
    obtain ⟨hP3, hF3⟩ := keepP S (Si.trans (S2.trans S3)) hP hF
    have dp3 : DpAll K F3 us acc := dps_mono (Si.trans (S2.trans S3)).fs dp
    rcases hrest with ⟨rfl, hgo'⟩ | ⟨rfl, y, e5, hf, hz, hgo'⟩
    · refine iteF ?_
      have Rw3 := R3.wipe vs
      rw [ww] at Rw3
      refine ⟨e4, F3, us, acc, Rw3, ?_, hP3, hF3, dp3, hgo'⟩
      refine S13.trans (Stp.of_own fun fz b w => ?_)
      rw [← ww] at w
      exact own_wipe w
    · refine iteT ?_
      refine ⟨e4, F3, y, e5, R3, hf, fun v F4 H4 R4 S4 d4 => ?_⟩
      obtain ⟨hP4, hF4⟩ := keepP S13 S4 hP3 hF3
      have dp4 : DpAll K F4 us acc := dps_mono S4.fs dp3
      refine ⟨us, hP4, by rw [dps_len dp4]; exact hz, ?_⟩
      have S14 := S13.trans S4
      have Rw4 := R4.wipe vs
      rw [ww] at Rw4
      have no4 : ∀ fz, ¬ OwnAt fz (wipeE e5 vs) (wipe σ vs) P := fun fz w => by
        rw [← ww] at w
        exact S14.noOwn Rw nP fz (own_wipe w)
      refine ⟨e5, F4, us ++ [v], acc ++ [y], Rw4.mut hF4 no4, ?_, upd_same, hF4, dps_app dp4 (.cons d4 .nil), hgo'⟩
      refine Stp.mut (S14.trans (Stp.of_own fun fz b w => ?_)) nP
      rw [← ww] at w
      exact own_wipe w
  · have e : i = ds.length := by omega
    subst e
    rw [List.drop_length] at hgo
    have hgo : some (acc, en) = some (r, e3) := hgo
    cases hgo
    obtain ⟨Rb, Sb⟩ := back_ok R1 R S
    exact .inl ⟨it.stop F H S.fs R.sub, q us F H Rb Sb hP hF dp⟩
theorem ev_lc {Φ : Fn} {own : List (Str × Nat)} {g : Tg} {k : Ik} {a b c f : Ex} {e e' : Ev} {d : D} (h : ev Φ (.lc own g k a b c f) e = some (d, e')) :
    ∃ ds e2 r e3, evI Φ k a b e = some (ds, e2) ∧ lcGo (own.map (·.2)) g (lcT c (ev Φ c)) (ev Φ f) ds e2 [] = some (r, e3) ∧ d = .list r ∧ e' = backE e2 e3 (own.map (·.2)) := by
  simp only [ev] at h
  cases h1 : ev Φ a e with
  | none => rw [h1] at h; cases h
  | some w =>
    obtain ⟨x, e1⟩ := w
    rw [h1] at h
    simp only at h
    cases h2 : ev Φ b e1 with
    | none => rw [h2] at h; cases h
    | some w =>
      obtain ⟨y, e2⟩ := w
      rw [h2] at h
      simp only at h
      cases h3 : walkD k x y with
      | none => rw [h3] at h; cases h
      | some ds =>
        rw [h3] at h
        simp only at h
        split at h
        · rename_i acc e3 h4
          cases h
          exact ⟨ds, e2, acc, e3, by unfold evI; rw [h1]; simp only [h2, h3, Option.map_some], h4, rfl, rfl⟩
        · cases h
section
variable {Φ : Fn} {X : Cx} {z : L2.St}
theorem f_lc {elt tg iter : Expr} {ifs : List Expr} {scope : Scope} {own : List (Str × Nat)} {pos : Pos} {g : Tg} {k : Ik} {a b c f : Ex} (hc : X.calm = true) (hN : X.N.Nodup) (hi : PI X tg iter (SemI Φ X.K z k a b)) (ok : BlkOk X.N X.env.scope scope own) (hin : ∀ j ∈ tgIxs g, j ∈ own.map (·.2))
    (hg : ∀ (s : Shared) (H : Hp) (C : Addr) (cl : List (Str × Addr)) (fp : List Addr), PG (X.blk s H scope (compEnvC scope cl C X.env) fp) tg (tgG X.K g))
    (ht : ∀ (s : Shared) (H : Hp) (C : Addr) (cl : List (Str × Addr)) (fp : List Addr), PTs (X.blk s H scope (compEnvC scope cl C X.env) fp) ifs (SemC Φ X.K z c))
    (he : ∀ (s : Shared) (H : Hp) (C : Addr) (cl : List (Str × Addr)) (fp : List Addr), PE (X.blk s H scope (compEnvC scope cl C X.env) fp) elt (SemE Φ X.K z f)) (hs : ∀ x, foldedSetIterable iter X.env x = pure x) :
    PE X (.ListComp elt [⟨tg, iter, ifs, 0⟩] scope pos) (SemF Φ X.K z (.lc own g k a b c f)) := by
  refine pe_imp (pe_lc hc hN hi ok hg ht he hs) fun σ H Q ⟨e, F, ds', e', R, h, q⟩ => ?_
  obtain ⟨ds, e2, r, e3, h1, h2, e4, rfl⟩ := ev_lc h
  cases e4
  refine ⟨e, F, ds, e2, R, h1, fun J F1 H1 R1 S1 it P nP => ?_⟩
  refine lc_loop hin R1 it nP h2 fun us F' H' R' S' hP hF dp => q P us F' H' R' (S1.trans S') ?_ hP hF dp
  cases q2 : H P with
  | none => rfl
  | some o => exact absurd nP (S1.there P (by rw [q2]; simp))
theorem fp_lc {elt tg iter : Expr} {ifs : List Expr} {scope : Scope} {own : List (Str × Nat)} {pos spos py : Pos} {y : Str} {i : Nat} {g : Tg} {k : Ik} {a b c f : Ex} (hc : X.calm = true) (hN : X.N.Nodup) (hy : X.N[i]? = some y) (hyl : X.env.scope.names.lookup y = some .local)
    (hsw : swapsWith (.ListComp elt [⟨tg, iter, ifs, 0⟩] scope pos) (some (.Name y py)) spos.line X.env = pure true) (hi : PI X tg iter (SemI Φ X.K z k a b)) (ok : BlkOk X.N X.env.scope scope own) (hin : ∀ j ∈ tgIxs g, j ∈ own.map (·.2))
    (hg : ∀ (s : Shared) (H : Hp) (C : Addr) (cl : List (Str × Addr)) (fp : List Addr), PG (X.blk s H scope (compEnvC scope cl C X.env) fp) tg (tgG X.K g))
    (ht : ∀ (s : Shared) (H : Hp) (C : Addr) (cl : List (Str × Addr)) (fp : List Addr), PTs (X.blk s H scope (compEnvC scope cl C X.env) fp) ifs (SemC Φ X.K z c))
    (he : ∀ (s : Shared) (H : Hp) (C : Addr) (cl : List (Str × Addr)) (fp : List Addr), PE (X.blk s H scope (compEnvC scope cl C X.env) fp) elt (SemE Φ X.K z f)) (hs : ∀ x, foldedSetIterable iter X.env x = pure x) :
    PS X (.Assign [.Name y py] (.ListComp elt [⟨tg, iter, ifs, 0⟩] scope pos) spos) (tAsg (SemF Φ X.K z (.lc own g k a b c f)) (gName i)) := by
  refine ps_imp (ps_setLc hc hN hy hyl hsw hi ok hg ht he hs) fun D σ H ⟨e, F, ds', e', R, h, q⟩ => ?_
  obtain ⟨ds, e2, r, e3, h1, h2, e4, rfl⟩ := ev_lc h
  cases e4
  refine ⟨e, F, ds, e2, R, h1, fun J F1 H1 R1 S1 it P nP => ?_⟩
  refine lc_loop (Q := fun x H1 => gName i x σ H1 D.nx) hin R1 it nP h2 fun us F' H' R' S' hP hF dp => q P us F' H' R' (S1.trans S') ?_ hP hF dp
  cases q2 : H P with
  | none => rfl
  | some o => exact absurd nP (S1.there P (by rw [q2]; simp))
/-- a fresh list becomes a value -/
theorem semE_of_F {t : Ex} {x : Expr} (h : PE X x (SemF Φ X.K z t)) (hl : ∀ e d e', ev Φ t e = some (d, e') → ∃ ds, d = .list ds) : PE X x (SemE Φ X.K z t) := by
  refine pe_imp h fun σ H Q ⟨e, F, d, e', R, he, q⟩ => ?_
  obtain ⟨ds, rfl⟩ := hl e d e' he
  refine ⟨e, F, ds, e', R, he, fun p us F' H' R' S' hp hP hF dp => ?_⟩
  have m : Same F' (upd F' p (.lst us)) := Same.fresh hF
  refine q (.ref p) (upd F' p (.lst us)) H' (R'.know hP hF (S'.noOwn R hp)) ⟨S'.fs.trans m, S'.keep, S'.there, fun b hb => ?_, S'.owT, S'.owF, nf_upd S'.nf⟩ (.lst (.inl (.inl upd_same)) (dps_mono m dp))
  by_cases e1 : b = p
  · subst e1
    exact .inr (.inl hp)
  · rw [upd_ne e1] at hb
    exact S'.new b hb
end
end Iv
end
section
set_option Elab.async false
set_option linter.all false
set_option maxRecDepth 100000
set_option maxHeartbeats 1000000
/-! The look that holds a term against the text. -/
namespace Iv
open PySem PySem.Spec PyProof.Rows L2
/-- what a def's text may speak of: its names, the module's constants, the builtins, the defs, how they may be called by keywords -/
structure Cc where
  N : List Str
  glo : List (Str × D)
  bis : List Str
  fns : List (Str × List Str)
  kws : List (Nat × Nat × List Str × List Nat)
  frs : List Nat
def plainN (x : Str) : Bool := !(x == ("__debug__" : Str)) && !(x == ("__classdict__" : Str))
def visB (sc : Scope) (x : Str) : Bool := match sc.names.lookup x with
  | some .local => true | some .cell => true | some .free => true | _ => false
def locB (sc : Scope) (x : Str) : Bool := match sc.names.lookup x with
  | some .local => true | some .cell => true | _ => false
def gloB (sc : Scope) (x : Str) : Bool := decide (sc.names.lookup x = some .globalImplicit) && plainN x
def nmB (C : Cc) (sc : Scope) (i : Nat) (x : Str) : Bool := decide (C.N[i]? = some x) && visB sc x && plainN x
def notStar : Expr → Bool
  | .Starred _ _ => false
  | _ => true
def notSet : Expr → Bool
  | .Set _ _ _ => false
  | _ => true
def notSlice : Expr → Bool
  | .Slice _ _ _ _ => false
  | _ => true
def cstB : D → Const → Bool
  | .none, .none => true
  | .bool a, .bool b => a == b
  | .int a, .int b => a == b
  | .str a, .str b => decide (a = b)
  | _, _ => false
def isNoe : Ex → Bool
  | .noe => true
  | _ => false
def memG (x : Str) (d : D) : List (Str × D) → Bool
  | [] => false
  | (y, c) :: r => (decide (x = y) && same d c) || memG x d r
def b1N : B1 → Str
  | .len => "len" | .abs => "abs" | .max => "max" | .min => "min" | .sum => "sum" | .all => "all" | .any => "any" | .int => "int" | .str => "str" | .repr => "repr" | .list => "list" | .tup => "tuple" | .sorted => "sorted"
def b2N : B2 → Str
  | .max => "max" | .min => "min" | .dvm => "divmod"
def bltB (C : Cc) (sc : Scope) (x y : Str) : Bool := decide (x = y) && gloB sc y && C.bis.contains y
/-- a built-in type by its name -/
def tyNB (C : Cc) (sc : Scope) (t : String) : Expr → Bool
  | .Name y _ => decide (y = Str.ofString t) && gloB sc y && C.bis.contains y && ["int", "bool", "str", "tuple", "list"].contains t
  | _ => false
def tyNsB (C : Cc) (sc : Scope) : List String → List Expr → Bool
  | [], [] => true
  | t :: ts, e :: es => tyNB C sc t e && notStar e && tyNsB C sc ts es
  | _, _ => false
def tyB (C : Cc) (sc : Scope) (ts : List String) (e : Expr) : Bool := match e with
  | .Tuple es _ _ => tyNsB C sc ts es && decide (ts.length ≤ 9)
  | _ => match ts with
    | [t] => tyNB C sc t e
    | _ => false
def tgB (C : Cc) (ok : Str → Bool) : Tg → Expr → Bool
  | .nm i, .Name x _ => decide (C.N[i]? = some x) && ok x
  | .tp is, .Tuple es _ _ => decide (is.length = es.length) && (is.zip es).all fun p => match p.2 with
      | .Name x _ => decide (C.N[p.1]? = some x) && ok x
      | _ => false
  | _, _ => false
def isTupE : Expr → Bool
  | .Tuple _ _ _ => true
  | _ => false
def tOk : Ex → Bool
  | .ite _ _ _ => false
  | .mu _ => false
  | _ => true
/-- a comprehension's own names are stored where they are its own -/
def ownB (scope sc : Scope) (x : Str) : Bool := match (relS scope sc).names.lookup x with
  | some .local => true
  | some .cell => decide (scope.names.lookup x = some .cell)
  | _ => false
mutual
def chk (C : Cc) : Ex → Scope → Expr → Bool
  | .var i, sc, e => match e with
    | .Name x _ => nmB C sc i x
    | _ => false
  | .cst d, _, e => match e with
    | .Constant c _ _ => cstB d c
    | _ => false
  | .glo x d, sc, e => match e with
    | .Name y _ => decide (x = y) && gloB sc y && memG x d C.glo
    | _ => false
  | .bin o a b, sc, e => match e with
    | .BinOp l op r _ => decide (op = boOp o) && chk C a sc l && chk C b sc r
    | _ => false
  | .neg a, sc, e => match e with
    | .UnaryOp .USub x _ => chk C a sc x
    | _ => false
  | .nt a, sc, e => match e with
    | .UnaryOp .Not x _ => chk C a sc x && tOk a
    | _ => false
  | .and a b, sc, e => match e with
    | .BoolOp .And (x :: y :: rest) pos => chk C a sc x && tOk a && tOk b && (match rest with
      | [] => chk C b sc y
      | _ => chk C b sc (.BoolOp .And (y :: rest) pos))
    | _ => false
  | .or a b, sc, e => match e with
    | .BoolOp .Or (x :: y :: rest) pos => chk C a sc x && tOk a && tOk b && (match rest with
      | [] => chk C b sc y
      | _ => chk C b sc (.BoolOp .Or (y :: rest) pos))
    | _ => false
  | .cmp o a b, sc, e => match e with
    | .Compare l [op] [r] _ => decide (op = coOp o) && chk C a sc l && chk C b sc r && notSet r
    | _ => false
  | .chn o p a b c, sc, e => match e with
    | .Compare l [op, op'] [m, r] _ => decide (op = coOp o) && decide (op' = coOp p) && chk C a sc l && chk C b sc m && chk C c sc r && notSet r
    | _ => false
  | .ite c a b, sc, e => match e with
    | .IfExp t x y _ => chk C c sc t && tOk c && chk C a sc x && chk C b sc y
    | _ => false
  | .tup as, sc, e => match e with
    | .Tuple es _ _ => noMu as && chkL C as sc es
    | _ => false
  | .lst as, sc, e => match e with
    | .List es _ => noMu as && chkL C as sc es
    | _ => false
  | .rep as n, sc, e => match e with
    | .BinOp (.List es _) .Mult r _ => noMu as && chkL C as sc es && chk C n sc r
    | _ => false
  | .idx a i, sc, e => match e with
    | .Subscript v s _ => notSlice s && chk C a sc v && chk C i sc s
    | _ => false
  | .slc a lo hi, sc, e => match e with
    | .Subscript v (.Slice l h none _) _ => chk C a sc v && (match l with
      | none => isNoe lo
      | some x => chk C lo sc x && !isNoe lo) && (match h with
      | none => isNoe hi
      | some x => chk C hi sc x && !isNoe hi)
    | _ => false
  | .call j as, sc, e => match e with
    | .Call (.Name x _) es [] _ => (match C.fns[j]? with
      | some (y, ps) => decide (x = y)
      | none => false) && gloB sc x && es.all notStar && chkL C as sc es
    | _ => false
  | .calk j as ks perm, sc, e => match e with
    | .Call (.Name x _) es kws _ => (match C.fns[j]? with
      | some (y, ps) => decide (x = y)
      | none => false) && gloB sc x && es.all notStar && noMu as && noMu ks && chkL C as sc es && chkL C ks sc (kws.map (·.value)) && kws.all (·.arg.isSome) && decide ((j, es.length, kws.filterMap (·.arg), perm) ∈ C.kws)
    | _ => false
  | .b1 b a, sc, e => match e with
    | .Call (.Name x _) [y] [] _ => bltB C sc (b1N b) x && chk C a sc y && notStar y
    | _ => false
  | .b2 b a c, sc, e => match e with
    | .Call (.Name x _) [y, w] [] _ => bltB C sc (b2N b) x && chk C a sc y && chk C c sc w && notStar y && notStar w
    | _ => false
  | .isi a ts, sc, e => match e with
    | .Call (.Name x _) [y, w] [] _ => bltB C sc "isinstance" x && chk C a sc y && tyB C sc ts w && notStar y && notStar w
    | _ => false
  | .lc own g k a b c f, sc, e => match e with
    | .ListComp elt [⟨tg, iter, ifs, asy⟩] scope _ => decide (asy = 0) && blkC C.N sc scope own && tgB C (ownB scope sc) g tg && ((tgIxs g).all fun j => (own.map (·.2)).contains j) && notSet iter &&
      (match k with
        | .walk => chk C a sc iter && isNoe b
        | .enm => isTupE tg && isNoe b && (match iter with
          | .Call (.Name x _) [y] [] _ => bltB C sc "enumerate" x && chk C a sc y && notStar y
          | _ => false)
        | .zip => isTupE tg && (match iter with
          | .Call (.Name x _) [y, w] [] _ => bltB C sc "zip" x && chk C a sc y && chk C b sc w && notStar y && notStar w
          | _ => false)
        | .rng => isNoe b && (match iter with
          | .Call (.Name x _) [y] [] _ => bltB C sc "range" x && chk C a sc y && notStar y
          | _ => false)
        | .rng2 => (match iter with
          | .Call (.Name x _) [y, w] [] _ => bltB C sc "range" x && chk C a sc y && chk C b sc w && notStar y && notStar w
          | _ => false)) &&
      (match ifs with
        | [] => isNoe c
        | [t] => chk C c (relS scope sc) t && tOk c && !isNoe c
        | _ => false) && chk C f (relS scope sc) elt
    | _ => false
  | .cf j a, sc, e => match e with
    | .Call (.Name x _) [y] [] _ => (match C.fns[j]? with
      | some (y, ps) => decide (x = y)
      | none => false) && gloB sc x && notStar y && (match a with
      | .call j _ => C.frs.contains j
      | .calk j _ _ _ => C.frs.contains j
      | _ => false) && chk C a sc y
    | _ => false
  | .m1 m a b, sc, e => match m with
    | .lrng => match e with
      | .Call (.Name x _) [.Call (.Name y _) [w] [] _] [] _ => isNoe b && bltB C sc "list" x && bltB C sc "range" y && chk C a sc w && notStar w
      | _ => false
    | .fr => (match a with
      | .call j _ => C.frs.contains j
      | .calk j _ _ _ => C.frs.contains j
      | _ => false) && chk C a sc e
    | .fl => (match a with
      | .call _ _ => true
      | .calk _ _ _ _ => true
      | _ => false) && chk C a sc e
    | .scr => (match a with
      | .b1 _ _ => true
      | _ => false) && chk C a sc e
    | _ => false
  | _, _, _ => false
def chkL (C : Cc) : Ex → Scope → List Expr → Bool
  | .nil, _, es => es.isEmpty
  | .cons a r, sc, es => match es with
    | e :: t => notStar e && (match a with
      | .mu i => (match e with
        | .Name x _ => nmB C sc i x
        | _ => false)
      | _ => chk C a sc e) && chkL C r sc t
    | [] => false
  | _, _, _ => false
end
end Iv
end
section
set_option Elab.async false
set_option linter.all false
set_option maxRecDepth 100000
set_option maxHeartbeats 1000000
/-! What passes the look is read as its term is evaluated: expressions. -/
namespace Iv
open PySem PySem.Spec PyProof.Rows L2
def FrAt (K : PySem.W.Frag) (H : Hp) (e' : Ev) (σ' : L2.St) (F' H' : Hp) (v : V) (d : D) : Prop :=
  ∃ p us ds, v = .ref p ∧ d = .list ds ∧ H' p = some (.lst us) ∧ F' p = none ∧ DpAll K F' us ds ∧ (∀ fz, ¬ OwnAt fz e' σ' p) ∧ H p = none
/-- .. where it gives a list of its own -/
def SpR (K : PySem.W.Frag) (Φ : Fn) (j : Nat) : Sp := fun vs H Q _ => ∃ (args : List Sl) (F : Hp) (d : D) (os : List Sl), Rel K (vs.map some) args (vs.map some) F H ∧ (∀ (i : Nat) (ds : List D), args[i]? ≠ some (Sl.own true ds)) ∧ Φ j args = some (d, os) ∧ (∃ xs, d = .list xs) ∧
  ∀ v F' H', Rel K (vs.map some) os (vs.map some) F' H' → Stp args (vs.map some) F H os (vs.map some) F' H' → FrAt K H os (vs.map some) F' H' v d → Q v H'
structure COk (C : Cc) (Φ : Fn) (k : Nat) (X : Cx) : Prop where
  N : X.N = C.N
  nd : C.N.Nodup
  calm : X.calm = true
  room : Room k X.A
  gd : X.A.guards = some []
  glo : ∀ x d, (x, d) ∈ C.glo → ∃ v u, X.mg x = some u ∧ RelV v u ∧ Dp X.K (fun _ => none) v d
  bis : ∀ x, C.bis.contains x = true → X.mg x = none
  nol : ∀ p o, X.K.lookup p = some o → o.cls ≠ .type "list"
  fns : ∀ j x ps, C.fns[j]? = some (x, ps) → ∃ f fd, X.mg x = some (.ref f) ∧ PySem.W.keepIn X.K (.ref f) = true ∧ Binds X.K fd ps [] ∧ FnG X.prog X.w X.K X.mg X.base k f fd ps (SpF X.K Φ j) ∧
    (∀ n ks perm, (j, n, ks, perm) ∈ C.kws → KwOk X.K fd ps n ks perm) ∧ (C.frs.contains j = true → FnG X.prog X.w X.K X.mg X.base k f fd ps (SpR X.K Φ j))
theorem COk.blk {C : Cc} {Φ : Fn} {k : Nat} {X : Cx} (h : COk C Φ k X) (s : Shared) (H : Hp) (scope : Scope) (cenv : Env) (fp : List Addr) : COk C Φ k (X.blk s H scope cenv fp) :=
  ⟨h.N, h.nd, h.calm, h.room, h.gd, h.glo, h.bis, h.nol, h.fns⟩
/-! ### small facts of the text -/
theorem star_of {e : Expr} {env : Env} (h : notStar e = true) (r : List Expr) : starEach (e :: r) env = (false, eval e env) :: starEach r env := by
  cases e <;> first | rfl | cases h
theorem nostar_any {env : Env} {pos : Pos} : ∀ {es : List Expr}, es.all notStar = true → (backTo pos (starEach es env)).any (·.1) = false
  | [], _ => rfl
  | e :: r, h => by
    rw [List.all_cons, Bool.and_eq_true] at h
    rw [star_of h.1]
    show (false || (backTo pos (starEach r env)).any (·.1)) = false
    rw [nostar_any h.2]
    rfl
theorem folded_of {e : Expr} {env : Env} (h : notSet e = true) : ∀ x, foldedSetIterable e env x = pure x := by
  intro x
  cases e <;> first | rfl | cases h
theorem marks_of {e : Expr} {op : CmpOp} (h : notSet e = true) : behindInMarks op e = false := by
  cases e <;> first | rfl | cases h
theorem ix_of {e : Expr} (h : notSlice e = true) : PlainIx e := by
  intro o i
  cases e <;> first | rfl | cases h
def plainHead : Expr → Bool
  | .Name _ _ => true | .Constant _ _ _ => true | .BinOp _ _ _ _ => true | .Call _ _ _ _ => true | .Subscript _ _ _ => true | .Tuple _ _ _ => true | .List _ _ => true | .ListComp _ _ _ _ => true | .UnaryOp .USub _ _ => true
  | _ => false
theorem he_of {e : Expr} {env : Env} (h : plainHead e = true) : ∀ whole, isTrue e env whole = (do let v ← whole; standAt e.pos; holding [v] (truthy v)) := by
  intro whole
  cases e with
  | UnaryOp op x pos => cases op <;> first | rfl | cases h
  | _ => first | rfl | cases h
theorem kw_some {env : Env} {pos : Pos} : ∀ {kws : List Keyword}, kws.all (·.arg.isSome) = true → (backToKw pos (keywordEach kws env)).all (·.1.isSome) = true ∧ (backToKw pos (keywordEach kws env)).any (·.1.isNone) = false
  | [], _ => ⟨rfl, rfl⟩
  | ⟨n, v, p⟩ :: r, h => by
    rw [List.all_cons, Bool.and_eq_true] at h
    obtain ⟨a, b⟩ := kw_some (env := env) (pos := pos) h.2
    have h1 : n.isSome = true := h.1
    refine ⟨?_, ?_⟩
    · show (n.isSome && (backToKw pos (keywordEach r env)).all (·.1.isSome)) = true
      rw [h1, a]
      rfl
    · show (n.isNone || (backToKw pos (keywordEach r env)).any (·.1.isNone)) = false
      rw [b]
      cases n <;> first | rfl | cases h1
theorem kw_names {env : Env} {pos : Pos} : ∀ {kws : List Keyword}, (backToKw pos (keywordEach kws env)).filterMap (·.1) = kws.filterMap (·.arg)
  | [] => rfl
  | ⟨n, v, p⟩ :: r => by
    have ih := kw_names (env := env) (pos := pos) (kws := r)
    show List.filterMap (·.1) ((n, _) :: backToKw pos (keywordEach r env)) = List.filterMap (·.arg) (⟨n, v, p⟩ :: r)
    cases n with
    | none => exact ih
    | some x => exact congrArg (x :: ·) ih
theorem plain_of {x : Str} (h : plainN x = true) : (x == ("__debug__" : Str)) = false ∧ (x == ("__classdict__" : Str)) = false := by
  unfold plainN at h
  rw [Bool.and_eq_true, Bool.not_eq_true', Bool.not_eq_true'] at h
  exact h
theorem vis_of {sc : Scope} {x : Str} (h : visB sc x = true) : Vis sc x := by
  unfold visB at h
  unfold Vis
  split at h <;> first | (rename_i q; exact .inl q) | (rename_i q; exact .inr (.inl q)) | (rename_i q; exact .inr (.inr q)) | cases h
theorem memG_of {x : Str} {d : D} : ∀ {l : List (Str × D)}, memG x d l = true → (x, d) ∈ l
  | (y, c) :: r, h => by
    unfold memG at h
    rw [Bool.or_eq_true, Bool.and_eq_true] at h
    rcases h with ⟨h1, h2⟩ | h
    · rw [of_decide_eq_true h1, same_eq h2]
      exact List.mem_cons_self
    · exact List.mem_cons_of_mem _ (memG_of h)
section
variable {C : Cc} {Φ : Fn} {k : Nat} {X : Cx} {z : L2.St}
theorem nm_of {i : Nat} {x : Str} (h : COk C Φ k X) (n : nmB C X.env.scope i x = true) : X.N[i]? = some x ∧ Vis X.env.scope x ∧ (x == ("__debug__" : Str)) = false ∧ (x == ("__classdict__" : Str)) = false := by
  unfold nmB at n
  rw [Bool.and_eq_true, Bool.and_eq_true] at n
  obtain ⟨a, b⟩ := plain_of n.2
  exact ⟨by rw [h.N]; exact of_decide_eq_true n.1.1, vis_of n.1.2, a, b⟩
theorem gl_of {x : Str} (n : gloB X.env.scope x = true) : Gl X x ∧ (x == ("__debug__" : Str)) = false := by
  unfold gloB at n
  rw [Bool.and_eq_true] at n
  exact ⟨(show X.env.scope.names.lookup x = some .globalImplicit from of_decide_eq_true n.1), (plain_of n.2).1⟩
theorem blt_of {x y : Str} (h : COk C Φ k X) (n : bltB C X.env.scope x y = true) : x = y ∧ Gl X y ∧ X.mg y = none ∧ (y == ("__debug__" : Str)) = false := by
  unfold bltB at n
  rw [Bool.and_eq_true, Bool.and_eq_true] at n
  obtain ⟨a, b⟩ := gl_of n.1.2
  exact ⟨of_decide_eq_true n.1.1, a, h.bis y n.2, b⟩
/-! ### from values to operands and tests -/
theorem semO_of {t : Ex} {x : Expr} (n : ∀ i, t ≠ .var i) (h : PE X x (SemE Φ X.K z t)) : PE X x (SemO Φ X.K z t) := by
  refine pe_imp h fun σ H Q ⟨e, F, o, e', R, he, q⟩ => ?_
  have he' : (match ev Φ t e with
      | some (d, e') => some (Op.v d, e')
      | none => none) = some (o, e') := by
    unfold opd at he
    cases t <;> first | exact absurd rfl (n _) | exact he
  cases h1 : ev Φ t e with
  | none => rw [h1] at he'; cases he'
  | some w =>
    obtain ⟨d, e1⟩ := w
    rw [h1] at he'
    cases he'
    exact ⟨e, F, d, e', R, h1, fun v F' H' R' S' dp => q v F' H' R' S' dp⟩
theorem semO_var {i : Nat} {x : Str} {p : Pos} (hN : X.N[i]? = some x) (hv : Vis X.env.scope x) (hd : (x == ("__debug__" : Str)) = false) (hcd : (x == ("__classdict__" : Str)) = false) : PE X (.Name x p) (SemO Φ X.K z (.var i)) := by
  refine pe_imp (pe_var hN hv hd hcd) fun σ H Q ⟨e, F, o, e', R, he, q⟩ => ?_
  have he : (match e[i]? with
    | some (.sh _) => some (Op.s i, e)
    | some (.own _ _) => some (Op.s i, e)
    | _ => none) = some (o, e') := he
  cases hs : e[i]? with
  | none => rw [hs] at he; cases he
  | some s =>
    rw [hs] at he
    cases s with
    | un => cases he
    | sh c =>
      cases he
      obtain ⟨v, e5, _⟩ := R.sh i c hs
      exact ⟨v, e5, q v F H R Stp.refl e5⟩
    | own fz xs =>
      cases he
      obtain ⟨a, us, e5, _⟩ := R.own i fz xs hs
      exact ⟨_, e5, q _ F H R Stp.refl e5⟩
theorem s_var {i : Nat} {x : Str} {p : Pos} (hN : X.N[i]? = some x) (hv : Vis X.env.scope x) (hd : (x == ("__debug__" : Str)) = false) (hcd : (x == ("__classdict__" : Str)) = false) : PE X (.Name x p) (SemE Φ X.K z (.var i)) := by
  refine pe_imp (pe_var hN hv hd hcd) fun σ H Q ⟨e, F, d, e', R, he, q⟩ => ?_
  have he : rdv e i = some (d, e') := he
  unfold rdv at he
  cases hs : e[i]? with
  | none => rw [hs] at he; cases he
  | some s =>
    rw [hs] at he
    cases s with
    | un => cases he
    | sh c =>
      cases he
      obtain ⟨v, e5, dp⟩ := R.sh i _ hs
      exact ⟨v, e5, q v F H R Stp.refl dp⟩
    | own fz xs =>
      cases fz with
      | false => cases he
      | true =>
        cases he
        obtain ⟨a, us, h1, h2, h3, h4, R', S', dp⟩ := R.freeze hs
        exact ⟨_, h1, q _ _ H R' S' dp⟩
/-- a test, by the truth of a value -/
theorem semT_tru {t : Ex} {x : Expr} (hp : plainHead x = true) (h : PE X x (SemO Φ X.K z t)) : PT X x (SemT Φ X.K z t) := by
  refine pt_imp (pt_truth h (he_of hp)) fun σ H Q ⟨e, F, b, e', R, he, q⟩ => ?_
  obtain ⟨o, p, h1, h2, h3⟩ := opT_get he
  refine ⟨e, F, o, e', R, h1, fun v F' H' R' S' g => ⟨b, tru_v R' (R'.res g h2) h3, q F' H' R' S'⟩⟩
/-- a test that is a bool -/
theorem opT_val {t : Ex} {e e' : Ev} {b : Bool} (n : ∀ i, t ≠ .var i) (h : opT t (ev Φ t) e = some (b, e')) : ∃ d, ev Φ t e = some (d, e') ∧ truth d = some b := by
  obtain ⟨o, p, h1, h2, h3⟩ := opT_get h
  have h1' : (match ev Φ t e with
      | some (d, e') => some (Op.v d, e')
      | none => none) = some (o, e') := by
    unfold opd at h1
    cases t <;> first | exact absurd rfl (n _) | exact h1
  cases h4 : ev Φ t e with
  | none => rw [h4] at h1'; cases h1'
  | some w =>
    obtain ⟨d, e1⟩ := w
    rw [h4] at h1'
    cases h1'
    have h2 : some d = some p := h2
    cases h2
    exact ⟨_, rfl, h3⟩
theorem opT_of {t : Ex} {e e' : Ev} {b : Bool} (h : ev Φ t e = some (.bool b, e')) (nm : ∀ i, t ≠ .mu i) : opT t (ev Φ t) e = some (b, e') := by
  cases t with
  | var i =>
    have h : rdv e i = some (.bool b, e') := h
    unfold rdv at h
    cases hs : e[i]? with
    | none => rw [hs] at h; cases h
    | some s =>
      rw [hs] at h
      cases s with
      | un => cases h
      | sh c =>
        cases h
        simp only [opT, opd, hs, res, truth, Option.map_some]
      | own fz xs => cases fz <;> cases h
  | _ => simp only [opT, opd, h, res, truth, Option.map_some]
theorem semT_E {t : Ex} {σ : L2.St} {H : Hp} {Q : Bool → Hp → Prop} {K : PySem.W.Frag} (n : ∀ i, t ≠ .var i) (hb : ∀ e d e', ev Φ t e = some (d, e') → ∃ b, d = .bool b) (h : SemT Φ K z t σ H Q) : SemE Φ K z t σ H (fun x H' => ∃ c, x = .bl c ∧ Q c H') := by
  obtain ⟨e, F, b, e', R, he, q⟩ := h
  obtain ⟨d, h1, h2⟩ := opT_val n he
  obtain ⟨c, rfl⟩ := hb e d e' h1
  have h2 : some c = some b := h2
  cases h2
  exact ⟨e, F, _, e', R, h1, fun v F' H' R' S' dp => by cases dp; exact ⟨_, rfl, q F' H' R' S'⟩⟩
/-! ### each construct -/
theorem s_cst {d : D} {c : Const} {j : Nat} {p : Pos} (h : cstB d c = true) : PE X (.Constant c j p) (SemE Φ X.K z (.cst d)) := by
  have fin : ∀ {v : V} {σ : L2.St} {H : Hp} {Q : VK}, (∀ F, Dp X.K F v d) → SemE Φ X.K z (.cst d) σ H Q → Q v H := fun hv ⟨e, F, d', e', R, he, q⟩ => by
    have he : some (d, e) = some (d', e') := he
    cases he
    exact q _ F _ R Stp.refl (hv F)
  unfold cstB at h
  split at h
  · exact pe_imp pe_non fun σ H Q q => fin (fun F => .non) q
  · have e := beq_iff_eq.mp h
    subst e
    exact pe_imp pe_bl fun σ H Q q => fin (fun F => .bl _) q
  · have e := beq_iff_eq.mp h
    subst e
    exact pe_imp pe_int fun σ H Q q => fin (fun F => .int _) q
  · have e := of_decide_eq_true h
    subst e
    exact pe_imp pe_str fun σ H Q q => fin (fun F => .str _) q
  · cases h
theorem s_glo {x : Str} {d : D} {p : Pos} (h : COk C Φ k X) (hg : Gl X x) (hd : (x == ("__debug__" : Str)) = false) (hm : (x, d) ∈ C.glo) : PE X (.Name x p) (SemE Φ X.K z (.glo x d)) := by
  obtain ⟨v, u, h1, h2, h3⟩ := h.glo x d hm
  refine pe_imp (pe_glob hg h1 h2 hd) fun σ H Q ⟨e, F, d', e', R, he, q⟩ => ?_
  have he : some (d, e) = some (d', e') := he
  cases he
  exact q _ F _ R Stp.refl (dp_mono (fun _ _ q => by cases q) h3)
theorem s_bin {o : Bo} {a b : Ex} {l r : Expr} {p : Pos} (ha : PE X l (SemO Φ X.K z a)) (hb : PE X r (SemO Φ X.K z b)) : PE X (.BinOp l (boOp o) r p) (SemE Φ X.K z (.bin o a b)) :=
  pe_imp (pe_op (op_bin o) ha hb) fun σ H Q h => sem2 (ans_bin o) h
theorem s_neg {a : Ex} {l : Expr} {p : Pos} (ha : PE X l (SemO Φ X.K z a)) : PE X (.UnaryOp .USub l p) (SemE Φ X.K z (.neg a)) :=
  pe_imp (pe_un un_neg ha) fun σ H Q h => sem1 ans_neg h
theorem s_nt {a : Ex} {l : Expr} {p : Pos} (ha : PE X l (SemO Φ X.K z a)) : PE X (.UnaryOp .Not l p) (SemE Φ X.K z (.nt a)) :=
  pe_imp (pe_notT ha) fun σ H Q h => sem1 ans_nt h
theorem t_nt {a : Ex} {l : Expr} {p : Pos} (ha : PT X l (SemT Φ X.K z a)) : PT X (.UnaryOp .Not l p) (SemT Φ X.K z (.nt a)) := by
  refine pt_imp (pt_not ha) fun σ H Q ⟨e, F, b, e', R, he, q⟩ => ?_
  obtain ⟨d, h1, h2⟩ := opT_val (by intro i q; cases q) he
  obtain ⟨o, pp, g1, g2, g3⟩ := op1_get h1
  obtain ⟨c, g4, rfl⟩ := Option.map_eq_some_iff.mp g3
  have h2 : some (!c) = some b := h2
  cases h2
  refine ⟨e, F, c, e', R, ?_, fun F' H' R' S' => q F' H' R' S'⟩
  unfold opT
  rw [g1]
  simp only [g2, g4, Option.map_some]
theorem s_cmp (hk : COk C Φ k X) {o : Co} {a b : Ex} {l r : Expr} {p : Pos} (ha : PE X l (SemO Φ X.K z a)) (hb : PE X r (SemO Φ X.K z b)) (hm : behindInMarks (coOp o) r = false) :
    PE X (.Compare l [coOp o] [r] p) (SemE Φ X.K z (.cmp o a b)) ∧ PT X (.Compare l [coOp o] [r] p) (SemT Φ X.K z (.cmp o a b)) := by
  have hu : X.A.units + 65 < cLine := by have := hk.room.un; omega
  refine ⟨pe_imp (pe_cmpR (op_cmp hu o) ha hb hm) fun σ H Q h => sem2 (ans_cmp o) h, pt_imp (pt_cmpR (op_cmp hu o) ha hb hm) fun σ H Q h => ?_⟩
  refine sem2 (ans_cmp o) (semT_E (by intro i q; cases q) (fun e d e' h => ?_) h)
  obtain ⟨x, e1, y, p', q', _, _, _, _, h5⟩ := op2_get (show op2 a (ev Φ a) b (ev Φ b) (fun p q => (cmpD o p q).map .bool) e = some (d, e') from h)
  obtain ⟨c, _, rfl⟩ := Option.map_eq_some_iff.mp h5
  exact ⟨c, rfl⟩
theorem ev_chn {o p : Co} {a b c : Ex} {e e' : Ev} {d : D} (h : ev Φ (.chn o p a b c) e = some (d, e')) : ∃ x e1 y e2, ev Φ a e = some (x, e1) ∧ ev Φ b e1 = some (y, e2) ∧
    ((cmpD o x y = some false ∧ d = .bool false ∧ e' = e2) ∨ (cmpD o x y = some true ∧ ∃ w t, ev Φ c e2 = some (w, e') ∧ cmpD p y w = some t ∧ d = .bool t)) := by
  simp only [ev] at h
  cases h1 : ev Φ a e with
  | none => rw [h1] at h; cases h
  | some w =>
    obtain ⟨x, e1⟩ := w
    rw [h1] at h
    simp only at h
    cases h2 : ev Φ b e1 with
    | none => rw [h2] at h; cases h
    | some w =>
      obtain ⟨y, e2⟩ := w
      rw [h2] at h
      simp only at h
      cases h3 : cmpD o x y with
      | none => rw [h3] at h; cases h
      | some t =>
        rw [h3] at h
        cases t with
        | false =>
          cases h
          exact ⟨x, e1, y, _, rfl, h2, .inl ⟨h3, rfl, rfl⟩⟩
        | true =>
          simp only at h
          cases h4 : ev Φ c e2 with
          | none => rw [h4] at h; cases h
          | some w =>
            obtain ⟨w, e3⟩ := w
            rw [h4] at h
            simp only at h
            cases h5 : cmpD p y w with
            | none => rw [h5] at h; cases h
            | some t =>
              rw [h5] at h
              cases h
              exact ⟨x, e1, y, e2, rfl, h2, .inr ⟨h3, w, t, h4, h5, rfl⟩⟩
theorem s_chn (hk : COk C Φ k X) {o q : Co} {a b c : Ex} {l m r : Expr} {p : Pos} (ha : PE X l (SemE Φ X.K z a)) (hb : PE X m (SemE Φ X.K z b)) (hc : PE X r (SemE Φ X.K z c)) (hm : lastMarks [coOp o, coOp q] [m, r] = false) :
    PE X (.Compare l [coOp o, coOp q] [m, r] p) (SemE Φ X.K z (.chn o q a b c)) ∧ PT X (.Compare l [coOp o, coOp q] [m, r] p) (SemT Φ X.K z (.chn o q a b c)) := by
  have hu : X.A.units + 65 < cLine := by have := hk.room.un; omega
  have main : ∀ {σ : L2.St} {H : Hp} {Q : VK}, SemE Φ X.K z (.chn o q a b c) σ H Q → tChain (rCmp X.K o) (rCmp X.K q) (SemE Φ X.K z a) (SemE Φ X.K z b) (SemE Φ X.K z c) σ H Q := by
    rintro σ H Q ⟨e, F, d, e', R, he, qf⟩
    obtain ⟨x, e1, y, e2, h1, h2, h3⟩ := ev_chn he
    refine ⟨e, F, x, e1, R, h1, fun v F1 H1 R1 S1 d1 => ⟨e1, F1, y, e2, R1, h2, fun u F2 H2 R2 S2 d2 => ?_⟩⟩
    rcases h3 with ⟨h3, rfl, rfl⟩ | ⟨h3, w, t, h4, h5, rfl⟩
    · refine ans_cmp o z e' σ F2 H2 v u x y (.bool false) _ R2 (.of R2.sub (dp_mono S2.fs d1)) (.of R2.sub d2) (by show (cmpD o x y).map PyData.bool = _; rw [h3]; rfl) fun v3 F3 H3 R3 S3 d3 => ?_
      cases d3
      refine ⟨false, rfl, iteF ?_⟩
      exact qf _ F3 H3 R3 ((S1.trans S2).trans S3) (.bl _)
    · refine ans_cmp o z e2 σ F2 H2 v u x y (.bool true) _ R2 (.of R2.sub (dp_mono S2.fs d1)) (.of R2.sub d2) (by show (cmpD o x y).map PyData.bool = _; rw [h3]; rfl) fun v3 F3 H3 R3 S3 d3 => ?_
      cases d3
      refine ⟨true, rfl, iteT ?_⟩
      refine ⟨e2, F3, w, e', R3, h4, fun v4 F4 H4 R4 S4 d4 => ?_⟩
      exact ans_cmp q z e' σ F4 H4 u v4 y w (.bool t) Q R4 (.of R4.sub (dp_mono (S3.trans S4).fs d2)) (.of R4.sub d4) (by show (cmpD q y w).map PyData.bool = _; rw [h5]; rfl) fun v5 F5 H5 R5 S5 d5 => qf v5 F5 H5 R5 ((((S1.trans S2).trans S3).trans S4).trans S5) d5
  refine ⟨pe_imp (pe_chain (op_cmp hu o) (op_cmp hu q) ha hb hc hm) fun σ H Q h => main h, pt_imp (pt_chain (op_cmp hu o) (op_cmp hu q) ha hb hc hm) fun σ H Q h => ?_⟩
  refine main (semT_E (by intro i q; cases q) (fun e d e' h => ?_) h)
  obtain ⟨x, e1, y, e2, _, _, h3⟩ := ev_chn h
  rcases h3 with ⟨_, rfl, _⟩ | ⟨_, w, t, _, _, rfl⟩
  · exact ⟨_, rfl⟩
  · exact ⟨_, rfl⟩
/-! ### and, or, if .. else -/
theorem ev_and {a b : Ex} {e e' : Ev} {d : D} (h : ev Φ (.and a b) e = some (d, e')) : ∃ t, d = .bool t ∧ ((t = false ∧ ev Φ a e = some (.bool false, e')) ∨ ∃ e1, ev Φ a e = some (.bool true, e1) ∧ ev Φ b e1 = some (.bool t, e')) := by
  simp only [ev] at h
  split at h
  · rename_i e1 h1
    split at h
    · rename_i t e2 h2
      cases h
      exact ⟨t, rfl, .inr ⟨e1, h1, h2⟩⟩
    · cases h
  · rename_i e1 h1
    cases h
    exact ⟨false, rfl, .inl ⟨rfl, h1⟩⟩
  · cases h
theorem ev_or {a b : Ex} {e e' : Ev} {d : D} (h : ev Φ (.or a b) e = some (d, e')) : ∃ t, d = .bool t ∧ ((t = true ∧ ev Φ a e = some (.bool true, e')) ∨ ∃ e1, ev Φ a e = some (.bool false, e1) ∧ ev Φ b e1 = some (.bool t, e')) := by
  simp only [ev] at h
  split at h
  · rename_i e1 h1
    cases h
    exact ⟨true, rfl, .inl ⟨rfl, h1⟩⟩
  · rename_i e1 h1
    split at h
    · rename_i t e2 h2
      cases h
      exact ⟨t, rfl, .inr ⟨e1, h1, h2⟩⟩
    · cases h
  · cases h
theorem m_and {K : PySem.W.Frag} {a b : Ex} {σ : L2.St} {H : Hp} {Q : VK} (h : SemE Φ K z (.and a b) σ H Q) : tAndV (SemE Φ K z a) (SemE Φ K z b) σ H Q := by
  obtain ⟨e, F, d, e', R, he, q⟩ := h
  obtain ⟨t, rfl, h1 | ⟨e1, h1, h2⟩⟩ := ev_and he
  · obtain ⟨rfl, h1⟩ := h1
    exact ⟨e, F, _, e', R, h1, fun v F1 H1 R1 S1 d1 => by cases d1; exact ⟨false, rfl, iteF (q _ F1 H1 R1 S1 (.bl _))⟩⟩
  · exact ⟨e, F, _, e1, R, h1, fun v F1 H1 R1 S1 d1 => by
      cases d1
      exact ⟨true, rfl, iteT ⟨e1, F1, _, e', R1, h2, fun v2 F2 H2 R2 S2 d2 => q v2 F2 H2 R2 (S1.trans S2) d2⟩⟩⟩
theorem m_or {K : PySem.W.Frag} {a b : Ex} {σ : L2.St} {H : Hp} {Q : VK} (h : SemE Φ K z (.or a b) σ H Q) : tOrV (SemE Φ K z a) (SemE Φ K z b) σ H Q := by
  obtain ⟨e, F, d, e', R, he, q⟩ := h
  obtain ⟨t, rfl, h1 | ⟨e1, h1, h2⟩⟩ := ev_or he
  · obtain ⟨rfl, h1⟩ := h1
    exact ⟨e, F, _, e', R, h1, fun v F1 H1 R1 S1 d1 => by cases d1; exact ⟨true, rfl, iteT (q _ F1 H1 R1 S1 (.bl _))⟩⟩
  · exact ⟨e, F, _, e1, R, h1, fun v F1 H1 R1 S1 d1 => by
      cases d1
      exact ⟨false, rfl, iteF ⟨e1, F1, _, e', R1, h2, fun v2 F2 H2 R2 S2 d2 => q v2 F2 H2 R2 (S1.trans S2) d2⟩⟩⟩
theorem mt_and {K : PySem.W.Frag} {a b : Ex} (na : ∀ i, a ≠ .mu i) (nb : ∀ i, b ≠ .mu i) {σ : L2.St} {H : Hp} {Q : Bool → Hp → Prop} (h : SemT Φ K z (.and a b) σ H Q) : tAnd (SemT Φ K z a) (SemT Φ K z b) σ H Q := by
  obtain ⟨e, F, t', e', R, he, q⟩ := h
  obtain ⟨d, h0, h00⟩ := opT_val (by intro i q; cases q) he
  obtain ⟨t, rfl, h1 | ⟨e1, h1, h2⟩⟩ := ev_and h0
  · obtain ⟨rfl, h1⟩ := h1
    cases (show some false = some t' from h00)
    exact ⟨e, F, false, e', R, opT_of h1 na, fun F1 H1 R1 S1 => iteF (q F1 H1 R1 S1)⟩
  · cases (show some t = some t' from h00)
    exact ⟨e, F, true, e1, R, opT_of h1 na, fun F1 H1 R1 S1 => iteT ⟨e1, F1, _, e', R1, opT_of h2 nb, fun F2 H2 R2 S2 => q F2 H2 R2 (S1.trans S2)⟩⟩
theorem mt_or {K : PySem.W.Frag} {a b : Ex} (na : ∀ i, a ≠ .mu i) (nb : ∀ i, b ≠ .mu i) {σ : L2.St} {H : Hp} {Q : Bool → Hp → Prop} (h : SemT Φ K z (.or a b) σ H Q) : tOr (SemT Φ K z a) (SemT Φ K z b) σ H Q := by
  obtain ⟨e, F, t', e', R, he, q⟩ := h
  obtain ⟨d, h0, h00⟩ := opT_val (by intro i q; cases q) he
  obtain ⟨t, rfl, h1 | ⟨e1, h1, h2⟩⟩ := ev_or h0
  · obtain ⟨rfl, h1⟩ := h1
    cases (show some true = some t' from h00)
    exact ⟨e, F, true, e', R, opT_of h1 na, fun F1 H1 R1 S1 => iteT (q F1 H1 R1 S1)⟩
  · cases (show some t = some t' from h00)
    exact ⟨e, F, false, e1, R, opT_of h1 na, fun F1 H1 R1 S1 => iteF ⟨e1, F1, _, e', R1, opT_of h2 nb, fun F2 H2 R2 S2 => q F2 H2 R2 (S1.trans S2)⟩⟩
theorem m_ite {K : PySem.W.Frag} {a b c : Ex} {σ : L2.St} {H : Hp} {Q : VK} (h : SemE Φ K z (.ite c a b) σ H Q) : tIf (SemT Φ K z c) (SemE Φ K z a) (SemE Φ K z b) σ H Q := by
  obtain ⟨e, F, d, e', R, he, q⟩ := h
  simp only [ev] at he
  split at he
  · rename_i e1 h1
    exact ⟨e, F, true, e1, R, h1, fun F1 H1 R1 S1 => iteT ⟨e1, F1, d, e', R1, he, fun v2 F2 H2 R2 S2 d2 => q v2 F2 H2 R2 (S1.trans S2) d2⟩⟩
  · rename_i e1 h1
    exact ⟨e, F, false, e1, R, h1, fun F1 H1 R1 S1 => iteF ⟨e1, F1, d, e', R1, he, fun v2 F2 H2 R2 S2 d2 => q v2 F2 H2 R2 (S1.trans S2) d2⟩⟩
  · cases he
/-! ### displays, slices -/
theorem s_tup {as : Ex} {es : List Expr} {j : Nat} {p : Pos} (n : noMu as = true) (ha : PA X es (SemA Φ X.K z as)) : PE X (.Tuple es j p) (SemE Φ X.K z (.tup as)) := by
  refine pe_imp (pe_tup ha) fun σ H Q ⟨e, F, d, e', R, he, q⟩ => ?_
  simp only [ev] at he
  split at he
  · rename_i ds e1 h1
    split at he
    · rename_i hz
      cases he
      refine ⟨e, F, _, e', R, h1, fun vs F1 H1 R1 S1 g => ?_⟩
      have dp := argRel_dps n g
      exact ⟨by rw [dps_len dp]; exact hz, Fin.tup (fun v F2 H2 R2 S2 d2 => q v F2 H2 R2 (S1.trans S2) d2) R1 dp⟩
    · cases he
  · cases he
theorem f_lst {as : Ex} {es : List Expr} {p : Pos} (n : noMu as = true) (ha : PA X es (SemA Φ X.K z as)) : PE X (.List es p) (SemF Φ X.K z (.lst as)) := by
  refine pe_imp (pe_lst ha) fun σ H Q ⟨e, F, d, e', R, he, q⟩ => ?_
  simp only [ev] at he
  split at he
  · rename_i ds e1 h1
    split at he
    · rename_i hz
      cases he
      refine ⟨e, F, _, e', R, h1, fun vs F1 H1 R1 S1 g => ?_⟩
      have dp := argRel_dps n g
      refine ⟨by rw [dps_len dp]; exact hz, fun l hl => ?_⟩
      have hl0 : H l = none := by
        cases q2 : H l with
        | none => rfl
        | some o => exact absurd hl (S1.there l (by rw [q2]; simp))
      exact q l vs F1 (upd H1 l (.lst vs)) (R1.newH hl) (S1.trans (Stp.newH hl)) hl0 upd_same (R1.frees hl) dp
    · cases he
  · cases he
theorem f_rep {as n : Ex} {es : List Expr} {r : Expr} {p p2 : Pos} (nm : noMu as = true) (ha : PA X es (SemA Φ X.K z as)) (hn : PE X r (SemE Φ X.K z n)) : PE X (.BinOp (.List es p2) .Mult r p) (SemF Φ X.K z (.rep as n)) := by
  refine pe_imp (pe_op op_rep (pe_lst ha) hn) fun σ H Q ⟨e, F, d, e', R, he, q⟩ => ?_
  simp only [ev] at he
  split at he
  · rename_i ds e1 h1
    split at he
    · rename_i hz
      cases h2 : ev Φ n e1 with
      | none => rw [h2] at he; cases he
      | some w =>
        obtain ⟨kk, e2⟩ := w
        rw [h2] at he
        simp only at he
        obtain ⟨rd, h3, h4⟩ := Option.map_eq_some_iff.mp he
        cases h4
        cases kk with
        | int i =>
          simp only [repD] at h3
          split at h3
          · rename_i hb
            cases h3
            refine ⟨e, F, ds, e1, R, h1, fun vs F1 H1 R1 S1 g => ?_⟩
            have dp := argRel_dps nm g
            refine ⟨by rw [dps_len dp]; exact hz, fun l hl => ?_⟩
            have Rl := R1.newH (o := .lst vs) hl
            have noL : ∀ fz, ¬ OwnAt fz e1 σ l := R1.noOwn hl
            refine ⟨e1, F1, _, e', Rl, h2, fun v F2 H2 R2 S2 d2 => ?_⟩
            cases d2
            have hL : H2 l = some (.lst vs) := S2.keep l _ upd_same noL
            refine ⟨l, i, vs, rfl, rfl, hL, hb.1, hb.2.1, by rw [dps_len dp]; exact hb.2.2, fun p hp => ?_⟩
            have S12 := (S1.trans (Stp.newH hl)).trans S2
            have hp0 : H p = none := by
              cases q2 : H p with
              | none => rfl
              | some o => exact absurd hp (S12.there p (by rw [q2]; simp))
            exact q p _ F2 (upd H2 p (.lst (List.replicate i.toNat vs).flatten)) (R2.newH hp) (S12.trans (Stp.newH hp)) hp0 upd_same (R2.frees hp) (dps_rep (dps_mono S2.fs dp) _)
          · cases h3
        | _ => simp [repD] at h3
    · cases he
  · cases he
theorem lst_list {as : Ex} : ∀ e d e', ev Φ (.lst as) e = some (d, e') → ∃ ds, d = .list ds := fun e d e' he => by
  simp only [ev] at he
  split at he
  · split at he
    · cases he
      exact ⟨_, rfl⟩
    · cases he
  · cases he
theorem rep_list {as n : Ex} : ∀ e d e', ev Φ (.rep as n) e = some (d, e') → ∃ ds, d = .list ds := fun e d e' he => by
  simp only [ev] at he
  split at he
  · split at he
    · rename_i ds e1 h1 hz
      cases h2 : ev Φ n e1 with
      | none => rw [h2] at he; cases he
      | some w =>
        obtain ⟨kk, e2⟩ := w
        rw [h2] at he
        simp only at he
        obtain ⟨rd, h3, h4⟩ := Option.map_eq_some_iff.mp he
        cases h4
        cases kk with
        | int i =>
          simp only [repD] at h3
          split at h3
          · cases h3; exact ⟨_, rfl⟩
          · cases h3
        | _ => simp [repD] at h3
    · cases he
  · cases he
theorem lc_list' {own : List (Str × Nat)} {g : Tg} {k : Ik} {a b c f : Ex} : ∀ e d e', ev Φ (.lc own g k a b c f) e = some (d, e') → ∃ ds, d = .list ds := fun e d e' he => by
  obtain ⟨_, _, r, _, _, _, h, _⟩ := ev_lc he
  exact ⟨r, h⟩
theorem s_idx {a i : Ex} {l r : Expr} {p : Pos} (ha : PE X l (SemO Φ X.K z a)) (hi : PE X r (SemO Φ X.K z i)) (hs : PlainIx r) : PE X (.Subscript l r p) (SemE Φ X.K z (.idx a i)) :=
  pe_imp (pe_ix ix_seq ha hi hs) fun σ H Q h => sem2 ans_idx h
/-- a part of a slice -/
def SemP (Φ : Fn) (K : PySem.W.Frag) (z : L2.St) (t : Ex) : TO := fun σ H Q => ∃ e F d o e', Rel K z e σ F H ∧ ev Φ t e = some (d, e') ∧ partOf t d = some o ∧
  ∀ F' H', Rel K z e' σ F' H' → Stp e σ F H e' σ F' H' → Q o H'
theorem po_imp {X : Cx} {e : Option Expr} {t t' : TO} (h : PO X e t) (w : ∀ σ H Q, t' σ H Q → t σ H Q) : PO X e t' := ⟨fun pins s σ H Q I q => h.run pins s σ H Q I (w _ _ _ q)⟩
theorem p_none {t : Ex} (h : isNoe t = true) : PO X none (SemP Φ X.K z t) := by
  cases t <;> first | (cases h; done) | skip
  refine po_imp po_none fun σ H Q ⟨e, F, d, o, e', R, he, ho, q⟩ => ?_
  have he : some (PyData.none, e) = some (d, e') := he
  cases he
  have ho : some (none : Option Int) = some o := ho
  cases ho
  exact q F H R Stp.refl
def rSlG (K : PySem.W.Frag) : V → Option Int → Option Int → Hp → VK → Prop := fun x lo hi H Q => rSlL K x lo hi H Q ∨ rSlA K x lo hi H Q ∨ rSlS x lo hi H Q
theorem sl_any : SlR X (rSlG X.K) := sl_list.or (sl_tupA.or sl_str)
theorem cutL_all {α : Type} (xs : List α) {lo hi : Option Int} (h : HT.sIx xs.length 0 lo = 0 ∧ HT.sIx xs.length xs.length hi = xs.length) : cutL xs lo hi = xs := by
  unfold cutL
  rw [h.1, h.2, List.drop_zero, Nat.sub_zero, List.take_length]
theorem ans_slc {K : PySem.W.Frag} {z : L2.St} {e : Ev} {σ : L2.St} {F H : Hp} {x : V} {p d : D} {lo hi : Option Int} {Q : VK} (R : Rel K z e σ F H) (hx : Rdp K F H x p) (hk : slcD lo hi p = some d) (hq : Fin K z e σ F H e d Q) : rSlG K x lo hi H Q := by
  cases hx with
  | lst g1 g2 =>
    cases hk
    exact .inl ⟨_, _, rfl, g1, hq.lst R (dps_cut g2 lo hi)⟩
  | tup g1 g1' g2 =>
    cases hk
    refine .inr (.inl ⟨_, _, rfl, g1, fun w => hq.val R ?_, fun w => hq.tup R (dps_cut g2 lo hi)⟩)
    rw [dps_len g2] at w
    rw [cutL_all _ w]
    exact .tup g1' g2
  | str s =>
    simp only [slcD] at hk
    split at hk
    · rename_i hz
      cases hk
      exact .inr (.inr ⟨s, rfl, hz, hq.val R (.str _)⟩)
    · cases hk
  | _ => simp [slcD] at hk
theorem s_slc {a lo hi : Ex} {v : Expr} {l h : Option Expr} {p p2 : Pos} (ha : PE X v (SemO Φ X.K z a)) (hl : PO X l (SemP Φ X.K z lo)) (hh : PO X h (SemP Φ X.K z hi)) : PE X (.Subscript v (.Slice l h none p2) p) (SemE Φ X.K z (.slc a lo hi)) := by
  refine pe_imp (pe_slice sl_any ha hl hh) fun σ H Q ⟨e, F, d, e', R, he, q⟩ => ?_
  simp only [ev] at he
  cases h1 : opd a (ev Φ a e) e with
  | none => rw [h1] at he; cases he
  | some w =>
    obtain ⟨x, e1⟩ := w
    rw [h1] at he
    simp only at he
    cases h2 : ev Φ lo e1 with
    | none => rw [h2] at he; cases he
    | some w =>
      obtain ⟨dl, e2⟩ := w
      rw [h2] at he
      simp only at he
      cases h3 : ev Φ hi e2 with
      | none => rw [h3] at he; cases he
      | some w =>
        obtain ⟨dh, e3⟩ := w
        rw [h3] at he
        simp only at he
        split at he
        · rename_i pd pl ph h4 h7 h8
          obtain ⟨r, h5, h6⟩ := Option.map_eq_some_iff.mp he
          cases h6
          refine ⟨e, F, x, e1, R, h1, fun v F1 H1 R1 S1 o1 => ⟨e1, F1, dl, pl, e2, R1, h2, h7, fun F2 H2 R2 S2 => ⟨e2, F2, dh, ph, e', R2, h3, h8, fun F3 H3 R3 S3 => ?_⟩⟩⟩
          exact ans_slc R3 (R3.res (o1.mono (S2.trans S3).fs) h4) h5 fun w F4 H4 R4 S4 d4 => q w F4 H4 R4 (((S1.trans S2).trans S3).trans S4) d4
        · cases he
theorem p_some {t : Ex} {x : Expr} (h : PE X x (SemE Φ X.K z t)) (hn : isNoe t = false) : PO X (some x) (SemP Φ X.K z t) := by
  refine po_imp (po_some h) fun σ H Q ⟨e, F, d, o, e', R, he, ho, q⟩ => ?_
  have hd : ∃ i, d = .int i ∧ o = some i := by
    unfold partOf at ho
    cases t <;> first | (cases hn; done) | skip
    all_goals
      simp only at ho
      split at ho
      · cases ho
        exact ⟨_, rfl, rfl⟩
      · cases ho
  obtain ⟨i, rfl, rfl⟩ := hd
  exact ⟨e, F, _, e', R, he, fun v F1 H1 R1 S1 d1 => by cases d1; exact ⟨i, rfl, q F1 H1 R1 S1⟩⟩
end
end Iv
end
section
set_option Elab.async false
set_option linter.all false
set_option maxRecDepth 100000
set_option maxHeartbeats 2000000
/-! Builtins and calls as terms; the look is right. -/
namespace Iv
open PySem PySem.Spec PyProof.Rows L2
section
variable {C : Cc} {Φ : Fn} {k : Nat} {X : Cx} {z : L2.St}
theorem pe_nev {e : Expr} : PE X e (fun _ _ _ => False) := ⟨fun _ _ _ _ _ _ h => h.elim⟩
theorem ps_nev {s : Stmt} : PS X s (fun _ _ _ => False) := ⟨fun _ _ _ _ _ _ h => h.elim⟩
theorem s_b1 (hk : COk C Φ k X) {b : B1} {a : Ex} {x : Str} {y : Expr} {p pos : Pos} (hx : bltB C X.env.scope (b1N b) x = true) (hs : notStar y = true) (ha : PE X y (SemO Φ X.K z a)) : PE X (.Call (.Name x p) [y] [] pos) (SemE Φ X.K z (.b1 b a)) := by
  obtain ⟨e0, hg, hm, hd⟩ := blt_of hk hx
  subst e0
  have pa : PA X [y] (tCons (SemO Φ X.K z a) tNil) := pa_cons ha pa_nil (star_of hs [])
  have he := star_of (env := X.env) hs []
  have hc := hk.calm
  have hu : X.A.units + 64 < cLine := hk.room.units
  have B : ∀ {id : String} {r : List V → Hp → VK → Prop}, CallR X (.builtin id) r → AnsL1 X.K r (b1D b) → bootBuiltins (b1N b) = some (.builtin id) → b1N b ≠ "__name__" → PE X (.Call (.Name (b1N b) p) [y] [] pos) (SemE Φ X.K z (.b1 b a)) := fun hc ha hv hn =>
    pe_imp (pe_callB hc hg hm hv pa hn hd he rfl) fun σ H Q h => sem1 ha h
  have T : ∀ {id : String} {r : List V → Hp → VK → Prop}, CallR X (.type id) r → AnsL1 X.K r (b1D b) → bootBuiltins (b1N b) = some (.type id) → b1N b ≠ "__name__" → PE X (.Call (.Name (b1N b) p) [y] [] pos) (SemE Φ X.K z (.b1 b a)) := fun hc ha hv hn =>
    pe_imp (pe_callTy hc hg hm hv pa hn hd he rfl) fun σ H Q h => sem1 ha h
  cases b with
  | len => exact B (call_len_seq.or call_len_str) ans_len (by decide +kernel) (by decide +kernel)
  | abs => exact B call_abs ans_abs (by decide +kernel) (by decide +kernel)
  | max => exact B ((cr_max hc).or (cr_maxT hc hu)) ans_max (by decide +kernel) (by decide +kernel)
  | min => exact B ((cr_min hc).or (cr_minT hc hu)) ans_min (by decide +kernel) (by decide +kernel)
  | sum => exact B ((cr_sum hc).or (cr_sumT hc)) ans_sum (by decide +kernel) (by decide +kernel)
  | all => exact B (cr_all hc) ans_all (by decide +kernel) (by decide +kernel)
  | any => exact B (cr_any hc) ans_any (by decide +kernel) (by decide +kernel)
  | int => exact T call_int1 ans_int (by decide +kernel) (by decide +kernel)
  | str => exact T (call_str_int.or SkE.call_str_str) ans_str (by decide +kernel) (by decide +kernel)
  | repr => exact B (call_repr hk.gd hu) ans_repr (by decide +kernel) (by decide +kernel)
  | list => exact T call_list_of ans_list (by decide +kernel) (by decide +kernel)
  | tup => exact T call_tuple_of ans_tup (by decide +kernel) (by decide +kernel)
  | sorted =>
    refine pe_imp pe_nev fun σ H Q ⟨e, F, d, e', R, he, q⟩ => ?_
    obtain ⟨o, p, h1, h2, h3⟩ := op1_get (show op1 a (ev Φ a) (b1D .sorted) e = some (d, e') from he)
    cases p <;> simp [b1D] at h3
/-- list(x), fresh -/
theorem f_list (hk : COk C Φ k X) {a : Ex} {x : Str} {y : Expr} {p pos : Pos} (hx : bltB C X.env.scope (b1N .list) x = true) (hs : notStar y = true) (ha : PE X y (SemO Φ X.K z a)) : PE X (.Call (.Name x p) [y] [] pos) (SemF Φ X.K z (.b1 .list a)) := by
  obtain ⟨e0, hg, hm, hd⟩ := blt_of hk hx
  subst e0
  have pa : PA X [y] (tCons (SemO Φ X.K z a) tNil) := pa_cons ha pa_nil (star_of hs [])
  refine pe_imp (pe_callTy call_list_of hg hm (by decide +kernel) pa (by decide +kernel) hd (star_of hs []) rfl) fun σ H Q ⟨e, F, ds, e', R, he, q⟩ => ?_
  obtain ⟨o, p, h1, h2, h3⟩ := op1_get (show op1 a (ev Φ a) (b1D .list) e = some (_, e') from he)
  refine ⟨e, F, o, e', R, h1, fun v F1 H1 R1 S1 g => ?_⟩
  have rd := R1.res g h2
  have fin : ∀ us, DpAll X.K F1 us ds → ∀ l, H1 l = none → Q (.ref l) (upd H1 l (.lst us)) := fun us dp l hl => by
    have hl0 : H l = none := by
      cases q2 : H l with
      | none => rfl
      | some o => exact absurd hl (S1.there l (by rw [q2]; simp))
    exact q l us F1 _ (R1.newH hl) (S1.trans (Stp.newH hl)) hl0 upd_same (R1.frees hl) dp
  cases rd with
  | lst g1 g2 =>
    cases h3
    exact ⟨_, _, rfl, .inl g1, fin _ g2⟩
  | tup g1 g1' g2 =>
    cases h3
    exact ⟨_, _, rfl, .inr g1, fin _ g2⟩
  | _ => simp [b1D] at h3
theorem f_lrng (hk : COk C Φ k X) {a b : Ex} {x y : Str} {w : Expr} {p p2 pos pos2 : Pos} (hx : bltB C X.env.scope "list" x = true) (hy : bltB C X.env.scope "range" y = true) (hs : notStar w = true) (ha : PE X w (SemE Φ X.K z a)) : PE X (.Call (.Name x p) [.Call (.Name y p2) [w] [] pos2] [] pos) (SemF Φ X.K z (.m1 .lrng a b)) := by
  obtain ⟨e0, hg, hm, _⟩ := blt_of hk hx
  obtain ⟨e1, hg1, hm1, _⟩ := blt_of hk hy
  subst e0
  subst e1
  refine pe_imp (pe_listRg hk.calm hg hm (prg_1 hg1 hm1 ha (star_of hs [])) rfl) fun σ H Q ⟨e, F, ds, e', R, he, q⟩ => ?_
  simp only [ev] at he
  split at he
  · rename_i i e2 h1
    split at he
    · rename_i h2
      cases he
      simp only [small62, Bool.and_eq_true, decide_eq_true_eq] at h2
      refine ⟨e, F, _, e', R, h1, fun v F1 H1 R1 S1 dp => ?_⟩
      cases dp
      refine ⟨i, rfl, ⟨by omega, by omega, h2.1.1, h2.1.2, by omega⟩, fun l hl => ?_⟩
      have hl0 : H l = none := by
        cases q2 : H l with
        | none => rfl
        | some o => exact absurd hl (S1.there l (by rw [q2]; simp))
      refine q l (rgV 0 i) F1 _ (R1.newH hl) (S1.trans (Stp.newH hl)) hl0 upd_same (R1.frees hl) ?_
      unfold rgV rngD
      induction (List.range (i - 0).toNat) with
      | nil => exact .nil
      | cons n r ih => exact .cons (.int _) ih
    · cases he
  · cases he
theorem lrng_list {m : M1} {a b : Ex} (nm : m ≠ .scr) : ∀ e d e', ev Φ (.m1 m a b) e = some (d, e') → ∃ ds, d = .list ds := fun e d e' he => by
  simp only [ev] at he
  split at he
  · split at he
    · split at he
      · cases he; exact ⟨_, rfl⟩
      · cases he
    · cases he
  · split at he
    · cases he; exact ⟨_, rfl⟩
    · cases he
  · split at he
    · split at he
      · cases he; exact ⟨_, rfl⟩
      · cases he
    · cases he
  · exact absurd rfl nm
  · cases he
theorem fr_ev {a b : Ex} {e e' : Ev} {d : D} (h : ev Φ (.m1 .fr a b) e = some (d, e')) : ev Φ a e = some (d, e') := by
  simp only [ev] at h
  split at h
  · rename_i ds e1 h1
    cases h
    exact h1
  · cases h
theorem list_list {a : Ex} : ∀ e d e', ev Φ (.b1 .list a) e = some (d, e') → ∃ ds, d = .list ds := fun e d e' he => by
  obtain ⟨o, p, h1, h2, h3⟩ := op1_get (show op1 a (ev Φ a) (b1D .list) e = some (d, e') from he)
  cases p <;> first | (simp [b1D] at h3; done) | skip
  · cases h3; exact ⟨_, rfl⟩
  · cases h3; exact ⟨_, rfl⟩
theorem s_b2 (hk : COk C Φ k X) {b : B2} {a c : Ex} {x : Str} {y w : Expr} {p pos : Pos} (hx : bltB C X.env.scope (b2N b) x = true) (hs : notStar y = true) (hs2 : notStar w = true) (ha : PE X y (SemO Φ X.K z a)) (hc2 : PE X w (SemO Φ X.K z c)) :
    PE X (.Call (.Name x p) [y, w] [] pos) (SemE Φ X.K z (.b2 b a c)) := by
  obtain ⟨e0, hg, hm, hd⟩ := blt_of hk hx
  subst e0
  have pa : PA X [y, w] (tCons (SemO Φ X.K z a) (tCons (SemO Φ X.K z c) tNil)) := pa_cons ha (pa_cons hc2 pa_nil (star_of hs2 [])) (star_of hs [w])
  have he := star_of (env := X.env) hs [w]
  have hpl : (backTo pos (starEach [w] X.env)).any (·.1) = false := by rw [star_of hs2 []]; rfl
  have hc := hk.calm
  have B : ∀ {id : String} {r : List V → Hp → VK → Prop}, CallR X (.builtin id) r → AnsL2 X.K r (b2D b) → bootBuiltins (b2N b) = some (.builtin id) → b2N b ≠ "__name__" → PE X (.Call (.Name (b2N b) p) [y, w] [] pos) (SemE Φ X.K z (.b2 b a c)) := fun hc ha hv hn =>
    pe_imp (pe_callB hc hg hm hv pa hn hd he hpl) fun σ H Q h => sem2 ha h
  cases b with
  | max => exact B (call_max2 hc) ans_max2 (by decide +kernel) (by decide +kernel)
  | min => exact B (call_min2 hc) ans_min2 (by decide +kernel) (by decide +kernel)
  | dvm => exact B call_divmodW ans_dvm (by decide +kernel) (by decide +kernel)
/-! ### isinstance -/
theorem ty_name (hk : COk C Φ k X) {t : String} {e : Expr} (h : tyNB C X.env.scope t e = true) : PE X e (tC (.ty t)) := by
  unfold tyNB at h
  split at h
  · rename_i y p
    rw [Bool.and_eq_true, Bool.and_eq_true, Bool.and_eq_true] at h
    obtain ⟨⟨⟨h1, h2⟩, h3⟩, h4⟩ := h
    obtain ⟨hg, hd⟩ := gl_of h2
    have hm := hk.bis y h3
    have e1 := of_decide_eq_true h1
    subst e1
    have h5 : t = "int" ∨ t = "bool" ∨ t = "str" ∨ t = "tuple" ∨ t = "list" := by simpa using h4
    rcases h5 with rfl | rfl | rfl | rfl | rfl
    · exact pe_bltn (v := .ty "int") (u := .type "int") hg hm (by decide +kernel) rfl (by decide +kernel) hd
    · exact pe_bltn (v := .ty "bool") (u := .type "bool") hg hm (by decide +kernel) rfl (by decide +kernel) hd
    · exact pe_bltn (v := .ty "str") (u := .type "str") hg hm (by decide +kernel) rfl (by decide +kernel) hd
    · exact pe_bltn (v := .ty "tuple") (u := .type "tuple") hg hm (by decide +kernel) rfl (by decide +kernel) hd
    · exact pe_bltn (v := .ty "list") (u := .type "list") hg hm (by decide +kernel) rfl (by decide +kernel) hd
  · cases h
theorem ty_names (hk : COk C Φ k X) : ∀ {ts : List String} {es : List Expr}, tyNsB C X.env.scope ts es = true → PA X es (fun _ H Q => Q (ts.map V.ty) H)
  | [], [], _ => pa_imp pa_nil fun σ H Q q => q
  | t :: ts, e :: es, h => by
    unfold tyNsB at h
    rw [Bool.and_eq_true, Bool.and_eq_true] at h
    exact pa_imp (pa_cons (ty_name hk h.1.1) (ty_names hk h.2) (star_of h.1.2 es)) fun σ H Q q => q
  | [], _ :: _, h => by cases h
  | _ :: _, [], h => by cases h
theorem cls_tys : ∀ ts : List String, Paired ClsV (ts.map V.ty) (ts.map Value.type)
  | [] => .nil
  | t :: ts => .cons (.ty t) (cls_tys ts)
theorem s_isi (hk : COk C Φ k X) {a : Ex} {ts : List String} {x : Str} {y w : Expr} {p pos : Pos} (hx : bltB C X.env.scope "isinstance" x = true) (hs : notStar y = true) (hs2 : notStar w = true) (ha : PE X y (SemO Φ X.K z a)) (ht : tyB C X.env.scope ts w = true) :
    PE X (.Call (.Name x p) [y, w] [] pos) (SemE Φ X.K z (.isi a ts)) := by
  obtain ⟨e0, hg, hm, hd⟩ := blt_of hk hx
  subst e0
  have he := star_of (env := X.env) hs [w]
  have hpl : (backTo pos (starEach [w] X.env)).any (·.1) = false := by rw [star_of hs2 []]; rfl
  unfold tyB at ht
  split at ht
  · rename_i es j p2
    rw [Bool.and_eq_true] at ht
    have pw := pe_tup (x1 := j) (pos := p2) (ty_names hk ht.1)
    have pa : PA X [y, .Tuple es j p2] (tCons (SemO Φ X.K z a) (tCons _ tNil)) := pa_cons ha (pa_cons pw pa_nil (star_of hs2 [])) (star_of hs _)
    refine pe_imp (pe_callB call_isiT hg hm (by decide +kernel) pa (by decide +kernel) hd he hpl) fun σ H Q ⟨e, F, d, e', R, hev, q⟩ => ?_
    obtain ⟨o, pd, h1, h2, h3⟩ := op1_get (show op1 a (ev Φ a) (fun d => (isaAny d ts).map .bool) e = some (d, e') from hev)
    obtain ⟨b, h4, rfl⟩ := Option.map_eq_some_iff.mp h3
    refine ⟨e, F, o, e', R, h1, fun v F1 H1 R1 S1 g => ⟨?_, fun tp htp => ?_⟩⟩
    · rw [List.length_map]
      exact Nat.le_trans (of_decide_eq_true ht.2) (by decide)
    · have g2 : OpRel X.K (upd F1 tp (.tup (ts.map V.ty))) σ v o := g.mono (Same.fresh (R1.frees htp))
      have R2 := R1.new (o := .tup (ts.map V.ty)) htp
      have rd := R2.res g2 h2
      exact ⟨v, tp, ts.map V.ty, _, ts.map Value.type, b, rfl, upd_same, cls_tys ts, tyx R2 rd, kit_any (nodict rd) h4, q _ _ _ R2 (S1.trans (Stp.new1 R1 htp)) (.bl b)⟩
  · split at ht
    · rename_i _ t
      have pw := ty_name hk ht
      have pa : PA X [y, w] (tCons (SemO Φ X.K z a) (tCons (tC (.ty t)) tNil)) := pa_cons ha (pa_cons pw pa_nil (star_of hs2 [])) (star_of hs _)
      refine pe_imp (pe_callB call_isi hg hm (by decide +kernel) pa (by decide +kernel) hd he hpl) fun σ H Q ⟨e, F, d, e', R, hev, q⟩ => ?_
      obtain ⟨o, pd, h1, h2, h3⟩ := op1_get (show op1 a (ev Φ a) (fun d => (isaAny d [t]).map .bool) e = some (d, e') from hev)
      obtain ⟨b, h4, rfl⟩ := Option.map_eq_some_iff.mp h3
      refine ⟨e, F, o, e', R, h1, fun v F1 H1 R1 S1 g => ?_⟩
      have rd := R1.res g h2
      have h5 : isaD pd t = some b := by
        simp only [isaAny] at h4
        split at h4 <;> first | (rename_i h6; rw [h6]; exact h4) | cases h4
      exact ⟨v, .ty t, _, _, b, rfl, .ty t, tyx R1 rd, kit_one (nodict rd) h5, q _ _ _ R1 S1 (.bl b)⟩
    · cases ht
/-! ### calls of defs -/
theorem s_call (hk : COk C Φ k X) {j : Nat} {as : Ex} {x : Str} {es : List Expr} {p pos : Pos} (hj : ∃ ps, C.fns[j]? = some (x, ps)) (hg : Gl X x) (hd : (x == ("__debug__" : Str)) = false) (hs : es.all notStar = true) (hn : es = [] → as = .nil) (ha : PA X es (SemA Φ X.K z as)) :
    PE X (.Call (.Name x p) es [] pos) (SemE Φ X.K z (.call j as)) := by
  obtain ⟨ps, hj⟩ := hj
  obtain ⟨f, fd, hm, hkp, hb, FG, _⟩ := hk.fns j x ps hj
  have key : ∀ {σ : L2.St} {H : Hp} {Q : VK}, SemE Φ X.K z (.call j as) σ H Q → SemA Φ X.K z as σ H (fun vs H1 => SpF X.K Φ j vs H1 Q E0) := by
    rintro σ H Q ⟨e, F, d, e', R, he, q⟩
    simp only [ev] at he
    split at he
    · rename_i ds e1 h1
      split at he
      · rename_i sl h2
        split at he
        · rename_i h3
          split at he
          · rename_i d1 os h4
            obtain ⟨e2, h5, h6⟩ := Option.map_eq_some_iff.mp he
            cases h6
            refine ⟨e, F, ds, e1, R, h1, fun vs F1 H1 R1 S1 g => ?_⟩
            obtain ⟨Rc, no⟩ := call_in R1 h3 g h2
            refine ⟨sl, F1, _, os, Rc, no, h4, fun v F2 H2 R2 S2 dp => ?_⟩
            obtain ⟨Ro, So⟩ := call_out R1 h3 g h2 R2 S2 h5
            exact q v F2 H2 Ro (S1.trans So) dp
          · cases he
        · cases he
      · cases he
    · cases he
  cases es with
  | nil =>
    refine pe_imp (pe_callG0 FG hk.room hk.gd hg hm hkp hb hd) fun σ H Q h => ?_
    cases hn rfl
    obtain ⟨e, F, ds, e', R, he, q⟩ := key h
    simp only [ev] at he
    cases he
    exact q [] F H R Stp.refl trivial
  | cons e0 er =>
    rw [List.all_cons, Bool.and_eq_true] at hs
    exact pe_imp (pe_callG FG hk.room hk.gd hg hm hkp hb ha hd (star_of hs.1 er) (nostar_any hs.2)) fun σ H Q h => key h
/-- .. that give a list of their own -/
theorem f_call (hk : COk C Φ k X) {j : Nat} {as b : Ex} {x : Str} {es : List Expr} {p pos : Pos} (hj : ∃ ps, C.fns[j]? = some (x, ps)) (hfr : C.frs.contains j = true) (hg : Gl X x) (hd : (x == ("__debug__" : Str)) = false) (hs : es.all notStar = true) (hn : es = [] → as = .nil) (ha : PA X es (SemA Φ X.K z as)) :
    PE X (.Call (.Name x p) es [] pos) (SemF Φ X.K z (.m1 .fr (.call j as) b)) := by
  obtain ⟨ps, hj⟩ := hj
  obtain ⟨f, fd, hm, hkp, hb, _, _, FR⟩ := hk.fns j x ps hj
  have FG := FR hfr
  have key : ∀ {σ : L2.St} {H : Hp} {Q : VK}, SemF Φ X.K z (.m1 .fr (.call j as) b) σ H Q → SemA Φ X.K z as σ H (fun vs H1 => SpR X.K Φ j vs H1 Q E0) := by
    rintro σ H Q ⟨e, F, xs, e', R, he, q⟩
    have he := fr_ev he
    simp only [ev] at he
    split at he
    · rename_i ds e1 h1
      split at he
      · rename_i sl h2
        split at he
        · rename_i h3
          split at he
          · rename_i d1 os h4
            obtain ⟨e2, h5, h6⟩ := Option.map_eq_some_iff.mp he
            cases h6
            refine ⟨e, F, ds, e1, R, h1, fun vs F1 H1 R1 S1 g => ?_⟩
            obtain ⟨Rc, no⟩ := call_in R1 h3 g h2
            refine ⟨sl, F1, _, os, Rc, no, h4, ⟨xs, rfl⟩, fun v F2 H2 R2 S2 fa => ?_⟩
            obtain ⟨Ro, So⟩ := call_out R1 h3 g h2 R2 S2 h5
            obtain ⟨p, us, ds', rfl, e5, hP, hF, dp, _, hp⟩ := fa
            cases e5
            refine q p us F2 H2 Ro (S1.trans So) ?_ hP hF dp
            cases w : H p with
            | none => rfl
            | some o => exact absurd hp (S1.there p (by rw [w]; simp))
          · cases he
        · cases he
      · cases he
    · cases he
  cases es with
  | nil =>
    refine pe_imp (pe_callG0 FG hk.room hk.gd hg hm hkp hb hd) fun σ H Q h => ?_
    cases hn rfl
    obtain ⟨e, F, ds, e', R, he, q⟩ := key h
    simp only [ev] at he
    cases he
    exact q [] F H R Stp.refl trivial
  | cons e0 er =>
    rw [List.all_cons, Bool.and_eq_true] at hs
    exact pe_imp (pe_callG FG hk.room hk.gd hg hm hkp hb ha hd (star_of hs.1 er) (nostar_any hs.2)) fun σ H Q h => key h
/-- a call of a def with a list that nobody else has -/
theorem s_cf (hk : COk C Φ k X) {j : Nat} {a : Ex} {x : Str} {y : Expr} {p pos : Pos} (hj : ∃ ps, C.fns[j]? = some (x, ps)) (hg : Gl X x) (hd : (x == ("__debug__" : Str)) = false) (hs : notStar y = true) (ha : PE X y (SemF Φ X.K z (.m1 .fr a .noe))) :
    PE X (.Call (.Name x p) [y] [] pos) (SemE Φ X.K z (.cf j a)) := by
  obtain ⟨ps, hj⟩ := hj
  obtain ⟨f, fd, hm, hkp, hb, FG, _⟩ := hk.fns j x ps hj
  refine pe_imp (pe_callG FG hk.room hk.gd hg hm hkp hb (pa_cons ha pa_nil (star_of hs [])) hd (star_of hs []) rfl) fun σ H Q ⟨e, F, d, e', R, he, q⟩ => ?_
  simp only [ev] at he
  split at he
  · rename_i ds e1 h1
    obtain ⟨⟨d1, os⟩, h2, h3⟩ := Option.map_eq_some_iff.mp he
    cases h3
    have h0 : ev Φ (.m1 .fr a .noe) e = some (.list ds, e') := by simp only [ev]; rw [h1]
    refine ⟨e, F, ds, e', R, h0, fun p us F1 H1 R1 S1 hp hP hF dp => ?_⟩
    refine ⟨[.own false ds], F1, d1, os, ⟨rfl, R1.sub, fun i d h => ?_, fun i fz xs h => ?_, fun i j fz fz' xs xs' b h h' _ _ => ?_, fun _ _ _ => rfl⟩, fun i xs h => ?_, h2, fun v F2 H2 R2 S2 dv => ?_⟩
    · cases i with
      | zero => cases h
      | succ i => cases h
    · cases i with
      | zero => cases h; exact ⟨p, us, rfl, hP, hF, dp⟩
      | succ i => cases h
    · cases i with
      | zero =>
        cases j with
        | zero => rfl
        | succ j => cases h'
      | succ i => cases h
    · cases i with
      | zero => cases h
      | succ i => cases h
    · have only : ∀ {fz : Bool} {b : Addr}, OwnAt fz [Sl.own false ds] ([V.ref p].map some) b → b = p ∧ fz = false := fun {fz b} ⟨i, xs, g1, g2⟩ => by
        cases i with
        | zero => cases g1; cases g2; exact ⟨rfl, rfl⟩
        | succ i => cases g1
      have no := S1.noOwn R hp
      refine q v F2 H2 ⟨R1.len, R2.sub, fun i d h => ?_, fun i fz xs h => ?_, R1.inj, R1.io⟩ ⟨S1.fs.trans S2.fs, fun b o h n => ?_, fun b h => S2.there b (S1.there b h), fun b h => ?_, S1.owT, S1.owF, fun b o u h => S1.nf b o u (S2.nf b o u h)⟩ dv
      · obtain ⟨w, g1, g2⟩ := R1.sh i d h
        exact ⟨w, g1, dp_mono S2.fs g2⟩
      · obtain ⟨b, vs, g1, g2, g3, g4⟩ := R1.own i fz xs h
        have ne : b ≠ p := fun q => by subst q; exact no fz ⟨i, xs, h, g1⟩
        refine ⟨b, vs, g1, S2.keep b _ g2 fun fz w => ne (only w).1, ?_, dps_mono S2.fs g4⟩
        cases w : F2 b with
        | none => rfl
        | some o =>
          rcases S2.new b (by rw [w]; simp) with n | n | n
          · exact absurd g3 n
          · rw [g2] at n; cases n
          · exact absurd (only n).2 (by decide)
      · refine S2.keep b o (S1.keep b o h n) fun fz w => ?_
        obtain ⟨e1, _⟩ := only w
        subst e1
        rw [hp] at h
        cases h
      · rcases S2.new b h with n | n | n
        · exact S1.new b n
        · refine .inr (.inl ?_)
          cases w : H b with
          | none => rfl
          | some o => exact absurd n (S1.there b (by rw [w]; simp))
        · exact absurd (only n).2 (by decide)
  · cases he
end
end Iv
end
section
set_option Elab.async false
set_option linter.all false
set_option maxRecDepth 100000
set_option maxHeartbeats 2000000
/-! Calls with keywords. -/
namespace Iv
open PySem PySem.Spec PyProof.Rows L2
section
variable {C : Cc} {Φ : Fn} {k : Nat} {X : Cx} {z : L2.St}
def lenA : Ex → Nat
  | .cons _ r => lenA r + 1
  | _ => 0
theorem chkL_len : ∀ {as : Ex} {sc : Scope} {es : List Expr}, chkL C as sc es = true → lenA as = es.length
  | .nil, sc, es, h => by
    simp only [chkL] at h
    cases es with
    | nil => rfl
    | cons => cases h
  | .cons a r, sc, es, h => by
    simp only [chkL] at h
    cases es with
    | nil => cases h
    | cons e t =>
      rw [Bool.and_eq_true] at h
      simp only [lenA, List.length_cons, chkL_len h.2]
  | .var _, _, _, h => by cases h
  | .mu _, _, _, h => by cases h
  | .cst _, _, _, h => by cases h
  | .glo _ _, _, _, h => by cases h
  | .bin _ _ _, _, _, h => by cases h
  | .neg _, _, _, h => by cases h
  | .nt _, _, _, h => by cases h
  | .and _ _, _, _, h => by cases h
  | .or _ _, _, _, h => by cases h
  | .cmp _ _ _, _, _, h => by cases h
  | .chn _ _ _ _ _, _, _, h => by cases h
  | .ite _ _ _, _, _, h => by cases h
  | .tup _, _, _, h => by cases h
  | .lst _, _, _, h => by cases h
  | .rep _ _, _, _, h => by cases h
  | .idx _ _, _, _, h => by cases h
  | .slc _ _ _, _, _, h => by cases h
  | .noe, _, _, h => by cases h
  | .call _ _, _, _, h => by cases h
  | .calk _ _ _ _, _, _, h => by cases h
  | .b1 _ _, _, _, h => by cases h
  | .b2 _ _ _, _, _, h => by cases h
  | .isi _ _, _, _, h => by cases h
  | .m1 _ _ _, _, _, h => by cases h
  | .lc _ _ _ _ _ _ _, _, _, h => by cases h
theorem argRel_len {K : PySem.W.Frag} {F : Hp} {σ : L2.St} : ∀ {as : Ex} {vs : List V} {ds : List D}, ArgRel K F σ as vs ds → vs.length = lenA as
  | .cons a r, v :: vs, d :: ds, h => by simp only [lenA, List.length_cons, argRel_len h.2]
  | .nil, [], [], _ => rfl
  | .cons _ _, [], _, h => h.elim
  | .cons _ _, _ :: _, [], h => h.elim
  | .nil, _ :: _, _, h => h.elim
  | .nil, [], _ :: _, h => h.elim
def noes : List D → Ex
  | [] => .nil
  | _ :: r => .cons .noe (noes r)
theorem noes_rel {K : PySem.W.Frag} {F : Hp} {σ : L2.St} : ∀ {ds : List D} {vs : List V}, DpAll K F vs ds → ArgRel K F σ (noes ds) vs ds
  | [], _, h => by cases h; trivial
  | d :: ds, _, h => by
    cases h with
    | cons a b => exact ⟨a, noes_rel b⟩
theorem noes_sl {e : Ev} : ∀ ds : List D, argSl (noes ds) ds e = some (ds.map Sl.sh)
  | [] => rfl
  | d :: ds => by
    show (match argSl (noes ds) ds e with | some t => _ | none => none) = _
    rw [noes_sl ds]
    rfl
theorem noes_mus : ∀ ds : List D, musOf (noes ds) = []
  | [] => rfl
  | d :: ds => noes_mus ds
theorem noes_wbk {e : Ev} : ∀ (ds : List D) (os : List Sl), os.length = ds.length → wbk (noes ds) os e = some e
  | [], [], _ => rfl
  | d :: ds, o :: os, h => by
    have ih := noes_wbk (e := e) ds os (Nat.succ.inj h)
    exact ih
  | [], _ :: _, h => by cases h
  | _ :: _, [], h => by cases h
theorem perm_dps {K : PySem.W.Frag} {F : Hp} {ds : List D} {vs : List V} (g : DpAll K F vs ds) : ∀ {perm : List Nat} {sl : List Sl}, permL perm (ds.map Sl.sh) = some sl →
    ∃ zs ds', permL perm vs = some zs ∧ sl = ds'.map Sl.sh ∧ DpAll K F zs ds'
  | [], sl, h => by
    cases h
    exact ⟨[], [], rfl, rfl, .nil⟩
  | i :: r, sl, h => by
    rw [permL_cons, List.getElem?_map] at h
    rw [permL_cons]
    cases e1 : ds[i]? with
    | none => rw [e1] at h; cases h
    | some d =>
      rw [e1] at h
      obtain ⟨t, h1, rfl⟩ := Option.map_eq_some_iff.mp h
      obtain ⟨zs, ds', h2, rfl, h4⟩ := perm_dps g h1
      obtain ⟨v, h5, h6⟩ := dps_get g e1
      exact ⟨v :: zs, d :: ds', by rw [h5, h2]; rfl, rfl, .cons h6 h4⟩
theorem calk_key {j : Nat} {as ks : Ex} {perm : List Nat} {K : PySem.W.Frag} (nas : noMu as = true) (nks : noMu ks = true) {σ : L2.St} {H : Hp} {Q : VK}
    (h : SemE Φ K z (.calk j as ks perm) σ H Q) : SemA Φ K z as σ H (fun vs H1 => SemA Φ K z ks σ H1 fun ws H2 => vs.length = lenA as ∧ ws.length = lenA ks ∧ ∃ zs, permL perm (vs ++ ws) = some zs ∧ SpF K Φ j zs H2 Q E0) := by
  obtain ⟨e, F, d, e', R, he, q⟩ := h
  simp only [ev] at he
  split at he
  · rename_i ds e1 h1
    split at he
    · rename_i es e2 h2
      split at he
      · rename_i sl h3
        obtain ⟨⟨d1, os⟩, h4, h5⟩ := Option.map_eq_some_iff.mp he
        cases h5
        refine ⟨e, F, ds, e1, R, h1, fun vs F1 H1 R1 S1 g => ⟨e1, F1, es, e', R1, h2, fun ws F2 H2 R2 S2 g2 => ⟨argRel_len g, argRel_len g2, ?_⟩⟩⟩
        have dp := dps_app (dps_mono S2.fs (argRel_dps nas g)) (argRel_dps nks g2)
        obtain ⟨zs, ds', p1, rfl, p3⟩ := perm_dps dp h3
        have n : nodupB (musOf (noes ds')) = true := by rw [noes_mus]; rfl
        have g3 : ArgRel K F2 σ (noes ds') zs ds' := noes_rel p3
        obtain ⟨Rc, no⟩ := call_in R2 n g3 (noes_sl ds')
        refine ⟨zs, p1, ds'.map Sl.sh, F2, _, os, Rc, no, h4, fun v F3 H3 R3 S3 dp3 => ?_⟩
        have lo : os.length = ds'.length := by
          have a := R3.len
          have b := dps_len p3
          rw [List.length_map] at a
          omega
        obtain ⟨Ro, So⟩ := call_out R2 n g3 (noes_sl ds') R3 S3 (noes_wbk _ _ lo)
        exact q v F3 H3 Ro ((S1.trans S2).trans So) dp3
      · cases he
    · cases he
  · cases he
theorem s_calk (hk : COk C Φ k X) {j : Nat} {as ks : Ex} {perm : List Nat} {x : Str} {es : List Expr} {kws : List Keyword} {p pos : Pos} (hj : ∃ ps, C.fns[j]? = some (x, ps)) (hg : Gl X x) (hd : (x == ("__debug__" : Str)) = false) (hs : es.all notStar = true)
    (nas : noMu as = true) (nks : noMu ks = true) (la : lenA as = es.length) (lk : lenA ks = kws.length) (hkw : kws.all (·.arg.isSome) = true) (hin : (j, es.length, kws.filterMap (·.arg), perm) ∈ C.kws) (hn : es = [] → as = .nil)
    (ha : PA X es (SemA Φ X.K z as)) (hb : PK X kws (SemA Φ X.K z ks)) :
    PE X (.Call (.Name x p) es kws pos) (SemE Φ X.K z (.calk j as ks perm)) := by
  obtain ⟨ps, hj⟩ := hj
  obtain ⟨f, fd, hm, hkp, _, FG, kw, _⟩ := hk.fns j x ps hj
  have hkk := kw _ _ _ hin
  have lks : (kws.filterMap (·.arg)).length = lenA ks := by
    rw [lk]
    clear hin hb hkk lk
    induction kws with
    | nil => rfl
    | cons a r ih =>
      rw [List.all_cons, Bool.and_eq_true] at hkw
      cases e1 : a.arg with
      | none => rw [e1] at hkw; cases hkw.1
      | some y => rw [List.filterMap_cons, e1]; simp only [List.length_cons]; rw [ih hkw.2]
  obtain ⟨k1, k2⟩ := kw_some (env := X.env) (pos := pos) hkw
  have k3 := kw_names (env := X.env) (pos := pos) (kws := kws)
  cases es with
  | nil =>
    cases hn rfl
    refine pe_imp (pe_callKG0 FG hk.room hk.gd hg hm hkp hkk hb hd k1 k3 (by rw [k2]; rfl)) fun σ H Q h => ?_
    obtain ⟨e, F, ds, e1, R, h1, q⟩ := calk_key nas nks h
    simp only [ev] at h1
    cases h1
    have q1 := q [] F H R Stp.refl trivial
    rw [← lks] at q1
    exact q1
  | cons e0 er =>
    have hs2 := hs
    rw [List.all_cons, Bool.and_eq_true] at hs
    refine pe_imp (pe_callKG FG hk.room hk.gd hg hm hkp hkk ha hb hd k1 k3 (star_of hs.1 er) (by rw [k2, nostar_any hs2]; rfl)) fun σ H Q h => ?_
    have q1 := calk_key nas nks h
    rw [← lks, la] at q1
    exact q1
theorem calk_keyF {j : Nat} {as ks b : Ex} {perm : List Nat} {K : PySem.W.Frag} (nas : noMu as = true) (nks : noMu ks = true) {σ : L2.St} {H : Hp} {Q : VK}
    (h : SemF Φ K z (.m1 .fr (.calk j as ks perm) b) σ H Q) : SemA Φ K z as σ H (fun vs H1 => SemA Φ K z ks σ H1 fun ws H2 => vs.length = lenA as ∧ ws.length = lenA ks ∧ ∃ zs, permL perm (vs ++ ws) = some zs ∧ SpR K Φ j zs H2 Q E0) := by
  obtain ⟨e, F, d, e', R, he, q⟩ := h
  have he := fr_ev he
  simp only [ev] at he
  split at he
  · rename_i ds e1 h1
    split at he
    · rename_i es e2 h2
      split at he
      · rename_i sl h3
        obtain ⟨⟨d1, os⟩, h4, h5⟩ := Option.map_eq_some_iff.mp he
        cases h5
        refine ⟨e, F, ds, e1, R, h1, fun vs F1 H1 R1 S1 g => ⟨e1, F1, es, e', R1, h2, fun ws F2 H2 R2 S2 g2 => ⟨argRel_len g, argRel_len g2, ?_⟩⟩⟩
        have dp := dps_app (dps_mono S2.fs (argRel_dps nas g)) (argRel_dps nks g2)
        obtain ⟨zs, ds', p1, rfl, p3⟩ := perm_dps dp h3
        have n : nodupB (musOf (noes ds')) = true := by rw [noes_mus]; rfl
        have g3 : ArgRel K F2 σ (noes ds') zs ds' := noes_rel p3
        obtain ⟨Rc, no⟩ := call_in R2 n g3 (noes_sl ds')
        refine ⟨zs, p1, ds'.map Sl.sh, F2, _, os, Rc, no, h4, ⟨d, rfl⟩, fun v F3 H3 R3 S3 fa => ?_⟩
        have lo : os.length = ds'.length := by
          have a := R3.len
          have b := dps_len p3
          rw [List.length_map] at a
          omega
        obtain ⟨Ro, So⟩ := call_out R2 n g3 (noes_sl ds') R3 S3 (noes_wbk _ _ lo)
        obtain ⟨pp, us, ds', rfl, e5, hP, hF, dp5, _, hp⟩ := fa
        cases e5
        refine q pp us F3 H3 Ro ((S1.trans S2).trans So) ?_ hP hF dp5
        cases w : H pp with
        | none => rfl
        | some o => exact absurd hp ((S1.trans S2).there pp (by rw [w]; simp))
      · cases he
    · cases he
  · cases he
theorem f_calk (hk : COk C Φ k X) {j : Nat} {as ks b : Ex} {perm : List Nat} {x : Str} {es : List Expr} {kws : List Keyword} {p pos : Pos} (hj : ∃ ps, C.fns[j]? = some (x, ps)) (hfr : C.frs.contains j = true) (hg : Gl X x) (hd : (x == ("__debug__" : Str)) = false) (hs : es.all notStar = true)
    (nas : noMu as = true) (nks : noMu ks = true) (la : lenA as = es.length) (lk : lenA ks = kws.length) (hkw : kws.all (·.arg.isSome) = true) (hin : (j, es.length, kws.filterMap (·.arg), perm) ∈ C.kws) (hn : es = [] → as = .nil)
    (ha : PA X es (SemA Φ X.K z as)) (hb : PK X kws (SemA Φ X.K z ks)) :
    PE X (.Call (.Name x p) es kws pos) (SemF Φ X.K z (.m1 .fr (.calk j as ks perm) b)) := by
  obtain ⟨ps, hj⟩ := hj
  obtain ⟨f, fd, hm, hkp, _, _, kw, FR⟩ := hk.fns j x ps hj
  have FG := FR hfr
  have hkk := kw _ _ _ hin
  have lks : (kws.filterMap (·.arg)).length = lenA ks := by
    rw [lk]
    clear hin hb hkk lk
    induction kws with
    | nil => rfl
    | cons a r ih =>
      rw [List.all_cons, Bool.and_eq_true] at hkw
      cases e1 : a.arg with
      | none => rw [e1] at hkw; cases hkw.1
      | some y => rw [List.filterMap_cons, e1]; simp only [List.length_cons]; rw [ih hkw.2]
  obtain ⟨k1, k2⟩ := kw_some (env := X.env) (pos := pos) hkw
  have k3 := kw_names (env := X.env) (pos := pos) (kws := kws)
  cases es with
  | nil =>
    cases hn rfl
    refine pe_imp (pe_callKG0 FG hk.room hk.gd hg hm hkp hkk hb hd k1 k3 (by rw [k2]; rfl)) fun σ H Q h => ?_
    obtain ⟨e, F, ds, e1, R, h1, q⟩ := calk_keyF nas nks h
    simp only [ev] at h1
    cases h1
    have q1 := q [] F H R Stp.refl trivial
    rw [← lks] at q1
    exact q1
  | cons e0 er =>
    have hs2 := hs
    rw [List.all_cons, Bool.and_eq_true] at hs
    refine pe_imp (pe_callKG FG hk.room hk.gd hg hm hkp hkk ha hb hd k1 k3 (star_of hs.1 er) (by rw [k2, nostar_any hs2]; rfl)) fun σ H Q h => ?_
    have q1 := calk_keyF nas nks h
    rw [← lks, la] at q1
    exact q1
end
end Iv
end
section
set_option Elab.async false
set_option linter.all false
set_option maxRecDepth 100000
set_option maxHeartbeats 1000000
/-! Fresh lists by what they are made of; values that leave lists of one's own as they are. -/
namespace Iv
open PySem PySem.Spec PyProof.Rows L2
/-! ### values without lists -/
/-- what is known, less the lists -/
def nlH (F : Hp) : Hp := fun b => match F b with
  | some (.lst _) => none
  | some (.frz _ (.lst _)) => none
  | x => x
theorem nlH_le {F : Hp} : Same (nlH F) F := fun b u h => by
  unfold nlH at h
  split at h
  · cases h
  · cases h
  · exact h
theorem nlH_lst {F : Hp} {b : Addr} {us : List V} (h : nlH F b = some (.lst us)) : False := by
  unfold nlH at h
  split at h
  · cases h
  · cases h
  · rename_i n1 n2
    exact n1 us h
theorem nlH_frz {F : Hp} {b : Addr} {o : Obj} {us : List V} (h : nlH F b = some (.frz o (.lst us))) : False := by
  unfold nlH at h
  split at h
  · cases h
  · cases h
  · rename_i n1 n2
    exact n2 o us h
theorem nlH_none {F : Hp} {b : Addr} (h : F b = none) : nlH F b = none := by
  unfold nlH
  rw [h]
theorem nlH_tup {K : PySem.W.Frag} {F : Hp} {a : Addr} {xs : List V} (h : SqT K F a xs) : SqT K (nlH F) a xs := by
  rcases h with (h | ⟨o, h⟩) | h
  · exact .inl (.inl (by unfold nlH; rw [h]))
  · exact .inl (.inr ⟨o, by unfold nlH; rw [h]⟩)
  · exact .inr h
mutual
theorem dp_nl {K : PySem.W.Frag} {F : Hp} : ∀ {d : D} {v : V}, Dp K F v d → nl d = true → Dp K (nlH F) v d
  | .none, _, h, _ => by cases h; exact .non
  | .bool _, _, h, _ => by cases h; exact .bl _
  | .int _, _, h, _ => by cases h; exact .int _
  | .str _, _, h, _ => by cases h; exact .str _
  | .list ds, _, h, n => by simp [nl] at n
  | .tuple ds, _, h, n => by
    cases h with
    | tup h1 h2 => exact .tup (nlH_tup h1) (dps_nl h2 (by simpa [nl] using n))
  | .dict _, _, h, _ => by cases h
theorem dps_nl {K : PySem.W.Frag} {F : Hp} : ∀ {ds : List D} {vs : List V}, DpAll K F vs ds → nls ds = true → DpAll K (nlH F) vs ds
  | [], _, h, _ => by cases h; exact .nil
  | d :: ds, _, h, n => by
    rw [nls, Bool.and_eq_true] at n
    cases h with
    | cons h1 h2 => exact .cons (dp_nl h1 n.1) (dps_nl h2 n.2)
end
section
variable {K : PySem.W.Frag} {z : L2.St} {e : Ev} {σ : L2.St} {F H : Hp}
theorem msk_sh {i : Nat} {d : D} (h : (e.map mskS)[i]? = some (.sh d)) : e[i]? = some (.sh d) ∧ nl d = true := by
  rw [List.getElem?_map] at h
  obtain ⟨s, h1, h2⟩ := Option.map_eq_some_iff.mp h
  unfold mskS at h2
  split at h2
  · rename_i d'
    split at h2
    · rename_i h3
      cases h2
      exact ⟨h1, h3⟩
    · cases h2
  · cases h2
theorem msk_own {i : Nat} {fz : Bool} {ds : List D} (h : (e.map mskS)[i]? = some (.own fz ds)) : False := by
  rw [List.getElem?_map] at h
  obtain ⟨s, h1, h2⟩ := Option.map_eq_some_iff.mp h
  unfold mskS at h2
  split at h2
  · split at h2 <;> cases h2
  · cases h2
theorem Rel.msk (R : Rel K z e σ F H) : Rel K z (e.map mskS) σ (nlH F) H where
  len := by rw [List.length_map]; exact R.len
  sub := nlH_le.trans R.sub
  sh := fun i d h => by
    obtain ⟨h1, h2⟩ := msk_sh h
    obtain ⟨v, g1, g2⟩ := R.sh i d h1
    exact ⟨v, g1, dp_nl g2 h2⟩
  own := fun i fz ds h => (msk_own h).elim
  inj := fun i j fz fz' ds ds' a h _ _ _ => (msk_own h).elim
  io := fun i ds h => (msk_own h).elim
theorem msk_ownAt {fz : Bool} {b : Addr} : ¬ OwnAt fz (e.map mskS) σ b := fun ⟨i, ds, h, _⟩ => msk_own h
theorem frz_own {i : Nat} {fz : Bool} {ds : List D} (h : (e.map frzS)[i]? = some (.own fz ds)) : False := by
  rw [List.getElem?_map] at h
  obtain ⟨s, h1, h2⟩ := Option.map_eq_some_iff.mp h
  unfold frzS at h2
  split at h2
  · cases h2
  · rename_i n
    exact n fz ds h2
theorem frz_ownAt {fz : Bool} {b : Addr} : ¬ OwnAt fz (e.map frzS) σ b := fun ⟨i, ds, h, _⟩ => frz_own h
open Classical in
/-- what is known, and the lists of one's own -/
noncomputable def frzH (e : Ev) (σ : L2.St) (F H : Hp) : Hp := fun b => match F b with
  | some o => some o
  | none => if ∃ fz, OwnAt fz e σ b then H b else none
theorem frzH_same : Same F (frzH e σ F H) := fun b u h => by
  unfold frzH
  rw [h]
theorem Rel.frzR (R : Rel K z e σ F H) : Rel K z (e.map frzS) σ (frzH e σ F H) H where
  len := by rw [List.length_map]; exact R.len
  sub := fun b u h => by
    unfold frzH at h
    split at h
    · rename_i o h1
      cases h
      exact R.sub b _ h1
    · split at h
      · exact h
      · cases h
  sh := fun i d h => by
    rw [List.getElem?_map] at h
    obtain ⟨s, h1, h2⟩ := Option.map_eq_some_iff.mp h
    unfold frzS at h2
    split at h2
    · rename_i fz ds
      cases h2
      obtain ⟨a, vs, g1, g2, g3, g4⟩ := R.own i fz ds h1
      refine ⟨_, g1, .lst (.inl (.inl ?_)) (dps_mono frzH_same g4)⟩
      unfold frzH
      rw [g3]
      simp only
      rw [if_pos ⟨fz, i, ds, h1, g1⟩, g2]
    · subst h2
      obtain ⟨v, g1, g2⟩ := R.sh i d h1
      exact ⟨v, g1, dp_mono frzH_same g2⟩
  own := fun i fz ds h => (frz_own h).elim
  inj := fun i j fz fz' ds ds' a h _ _ _ => (frz_own h).elim
  io := fun i ds h => (frz_own h).elim
/-- a state as it was, behind a reading that saw all as values -/
theorem Rel.after (R : Rel K z e σ F H) {e0 e1 : Ev} {F0 F1 H1 : Hp} (S : Stp e0 σ F0 H e1 σ F1 H1) (no : ∀ fz b, ¬ OwnAt fz e0 σ b) : Rel K z e σ F H1 ∧ Stp e σ F H e σ F H1 := by
  have keep : Same H H1 := fun b o h => S.keep b o h fun fz => no fz b
  refine ⟨⟨R.len, R.sub.trans keep, R.sh, fun i fz ds h => ?_, R.inj, R.io⟩, ⟨Same.refl _, fun b o h _ => keep b o h, S.there, fun b h => .inl h, fun b h => h, fun b h => h, fun _ _ _ h => h⟩⟩
  obtain ⟨a, vs, g1, g2, g3, g4⟩ := R.own i fz ds h
  exact ⟨a, vs, g1, keep a _ g2, g3, g4⟩
end
section
variable {Φ : Fn} {X : Cx} {z : L2.St}
theorem flat_any {K : PySem.W.Frag} {F F' : Hp} {v : V} {d : D} (h : Dp K F v d) (f : flat d = true) : Dp K F' v d := by
  cases h with
  | non => exact .non
  | bl b => exact .bl b
  | int i => exact .int i
  | str x => exact .str x
  | lst => cases f
  | tup => cases f
theorem s_scr {a b : Ex} {x : Expr} (ha : PE X x (SemE Φ X.K z a)) : PE X x (SemE Φ X.K z (.m1 .scr a b)) := pe_imp ha fun σ H Q ⟨e, F, d, e', R, he, q⟩ => by
  simp only [ev] at he
  split at he
  · rename_i d0 e0 h1
    split at he
    · rename_i hf
      cases he
      refine ⟨e.map frzS, frzH e σ F H, d, e0, R.frzR, h1, fun v F1 H1 R1 S1 dp => ?_⟩
      obtain ⟨R2, S2⟩ := R.after S1 fun fz b => frz_ownAt
      exact q v F H1 R2 S2 (flat_any dp hf)
    · cases he
  · cases he
theorem f_fl {a b : Ex} {x : Expr} (nol : ∀ p o, X.K.lookup p = some o → o.cls ≠ .type "list") (ha : PE X x (SemE Φ X.K z a)) : PE X x (SemF Φ X.K z (.m1 .fl a b)) := pe_imp ha fun σ H Q ⟨e, F, ds, e', R, he, q⟩ => by
  simp only [ev] at he
  split at he
  · rename_i ds0 e0 h1
    split at he
    · rename_i hn
      cases he
      refine ⟨e.map mskS, nlH F, .list ds, e0, R.msk, h1, fun v F1 H1 R1 S1 dp => ?_⟩
      cases dp with
      | lst hs hd =>
        rename_i p us
        have hF1 : F1 p = some (.lst us) := by
          rcases hs with (h | ⟨o, h⟩) | ⟨o, _, _, h, hc, _⟩
          · exact h
          · exact (nlH_frz (S1.nf p o _ h)).elim
          · exact absurd hc (nol p o h)
        have hp : H p = none := by
          rcases S1.new p (by rw [hF1]; simp) with h | h | h
          · cases w : nlH F p with
            | none => exact absurd w h
            | some o =>
              have := S1.fs p o w
              rw [hF1] at this
              cases this
              exact (nlH_lst w).elim
          · exact h
          · exact absurd h msk_ownAt
        obtain ⟨R2, S2⟩ := R.after S1 fun fz b => msk_ownAt
        have keep : Same H H1 := fun b o h => S1.keep b o h fun fz => msk_ownAt
        let F2 : Hp := fun b => match F b with
          | some o => some o
          | none => nlH F1 b
        have m1 : Same F F2 := fun b u h => by
          show (match F b with
            | some o => some o
            | none => nlH F1 b) = _
          rw [h]
        have m2 : Same (nlH F1) F2 := fun b u h => by
          show (match F b with
            | some o => some o
            | none => nlH F1 b) = _
          cases w : F b with
          | none => exact h
          | some o =>
            have g1 := R2.sub b o w
            have g2 := R1.sub b u (nlH_le b u h)
            rw [g1] at g2
            exact g2
        have get : ∀ {b o}, F2 b = some o → F b = some o ∨ (F b = none ∧ nlH F1 b = some o) := fun {b o} h => by
          have h : (match F b with
            | some o => some o
            | none => nlH F1 b) = some o := h
          cases w : F b with
          | none => rw [w] at h; exact .inr ⟨rfl, h⟩
          | some o' => rw [w] at h; exact .inl h
        have hFp : F p = none := R.frees hp
        have hF2p : F2 p = none := by
          show (match F p with
            | some o => some o
            | none => nlH F1 p) = _
          rw [hFp]
          show nlH F1 p = none
          unfold nlH
          rw [hF1]
        have knew : ∀ b, F2 b ≠ none → F b ≠ none ∨ H b = none := fun b h => by
          cases w : F2 b with
          | none => exact absurd w h
          | some o =>
            rcases get w with h1 | ⟨h1, h2⟩
            · exact .inl (by rw [h1]; simp)
            · rcases S1.new b (by rw [nlH_le b o h2]; simp) with h3 | h3 | h3
              · cases w3 : nlH F b with
                | none => exact absurd w3 h3
                | some o3 =>
                  have := nlH_le b o3 w3
                  rw [h1] at this
                  cases this
              · exact .inr h3
              · exact absurd h3 msk_ownAt
        refine q p us F2 H1 ⟨R2.len, fun b u h => ?_, fun i d h => ?_, fun i fz xs h => ?_, R2.inj, R2.io⟩ ⟨m1, S2.keep, S2.there, fun b h => ?_, S2.owT, S2.owF, fun b o u h => ?_⟩ hp (R1.sub p _ hF1) hF2p (dps_mono m2 (dps_nl hd hn))
        · rcases get h with h1 | ⟨_, h1⟩
          · exact R2.sub b u h1
          · exact R1.sub b u (nlH_le b u h1)
        · obtain ⟨v, g1, g2⟩ := R2.sh i d h
          exact ⟨v, g1, dp_mono m1 g2⟩
        · obtain ⟨a, vs, g1, g2, g3, g4⟩ := R.own i fz xs h
          refine ⟨a, vs, g1, keep a _ g2, ?_, dps_mono m1 g4⟩
          cases w : F2 a with
          | none => rfl
          | some o =>
            rcases knew a (by rw [w]; simp) with h1 | h1
            · exact absurd g3 h1
            · rw [g2] at h1; cases h1
        · rcases knew b h with h1 | h1
          · exact .inl h1
          · exact .inr (.inl h1)
        · rcases get h with h1 | ⟨_, h1⟩
          · exact h1
          · have h2 := nlH_le b _ h1
            exact nlH_le b _ (S1.nf b o u h2)
    · cases he
  · cases he
theorem fl_list {a b : Ex} : ∀ e d e', ev Φ (.m1 .fl a b) e = some (d, e') → ∃ ds, d = .list ds := fun e d e' he => by
  simp only [ev] at he
  split at he
  · split at he
    · cases he; exact ⟨_, rfl⟩
    · cases he
  · cases he
end
end Iv
end
section
set_option Elab.async false
set_option linter.all false
set_option maxRecDepth 100000
set_option maxHeartbeats 2000000
/-! Every expression that passes the look. -/
namespace Iv
open PySem PySem.Spec PyProof.Rows L2
/-! ### targets -/
section
variable {C : Cc} {X : Cx}
theorem name_ok {ok : Str → Bool} {i : Nat} {x : Str} {p : Pos} (hN : X.N = C.N) (nd : C.N.Nodup) (hok : ∀ x, ok x = true → Loc X.env.scope x ∧ (X.fn x = true ∨ X.env.scope.names.lookup x = some .local)) (h : (decide (C.N[i]? = some x) && ok x) = true) : PG X (.Name x p) (gName i) := by
  rw [Bool.and_eq_true] at h
  obtain ⟨h1, h2⟩ := hok x h.2
  exact pg_name (by rw [hN]; exact nd) (by rw [hN]; exact of_decide_eq_true h.1) h1 h2
theorem names_ok {ok : Str → Bool} (hN : X.N = C.N) (nd : C.N.Nodup) (hok : ∀ x, ok x = true → Loc X.env.scope x ∧ (X.fn x = true ∨ X.env.scope.names.lookup x = some .local)) : ∀ {is : List Nat} {es : List Expr}, is.length = es.length →
    ((is.zip es).all fun p => match p.2 with
      | .Name x _ => decide (C.N[p.1]? = some x) && ok x
      | _ => false) = true → PGs X es (gNames is) ∧ (assignEach es X.env).length = is.length ∧ (assignEach es X.env).findIdx? (·.1) = none
  | [], [], _, _ => ⟨pgs_nil, rfl, rfl⟩
  | i :: is, e :: es, hl, h => by
    rw [List.zip_cons_cons, List.all_cons, Bool.and_eq_true] at h
    obtain ⟨h1, h2⟩ := h
    obtain ⟨g1, g2, g3⟩ := names_ok hN nd hok (Nat.succ.inj hl) h2
    cases e with
    | Name x p =>
      refine ⟨pgs_cons (name_ok hN nd hok h1) g1 rfl, ?_, ?_⟩
      · show (assignEach es X.env).length + 1 = _
        rw [g2]; rfl
      · show List.findIdx? _ ((false, assign (.Name x p) X.env) :: assignEach es X.env) = none
        rw [List.findIdx?_cons, g3]
        rfl
    | _ => cases h1
  | [], _ :: _, h, _ => by cases h
  | _ :: _, [], h, _ => by cases h
theorem tg_ok {ok : Str → Bool} {g : Tg} {tg : Expr} (hN : X.N = C.N) (nd : C.N.Nodup) (hc : X.calm = true) (hok : ∀ x, ok x = true → Loc X.env.scope x ∧ (X.fn x = true ∨ X.env.scope.names.lookup x = some .local)) (h : tgB C ok g tg = true) : PG X tg (tgG X.K g) := by
  unfold tgB at h
  split at h
  · exact name_ok hN nd hok h
  · rw [Bool.and_eq_true] at h
    obtain ⟨g1, g2, g3⟩ := names_ok hN nd hok (of_decide_eq_true h.1) h.2
    exact pg_tup hc g1 g2 g3
  · cases h
theorem own_ok {scope sc : Scope} (he : X.env.scope = relS scope sc) (hf : X.fn = fun x => scope.names.lookup x == some .cell) : ∀ x, ownB scope sc x = true → Loc X.env.scope x ∧ (X.fn x = true ∨ X.env.scope.names.lookup x = some .local) := fun x h => by
  unfold ownB at h
  rw [he, hf]
  split at h
  · rename_i h1
    exact ⟨.inl h1, .inr h1⟩
  · rename_i h1
    exact ⟨.inr h1, .inl (by show (List.lookup x scope.names == some NameKind.cell) = true; rw [of_decide_eq_true h]; rfl)⟩
  · cases h
end
/-! ### the induction -/
/-- a call that gives a list of its own -/
def frB (C : Cc) : Ex → Bool
  | .call j _ => C.frs.contains j
  | .calk j _ _ _ => C.frs.contains j
  | _ => false
structure Snd (C : Cc) (Φ : Fn) (k : Nat) (z : L2.St) (t : Ex) : Prop where
  e : ∀ X x, COk C Φ k X → chk C t X.env.scope x = true → PE X x (SemE Φ X.K z t)
  b : ∀ X x, COk C Φ k X → chk C t X.env.scope x = true → tOk t = true → PT X x (SemT Φ X.K z t) ∧ ((∃ op es p, x = .BoolOp op es p) → PW X x (SemT Φ X.K z t))
  a : ∀ X es, COk C Φ k X → chkL C t X.env.scope es = true → PA X es (SemA Φ X.K z t)
  kw : ∀ X kws, COk C Φ k X → noMu t = true → chkL C t X.env.scope (kws.map (·.value)) = true → PK X kws (SemA Φ X.K z t)
  f : ∀ X x b, COk C Φ k X → frB C t = true → chk C t X.env.scope x = true → PE X x (SemF Φ X.K z (.m1 .fr t b)) := by intro X x b hk h; cases h
section
variable {C : Cc} {Φ : Fn} {k : Nat} {z : L2.St}
theorem Snd.o {t : Ex} (h : Snd C Φ k z t) : ∀ X x, COk C Φ k X → chk C t X.env.scope x = true → PE X x (SemO Φ X.K z t) := fun X x hk hx => by
  by_cases n : ∃ i, t = .var i
  · obtain ⟨i, rfl⟩ := n
    simp only [chk] at hx
    split at hx
    · obtain ⟨h1, h2, h3, h4⟩ := nm_of hk hx
      exact semO_var h1 h2 h3 h4
    · cases hx
  · exact semO_of (fun i e => n ⟨i, e⟩) (h.e X x hk hx)
/-- a term that is no row of arguments, and no 'and', 'or', 'not' -/
theorem mkS {t : Ex} (n : ∀ i, t ≠ .var i) (hl : ∀ sc es, chkL C t sc es = false) (hp : ∀ sc x, chk C t sc x = true → tOk t = true → plainHead x = true)
    (he : ∀ X x, COk C Φ k X → chk C t X.env.scope x = true → PE X x (SemE Φ X.K z t)) (hf : ∀ X x b, COk C Φ k X → frB C t = true → chk C t X.env.scope x = true → PE X x (SemF Φ X.K z (.m1 .fr t b)) := by intro X x b hk h; cases h) : Snd C Φ k z t where
  e := he
  f := hf
  b := fun X x hk hx ht => by
    have ph := hp _ x hx ht
    exact ⟨semT_tru ph (semO_of n (he X x hk hx)), fun ⟨op, es, p, e⟩ => by subst e; cases ph⟩
  a := fun X es hk h => by rw [hl] at h; cases h
  kw := fun X kws hk _ h => by rw [hl] at h; cases h
theorem S_var (i : Nat) : Snd C Φ k z (.var i) where
  e := fun X x hk hx => by
    simp only [chk] at hx
    split at hx
    · obtain ⟨h1, h2, h3, h4⟩ := nm_of hk hx
      exact s_var h1 h2 h3 h4
    · cases hx
  b := fun X x hk hx ht => by
    simp only [chk] at hx
    split at hx
    · obtain ⟨h1, h2, h3, h4⟩ := nm_of hk hx
      exact ⟨semT_tru rfl (semO_var h1 h2 h3 h4), fun ⟨op, es, p, e⟩ => by cases e⟩
    · cases hx
  a := fun X es hk h => by cases h
  kw := fun X kws hk _ h => by cases h
theorem S_cst (d : D) : Snd C Φ k z (.cst d) := mkS (fun i h => nomatch h) (fun _ _ => rfl) (fun sc x h _ => by
    simp only [chk] at h
    split at h
    · rfl
    · cases h) fun X x hk h => by
  simp only [chk] at h
  split at h
  · exact s_cst h
  · cases h
theorem S_glo (y : Str) (d : D) : Snd C Φ k z (.glo y d) := mkS (fun i h => nomatch h) (fun _ _ => rfl) (fun sc x h _ => by
    simp only [chk] at h
    split at h
    · rfl
    · cases h) fun X x hk h => by
  simp only [chk] at h
  split at h
  · rw [Bool.and_eq_true, Bool.and_eq_true] at h
    obtain ⟨⟨h1, h2⟩, h3⟩ := h
    have e1 := of_decide_eq_true h1
    subst e1
    obtain ⟨hg, hd⟩ := gl_of h2
    exact s_glo hk hg hd (memG_of h3)
  · cases h
theorem S_bin (o : Bo) {a b : Ex} (ha : Snd C Φ k z a) (hb : Snd C Φ k z b) : Snd C Φ k z (.bin o a b) := mkS (fun i h => nomatch h) (fun _ _ => rfl) (fun sc x h _ => by
    simp only [chk] at h
    split at h
    · rfl
    · cases h) fun X x hk h => by
  simp only [chk] at h
  split at h
  · rw [Bool.and_eq_true, Bool.and_eq_true] at h
    obtain ⟨⟨h1, h2⟩, h3⟩ := h
    have e1 := of_decide_eq_true h1
    subst e1
    exact s_bin (ha.o X _ hk h2) (hb.o X _ hk h3)
  · cases h
theorem S_neg {a : Ex} (ha : Snd C Φ k z a) : Snd C Φ k z (.neg a) := mkS (fun i h => nomatch h) (fun _ _ => rfl) (fun sc x h _ => by
    simp only [chk] at h
    split at h
    · rfl
    · cases h) fun X x hk h => by
  simp only [chk] at h
  split at h
  · exact s_neg (ha.o X _ hk h)
  · cases h
theorem S_nt {a : Ex} (ha : Snd C Φ k z a) : Snd C Φ k z (.nt a) where
  e := fun X x hk h => by
    simp only [chk] at h
    split at h
    · rw [Bool.and_eq_true] at h
      exact s_nt (ha.o X _ hk h.1)
    · cases h
  b := fun X x hk h _ => by
    simp only [chk] at h
    split at h
    · rw [Bool.and_eq_true] at h
      exact ⟨t_nt (ha.b X _ hk h.1 h.2).1, fun ⟨op, es, p, e⟩ => by cases e⟩
    · cases h
  a := fun X es hk h => by cases h
  kw := fun X kws hk _ h => by cases h
theorem noMuT {a : Ex} (h : tOk a = true) : ∀ i, a ≠ .mu i := fun i e => by subst e; cases h
theorem S_and {a b : Ex} (ha : Snd C Φ k z a) (hb : Snd C Φ k z b) : Snd C Φ k z (.and a b) where
  e := fun X x hk h => by
    simp only [chk] at h
    split at h
    · rw [Bool.and_eq_true, Bool.and_eq_true, Bool.and_eq_true] at h
      obtain ⟨⟨⟨h1, h2⟩, h3⟩, h4⟩ := h
      refine pe_imp (pe_and (ha.e X _ hk h1) (tb := SemE Φ X.K z b) ?_) fun σ H Q h => m_and h
      split at h4
      · exact pe_one (hb.e X _ hk h4)
      · exact hb.e X _ hk h4
    · cases h
  b := fun X x hk h _ => by
    simp only [chk] at h
    split at h
    · rename_i x0 y0 r0 p0
      rw [Bool.and_eq_true, Bool.and_eq_true, Bool.and_eq_true] at h
      obtain ⟨⟨⟨h1, h2⟩, h3⟩, h4⟩ := h
      have w : PW X (.BoolOp .And (x0 :: y0 :: r0) p0) (SemT Φ X.K z (.and a b)) := by
        refine pw_imp (pw_and (ha.b X _ hk h1 h2).1 (tB' := SemT Φ X.K z b) ?_) fun σ H Q h => mt_and (noMuT h2) (noMuT h3) h
        split at h4
        · exact pw_and1 (hb.b X _ hk h4 h3).1
        · exact (hb.b X _ hk h4 h3).2 ⟨_, _, _, rfl⟩
      exact ⟨w.pt, fun _ => w⟩
    · cases h
  a := fun X es hk h => by cases h
  kw := fun X kws hk _ h => by cases h
theorem S_or {a b : Ex} (ha : Snd C Φ k z a) (hb : Snd C Φ k z b) : Snd C Φ k z (.or a b) where
  e := fun X x hk h => by
    simp only [chk] at h
    split at h
    · rw [Bool.and_eq_true, Bool.and_eq_true, Bool.and_eq_true] at h
      obtain ⟨⟨⟨h1, h2⟩, h3⟩, h4⟩ := h
      refine pe_imp (pe_or (ha.e X _ hk h1) (tb := SemE Φ X.K z b) ?_) fun σ H Q h => m_or h
      split at h4
      · exact pe_one (hb.e X _ hk h4)
      · exact hb.e X _ hk h4
    · cases h
  b := fun X x hk h _ => by
    simp only [chk] at h
    split at h
    · rename_i x0 y0 r0 p0
      rw [Bool.and_eq_true, Bool.and_eq_true, Bool.and_eq_true] at h
      obtain ⟨⟨⟨h1, h2⟩, h3⟩, h4⟩ := h
      have w : PW X (.BoolOp .Or (x0 :: y0 :: r0) p0) (SemT Φ X.K z (.or a b)) := by
        refine pw_imp (pw_or (ha.b X _ hk h1 h2).1 (tB' := SemT Φ X.K z b) ?_) fun σ H Q h => mt_or (noMuT h2) (noMuT h3) h
        split at h4
        · exact pw_or1 (hb.b X _ hk h4 h3).1
        · exact (hb.b X _ hk h4 h3).2 ⟨_, _, _, rfl⟩
      exact ⟨w.pt, fun _ => w⟩
    · cases h
  a := fun X es hk h => by cases h
  kw := fun X kws hk _ h => by cases h
/-- a comparison -/
theorem mkC {t : Ex} (hl : ∀ sc es, chkL C t sc es = false)
    (he : ∀ X x, COk C Φ k X → chk C t X.env.scope x = true → (PE X x (SemE Φ X.K z t) ∧ PT X x (SemT Φ X.K z t)) ∧ ∀ op es p, x ≠ .BoolOp op es p) (hf : frB C t = false := by rfl) : Snd C Φ k z t where
  f := fun X x b hk h => by rw [hf] at h; cases h
  e := fun X x hk h => (he X x hk h).1.1
  b := fun X x hk hx ht => ⟨(he X x hk hx).1.2, fun ⟨op, es, p, e⟩ => absurd e ((he X x hk hx).2 op es p)⟩
  a := fun X es hk h => by rw [hl] at h; cases h
  kw := fun X kws hk _ h => by rw [hl] at h; cases h
theorem S_cmp (o : Co) {a b : Ex} (ha : Snd C Φ k z a) (hb : Snd C Φ k z b) : Snd C Φ k z (.cmp o a b) := mkC (fun _ _ => rfl) fun X x hk h => by
  simp only [chk] at h
  split at h
  · rw [Bool.and_eq_true, Bool.and_eq_true, Bool.and_eq_true] at h
    obtain ⟨⟨⟨h1, h2⟩, h3⟩, h4⟩ := h
    have e1 := of_decide_eq_true h1
    subst e1
    exact ⟨s_cmp hk (ha.o X _ hk h2) (hb.o X _ hk h3) (marks_of h4), fun _ _ _ e => by cases e⟩
  · cases h
theorem S_chn (o q : Co) {a b c : Ex} (ha : Snd C Φ k z a) (hb : Snd C Φ k z b) (hc : Snd C Φ k z c) : Snd C Φ k z (.chn o q a b c) := mkC (fun _ _ => rfl) fun X x hk h => by
  simp only [chk] at h
  split at h
  · rw [Bool.and_eq_true, Bool.and_eq_true, Bool.and_eq_true, Bool.and_eq_true, Bool.and_eq_true] at h
    obtain ⟨⟨⟨⟨⟨h1, h2⟩, h3⟩, h4⟩, h5⟩, h6⟩ := h
    have e1 := of_decide_eq_true h1
    have e2 := of_decide_eq_true h2
    subst e1
    subst e2
    exact ⟨s_chn hk (ha.e X _ hk h3) (hb.e X _ hk h4) (hc.e X _ hk h5) (marks_of h6), fun _ _ _ e => by cases e⟩
  · cases h
theorem S_ite {c a b : Ex} (hc : Snd C Φ k z c) (ha : Snd C Φ k z a) (hb : Snd C Φ k z b) : Snd C Φ k z (.ite c a b) := mkS (fun i h => nomatch h) (fun _ _ => rfl) (fun sc x h h2 => by cases h2) fun X x hk h => by
  simp only [chk] at h
  split at h
  · rw [Bool.and_eq_true, Bool.and_eq_true, Bool.and_eq_true] at h
    obtain ⟨⟨⟨h1, h2⟩, h3⟩, h4⟩ := h
    exact pe_imp (pe_ifExp (hc.b X _ hk h1 h2).1 (ha.e X _ hk h3) (hb.e X _ hk h4)) fun σ H Q h => m_ite h
  · cases h
theorem S_tup {as : Ex} (ha : Snd C Φ k z as) : Snd C Φ k z (.tup as) := mkS (fun i h => nomatch h) (fun _ _ => rfl) (fun sc x h _ => by
    simp only [chk] at h
    split at h
    · rfl
    · cases h) fun X x hk h => by
  simp only [chk] at h
  split at h
  · rw [Bool.and_eq_true] at h
    exact s_tup h.1 (ha.a X _ hk h.2)
  · cases h
theorem F_lst {as : Ex} (ha : Snd C Φ k z as) : ∀ X x, COk C Φ k X → chk C (.lst as) X.env.scope x = true → PE X x (SemF Φ X.K z (.lst as)) := fun X x hk h => by
  simp only [chk] at h
  split at h
  · rw [Bool.and_eq_true] at h
    exact f_lst h.1 (ha.a X _ hk h.2)
  · cases h
theorem S_lst {as : Ex} (ha : Snd C Φ k z as) : Snd C Φ k z (.lst as) := mkS (fun i h => nomatch h) (fun _ _ => rfl) (fun sc x h _ => by
    simp only [chk] at h
    split at h
    · rfl
    · cases h) fun X x hk h => semE_of_F (F_lst ha X x hk h) lst_list
theorem F_rep {as n : Ex} (ha : Snd C Φ k z as) (hn : Snd C Φ k z n) : ∀ X x, COk C Φ k X → chk C (.rep as n) X.env.scope x = true → PE X x (SemF Φ X.K z (.rep as n)) := fun X x hk h => by
  simp only [chk] at h
  split at h
  · rw [Bool.and_eq_true, Bool.and_eq_true] at h
    exact f_rep h.1.1 (ha.a X _ hk h.1.2) (hn.e X _ hk h.2)
  · cases h
theorem S_rep {as n : Ex} (ha : Snd C Φ k z as) (hn : Snd C Φ k z n) : Snd C Φ k z (.rep as n) := mkS (fun i h => nomatch h) (fun _ _ => rfl) (fun sc x h _ => by
    simp only [chk] at h
    split at h
    · rfl
    · cases h) fun X x hk h => semE_of_F (F_rep ha hn X x hk h) rep_list
theorem S_nil : Snd C Φ k z .nil where
  e := fun X x hk h => by cases h
  b := fun X x hk h => by cases h
  a := fun X es hk h => by
    simp only [chkL] at h
    cases es with
    | nil => exact s_anil
    | cons => cases h
  kw := fun X kws hk _ h => by
    simp only [chkL] at h
    cases kws with
    | nil => exact ⟨fun pos pins s σ H Q I ⟨e, F, ds, e', R, h1, q⟩ => pk_nil.run pos pins s σ H Q I (by
        have h1 : some (PyData.tuple [], e) = some (.tuple ds, e') := h1
        cases h1
        exact q [] F H R Stp.refl trivial)⟩
    | cons => cases h
theorem S_cons {a r : Ex} (ha : Snd C Φ k z a) (hr : Snd C Φ k z r) : Snd C Φ k z (.cons a r) where
  e := fun X x hk h => by cases h
  b := fun X x hk h => by cases h
  a := fun X es hk h => by
    simp only [chkL] at h
    split at h
    · rename_i x es
      rw [Bool.and_eq_true, Bool.and_eq_true] at h
      obtain ⟨⟨h1, h2⟩, h3⟩ := h
      split at h2
      · rename_i i
        split at h2
        · obtain ⟨g1, g2, g3, g4⟩ := nm_of hk h2
          exact s_amu g1 g2 g3 g4 (hr.a X _ hk h3) (star_of h1 _)
        · cases h2
      · rename_i n
        exact s_acons n (ha.e X _ hk h2) (hr.a X _ hk h3) (star_of h1 _)
    · cases h
  kw := fun X kws hk nm h => by
    cases kws with
    | nil => simp only [chkL, List.map_nil] at h; cases h
    | cons kw0 kws =>
      obtain ⟨nm0, x, kp⟩ := kw0
      simp only [chkL, List.map_cons] at h
      rw [Bool.and_eq_true, Bool.and_eq_true] at h
      obtain ⟨⟨h1, h2⟩, h3⟩ := h
      split at h2
      · cases nm
      · rename_i n
        have nr : noMu r = true := by
          cases a <;> first | exact nm | (exact absurd rfl (n _))
        refine ⟨fun pos pins s σ H Q I h => (pk_cons (nm := nm0) (kpos := kp) (ha.e X _ hk h2) (hr.kw X _ hk nr h3)).run pos pins s σ H Q I ?_⟩
        obtain ⟨e, F, ds, e', R, h, q⟩ := h
        obtain ⟨d, e1, ts, g1, g2, rfl⟩ := ev_cons h
        refine ⟨e, F, d, e1, R, g1, fun v F1 H1 R1 S1 dp => ⟨e1, F1, ts, e', R1, g2, fun vs F2 H2 R2 S2 g => q (v :: vs) F2 H2 R2 (S1.trans S2) ⟨?_, g⟩⟩⟩
        cases a <;> first | exact dp_mono S2.fs dp | (exact absurd rfl (n _))
theorem S_idx {a i : Ex} (ha : Snd C Φ k z a) (hi : Snd C Φ k z i) : Snd C Φ k z (.idx a i) := mkS (fun i h => nomatch h) (fun _ _ => rfl) (fun sc x h _ => by
    simp only [chk] at h
    split at h
    · rfl
    · cases h) fun X x hk h => by
  simp only [chk] at h
  split at h
  · rw [Bool.and_eq_true, Bool.and_eq_true] at h
    exact s_idx (ha.o X _ hk h.1.2) (hi.o X _ hk h.2) (ix_of h.1.1)
  · cases h
theorem S_slc {a lo hi : Ex} (ha : Snd C Φ k z a) (hl : Snd C Φ k z lo) (hh : Snd C Φ k z hi) : Snd C Φ k z (.slc a lo hi) := mkS (fun i h => nomatch h) (fun _ _ => rfl) (fun sc x h _ => by
    simp only [chk] at h
    split at h
    · rfl
    · cases h) fun X x hk h => by
  simp only [chk] at h
  split at h
  · rw [Bool.and_eq_true, Bool.and_eq_true] at h
    obtain ⟨⟨h1, h2⟩, h3⟩ := h
    refine s_slc (ha.o X _ hk h1) ?_ ?_
    · split at h2
      · exact p_none h2
      · rw [Bool.and_eq_true] at h2
        exact p_some (hl.e X _ hk h2.1) (by simpa using h2.2)
    · split at h3
      · exact p_none h3
      · rw [Bool.and_eq_true] at h3
        exact p_some (hh.e X _ hk h3.1) (by simpa using h3.2)
  · cases h
theorem S_none {t : Ex} (h1 : ∀ sc x, chk C t sc x = false) (h2 : ∀ sc es, chkL C t sc es = false) : Snd C Φ k z t where
  f := fun X x b hk _ h => by rw [h1] at h; cases h
  e := fun X x hk h => by rw [h1] at h; cases h
  b := fun X x hk h => by rw [h1] at h; cases h
  a := fun X es hk h => by rw [h2] at h; cases h
  kw := fun X kws hk _ h => by rw [h2] at h; cases h
theorem nil_of {as : Ex} {sc : Scope} {es : List Expr} (h : chkL C as sc es = true) : es = [] → as = .nil := fun e => by
  subst e
  have := chkL_len h
  cases as <;> first | rfl | (simp [lenA] at this; done) | (exact absurd h (by simp [chkL]))
theorem S_call (j : Nat) {as : Ex} (ha : Snd C Φ k z as) : Snd C Φ k z (.call j as) := mkS (fun i h => nomatch h) (fun _ _ => rfl) (fun sc x h _ => by
    simp only [chk] at h
    split at h
    · rfl
    · cases h) (fun X x hk h => by
  simp only [chk] at h
  split at h
  · rw [Bool.and_eq_true, Bool.and_eq_true, Bool.and_eq_true] at h
    obtain ⟨⟨⟨h1, h2⟩, h3⟩, h4⟩ := h
    obtain ⟨hg, hd⟩ := gl_of h2
    refine s_call hk ?_ hg hd h3 (nil_of h4) (ha.a X _ hk h4)
    split at h1
    · rename_i y ps h5
      have e1 := of_decide_eq_true h1
      subst e1
      exact ⟨ps, h5⟩
    · cases h1
  · cases h)
  (fun X x b hk hfr h => by
  simp only [chk] at h
  split at h
  · rw [Bool.and_eq_true, Bool.and_eq_true, Bool.and_eq_true] at h
    obtain ⟨⟨⟨h1, h2⟩, h3⟩, h4⟩ := h
    obtain ⟨hg, hd⟩ := gl_of h2
    refine f_call hk ?_ hfr hg hd h3 (nil_of h4) (ha.a X _ hk h4)
    split at h1
    · rename_i y ps h5
      have e1 := of_decide_eq_true h1
      subst e1
      exact ⟨ps, h5⟩
    · cases h1
  · cases h)
theorem S_calk (j : Nat) (perm : List Nat) {as ks : Ex} (ha : Snd C Φ k z as) (hb : Snd C Φ k z ks) : Snd C Φ k z (.calk j as ks perm) := mkS (fun i h => nomatch h) (fun _ _ => rfl) (fun sc x h _ => by
    simp only [chk] at h
    split at h
    · rfl
    · cases h) (fun X x hk h => by
  simp only [chk] at h
  split at h
  · simp only [Bool.and_eq_true] at h
    obtain ⟨⟨⟨⟨⟨⟨⟨⟨h1, h2⟩, h3⟩, h4⟩, h5⟩, h6⟩, h7⟩, h8⟩, h9⟩ := h
    obtain ⟨hg, hd⟩ := gl_of h2
    refine s_calk hk ?_ hg hd h3 h4 h5 (chkL_len h6) (by rw [chkL_len h7, List.length_map]) h8 (of_decide_eq_true h9) (nil_of h6) (ha.a X _ hk h6) (hb.kw X _ hk h5 h7)
    split at h1
    · rename_i y ps h5
      have e1 := of_decide_eq_true h1
      subst e1
      exact ⟨ps, h5⟩
    · cases h1
  · cases h)
  (fun X x b hk hfr h => by
  simp only [chk] at h
  split at h
  · simp only [Bool.and_eq_true] at h
    obtain ⟨⟨⟨⟨⟨⟨⟨⟨h1, h2⟩, h3⟩, h4⟩, h5⟩, h6⟩, h7⟩, h8⟩, h9⟩ := h
    obtain ⟨hg, hd⟩ := gl_of h2
    refine f_calk hk ?_ hfr hg hd h3 h4 h5 (chkL_len h6) (by rw [chkL_len h7, List.length_map]) h8 (of_decide_eq_true h9) (nil_of h6) (ha.a X _ hk h6) (hb.kw X _ hk h5 h7)
    split at h1
    · rename_i y ps h5
      have e1 := of_decide_eq_true h1
      subst e1
      exact ⟨ps, h5⟩
    · cases h1
  · cases h)
theorem F_list {a : Ex} (ha : Snd C Φ k z a) : ∀ X x, COk C Φ k X → chk C (.b1 .list a) X.env.scope x = true → PE X x (SemF Φ X.K z (.b1 .list a)) := fun X x hk h => by
  simp only [chk] at h
  split at h
  · rw [Bool.and_eq_true, Bool.and_eq_true] at h
    exact f_list hk h.1.1 h.2 (ha.o X _ hk h.1.2)
  · cases h
theorem S_b1 (b : B1) {a : Ex} (ha : Snd C Φ k z a) : Snd C Φ k z (.b1 b a) := mkS (fun i h => nomatch h) (fun _ _ => rfl) (fun sc x h _ => by
    simp only [chk] at h
    split at h
    · rfl
    · cases h) fun X x hk h => by
  simp only [chk] at h
  split at h
  · rw [Bool.and_eq_true, Bool.and_eq_true] at h
    exact s_b1 hk h.1.1 h.2 (ha.o X _ hk h.1.2)
  · cases h
theorem S_b2 (b : B2) {a c : Ex} (ha : Snd C Φ k z a) (hc : Snd C Φ k z c) : Snd C Φ k z (.b2 b a c) := mkS (fun i h => nomatch h) (fun _ _ => rfl) (fun sc x h _ => by
    simp only [chk] at h
    split at h
    · rfl
    · cases h) fun X x hk h => by
  simp only [chk] at h
  split at h
  · simp only [Bool.and_eq_true] at h
    obtain ⟨⟨⟨⟨h1, h2⟩, h3⟩, h4⟩, h5⟩ := h
    exact s_b2 hk h1 h4 h5 (ha.o X _ hk h2) (hc.o X _ hk h3)
  · cases h
theorem S_isi {a : Ex} (ts : List String) (ha : Snd C Φ k z a) : Snd C Φ k z (.isi a ts) := mkS (fun i h => nomatch h) (fun _ _ => rfl) (fun sc x h _ => by
    simp only [chk] at h
    split at h
    · rfl
    · cases h) fun X x hk h => by
  simp only [chk] at h
  split at h
  · simp only [Bool.and_eq_true] at h
    obtain ⟨⟨⟨⟨h1, h2⟩, h3⟩, h4⟩, h5⟩ := h
    exact s_isi hk h1 h4 h5 (ha.o X _ hk h2) h3
  · cases h
theorem F_m1 {m : M1} {a b : Ex} (nm : m ≠ .scr) (ha : Snd C Φ k z a) : ∀ X x, COk C Φ k X → chk C (.m1 m a b) X.env.scope x = true → PE X x (SemF Φ X.K z (.m1 m a b)) := fun X x hk h => by
  simp only [chk] at h
  split at h
  · split at h
    · simp only [Bool.and_eq_true] at h
      obtain ⟨⟨⟨⟨h1, h2⟩, h3⟩, h4⟩, h5⟩ := h
      exact f_lrng hk h2 h3 h5 (ha.e X _ hk h4)
    · cases h
  · rw [Bool.and_eq_true] at h
    exact ha.f X x _ hk h.1 h.2
  · rw [Bool.and_eq_true] at h
    exact f_fl hk.nol (ha.e X x hk h.2)
  · exact absurd rfl nm
  · cases h
theorem S_m1 {m : M1} {a b : Ex} (ha : Snd C Φ k z a) : Snd C Φ k z (.m1 m a b) := mkS (fun i h => nomatch h) (fun _ _ => rfl) (fun sc x h _ => by
    simp only [chk] at h
    split at h
    · split at h
      · rfl
      · cases h
    · rw [Bool.and_eq_true] at h
      obtain ⟨h0, h⟩ := h
      split at h0
      · simp only [chk] at h
        split at h
        · rfl
        · cases h
      · simp only [chk] at h
        split at h
        · rfl
        · cases h
      · cases h0
    · rw [Bool.and_eq_true] at h
      obtain ⟨h0, h⟩ := h
      split at h0
      · simp only [chk] at h
        split at h
        · rfl
        · cases h
      · simp only [chk] at h
        split at h
        · rfl
        · cases h
      · cases h0
    · rw [Bool.and_eq_true] at h
      obtain ⟨h0, h⟩ := h
      split at h0
      · simp only [chk] at h
        split at h
        · rfl
        · cases h
      · cases h0
    · cases h) fun X x hk h => by
  by_cases nm : m = .scr
  · subst nm
    simp only [chk] at h
    rw [Bool.and_eq_true] at h
    exact s_scr (ha.e X x hk h.2)
  · exact semE_of_F (F_m1 nm ha X x hk h) (lrng_list nm)
theorem S_cf (j : Nat) {a : Ex} (ha : Snd C Φ k z a) : Snd C Φ k z (.cf j a) := mkS (fun i h => nomatch h) (fun _ _ => rfl) (fun sc x h _ => by
    simp only [chk] at h
    split at h
    · rfl
    · cases h) fun X x hk h => by
  simp only [chk] at h
  split at h
  · rw [Bool.and_eq_true, Bool.and_eq_true, Bool.and_eq_true, Bool.and_eq_true] at h
    obtain ⟨⟨⟨⟨h1, h2⟩, h3⟩, h4⟩, h5⟩ := h
    obtain ⟨hg, hd⟩ := gl_of h2
    refine s_cf hk ?_ hg hd h3 (ha.f X _ .noe hk h4 h5)
    split at h1
    · rename_i y ps h5
      have e1 := of_decide_eq_true h1
      subst e1
      exact ⟨ps, h5⟩
    · cases h1
  · cases h
/-! ### comprehensions -/
theorem iter_ok {X : Cx} {kd : Ik} {a b : Ex} {tg iter : Expr} (hk : COk C Φ k X) (ha : Snd C Φ k z a) (hb : Snd C Φ k z b)
    (h : (match kd with
        | .walk => chk C a X.env.scope iter && isNoe b
        | .enm => isTupE tg && isNoe b && (match iter with
          | .Call (.Name x _) [y] [] _ => bltB C X.env.scope "enumerate" x && chk C a X.env.scope y && notStar y
          | _ => false)
        | .zip => isTupE tg && (match iter with
          | .Call (.Name x _) [y, w] [] _ => bltB C X.env.scope "zip" x && chk C a X.env.scope y && chk C b X.env.scope w && notStar y && notStar w
          | _ => false)
        | .rng => isNoe b && (match iter with
          | .Call (.Name x _) [y] [] _ => bltB C X.env.scope "range" x && chk C a X.env.scope y && notStar y
          | _ => false)
        | .rng2 => (match iter with
          | .Call (.Name x _) [y, w] [] _ => bltB C X.env.scope "range" x && chk C a X.env.scope y && chk C b X.env.scope w && notStar y && notStar w
          | _ => false)) = true) : PI X tg iter (SemI Φ X.K z kd a b) := by
  have noe : ∀ {t : Ex}, isNoe t = true → t = .noe := fun {t} h => by cases t <;> first | rfl | cases h
  cases kd with
  | walk =>
    simp only [Bool.and_eq_true] at h
    cases noe h.2
    exact s_walk (ha.e X _ hk h.1)
  | enm =>
    simp only [Bool.and_eq_true] at h
    obtain ⟨⟨h1, h2⟩, h3⟩ := h
    cases noe h2
    split at h3
    · simp only [Bool.and_eq_true] at h3
      obtain ⟨e1, hg, hm, hd⟩ := blt_of hk h3.1.1
      subst e1
      cases tg <;> first | exact s_enum (ha.e X _ hk h3.1.2) hg hm (fun r => star_of h3.2 r) | cases h1
    · cases h3
  | zip =>
    simp only [Bool.and_eq_true] at h
    obtain ⟨h1, h3⟩ := h
    split at h3
    · simp only [Bool.and_eq_true] at h3
      obtain ⟨⟨⟨⟨g1, g2⟩, g3⟩, g4⟩, g5⟩ := h3
      obtain ⟨e1, hg, hm, hd⟩ := blt_of hk g1
      subst e1
      cases tg <;> first | exact s_zip (ha.e X _ hk g2) (hb.e X _ hk g3) hg hm (fun r => star_of g4 r) (fun r => star_of g5 r) | cases h1
    · cases h3
  | rng =>
    simp only [Bool.and_eq_true] at h
    obtain ⟨h2, h3⟩ := h
    cases noe h2
    split at h3
    · simp only [Bool.and_eq_true] at h3
      obtain ⟨e1, hg, hm, hd⟩ := blt_of hk h3.1.1
      subst e1
      exact s_rng (ha.e X _ hk h3.1.2) hg hm fun r => star_of h3.2 r
    · cases h3
  | rng2 =>
    simp only at h
    split at h
    · simp only [Bool.and_eq_true] at h
      obtain ⟨⟨⟨⟨g1, g2⟩, g3⟩, g4⟩, g5⟩ := h
      obtain ⟨e1, hg, hm, hd⟩ := blt_of hk g1
      subst e1
      exact s_rng2 (ha.e X _ hk g2) (hb.e X _ hk g3) hg hm (fun r => star_of g4 r) fun r => star_of g5 r
    · cases h
structure LcOk (Φ : Fn) (X : Cx) (z : L2.St) (own : List (Str × Nat)) (g : Tg) (kd : Ik) (a b c f : Ex) (elt tg iter : Expr) (ifs : List Expr) (scope : Scope) : Prop where
  it : PI X tg iter (SemI Φ X.K z kd a b)
  ok : BlkOk X.N X.env.scope scope own
  ixs : ∀ j ∈ tgIxs g, j ∈ own.map (·.2)
  tg : ∀ (s : Shared) (H : Hp) (C : Addr) (cl : List (Str × Addr)) (fp : List Addr), PG (X.blk s H scope (compEnvC scope cl C X.env) fp) tg (tgG X.K g)
  ts : ∀ (s : Shared) (H : Hp) (C : Addr) (cl : List (Str × Addr)) (fp : List Addr), PTs (X.blk s H scope (compEnvC scope cl C X.env) fp) ifs (SemC Φ X.K z c)
  el : ∀ (s : Shared) (H : Hp) (C : Addr) (cl : List (Str × Addr)) (fp : List Addr), PE (X.blk s H scope (compEnvC scope cl C X.env) fp) elt (SemE Φ X.K z f)
  fs : ∀ x, foldedSetIterable iter X.env x = pure x
theorem lc_ok {X : Cx} {own : List (Str × Nat)} {g : Tg} {kd : Ik} {a b c f : Ex} (hk : COk C Φ k X) (ha : Snd C Φ k z a) (hb : Snd C Φ k z b) (hc : Snd C Φ k z c) (hf : Snd C Φ k z f) {x : Expr} (h : chk C (.lc own g kd a b c f) X.env.scope x = true) :
    ∃ elt tg iter ifs scope pos, x = .ListComp elt [⟨tg, iter, ifs, 0⟩] scope pos ∧ LcOk Φ X z own g kd a b c f elt tg iter ifs scope := by
  simp only [chk] at h
  split at h
  · rename_i elt tg iter ifs asy scope pos
    rw [Bool.and_eq_true, Bool.and_eq_true, Bool.and_eq_true, Bool.and_eq_true, Bool.and_eq_true, Bool.and_eq_true, Bool.and_eq_true] at h
    obtain ⟨⟨⟨⟨⟨⟨⟨h1, h2⟩, h3⟩, h4⟩, h5⟩, h6⟩, h7⟩, h8⟩ := h
    have e1 := of_decide_eq_true h1
    subst e1
    refine ⟨elt, tg, iter, ifs, scope, pos, rfl, iter_ok hk ha hb h6, ?_, fun j hj => ?_, fun s H P cl fp => ?_, fun s H P cl fp => ?_, fun s H P cl fp => ?_, folded_of h5⟩
    · rw [hk.N]; exact blkOk_by h2
    · have q := List.all_eq_true.mp h4 j hj
      simpa using q
    · exact tg_ok (X := X.blk s H scope (compEnvC scope cl P X.env) fp) (C := C) hk.N hk.nd hk.calm (own_ok rfl rfl) h3
    · have kb := hk.blk s H scope (compEnvC scope cl P X.env) fp
      split at h7
      · cases c <;> first | cases h7 | skip
        exact ⟨fun pins s1 σ H1 Q I ⟨e, F, b1, e', R, h, q⟩ => pts_nil.run pins s1 σ H1 Q I (by
          cases h
          exact q F H1 R Stp.refl)⟩
      · rename_i t
        rw [Bool.and_eq_true, Bool.and_eq_true] at h7
        obtain ⟨⟨g1, g2⟩, g3⟩ := h7
        refine pts_one ⟨fun pins s1 σ H1 Q I h => (hc.b (X.blk s H scope (compEnvC scope cl P X.env) fp) t kb g1 g2).1.run pins s1 σ H1 Q I ?_⟩
        obtain ⟨e, F, b1, e', R, h, q⟩ := h
        refine ⟨e, F, b1, e', R, ?_, q⟩
        cases c <;> first | exact h | cases g3
      · cases h7
    · exact hf.e (X.blk s H scope (compEnvC scope cl P X.env) fp) elt (hk.blk s H scope _ fp) h8
  · cases h
theorem F_lc {own : List (Str × Nat)} {g : Tg} {kd : Ik} {a b c f : Ex} (ha : Snd C Φ k z a) (hb : Snd C Φ k z b) (hc : Snd C Φ k z c) (hf : Snd C Φ k z f) : ∀ X x, COk C Φ k X → chk C (.lc own g kd a b c f) X.env.scope x = true → PE X x (SemF Φ X.K z (.lc own g kd a b c f)) := fun X x hk h => by
  obtain ⟨elt, tg, iter, ifs, scope, pos, rfl, L⟩ := lc_ok hk ha hb hc hf h
  exact f_lc hk.calm (by rw [hk.N]; exact hk.nd) L.it L.ok L.ixs L.tg L.ts L.el L.fs
theorem S_lc {own : List (Str × Nat)} {g : Tg} {kd : Ik} {a b c f : Ex} (ha : Snd C Φ k z a) (hb : Snd C Φ k z b) (hc : Snd C Φ k z c) (hf : Snd C Φ k z f) : Snd C Φ k z (.lc own g kd a b c f) := mkS (fun i h => nomatch h) (fun _ _ => rfl) (fun sc x h _ => by
    simp only [chk] at h
    split at h
    · rfl
    · cases h) fun X x hk h => semE_of_F (F_lc ha hb hc hf X x hk h) lc_list'
theorem sound : ∀ t : Ex, Snd C Φ k z t := fun t => by
  induction t with
  | var i => exact S_var i
  | mu i => exact S_none (fun _ _ => rfl) (fun _ _ => rfl)
  | cst d => exact S_cst d
  | glo x d => exact S_glo x d
  | bin o a b ha hb => exact S_bin o ha hb
  | neg a ha => exact S_neg ha
  | nt a ha => exact S_nt ha
  | and a b ha hb => exact S_and ha hb
  | or a b ha hb => exact S_or ha hb
  | cmp o a b ha hb => exact S_cmp o ha hb
  | chn o p a b c ha hb hc => exact S_chn o p ha hb hc
  | ite c a b hc ha hb => exact S_ite hc ha hb
  | tup as ha => exact S_tup ha
  | lst as ha => exact S_lst ha
  | rep as n ha hn => exact S_rep ha hn
  | nil => exact S_nil
  | cons a r ha hr => exact S_cons ha hr
  | idx a i ha hi => exact S_idx ha hi
  | slc a lo hi ha hl hh => exact S_slc ha hl hh
  | noe => exact S_none (fun _ _ => rfl) (fun _ _ => rfl)
  | call j as ha => exact S_call j ha
  | calk j as ks perm ha hb => exact S_calk j perm ha hb
  | b1 b a ha => exact S_b1 b ha
  | b2 b a c ha hc => exact S_b2 b ha hc
  | isi a ts ha => exact S_isi ts ha
  | m1 m a b ha hb => exact S_m1 ha
  | cf j a ha => exact S_cf j ha
  | lc own g kd a b c f ha hb hc hf => exact S_lc ha hb hc hf
end
end Iv
end
section
set_option Elab.async false
set_option linter.all false
set_option maxRecDepth 100000
set_option maxHeartbeats 2000000
/-! The look that holds statements against the text; the steps of statements. -/
namespace Iv
open PySem PySem.Spec PyProof.Rows L2
def isF : Ex → Bool
  | .lst _ => true
  | .rep _ _ => true
  | .lc _ _ _ _ _ _ _ => true
  | .b1 .list _ => true
  | .ite _ a b => isF a && isF b
  | .m1 .scr _ _ => false
  | .m1 _ _ _ => true
  | _ => false
def swB (sc : Scope) (tg e : Expr) : Bool := match tg, e with
  | .Name y py, .ListComp _ _ s p => (sc.names.lookup y == some .local) && py.line == p.line && !(s.names.any fun (n, k) => n == y && (k == .local || k == .cell))
  | _, _ => false
def noTup : Expr → Bool
  | .Tuple _ _ _ => false
  | .List _ _ => false
  | _ => true
def noTupV : Expr → Bool
  | .Tuple _ _ _ => false
  | _ => true
def notSD : Expr → Bool
  | .SetComp _ _ _ _ => false
  | .DictComp _ _ _ _ _ => false
  | _ => true
def notComp : Expr → Bool
  | .ListComp _ _ _ _ => false
  | e => notSD e
def iterB (C : Cc) (sc : Scope) (kd : Ik) (a b : Ex) (tg iter : Expr) : Bool := match kd with
  | .walk => chk C a sc iter && isNoe b
  | .enm => isTupE tg && isNoe b && (match iter with
    | .Call (.Name x _) [y] [] _ => bltB C sc "enumerate" x && chk C a sc y && notStar y
    | _ => false)
  | .zip => isTupE tg && (match iter with
    | .Call (.Name x _) [y, w] [] _ => bltB C sc "zip" x && chk C a sc y && chk C b sc w && notStar y && notStar w
    | _ => false)
  | .rng => isNoe b && (match iter with
    | .Call (.Name x _) [y] [] _ => bltB C sc "range" x && chk C a sc y && notStar y
    | _ => false)
  | .rng2 => (match iter with
    | .Call (.Name x _) [y, w] [] _ => bltB C sc "range" x && chk C a sc y && chk C b sc w && notStar y && notStar w
    | _ => false)
def chkP (C : Cc) (sc : Scope) : Ex → List Bool → List Expr → Bool
  | .nil, [], [] => true
  | .cons a r, o :: os, e :: t => notStar e && chk C a sc e && (!o || isF a) && chkP C sc r os t
  | _, _, _ => false
def lineOf (ts : List Expr) : Nat := (ts.head?.map (·.pos.line)).getD 0
def nmsOf (sc : Scope) (ts : List Expr) : List Str := ts.filterMap fun
  | .Name id pos => if sc.names.lookup id == some .local && pos.line == lineOf ts then some id else none
  | _ => none
/-- stored from the right -/
def swYes (sc : Scope) (ts vs : List Expr) : Bool := match ts with
  | [.Name x _, .Name y _] => decide (vs.length = 2) && vs.all notStar && decide (nmsOf sc ts = [x, y]) && decide (([x, y] : List Str).eraseDups.length = 2) && !(vs.all (foldedForSure 8)) && !(vs.all (constantsAlone 8)) && decide (sc.names.lookup x = some .local) && decide (sc.names.lookup y = some .local)
  | [.Name x _, .Name y _, .Name w _] => decide (vs.length = 3) && vs.all notStar && decide (nmsOf sc ts = [x, y, w]) && decide (([x, y, w] : List Str).eraseDups.length = 3) && !(vs.all (foldedForSure 8)) && !(vs.all (constantsAlone 8)) && decide (sc.names.lookup x = some .local) && decide (sc.names.lookup y = some .local) && decide (sc.names.lookup w = some .local)
  | _ => false
def swNo (sc : Scope) (ts vs : List Expr) : Bool := vs.all notStar && (decide ((nmsOf sc ts).length ≠ ts.length) || vs.all (foldedForSure 8)) && decide (ts.length ≤ 9)
def killB (C : Cc) (sc : Scope) : List Nat → List Expr → Bool
  | [], [] => true
  | j :: js, e :: es => (match e with
    | .Name x _ => nmB C sc j x
    | _ => false) && killB C sc js es
  | _, _ => false
mutual
def chkS (C : Cc) (fr : Bool) : Sm → Scope → Stmt → Bool
  | .pass, _, st => match st with
    | .Pass _ => true
    | _ => false
  | .nev, _, _ => true
  | .asg g x, sc, st => match st with
    | .Assign [tg] e _ => tgB C (locB sc) g tg && chk C x sc e && notSD e && (noTup tg || noTupV e) && (!swB sc tg e || isF x)
    | _ => false
  | .aso i x, sc, st => match st with
    | .Assign [.Name y p] e _ => decide (C.N[i]? = some y) && locB sc y && chk C x sc e && isF x && notSD e
    | _ => false
  | .asp is os as, sc, st => match st with
    | .Assign [.Tuple ts t1 t2] (.Tuple vs _ _) _ => tgB C (locB sc) (.tp is) (.Tuple ts t1 t2) && nodupB is && chkP C sc as os vs && (swYes sc ts vs || swNo sc ts vs)
    | _ => false
  | .ast i k j x, sc, st => match st with
    | .Assign [.Tuple [.Subscript (.Name a _) ke _, .Name b _] _ _] e _ => nmB C sc i a && notSlice ke && chk C k sc ke && decide (C.N[j]? = some b) && locB sc b && chk C x sc e && notSD e && noTupV e
    | _ => false
  | .sub i k x, sc, st => match st with
    | .Assign [.Subscript (.Name a _) ke _] e _ => nmB C sc i a && notSlice ke && chk C k sc ke && chk C x sc e && notSD e
    | _ => false
  | .sw2 i k j l x, sc, st => match st with
    | .Assign [.Tuple [.Subscript (.Name a p1) ke p2, .Subscript (.Name b p3) le p4] _ _] e _ => nmB C sc i a && notSlice ke && chk C k sc ke && nmB C sc j b && notSlice le && chk C l sc le && chk C x sc e && notSD e && (match e with
      | .Tuple vs _ _ => swNo sc [.Subscript (.Name a p1) ke p2, .Subscript (.Name b p3) le p4] vs
      | _ => true)
    | _ => false
  | .kill i js d, sc, st => match st with
    | .For (.Name y _) (.List es _) [.Expr (.Call (.Attribute (.Name y2 _) m apos) [w] [] cpos) _] [] _ => decide (C.N[i]? = some y) && locB sc y && nmB C sc i y2 && decide (m = "append") && chk C (.cst d) sc w && notStar w && (apos.endLine == cpos.line) && decide (js.length ≤ 9) && killB C sc js es
    | _ => false
  | .app i x, sc, st => match st with
    | .Expr (.Call (.Attribute (.Name a _) m apos) [y] [] cpos) _ => decide (m = "append") && nmB C sc i a && chk C x sc y && notStar y && (apos.endLine == cpos.line)
    | _ => false
  | .ext i x, sc, st => match st with
    | .Expr (.Call (.Attribute (.Name a _) m apos) [y] [] cpos) _ => decide (m = "extend") && nmB C sc i a && chk C x sc y && notStar y && (apos.endLine == cpos.line) && isF x
    | _ => false
  | .aug i k o x, sc, st => match st with
    | .AugAssign (.Subscript (.Name a _) ke _) op e _ => decide (op = .Add) && nmB C sc i a && notSlice ke && chk C k sc ke && chk C x sc e
    | _ => false
  | .exp x, sc, st => match st with
    | .Expr e _ => chk C x sc e && notComp e
    | _ => false
  | .ifs c a b, sc, st => match st with
    | .If t p q _ => chk C c sc t && tOk c && chkB C fr a sc p && chkB C fr b sc q
    | _ => false
  | .for_ g k a b s, sc, st => match st with
    | .For tg iter body [] _ => tgB C (locB sc) g tg && notSet iter && iterB C sc k a b tg iter && chkB C fr s sc body
    | _ => false
  | .whl c s, sc, st => match st with
    | .While t body [] _ => chk C c sc t && tOk c && chkB C fr s sc body
    | _ => false
  | .ret x, sc, st => match st with
    | .Return (some e) _ => chk C x sc e && (!fr || isF x)
    | _ => false
  | .retn, _, st => match st with
    | .Return none _ => !fr
    | _ => false
  | .retv i, sc, st => match st with
    | .Return (some (.Name x _)) _ => fr && nmB C sc i x
    | _ => false
  | .brk, _, st => match st with
    | .Break _ => true
    | _ => false
  | .cnt, _, st => match st with
    | .Continue _ => true
    | _ => false
  | _, _, _ => false
def chkB (C : Cc) (fr : Bool) : Sm → Scope → List Stmt → Bool
  | .nilB, _, b => b.isEmpty
  | .consB s r, sc, b => match b with
    | st :: t => chkS C fr s sc st && chkB C fr r sc t
    | [] => false
  | _, _, _ => false
end
/-! ### the steps of statements -/
structure StpS (e : Ev) (σ : L2.St) (F H : Hp) (e' : Ev) (σ' : L2.St) (F' H' : Hp) : Prop where
  fs : Same F F'
  keep : ∀ b o, H b = some o → (∀ fz, ¬ OwnAt fz e σ b) → H' b = some o
  there : ∀ b, H b ≠ none → H' b ≠ none
  new : ∀ b, F' b ≠ none → F b ≠ none ∨ H b = none ∨ OwnAt true e σ b
  owT : ∀ b, OwnAt true e' σ' b → OwnAt true e σ b ∨ H b = none
  owF : ∀ b, OwnAt false e' σ' b → OwnAt false e σ b
  nf : ∀ b o u, F' b = some (.frz o u) → F b = some (.frz o u)
theorem Stp.up {e e' : Ev} {σ σ' : L2.St} {F F' H H' : Hp} (S : Stp e σ F H e' σ' F' H') : StpS e σ F H e' σ' F' H' := ⟨S.fs, S.keep, S.there, S.new, fun b h => .inl (S.owT b h), S.owF, S.nf⟩
theorem StpS.refl {e : Ev} {σ : L2.St} {F H : Hp} : StpS e σ F H e σ F H := Stp.refl.up
theorem StpS.trans {e e1 e2 : Ev} {σ σ1 σ2 : L2.St} {F F1 F2 H H1 H2 : Hp} (a : StpS e σ F H e1 σ1 F1 H1) (b : StpS e1 σ1 F1 H1 e2 σ2 F2 H2) : StpS e σ F H e2 σ2 F2 H2 := by
  have back : ∀ x, H1 x = none → H x = none := fun x q => by
    cases r : H x with
    | none => rfl
    | some o => exact absurd q (a.there x (by rw [r]; simp))
  refine ⟨a.fs.trans b.fs, fun x o h n => b.keep x o (a.keep x o h n) fun fz q => ?_, fun x h => b.there x (a.there x h), fun x h => ?_, fun x h => ?_, fun x h => a.owF x (b.owF x h), fun x o u h => a.nf x o u (b.nf x o u h)⟩
  · cases fz with
    | false => exact n false (a.owF x q)
    | true =>
      rcases a.owT x q with q | q
      · exact n true q
      · rw [q] at h; cases h
  · rcases b.new x h with q | q | q
    · exact a.new x q
    · exact .inr (.inl (back x q))
    · rcases a.owT x q with q | q
      · exact .inr (.inr q)
      · exact .inr (.inl q)
  · rcases b.owT x h with q | q
    · exact a.owT x q
    · exact .inr (back x q)
def FrO (K : PySem.W.Frag) (e : Ev) (σ : L2.St) (H : Hp) (e' : Ev) (σ' : L2.St) (F' H' : Hp) (v : V) (d : D) : Prop :=
  ∃ p us ds, v = .ref p ∧ d = .list ds ∧ H' p = some (.lst us) ∧ F' p = none ∧ DpAll K F' us ds ∧ (∀ fz, ¬ OwnAt fz e' σ' p) ∧ (H p = none ∨ OwnAt true e σ p)
def RtOk (K : PySem.W.Frag) (fr : Bool) (e : Ev) (σ : L2.St) (H : Hp) (e' : Ev) (σ' : L2.St) (F' H' : Hp) (v : V) (d : D) : Prop := if fr = true then FrO K e σ H e' σ' F' H' v d else Dp K F' v d
def Post (K : PySem.W.Frag) (z : L2.St) (fr : Bool) (D : Ends) (e : Ev) (σ : L2.St) (F H : Hp) : Out → Prop
  | .nx e' => ∀ σ' F' H', Rel K z e' σ' F' H' → StpS e σ F H e' σ' F' H' → D.nx σ' H'
  | .bk e' => ∀ σ' F' H', Rel K z e' σ' F' H' → StpS e σ F H e' σ' F' H' → D.bk σ' H'
  | .ct e' => ∀ σ' F' H', Rel K z e' σ' F' H' → StpS e σ F H e' σ' F' H' → D.ct σ' H'
  | .rt d e' => ∀ v σ' F' H', Rel K z e' σ' F' H' → StpS e σ F H e' σ' F' H' → RtOk K fr e σ H e' σ' F' H' v d → D.rt v H'
theorem RtOk.back {K : PySem.W.Frag} {fr : Bool} {e e1 : Ev} {σ σ1 : L2.St} {F H F1 H1 : Hp} {e' : Ev} {σ' : L2.St} {F' H' : Hp} {v : V} {d : D} (S : StpS e σ F H e1 σ1 F1 H1) (h : RtOk K fr e1 σ1 H1 e' σ' F' H' v d) : RtOk K fr e σ H e' σ' F' H' v d := by
  cases fr with
  | false => exact h
  | true =>
    obtain ⟨p, us, ds, a1, a2, a3, a4, a5, a6, a7⟩ := (show FrO K e1 σ1 H1 e' σ' F' H' v d from h)
    refine (show FrO K e σ H e' σ' F' H' v d from ⟨p, us, ds, a1, a2, a3, a4, a5, a6, ?_⟩)
    rcases a7 with a7 | a7
    · refine .inl ?_
      cases q : H p with
      | none => rfl
      | some o => exact absurd a7 (S.there p (by rw [q]; simp))
    · exact (S.owT p a7).symm
theorem Post.on {K : PySem.W.Frag} {z : L2.St} {fr : Bool} {D : Ends} {e e1 : Ev} {σ σ1 : L2.St} {F H F1 H1 : Hp} {o : Out} (S : StpS e σ F H e1 σ1 F1 H1) (h : Post K z fr D e σ F H o) : Post K z fr D e1 σ1 F1 H1 o := by
  cases o with
  | nx e' => exact fun σ' F' H' R T => h σ' F' H' R (S.trans T)
  | bk e' => exact fun σ' F' H' R T => h σ' F' H' R (S.trans T)
  | ct e' => exact fun σ' F' H' R T => h σ' F' H' R (S.trans T)
  | rt d e' => exact fun v σ' F' H' R T q => h v σ' F' H' R (S.trans T) (q.back S)
def SemS (Φ : Fn) (K : PySem.W.Frag) (z : L2.St) (fr : Bool) (s : Sm) : TS := fun D σ H => ∃ e F o, Rel K z e σ F H ∧ exs Φ s e = some o ∧ Post K z fr D e σ F H o
section
variable {K : PySem.W.Frag} {z : L2.St} {e : Ev} {σ : L2.St} {F H : Hp} {i : Nat}
theorem get_set {α : Type} {l : List α} {i j : Nat} {a x : α} (h : (l.set i a)[j]? = some x) : (j = i ∧ x = a ∧ i < l.length) ∨ (j ≠ i ∧ l[j]? = some x) := by
  by_cases e : i = j
  · subst e
    by_cases hi : i < l.length
    · rw [List.getElem?_set_self hi] at h
      cases h
      exact .inl ⟨rfl, rfl, hi⟩
    · rw [List.getElem?_eq_none (by rw [List.length_set]; omega)] at h
      cases h
  · rw [List.getElem?_set_ne e] at h
    exact .inr ⟨fun q => e q.symm, h⟩
/-- a fresh list at a name -/
theorem Rel.putOwn (R : Rel K z e σ F H) {p : Addr} {us : List V} {ds : List D} (hP : H p = some (.lst us)) (hF : F p = none) (dp : DpAll K F us ds) (no : ∀ fz, ¬ OwnAt fz e σ p) : Rel K z (e.set i (.own true ds)) (σ.set i (some (.ref p))) F H where
  len := by rw [List.length_set, List.length_set]; exact R.len
  sub := R.sub
  sh := fun j d h => by
    rcases get_set h with ⟨_, h2, _⟩ | ⟨h1, h2⟩
    · cases h2
    · obtain ⟨v, g1, g2⟩ := R.sh j d h2
      exact ⟨v, by rw [List.getElem?_set_ne (fun q => h1 q.symm)]; exact g1, g2⟩
  own := fun j fz xs h => by
    rcases get_set h with ⟨h1, h2, h3⟩ | ⟨h1, h2⟩
    · cases h2
      subst h1
      exact ⟨p, us, by rw [List.getElem?_set_self (by rw [← R.len]; exact h3)], hP, hF, dp⟩
    · obtain ⟨a, vs, g1, g2⟩ := R.own j fz xs h2
      exact ⟨a, vs, by rw [List.getElem?_set_ne (fun q => h1 q.symm)]; exact g1, g2⟩
  inj := fun j j' fz fz' xs xs' a h h' g g' => by
    rcases get_set h with ⟨h1, h2, h3⟩ | ⟨h1, h2⟩
    · rcases get_set h' with ⟨h1', h2', h3'⟩ | ⟨h1', h2'⟩
      · rw [h1, h1']
      · subst h1
        rw [List.getElem?_set_self (by rw [← R.len]; exact h3)] at g
        rw [List.getElem?_set_ne (fun q => h1' q.symm)] at g'
        cases g
        exact absurd ⟨j', xs', h2', g'⟩ (no fz')
    · rw [List.getElem?_set_ne (fun q => h1 q.symm)] at g
      rcases get_set h' with ⟨h1', h2', h3'⟩ | ⟨h1', h2'⟩
      · subst h1'
        rw [List.getElem?_set_self (by rw [← R.len]; exact h3')] at g'
        cases g'
        exact absurd ⟨j, xs, h2, g⟩ (no fz)
      · rw [List.getElem?_set_ne (fun q => h1' q.symm)] at g'
        exact R.inj j j' fz fz' xs xs' a h2 h2' g g'
  io := fun j xs h => by
    rcases get_set h with ⟨h1, h2, h3⟩ | ⟨h1, h2⟩
    · cases h2
    · rw [List.getElem?_set_ne (fun q => h1 q.symm)]
      exact R.io j xs h2
theorem ownAt_putOwn {p b : Addr} {ds : List D} {fz : Bool} (h : OwnAt fz (e.set i (.own true ds)) (σ.set i (some (.ref p))) b) : OwnAt fz e σ b ∨ (b = p ∧ fz = true) := by
  obtain ⟨j, xs, h1, h2⟩ := h
  rcases get_set h1 with ⟨g1, g2, g3⟩ | ⟨g1, g2⟩
  · cases g2
    subst g1
    rcases get_set h2 with ⟨_, k2, _⟩ | ⟨k1, _⟩
    · cases k2
      exact .inr ⟨rfl, rfl⟩
    · exact absurd rfl k1
  · rw [List.getElem?_set_ne (fun q => g1 q.symm)] at h2
    exact .inl ⟨j, xs, g2, h2⟩
/-- an own list changed in place -/
theorem Rel.upd (R : Rel K z e σ F H) {p : Addr} {us : List V} {fz : Bool} {xs ds : List D} (h : e[i]? = some (.own fz xs)) (hs : σ[i]? = some (some (.ref p))) (dp : DpAll K F us ds) : Rel K z (e.set i (.own fz ds)) σ F (upd H p (.lst us)) where
  len := by rw [List.length_set]; exact R.len
  sub := fun b o hb => by
    have hp : b ≠ p := fun q => by
      subst q
      obtain ⟨a, vs, g1, g2, g3, _⟩ := R.own i fz xs h
      rw [hs] at g1
      cases g1
      rw [hb] at g3
      cases g3
    rw [upd_ne hp]
    exact R.sub b o hb
  sh := fun j d h1 => by
    rcases get_set h1 with ⟨_, h2, _⟩ | ⟨_, h2⟩
    · cases h2
    · exact R.sh j d h2
  own := fun j fz' ys h1 => by
    rcases get_set h1 with ⟨g1, g2, g3⟩ | ⟨g1, g2⟩
    · cases g2
      subst g1
      obtain ⟨a, vs, k1, k2, k3, _⟩ := R.own j fz xs h
      rw [hs] at k1
      cases k1
      exact ⟨p, us, hs, upd_same, k3, dp⟩
    · obtain ⟨a, vs, k1, k2, k3, k4⟩ := R.own j fz' ys g2
      have hp : a ≠ p := fun q => by
        subst q
        exact g1 (R.inj j i fz' fz ys xs a g2 h k1 hs)
      exact ⟨a, vs, k1, by rw [upd_ne hp]; exact k2, k3, k4⟩
  inj := fun j j' f f' ys ys' a h1 h2 g1 g2 => by
    have o : ∀ {j : Nat} {f : Bool} {ys : List D}, (e.set i (.own fz ds))[j]? = some (.own f ys) → ∃ w, e[j]? = some (.own f w) := fun {j f ys} h1 => by
      rcases get_set h1 with ⟨k1, k2, _⟩ | ⟨_, k2⟩
      · cases k2
        subst k1
        exact ⟨xs, h⟩
      · exact ⟨ys, k2⟩
    obtain ⟨w, q⟩ := o h1
    obtain ⟨w', q'⟩ := o h2
    exact R.inj j j' f f' w w' a q q' g1 g2
  io := fun j ys h1 => by
    rcases get_set h1 with ⟨k1, k2, _⟩ | ⟨_, k2⟩
    · cases k2
      subst k1
      exact R.io j xs h
    · exact R.io j ys k2
theorem StpS.upd {p : Addr} {us : List V} {fz : Bool} {xs ds : List D} (R : Rel K z e σ F H) (h : e[i]? = some (.own fz xs)) (hs : σ[i]? = some (some (.ref p))) : StpS e σ F H (e.set i (.own fz ds)) σ F (L2.upd H p (.lst us)) := by
  have ow : OwnAt fz e σ p := ⟨i, xs, h, hs⟩
  have bk : ∀ f b, OwnAt f (e.set i (.own fz ds)) σ b → OwnAt f e σ b := fun f b ⟨j, ys, h1, h2⟩ => by
    rcases get_set h1 with ⟨k1, k2, _⟩ | ⟨_, k2⟩
    · cases k2
      subst k1
      exact ⟨j, xs, h, h2⟩
    · exact ⟨j, ys, k2, h2⟩
  refine ⟨Same.refl _, fun b o hb n => ?_, fun b hb => ?_, fun b hb => .inl hb, fun b hb => .inl (bk true b hb), fun b hb => bk false b hb, fun _ _ _ h => h⟩
  · have hp : b ≠ p := fun q => by subst q; exact n fz ow
    rw [upd_ne hp]; exact hb
  · by_cases hp : b = p
    · subst hp; rw [upd_same]; simp
    · rw [upd_ne hp]; exact hb
end
/-! ### rows of values, some of them fresh lists -/
def FR (K : PySem.W.Frag) (F H : Hp) : (Addr → Prop) → List Bool → List V → List D → Prop
  | A, o :: os, v :: vs, d :: ds => match o with
    | true => ∃ p us xs, v = .ref p ∧ d = .list xs ∧ H p = some (.lst us) ∧ F p = none ∧ DpAll K F us xs ∧ A p ∧ FR K F H (fun q => A q ∧ q ≠ p) os vs ds
    | false => Dp K F v d ∧ FR K F H A os vs ds
  | _, [], [], [] => True
  | _, _, _, _ => False
theorem FR.mono {K : PySem.W.Frag} {F H : Hp} : ∀ {A B : Addr → Prop} {os : List Bool} {vs : List V} {ds : List D}, (∀ q, A q → B q) → FR K F H A os vs ds → FR K F H B os vs ds
  | A, B, o :: os, v :: vs, d :: ds, m, h => by
    cases o with
    | true =>
      obtain ⟨p, us, xs, h1, h2, h3, h4, h5, h6, h7⟩ := h
      exact ⟨p, us, xs, h1, h2, h3, h4, h5, m p h6, FR.mono (fun q ⟨a, b⟩ => ⟨m q a, b⟩) h7⟩
    | false => exact ⟨h.1, FR.mono m h.2⟩
  | _, _, [], [], [], _, _ => trivial
  | _, _, [], [], _ :: _, _, h => h.elim
  | _, _, [], _ :: _, _, _, h => h.elim
  | _, _, _ :: _, [], _, _, h => h.elim
  | _, _, _ :: _, _ :: _, [], _, h => h.elim
def setVs : L2.St → List Nat → List V → L2.St
  | σ, i :: is, v :: vs => setVs (σ.set i (some v)) is vs
  | σ, _, _ => σ
theorem put_ok {K : PySem.W.Frag} {z : L2.St} {F H : Hp} : ∀ {is : List Nat} {os : List Bool} {ds : List D} {vs : List V} {e e2 : Ev} {σ : L2.St} {A : Addr → Prop}, Rel K z e σ F H → FR K F H A os vs ds → (∀ q, A q → ∀ fz, ¬ OwnAt fz e σ q) → putSl e is os ds = some e2 →
    Rel K z e2 (setVs σ is vs) F H ∧ (∀ b, OwnAt true e2 (setVs σ is vs) b → OwnAt true e σ b ∨ A b) ∧ (∀ b, OwnAt false e2 (setVs σ is vs) b → OwnAt false e σ b) ∧ is.length = vs.length
  | i :: is, o :: os, d :: ds, v :: vs, e, e2, σ, A, R, g, no, h => by
    cases o with
    | true =>
      obtain ⟨p, us, xs, rfl, rfl, h3, h4, h5, h6, h7⟩ := g
      simp only [putSl] at h
      split at h
      · obtain ⟨q1, q2, q3, q4⟩ := put_ok (R.putOwn (i := i) h3 h4 h5 (no p h6)) h7 (fun q ⟨a, b⟩ fz ow => by
          rcases ownAt_putOwn ow with w | ⟨w, _⟩
          · exact no q a fz w
          · exact b w) h
        refine ⟨q1, fun b hb => ?_, fun b hb => ?_, by rw [List.length_cons, List.length_cons, q4]⟩
        · rcases q2 b hb with w | w
          · rcases ownAt_putOwn w with w | ⟨w, _⟩
            · exact .inl w
            · subst w; exact .inr h6
          · exact .inr w.1
        · rcases ownAt_putOwn (q3 b hb) with w | ⟨_, w⟩
          · exact w
          · cases w
      · cases h
    | false =>
      simp only [putSl] at h
      split at h
      · obtain ⟨q1, q2, q3, q4⟩ := put_ok (R.put (i := i) g.1) g.2 (fun q a fz ow => no q a fz (ownAt_put ow)) h
        refine ⟨q1, fun b hb => ?_, fun b hb => ownAt_put (q3 b hb), by rw [List.length_cons, List.length_cons, q4]⟩
        rcases q2 b hb with w | w
        · exact .inl (ownAt_put w)
        · exact .inr w
      · cases h
  | [], [], [], [], e, e2, σ, A, R, g, no, h => by
    cases h
    exact ⟨R, fun b hb => .inl hb, fun b hb => hb, rfl⟩
  | [], o :: os, _, _, _, _, _, _, _, _, _, h => by cases h
  | [], [], d :: ds, _, _, _, _, _, _, _, _, h => by cases h
  | i :: is, [], _, _, _, _, _, _, _, _, _, h => by cases h
  | i :: is, o :: os, [], _, _, _, _, _, _, _, _, h => by cases h
  | i :: is, o :: os, d :: ds, [], _, _, _, _, _, g, _, h => g.elim
  | [], [], [], _ :: _, _, _, _, _, _, g, _, _ => g.elim
def SemAP (Φ : Fn) (K : PySem.W.Frag) (z : L2.St) (os : List Bool) (as : Ex) : TA := fun σ H Q => ∃ e F ds e', Rel K z e σ F H ∧ ev Φ as e = some (.tuple ds, e') ∧
  ∀ vs F' H', Rel K z e' σ F' H' → Stp e σ F H e' σ F' H' → FR K F' H' (fun q => H q = none) os vs ds → Q vs H'
section
variable {C : Cc} {Φ : Fn} {k : Nat} {z : L2.St} {X : Cx}
theorem back_none {e : Ev} {σ : L2.St} {F H : Hp} {e' : Ev} {σ' : L2.St} {F' H' : Hp} (S : Stp e σ F H e' σ' F' H') {p : Addr} (h : H' p = none) : H p = none := by
  cases w : H p with
  | none => rfl
  | some o => exact absurd h (S.there p (by rw [w]; simp))
theorem F_of {t : Ex} (hf : isF t = true) : ∀ X x, COk C Φ k X → chk C t X.env.scope x = true → PE X x (SemF Φ X.K z t) := by
  induction t with
  | lst as _ => exact fun X x hk h => F_lst (sound _) X x hk h
  | rep as n _ _ => exact fun X x hk h => F_rep (sound _) (sound _) X x hk h
  | b1 b a _ => cases b <;> first | (cases hf; done) | exact fun X x hk h => F_list (sound _) X x hk h
  | m1 m a b _ _ => exact fun X x hk h => F_m1 (fun q => by subst q; cases hf) (sound _) X x hk h
  | lc own g k a b c f _ _ _ _ => exact fun X x hk h => F_lc (sound _) (sound _) (sound _) (sound _) X x hk h
  | ite c a b _ iha ihb =>
    intro X x hk h
    have hf : (isF a && isF b) = true := hf
    rw [Bool.and_eq_true] at hf
    simp only [chk] at h
    split at h
    · rw [Bool.and_eq_true, Bool.and_eq_true, Bool.and_eq_true] at h
      obtain ⟨⟨⟨h1, h2⟩, h3⟩, h4⟩ := h
      refine pe_imp (pe_ifExp ((sound (z := z) c).b X _ hk h1 h2).1 (iha hf.1 X _ hk h3) (ihb hf.2 X _ hk h4)) fun σ H Q ⟨e, F, ds, e', R, he, q⟩ => ?_
      simp only [ev] at he
      split at he
      · rename_i e1 h1
        exact ⟨e, F, true, e1, R, h1, fun F1 H1 R1 S1 => iteT ⟨e1, F1, ds, e', R1, he, fun p us F2 H2 R2 S2 hp hP hF dp => q p us F2 H2 R2 (S1.trans S2) (back_none S1 hp) hP hF dp⟩⟩
      · rename_i e1 h1
        exact ⟨e, F, false, e1, R, h1, fun F1 H1 R1 S1 => iteF ⟨e1, F1, ds, e', R1, he, fun p us F2 H2 R2 S2 hp hP hF dp => q p us F2 H2 R2 (S1.trans S2) (back_none S1 hp) hP hF dp⟩⟩
      · cases he
    · cases h
  | _ => cases hf
theorem listy {t : Ex} (hf : isF t = true) : ∀ e d e', ev Φ t e = some (d, e') → ∃ ds, d = .list ds := by
  induction t with
  | lst as _ => exact lst_list
  | rep as n _ _ => exact rep_list
  | b1 b a _ => cases b <;> first | (cases hf; done) | exact list_list
  | m1 m a b _ _ => exact lrng_list (fun q => by subst q; cases hf)
  | lc own g k a b c f _ _ _ _ => exact lc_list'
  | ite c a b _ iha ihb =>
    have hf : (isF a && isF b) = true := hf
    rw [Bool.and_eq_true] at hf
    intro e d e' he
    simp only [ev] at he
    split at he
    · exact iha hf.1 _ _ _ he
    · exact ihb hf.2 _ _ _ he
    · cases he
  | _ => cases hf
theorem p_anil : PA X [] (SemAP Φ X.K z [] .nil) := pa_imp pa_nil fun σ H Q ⟨e, F, ds, e', R, h, q⟩ => by
  have h : some (PyData.tuple [], e) = some (.tuple ds, e') := h
  cases h
  exact q [] F H R Stp.refl trivial
theorem p_acons (hk : COk C Φ k X) : ∀ {as : Ex} {os : List Bool} {es : List Expr}, chkP C X.env.scope as os es = true → PA X es (SemAP Φ X.K z os as) := fun {as os es} h => by
  induction os generalizing as es with
  | nil =>
    unfold chkP at h
    split at h
    · exact p_anil
    · rename_i h1
      cases h1
    · cases h
  | cons o os ih =>
    unfold chkP at h
    split at h
    · rename_i h1
      cases h1
    · rename_i a r o' os' x es h1
      cases h1
      simp only [Bool.and_eq_true] at h
      obtain ⟨⟨⟨h1, h2⟩, h3⟩, h4⟩ := h
      have hr := ih h4
      cases o with
      | true =>
        refine pa_imp (pa_cons (F_of (z := z) (by simpa using h3) X x hk h2) hr (star_of h1 _)) fun σ H Q ⟨e, F, ds, e', R, h, q⟩ => ?_
        obtain ⟨d, e1, ts, g1, g2, rfl⟩ := ev_cons h
        obtain ⟨xs, rfl⟩ := listy (by simpa using h3) _ _ _ g1
        refine ⟨e, F, xs, e1, R, g1, fun p us F1 H1 R1 S1 hp hP hF dp => ⟨e1, F1, ts, e', R1, g2, fun vs F2 H2 R2 S2 fr => q (.ref p :: vs) F2 H2 R2 (S1.trans S2) ?_⟩⟩
        have no := S1.noOwn R hp
        refine ⟨p, us, xs, rfl, rfl, S2.keep p _ hP no, ?_, dps_mono S2.fs dp, hp, fr.mono fun w hw => ⟨?_, ?_⟩⟩
        · cases w : F2 p with
          | none => rfl
          | some o =>
            rcases S2.new p (by rw [w]; simp) with u | u | u
            · exact absurd hF u
            · rw [hP] at u; cases u
            · exact absurd u (no true)
        · show H w = none
          cases u : H w with
          | none => rfl
          | some o => exact absurd hw (S1.there w (by rw [u]; simp))
        · intro u
          subst u
          rw [hP] at hw
          cases hw
      | false =>
        refine pa_imp (pa_cons ((sound (z := z) a).e X x hk h2) hr (star_of h1 _)) fun σ H Q ⟨e, F, ds, e', R, h, q⟩ => ?_
        obtain ⟨d, e1, ts, g1, g2, rfl⟩ := ev_cons h
        refine ⟨e, F, d, e1, R, g1, fun v F1 H1 R1 S1 dp => ⟨e1, F1, ts, e', R1, g2, fun vs F2 H2 R2 S2 fr => q (v :: vs) F2 H2 R2 (S1.trans S2) ⟨dp_mono S2.fs dp, fr.mono fun w hw => ?_⟩⟩⟩
        show H w = none
        cases u : H w with
        | none => rfl
        | some o => exact absurd hw (S1.there w (by rw [u]; simp))
    · cases h
end
end Iv
end
section
set_option Elab.async false
set_option linter.all false
set_option maxRecDepth 100000
set_option maxHeartbeats 2000000
/-! Statements. -/
namespace Iv
open PySem PySem.Spec PyProof.Rows L2
structure SOk (C : Cc) (Φ : Fn) (k : Nat) (X : Cx) : Prop where
  ok : COk C Φ k X
  kind : X.env.scope.kind = .function
  fnT : X.fn = fun _ => true
  ps : PassesOwn (model X.prog X.w) X.A X.env X.xe
section
variable {X : Cx}
theorem blockKind_of {env : Env} (hk : env.scope.kind = .function) : env.blockKind = .function := by unfold Env.blockKind; rw [hk]; rfl
theorem sw_of {tg e : Expr} {line : Nat} {env : Env} (hk : env.scope.kind = .function) (h : notSD e = true) : swapsWithSole [tg] e line env = pure (swB env.scope tg e) := by
  show swapsWith e (some tg) line env = _
  unfold swapsWith swB
  cases e <;> first | (cases h; done) | (cases tg <;> rfl) | skip
  rename_i elt gens sc pos
  cases tg <;> first | rfl | skip
  rename_i y py
  have hb := blockKind_of hk
  show (pure (env.blockKind == .function && env.kindOf y == some .local && py.line == pos.line && !(sc.names.any fun (n, k) => n == y && (k == .local || k == .cell))) : Sem Bool) = _
  rw [hb]
  rfl
theorem swN_of {e : Expr} {line : Nat} {env : Env} (h : notComp e = true) : swapsWith e none line env = pure false := by
  unfold swapsWith
  cases e <;> first | (cases h; done) | rfl
theorem swap_none {tg e : Expr} {env : Env} (h : (noTup tg || noTupV e) = true) : swappedStores [tg] e env = pure none := by
  unfold swappedStores
  cases tg <;> cases e <;> first | rfl | (cases h; done)
theorem stores_one {tg : Expr} {env : Env} (h : notStar tg = true) : (assignEach [tg] env).map (·.2) = [assign tg env] := by
  cases tg <;> first | rfl | cases h
theorem any_star : ∀ {vs : List Expr}, vs.all notStar = true → (vs.any fun | .Starred .. => true | _ => false) = false
  | [], _ => rfl
  | e :: r, h => by
    rw [List.all_cons, Bool.and_eq_true] at h
    rw [List.any_cons, any_star h.2]
    cases e <;> first | rfl | (cases h.1)
theorem swap_2 {x y : Str} {px py p2 p3 : Pos} {a1 a2 : Nat} {vs : List Expr} {env : Env} (hk : env.scope.kind = .function) (h : swYes env.scope [.Name x px, .Name y py] vs = true) :
    swappedStores [.Tuple [.Name x px, .Name y py] a1 p2] (.Tuple vs a2 p3) env = pure (some [x, y]) := by
  simp only [swYes, Bool.and_eq_true] at h
  obtain ⟨⟨⟨⟨⟨⟨⟨h1, h2⟩, h3⟩, h4⟩, h5⟩, h6⟩, h7⟩, h8⟩ := h
  have e1 := of_decide_eq_true h1
  have e3 := of_decide_eq_true h3
  have e4 := of_decide_eq_true h4
  unfold swappedStores
  simp only [e1, blockKind_of hk]
  rw [if_neg (by simp)]
  show (if (vs.any fun | .Starred .. => true | _ => false) = true then _ else if ((nmsOf env.scope [Expr.Name x px, Expr.Name y py]).length != ([Expr.Name x px, Expr.Name y py]).length || (nmsOf env.scope [Expr.Name x px, Expr.Name y py]).eraseDups.length != (nmsOf env.scope [Expr.Name x px, Expr.Name y py]).length) = true then _ else if _ then _ else if _ then _ else pure (some (nmsOf env.scope [Expr.Name x px, Expr.Name y py]))) = _
  rw [any_star h2, e3]
  rw [if_neg Bool.false_ne_true, if_neg (by rw [e4]; simp), if_neg (by simpa using h5), if_neg (by simpa using h6)]
theorem swap_3 {x y w : Str} {px py pw p2 p3 : Pos} {a1 a2 : Nat} {vs : List Expr} {env : Env} (hk : env.scope.kind = .function) (h : swYes env.scope [.Name x px, .Name y py, .Name w pw] vs = true) :
    swappedStores [.Tuple [.Name x px, .Name y py, .Name w pw] a1 p2] (.Tuple vs a2 p3) env = pure (some [x, y, w]) := by
  simp only [swYes, Bool.and_eq_true] at h
  obtain ⟨⟨⟨⟨⟨⟨⟨⟨h1, h2⟩, h3⟩, h4⟩, h5⟩, h6⟩, h7⟩, h8⟩, h9⟩ := h
  have e1 := of_decide_eq_true h1
  have e3 := of_decide_eq_true h3
  have e4 := of_decide_eq_true h4
  unfold swappedStores
  simp only [e1, blockKind_of hk]
  rw [if_neg (by simp)]
  show (if (vs.any fun | .Starred .. => true | _ => false) = true then _ else if ((nmsOf env.scope [Expr.Name x px, Expr.Name y py, Expr.Name w pw]).length != ([Expr.Name x px, Expr.Name y py, Expr.Name w pw]).length || (nmsOf env.scope [Expr.Name x px, Expr.Name y py, Expr.Name w pw]).eraseDups.length != (nmsOf env.scope [Expr.Name x px, Expr.Name y py, Expr.Name w pw]).length) = true then _ else if _ then _ else if _ then _ else pure (some (nmsOf env.scope [Expr.Name x px, Expr.Name y py, Expr.Name w pw]))) = _
  rw [any_star h2, e3]
  rw [if_neg Bool.false_ne_true, if_neg (by rw [e4]; simp), if_neg (by simpa using h5), if_neg (by simpa using h6)]
theorem swap_no {ts vs : List Expr} {p2 p3 : Pos} {a1 a2 : Nat} {env : Env} (hk : env.scope.kind = .function) (h : swNo env.scope ts vs = true) :
    swappedStores [.Tuple ts a1 p2] (.Tuple vs a2 p3) env = pure none := by
  simp only [swNo, Bool.and_eq_true] at h
  obtain ⟨⟨h1, h2⟩, h3⟩ := h
  unfold swappedStores
  show (if _ then _ else if (vs.any fun | .Starred .. => true | _ => false) = true then _ else if ((nmsOf env.scope ts).length != ts.length || (nmsOf env.scope ts).eraseDups.length != (nmsOf env.scope ts).length) = true then _ else if _ then _ else if _ then _ else pure (some (nmsOf env.scope ts))) = _
  split
  · rfl
  · rw [any_star h1, if_neg Bool.false_ne_true]
    rcases Bool.or_eq_true _ _ ▸ h2 with h2 | h2
    · have e2 := of_decide_eq_true h2
      rw [if_pos (by simp [e2])]
    · split
      · rfl
      · rfl
/-! ### what stands at a name -/
end
section
variable {K : PySem.W.Frag} {z : L2.St} {e : Ev} {σ : L2.St} {F H : Hp}
theorem own_get {i : Nat} {fz : Bool} {ds : List D} (R : Rel K z e σ F H) (h : ownAt e i = some (fz, ds)) : ∃ p us, e[i]? = some (.own fz ds) ∧ σ[i]? = some (some (.ref p)) ∧ H p = some (.lst us) ∧ F p = none ∧ DpAll K F us ds := by
  unfold ownAt at h
  split at h
  · rename_i fz' ds' h1
    cases h
    obtain ⟨p, us, g1, g2, g3, g4⟩ := R.own i _ _ h1
    exact ⟨p, us, h1, g1, g2, g3, g4⟩
  · cases h
theorem setat_get {i : Nat} {k v : D} {e2 : Ev} (R : Rel K z e σ F H) (h : setAt e i k v = some e2) : ∃ fz ds p us n j, e[i]? = some (.own fz ds) ∧ σ[i]? = some (some (.ref p)) ∧ H p = some (.lst us) ∧ F p = none ∧ DpAll K F us ds ∧ k = .int n ∧ ixN us.length n = some j ∧ e2 = e.set i (.own fz (ds.set j v)) := by
  unfold setAt at h
  split at h
  · rename_i fz ds n h1
    obtain ⟨p, us, g1, g2, g3, g4, g5⟩ := own_get R h1
    split at h
    · rename_i j h2
      cases h
      exact ⟨fz, ds, p, us, n, j, g1, g2, g3, g4, g5, rfl, by rw [dps_len g5]; exact h2, rfl⟩
    · cases h
  · cases h
theorem StpS.putOwn {e1 : Ev} {σ1 : L2.St} {F1 H1 : Hp} {i : Nat} {p : Addr} {ds : List D} (S : StpS e σ F H e1 σ1 F1 H1) (hp : H p = none) : StpS e σ F H (e1.set i (.own true ds)) (σ1.set i (some (.ref p))) F1 H1 := by
  refine ⟨S.fs, S.keep, S.there, S.new, fun b hb => ?_, fun b hb => ?_, S.nf⟩
  · rcases ownAt_putOwn hb with w | ⟨w, _⟩
    · exact S.owT b w
    · subst w; exact .inr hp
  · rcases ownAt_putOwn hb with w | ⟨_, w⟩
    · exact S.owF b w
    · cases w
theorem gNames_set : ∀ {is : List Nat} {vs : List V} {σ : L2.St} {H : Hp} {Q : L2.St → Hp → Prop}, is.length = vs.length → Q (setVs σ is vs) H → gNames is vs σ H Q
  | [], [], σ, H, Q, _, q => ⟨rfl, q⟩
  | i :: is, v :: vs, σ, H, Q, h, q => ⟨v, vs, rfl, gNames_set (is := is) (vs := vs) (Nat.succ.inj h) q⟩
  | [], _ :: _, _, _, _, h, _ => by cases h
  | _ :: _, [], _, _, _, h, _ => by cases h
end
section
variable {C : Cc} {Φ : Fn} {k : Nat} {X : Cx} {z : L2.St} {fr : Bool}
theorem loc_ok (hs : SOk C Φ k X) : ∀ x, locB X.env.scope x = true → Loc X.env.scope x ∧ (X.fn x = true ∨ X.env.scope.names.lookup x = some .local) := fun x h => by
  refine ⟨?_, .inl (by rw [hs.fnT])⟩
  unfold locB at h
  split at h
  · rename_i h1; exact .inl h1
  · rename_i h1; exact .inr h1
  · cases h
/-- a list fresh is stored at a name -/
theorem ps_F (hs : SOk C Φ k X) {i : Nat} {t : Ex} {y : Str} {p pos : Pos} {e : Expr} (hN : C.N[i]? = some y) (hl : locB X.env.scope y = true) (hc : chk C t X.env.scope e = true) (hf : isF t = true) (hn : notSD e = true) :
    PS X (.Assign [.Name y p] e pos) (tAsg (SemF Φ X.K z t) (gName i)) := by
  have pg : PG X (.Name y p) (gName i) := by
    obtain ⟨h1, h2⟩ := loc_ok hs y hl
    exact pg_name (by rw [hs.ok.N]; exact hs.ok.nd) (by rw [hs.ok.N]; exact hN) h1 h2
  cases sw : swB X.env.scope (.Name y p) e with
  | false => exact ps_asg (F_of hf X e hs.ok hc) pg (by rw [sw_of hs.kind hn, sw]) (swap_none rfl) (stores_one rfl)
  | true =>
    unfold swB at sw
    split at sw
    · rename_i y' py elt gens s p' e1
      cases e1
      cases t <;> first | (cases hf; done) | (rename_i m a b; cases m <;> first | (simp [chk] at hc; done) | (cases a <;> simp [chk] at hc; done)) | (rename_i b a; cases b <;> first | (cases hf; done) | (simp [chk] at hc; done)) | (simp [chk] at hc; done) | skip
      obtain ⟨elt', tg, iter, ifs, scope, pos', e2, L⟩ := lc_ok hs.ok (sound _) (sound _) (sound _) (sound _) hc
      cases e2
      refine fp_lc hs.ok.calm (by rw [hs.ok.N]; exact hs.ok.nd) (by rw [hs.ok.N]; exact hN) ?_ ?_ L.it L.ok L.ixs L.tg L.ts L.el L.fs
      · simp only [Bool.and_eq_true] at sw
        simpa using sw.1.1
      · have := sw_of (tg := .Name y p) (line := pos.line) hs.kind hn
        rw [show swapsWithSole [.Name y p] (.ListComp elt [⟨tg, iter, ifs, 0⟩] s p') pos.line X.env = swapsWith (.ListComp elt [⟨tg, iter, ifs, 0⟩] s p') (some (.Name y p)) pos.line X.env from rfl] at this
        rw [this]
        exact congrArg pure sw
    · cases sw
theorem S_asg (hs : SOk C Φ k X) {g : Tg} {x : Ex} {st : Stmt} (h : chkS C fr (.asg g x) X.env.scope st = true) : PS X st (SemS Φ X.K z fr (.asg g x)) := by
  simp only [chkS] at h
  split at h
  · rename_i tg e pos
    simp only [Bool.and_eq_true] at h
    obtain ⟨⟨⟨⟨h1, h2⟩, h3⟩, h4⟩, h5⟩ := h
    have key : ∀ {D σ H}, SemS Φ X.K z fr (.asg g x) D σ H → tAsg (SemE Φ X.K z x) (tgG X.K g) D σ H := by
      rintro D σ H ⟨e, F, o, R, he, q⟩
      simp only [exs] at he
      split at he
      · rename_i d e1 h6
        split at he
        · obtain ⟨e2, h7, rfl⟩ := Option.map_eq_some_iff.mp he
          exact ⟨e, F, d, e1, R, h6, fun v F1 H1 R1 S1 dp => tgG_ok R1 dp h7 fun σ' R' S' _ _ => q σ' F1 H1 R' (S1.up.trans S'.up)⟩
        · cases he
      · cases he
    have pg := tg_ok hs.ok.N hs.ok.nd hs.ok.calm (loc_ok hs) h1
    cases sw : swB X.env.scope tg e with
    | false =>
      refine ps_imp (ps_asg ((sound x).e X e hs.ok h2) pg (by rw [sw_of hs.kind h3, sw]) (swap_none h4) (stores_one ?_)) fun D σ H h => key h
      unfold tgB at h1
      split at h1 <;> first | rfl | cases h1
    | true =>
      rw [sw] at h5
      have hf : isF x = true := by simpa using h5
      unfold tgB at h1
      split at h1
      · rename_i i y py
        rw [Bool.and_eq_true] at h1
        refine ps_imp (ps_F (z := z) hs (of_decide_eq_true h1.1) h1.2 h2 hf h3) fun D σ H h => ?_
        obtain ⟨e, F, d, e', R, he, q⟩ := key h
        obtain ⟨ds, rfl⟩ := listy hf e d e' he
        refine ⟨e, F, ds, e', R, he, fun p us F' H' R' S' hp hP hF dp => ?_⟩
        have m : Same F' (upd F' p (.lst us)) := Same.fresh hF
        refine q (.ref p) (upd F' p (.lst us)) H' (R'.know hP hF (S'.noOwn R hp)) ⟨S'.fs.trans m, S'.keep, S'.there, fun b hb => ?_, S'.owT, S'.owF, nf_upd S'.nf⟩ (.lst (.inl (.inl upd_same)) (dps_mono m dp))
        by_cases e1 : b = p
        · subst e1
          exact .inr (.inl hp)
        · rw [upd_ne e1] at hb
          exact S'.new b hb
      · unfold swB at sw
        cases sw
      · cases h1
  · cases h
theorem S_aso (hs : SOk C Φ k X) {i : Nat} {x : Ex} {st : Stmt} (h : chkS C fr (.aso i x) X.env.scope st = true) : PS X st (SemS Φ X.K z fr (.aso i x)) := by
  simp only [chkS] at h
  split at h
  · rename_i y p e pos
    simp only [Bool.and_eq_true] at h
    obtain ⟨⟨⟨⟨h1, h2⟩, h3⟩, h4⟩, h5⟩ := h
    refine ps_imp (ps_F (z := z) hs (of_decide_eq_true h1) h2 h3 h4 h5) fun D σ H ⟨e, F, o, R, he, q⟩ => ?_
    simp only [exs] at he
    split at he
    · rename_i ds e1 h6
      split at he
      · cases he
        refine ⟨e, F, ds, e1, R, h6, fun p us F1 H1 R1 S1 hp hP hF dp => ?_⟩
        have no := S1.noOwn R hp
        exact q _ F1 H1 (R1.putOwn hP hF dp no) (S1.up.putOwn hp)
      · cases he
    · cases he
  · cases h
theorem setVs_len : ∀ {is : List Nat} {vs : List V} {σ : L2.St}, (setVs σ is vs).length = σ.length
  | [], _, _ => rfl
  | i :: is, [], _ => rfl
  | i :: is, v :: vs, σ => by
    show (setVs (σ.set i (some v)) is vs).length = _
    rw [setVs_len, List.length_set]
theorem nodup2 {i j : Nat} (h : nodupB [i, j] = true) : i ≠ j := by
  intro e
  subst e
  simp [nodupB] at h
theorem nodup3 {i j l : Nat} (h : nodupB [i, j, l] = true) : i ≠ j ∧ i ≠ l ∧ j ≠ l := by
  refine ⟨fun e => ?_, fun e => ?_, fun e => ?_⟩ <;> (subst e; simp [nodupB] at h)
theorem tgs_of {ok : Str → Bool} {is : List Nat} {ts : List Expr} {a1 : Nat} {a2 : Pos} (h : tgB C ok (.tp is) (.Tuple ts a1 a2) = true) : is.length = ts.length ∧ ((is.zip ts).all fun p => match p.2 with
      | .Name x _ => decide (C.N[p.1]? = some x) && ok x
      | _ => false) = true := by
  unfold tgB at h
  rw [Bool.and_eq_true] at h
  exact ⟨of_decide_eq_true h.1, h.2⟩
theorem S_asp (hs : SOk C Φ k X) {is : List Nat} {os : List Bool} {as : Ex} {st : Stmt} (h : chkS C fr (.asp is os as) X.env.scope st = true) : PS X st (SemS Φ X.K z fr (.asp is os as)) := by
  simp only [chkS] at h
  split at h
  · rename_i ts t1 t2 vs u1 u2 pos
    simp only [Bool.and_eq_true, Bool.or_eq_true] at h
    obtain ⟨⟨⟨h1, h2⟩, h3⟩, h4⟩ := h
    have pa := p_acons (z := z) hs.ok h3
    have key : ∀ {D σ H}, SemS Φ X.K z fr (.asp is os as) D σ H → SemAP Φ X.K z os as σ H fun ws H1 => is.length = ws.length ∧ ws.length ≤ sizeLine ∧ D.nx (setVs σ is ws) H1 ∧ ∀ p o, H1 p = none → D.nx (setVs σ is ws) (upd H1 p o) := by
      rintro D σ H ⟨e, F, o, R, he, q⟩
      simp only [exs] at he
      split at he
      · rename_i ds e1 h6
        obtain ⟨e2, h7, rfl⟩ := Option.map_eq_some_iff.mp he
        refine ⟨e, F, ds, e1, R, h6, fun ws F1 H1 R1 S1 f => ?_⟩
        obtain ⟨q1, q2, q3, q4⟩ := put_ok R1 f (fun w hw => S1.noOwn R hw) h7
        have S2 : StpS e σ F H e2 (setVs σ is ws) F1 H1 := ⟨S1.fs, S1.keep, S1.there, S1.new, fun b hb => by
          rcases q2 b hb with w | w
          · exact .inl (S1.owT b w)
          · exact .inr w, fun b hb => S1.owF b (q3 b hb), S1.nf⟩
        refine ⟨q4, ?_, q _ F1 H1 q1 S2, fun p o hp => q _ F1 _ (q1.newH hp) (S2.trans (Stp.newH hp).up)⟩
        rw [← q4]
        have l1 := (tgs_of h1).1
        rcases h4 with h4 | h4
        · rw [l1]
          unfold swYes at h4
          split at h4
          · show 2 ≤ sizeLine; decide
          · show 3 ≤ sizeLine; decide
          · cases h4
        · rw [l1]
          simp only [swNo, Bool.and_eq_true] at h4
          exact Nat.le_trans (of_decide_eq_true h4.2) (by decide)
      · cases he
    rcases h4 with h4 | h4
    · obtain ⟨l1, l2⟩ := tgs_of h1
      have h5 := h4
      unfold swYes at h5
      split at h5
      · rename_i x px y py
        simp only [Bool.and_eq_true] at h5
        obtain ⟨⟨⟨⟨⟨⟨⟨g1, _⟩, _⟩, _⟩, _⟩, _⟩, g2⟩, g3⟩ := h5
        match is, l1 with
        | [i, j], _ =>
          match vs, of_decide_eq_true g1 with
          | [a, b], _ =>
            simp only [List.zip_cons_cons, List.zip_nil_right, List.all_cons, List.all_nil, Bool.and_eq_true] at l2
            refine ps_imp (ps_par hs.ok.calm (by rw [hs.ok.N]; exact hs.ok.nd) (by rw [hs.ok.N]; exact of_decide_eq_true l2.1.1) (by rw [hs.ok.N]; exact of_decide_eq_true l2.2.1.1) (nodup2 h2) (of_decide_eq_true g2) (of_decide_eq_true g3) pa (swap_2 hs.kind h4) rfl) fun D σ H h => ?_
            obtain ⟨e, F, ds, e', R, he, q⟩ := key h
            refine ⟨e, F, ds, e', R, he, fun ws F1 H1 R1 S1 f => ?_⟩
            obtain ⟨k1, k2, k3, _⟩ := q ws F1 H1 R1 S1 f
            match ws, k1, k3 with
            | [v, w], _, k3 => exact ⟨v, w, rfl, k3⟩
      · rename_i x px y py w pw
        simp only [Bool.and_eq_true] at h5
        obtain ⟨⟨⟨⟨⟨⟨⟨⟨g1, _⟩, _⟩, _⟩, _⟩, _⟩, g2⟩, g3⟩, g4⟩ := h5
        match is, l1 with
        | [i, j, l], _ =>
          match vs, of_decide_eq_true g1 with
          | [a, b, c], _ =>
            simp only [List.zip_cons_cons, List.zip_nil_right, List.all_cons, List.all_nil, Bool.and_eq_true] at l2
            obtain ⟨n1, n2, n3⟩ := nodup3 h2
            refine ps_imp (ps_par3 hs.ok.calm (by rw [hs.ok.N]; exact hs.ok.nd) (by rw [hs.ok.N]; exact of_decide_eq_true l2.1.1) (by rw [hs.ok.N]; exact of_decide_eq_true l2.2.1.1) (by rw [hs.ok.N]; exact of_decide_eq_true l2.2.2.1.1) n1 n2 n3 (of_decide_eq_true g2) (of_decide_eq_true g3) (of_decide_eq_true g4) pa (swap_3 hs.kind h4) rfl) fun D σ H h => ?_
            obtain ⟨e, F, ds, e', R, he, q⟩ := key h
            refine ⟨e, F, ds, e', R, he, fun ws F1 H1 R1 S1 f => ?_⟩
            obtain ⟨k1, k2, k3, _⟩ := q ws F1 H1 R1 S1 f
            match ws, k1, k3 with
            | [v, w, t], _, k3 => exact ⟨v, w, t, rfl, k3⟩
      · cases h5
    · have pg := tg_ok hs.ok.N hs.ok.nd hs.ok.calm (loc_ok hs) h1
      refine ps_imp (ps_asg (pe_tup pa) pg rfl (swap_no hs.kind h4) rfl) fun D σ H h => ?_
      obtain ⟨e, F, ds, e', R, he, q⟩ := key h
      refine ⟨e, F, ds, e', R, he, fun ws F1 H1 R1 S1 f => ?_⟩
      obtain ⟨k1, k2, _, k3⟩ := q ws F1 H1 R1 S1 f
      refine ⟨k2, fun p hp => ⟨p, ws, rfl, .inl (.inl upd_same), k1.symm, gNames_set k1 (k3 p _ hp)⟩⟩
  · cases h
theorem loc_own {i : Nat} {K : PySem.W.Frag} {e : Ev} {σ : L2.St} {F H : Hp} (R : Rel K z e σ F H) (h : (ownAt e i).isSome = true) : ∃ p us, σ[i]? = some (some (.ref p)) ∧ H p = some (.lst us) := by
  cases q : ownAt e i with
  | none => rw [q] at h; cases h
  | some w =>
    obtain ⟨fz, ds⟩ := w
    obtain ⟨p, us, _, g2, g3, _⟩ := own_get R q
    exact ⟨p, us, g2, g3⟩
theorem S_sub (hs : SOk C Φ k X) {i : Nat} {kx x : Ex} {st : Stmt} (h : chkS C fr (.sub i kx x) X.env.scope st = true) : PS X st (SemS Φ X.K z fr (.sub i kx x)) := by
  simp only [chkS] at h
  split at h
  · rename_i a p1 ke p2 e pos
    simp only [Bool.and_eq_true] at h
    obtain ⟨⟨⟨⟨h1, h2⟩, h3⟩, h4⟩, h5⟩ := h
    obtain ⟨g1, g2, g3, g4⟩ := nm_of hs.ok h1
    have pg : PG X (.Subscript (.Name a p1) ke p2) (gSub (tVar i) (SemE Φ X.K z kx) rSetL) := pg_sub (pe_var g1 g2 g3 g4) ((sound kx).e X ke hs.ok h3) set_list (fun v => by cases ke <;> first | rfl | cases h2)
    refine ps_imp (ps_asg ((sound (z := z) x).e X e hs.ok h4) pg (by rw [sw_of hs.kind h5]; rfl) (swap_none rfl) rfl) fun D σ H ⟨e, F, o, R, he, q⟩ => ?_
    simp only [exs] at he
    split at he
    · rename_i d e1 h6
      split at he
      · rename_i ho
        split at he
        · rename_i n e2 h7
          obtain ⟨e3, h8, rfl⟩ := Option.map_eq_some_iff.mp he
          refine ⟨e, F, d, e1, R, h6, fun v F1 H1 R1 S1 dp => ?_⟩
          obtain ⟨w, us0, hw, _⟩ := loc_own R1 ho
          refine ⟨_, hw, e1, F1, n, e2, R1, h7, fun nv F2 H2 R2 S2 dn => ?_⟩
          obtain ⟨fz, ds, p, us, m, j, k1, k2, k3, k4, k5, rfl, k6, rfl⟩ := setat_get R2 h8
          rw [hw] at k2
          cases k2
          cases dn
          refine ⟨_, us, m, j, rfl, rfl, k3, k6, ?_⟩
          exact q _ F2 _ (R2.upd k1 hw (dps_set (dp_mono S2.fs dp) j k5)) ((S1.trans S2).up.trans (StpS.upd R2 k1 hw))
        · cases he
      · cases he
    · cases he
  · cases h
theorem S_ast (hs : SOk C Φ k X) {i j : Nat} {kx x : Ex} {st : Stmt} (h : chkS C fr (.ast i kx j x) X.env.scope st = true) : PS X st (SemS Φ X.K z fr (.ast i kx j x)) := by
  simp only [chkS] at h
  split at h
  · rename_i a p1 ke p2 b p3 t1 t2 e pos
    simp only [Bool.and_eq_true] at h
    obtain ⟨⟨⟨⟨⟨⟨⟨h1, h2⟩, h3⟩, h4⟩, h5⟩, h6⟩, h7⟩, h8⟩ := h
    obtain ⟨g1, g2, g3, g4⟩ := nm_of hs.ok h1
    have pg : PG X (.Subscript (.Name a p1) ke p2) (gSub (tVar i) (SemE Φ X.K z kx) rSetL) := pg_sub (pe_var g1 g2 g3 g4) ((sound kx).e X ke hs.ok h3) set_list (fun v => by cases ke <;> first | rfl | cases h2)
    have pn : PG X (.Name b p3) (gName j) := by
      obtain ⟨k1, k2⟩ := loc_ok hs b h5
      exact pg_name (by rw [hs.ok.N]; exact hs.ok.nd) (by rw [hs.ok.N]; exact of_decide_eq_true h4) k1 k2
    have pt : PG X (.Tuple [.Subscript (.Name a p1) ke p2, .Name b p3] t1 t2) (gTup X.K 2 (gCons (gSub (tVar i) (SemE Φ X.K z kx) rSetL) (gCons (gName j) gNil))) := pg_tup hs.ok.calm (pgs_cons pg (pgs_cons pn pgs_nil rfl) rfl) rfl rfl
    refine ps_imp (ps_asg ((sound (z := z) x).e X e hs.ok h6) pt (by rw [sw_of hs.kind h7]; rfl) (swap_none (by rw [h8]; rfl)) rfl) fun D σ H ⟨e, F, o, R, he, q⟩ => ?_
    simp only [exs] at he
    split at he
    · rename_i d1 d2 e1 h6
      split at he
      · rename_i ho
        split at he
        · rename_i n e2 h7
          split at he
          · rename_i e3 h8
            split at he
            · cases he
              refine ⟨e, F, _, e1, R, h6, fun v F1 H1 R1 S1 dp => ?_⟩
              obtain ⟨w, us0, hw, _⟩ := loc_own R1 ho
              cases dp with
              | tup q1 q2 =>
                rename_i ta tvs
                cases q2 with
                | cons dp1 q2 =>
                  cases q2 with
                  | cons dp2 q2 =>
                    cases q2
                    rename_i v1 v2
                    refine ⟨ta, [v1, v2], rfl, same_t R1.sub q1, rfl, v1, [v2], rfl, ?_⟩
                    refine ⟨_, hw, e1, F1, n, e2, R1, h7, fun nv F2 H2 R2 S2 dn => ?_⟩
                    obtain ⟨fz, ds, p, us, m, jj, k1, k2, k3, k4, k5, rfl, k6, rfl⟩ := setat_get R2 h8
                    rw [hw] at k2
                    cases k2
                    cases dn
                    refine ⟨_, us, m, jj, rfl, rfl, k3, k6, v2, [], rfl, ?_⟩
                    have R3 := R2.upd k1 hw (dps_set (dp_mono S2.fs dp1) jj k5)
                    have S3 := (S1.trans S2).up.trans (StpS.upd (us := us.set jj v1) (ds := ds.set jj d1) R2 k1 hw)
                    exact ⟨rfl, q _ F2 _ (R3.put (i := j) (dp_mono S2.fs dp2)) (S3.trans (Stp.of_own fun fz b => ownAt_put).up)⟩
            · cases he
          · cases he
        · cases he
      · cases he
    · cases he
  · cases h
theorem S_sw2 (hs : SOk C Φ k X) {i j : Nat} {kx lx x : Ex} {st : Stmt} (h : chkS C fr (.sw2 i kx j lx x) X.env.scope st = true) : PS X st (SemS Φ X.K z fr (.sw2 i kx j lx x)) := by
  simp only [chkS] at h
  split at h
  · rename_i a p1 ke p2 b p3 le p4 t1 t2 e pos
    simp only [Bool.and_eq_true] at h
    obtain ⟨⟨⟨⟨⟨⟨⟨⟨h1, h2⟩, h3⟩, h4⟩, h5⟩, h6⟩, h7⟩, h8⟩, h9⟩ := h
    obtain ⟨g1, g2, g3, g4⟩ := nm_of hs.ok h1
    obtain ⟨g1', g2', g3', g4'⟩ := nm_of hs.ok h4
    have pg : PG X (.Subscript (.Name a p1) ke p2) (gSub (tVar i) (SemE Φ X.K z kx) rSetL) := pg_sub (pe_var g1 g2 g3 g4) ((sound kx).e X ke hs.ok h3) set_list (fun v => by cases ke <;> first | rfl | cases h2)
    have pg2 : PG X (.Subscript (.Name b p3) le p4) (gSub (tVar j) (SemE Φ X.K z lx) rSetL) := pg_sub (pe_var g1' g2' g3' g4') ((sound lx).e X le hs.ok h6) set_list (fun v => by cases le <;> first | rfl | cases h5)
    have pt : PG X (.Tuple [.Subscript (.Name a p1) ke p2, .Subscript (.Name b p3) le p4] t1 t2) (gTup X.K 2 (gCons (gSub (tVar i) (SemE Φ X.K z kx) rSetL) (gCons (gSub (tVar j) (SemE Φ X.K z lx) rSetL) gNil))) := pg_tup hs.ok.calm (pgs_cons pg (pgs_cons pg2 pgs_nil rfl) rfl) rfl rfl
    have sw : swappedStores [.Tuple [.Subscript (.Name a p1) ke p2, .Subscript (.Name b p3) le p4] t1 t2] e X.env = pure none := by
      cases e with
      | Tuple vs u1 u2 => exact swap_no hs.kind h9
      | _ => exact swap_none rfl
    refine ps_imp (ps_asg ((sound (z := z) x).e X e hs.ok h7) pt (by rw [sw_of hs.kind h8]; rfl) sw rfl) fun D σ H ⟨e, F, o, R, he, q⟩ => ?_
    simp only [exs] at he
    split at he
    · rename_i d1 d2 e1 h6
      split at he
      · rename_i ho
        split at he
        · rename_i n e2 h7
          split at he
          · rename_i e3 h8
            split at he
            · rename_i ho2
              split at he
              · rename_i m e4 h10
                obtain ⟨e5, h11, rfl⟩ := Option.map_eq_some_iff.mp he
                refine ⟨e, F, _, e1, R, h6, fun v F1 H1 R1 S1 dp => ?_⟩
                obtain ⟨w, us0, hw, _⟩ := loc_own R1 ho
                cases dp with
                | tup q1 q2 =>
                  rename_i ta tvs
                  cases q2 with
                  | cons dp1 q2 =>
                    cases q2 with
                    | cons dp2 q2 =>
                      cases q2
                      rename_i v1 v2
                      refine ⟨ta, [v1, v2], rfl, same_t R1.sub q1, rfl, v1, [v2], rfl, ?_⟩
                      refine ⟨_, hw, e1, F1, n, e2, R1, h7, fun nv F2 H2 R2 S2 dn => ?_⟩
                      obtain ⟨fz, ds, p, us, m1, jj, k1, k2, k3, k4, k5, rfl, k6, rfl⟩ := setat_get R2 h8
                      rw [hw] at k2
                      cases k2
                      cases dn
                      refine ⟨_, us, m1, jj, rfl, rfl, k3, k6, v2, [], rfl, ?_⟩
                      have R3 := R2.upd k1 hw (dps_set (dp_mono S2.fs dp1) jj k5)
                      have S3 := (S1.trans S2).up.trans (StpS.upd (us := us.set jj v1) (ds := ds.set jj d1) R2 k1 hw)
                      obtain ⟨w2, us2, hw2, _⟩ := loc_own R3 ho2
                      refine ⟨_, hw2, _, F2, m, e4, R3, h10, fun nv2 F4 H4 R4 S4 dn2 => ?_⟩
                      obtain ⟨fz', ds', p', us', m2, j2, l1, l2, l3, l4, l5, rfl, l6, rfl⟩ := setat_get R4 h11
                      rw [hw2] at l2
                      cases l2
                      cases dn2
                      refine ⟨_, us', m2, j2, rfl, rfl, l3, l6, ?_⟩
                      exact ⟨rfl, q _ F4 _ (R4.upd l1 hw2 (dps_set (dp_mono S4.fs (dp_mono S2.fs dp2)) j2 l5)) ((S3.trans S4.up).trans (StpS.upd R4 l1 hw2))⟩
              · cases he
            · cases he
          · cases he
        · cases he
      · cases he
    · cases he
  · cases h
/-! ### lists that are changed, and not seen again -/
def tVars : List Nat → TA
  | [] => tNil
  | j :: js => tCons (tVar j) (tVars js)
theorem vars_ok : ∀ {js : List Nat} {σ : L2.St} {H : Hp} {Q : List V → Hp → Prop}, (∀ j ∈ js, ∃ v, σ[j]? = some (some v)) → (∀ vs, vs.length = js.length → (∀ k j : Nat, js[k]? = some j → ∃ v, vs[k]? = some v ∧ σ[j]? = some (some v)) → Q vs H) → tVars js σ H Q
  | [], σ, H, Q, _, q => q [] rfl fun k j h => by cases h
  | j :: js, σ, H, Q, h, q => by
    obtain ⟨v, hv⟩ := h j List.mem_cons_self
    refine ⟨v, hv, vars_ok (fun j' hj => h j' (List.mem_cons_of_mem _ hj)) fun vs hl hk => q (v :: vs) (by rw [List.length_cons, List.length_cons, hl]) fun k j' hj => ?_⟩
    cases k with
    | zero => cases hj; exact ⟨v, rfl, hv⟩
    | succ k => exact hk k j' hj
theorem kill_pa (hs : SOk C Φ k X) : ∀ {js : List Nat} {es : List Expr}, killB C X.env.scope js es = true → PA X es (tVars js)
  | [], [], _ => pa_nil
  | j :: js, e :: es, h => by
    unfold killB at h
    rw [Bool.and_eq_true] at h
    obtain ⟨h1, h2⟩ := h
    split at h1
    · obtain ⟨g1, g2, g3, g4⟩ := nm_of hs.ok h1
      exact pa_cons (pe_var g1 g2 g3 g4) (kill_pa hs h2) rfl
    · cases h1
  | [], _ :: _, h => by cases h
  | _ :: _, [], h => by cases h
theorem Rel.setU {K : PySem.W.Frag} {e : Ev} {σ : L2.St} {F H : Hp} (R : Rel K z e σ F H) (i : Nat) (o : Option V) : Rel K z (e.set i .un) (σ.set i o) F H where
  len := by rw [List.length_set, List.length_set]; exact R.len
  sub := R.sub
  sh := fun j d h => by
    rcases get_set h with ⟨_, h2, _⟩ | ⟨n, h2⟩
    · cases h2
    · rw [List.getElem?_set_ne (fun q => n q.symm)]
      exact R.sh j d h2
  own := fun j fz xs h => by
    rcases get_set h with ⟨_, h2, _⟩ | ⟨n, h2⟩
    · cases h2
    · rw [List.getElem?_set_ne (fun q => n q.symm)]
      exact R.own j fz xs h2
  inj := fun j j' f f' xs xs' a h h' g g' => by
    rcases get_set h with ⟨_, h2, _⟩ | ⟨n, h2⟩
    · cases h2
    · rcases get_set h' with ⟨_, k2, _⟩ | ⟨n', k2⟩
      · cases k2
      · rw [List.getElem?_set_ne (fun q => n q.symm)] at g
        rw [List.getElem?_set_ne (fun q => n' q.symm)] at g'
        exact R.inj j j' f f' xs xs' a h2 k2 g g'
  io := fun j xs h => by
    rcases get_set h with ⟨_, h2, _⟩ | ⟨n, h2⟩
    · cases h2
    · rw [List.getElem?_set_ne (fun q => n q.symm)]
      exact R.io j xs h2
theorem own_setU {e : Ev} {σ : L2.St} {i : Nat} {fz : Bool} {b : Addr} {o : Option V} (h : OwnAt fz (e.set i .un) (σ.set i o) b) : OwnAt fz e σ b := by
  obtain ⟨j, xs, h1, h2⟩ := h
  rcases get_set h1 with ⟨_, k2, _⟩ | ⟨n, k2⟩
  · cases k2
  · rw [List.getElem?_set_ne (fun q => n q.symm)] at h2
    exact ⟨j, xs, k2, h2⟩
theorem own_setD {e : Ev} {σ : L2.St} {i : Nat} {fz : Bool} {b : Addr} (h : OwnAt fz (e.set i .un) σ b) : OwnAt fz e σ b := by
  obtain ⟨j, xs, h1, h2⟩ := h
  rcases get_set h1 with ⟨_, k2, _⟩ | ⟨_, k2⟩
  · cases k2
  · exact ⟨j, xs, k2, h2⟩
theorem Rel.dropU {K : PySem.W.Frag} {e : Ev} {σ : L2.St} {F H : Hp} (R : Rel K z e σ F H) (i : Nat) : Rel K z (e.set i .un) σ F H where
  len := by rw [List.length_set]; exact R.len
  sub := R.sub
  sh := fun j d h => by
    rcases get_set h with ⟨_, h2, _⟩ | ⟨_, h2⟩
    · cases h2
    · exact R.sh j d h2
  own := fun j fz xs h => by
    rcases get_set h with ⟨_, h2, _⟩ | ⟨_, h2⟩
    · cases h2
    · exact R.own j fz xs h2
  inj := fun j j' f f' xs xs' a h h' g g' => by
    rcases get_set h with ⟨_, h2, _⟩ | ⟨_, h2⟩
    · cases h2
    · rcases get_set h' with ⟨_, k2, _⟩ | ⟨_, k2⟩
      · cases k2
      · exact R.inj j j' f f' xs xs' a h2 k2 g g'
  io := fun j xs h => by
    rcases get_set h with ⟨_, h2, _⟩ | ⟨_, h2⟩
    · cases h2
    · exact R.io j xs h2
theorem kill_own {i : Nat} : ∀ {js : List Nat} {e e2 : Ev}, killGo i js e = some e2 → nodupB (i :: js) = true → ∀ j ∈ js, ∃ ds, e[j]? = some (.own true ds)
  | j :: js, e, e2, h, n, j', hj => by
    unfold killGo at h
    split at h
    · rename_i ds h1
      split at h
      · unfold nodupB at n
        rw [Bool.and_eq_true] at n
        have n1 : i ∉ j :: js := by simpa using n.1
        have n2 := n.2
        unfold nodupB at n2
        rw [Bool.and_eq_true] at n2
        have n3 : j ∉ js := by simpa using n2.1
        rcases List.mem_cons.mp hj with e1 | hj
        · subst e1
          exact ⟨ds, h1⟩
        · obtain ⟨ds', h2⟩ := kill_own h (by
            unfold nodupB
            rw [Bool.and_eq_true]
            exact ⟨by simpa using fun q => n1 (List.mem_cons_of_mem _ q), n2.2⟩) j' hj
          refine ⟨ds', ?_⟩
          rw [List.getElem?_set_ne (fun q => n1 (by rw [q]; exact List.mem_cons_of_mem _ hj)), List.getElem?_set_ne (fun q => n3 (by rw [q]; exact hj))] at h2
          exact h2
      · cases h
    · cases h
  | [], _, _, _, _, j', hj => by cases hj
theorem S_kill (hs : SOk C Φ k X) {i : Nat} {js : List Nat} {d : D} {st : Stmt} (h : chkS C fr (.kill i js d) X.env.scope st = true) : PS X st (SemS Φ X.K z fr (.kill i js d)) := by
  simp only [chkS] at h
  split at h
  · rename_i y py es pe y2 p2 m apos w cpos pos2 pos
    simp only [Bool.and_eq_true] at h
    obtain ⟨⟨⟨⟨⟨⟨⟨⟨h1, h2⟩, h3⟩, h4⟩, h5⟩, h6⟩, h7⟩, h8⟩, h9⟩ := h
    have em := of_decide_eq_true h4
    subst em
    obtain ⟨g1, g2, g3, g4⟩ := nm_of hs.ok h3
    have pn : PG X (.Name y py) (gName i) := by
      obtain ⟨k1, k2⟩ := loc_ok hs y h2
      exact pg_name (by rw [hs.ok.N]; exact hs.ok.nd) (by rw [hs.ok.N]; exact of_decide_eq_true h1) k1 k2
    have hw : chk C (.cst d) X.env.scope w = true := h5
    have pe : PE X (.Call (.Attribute (.Name y2 p2) "append" apos) [w] [] cpos) (tBM X.K "list" rAppend (tVar i) (tCons (SemE Φ X.K z (.cst d)) tNil)) :=
      pe_bm PySem.F.plainAttrs_list PySem.F.slot_list_append PySem.F.type_list_append mt_append (pe_var g1 g2 g3 g4) (pa_cons ((sound (.cst d)).e X w hs.ok hw) pa_nil (star_of h6 [])) rfl (by rw [star_of h6 []]; rfl) h7 (star_of h6 []) rfl
    refine ps_imp (ps_for hs.ps hs.ok.calm (pi_any (pe_lst (kill_pa hs h9))) pn (pss_one (ps_expr pe (swN_of rfl))) (folded_of rfl)) fun D σ H ⟨e, F, o, R, he, q⟩ => ?_
    simp only [exs] at he
    split at he
    · rename_i hc
      rw [Bool.and_eq_true] at hc
      obtain ⟨hc1, hc2⟩ := hc
      obtain ⟨e2, hke, rfl⟩ := Option.map_eq_some_iff.mp he
      have il : i < σ.length := by
        rw [← R.len]
        unfold putOk at hc1
        cases w : e[i]? with
        | none => rw [w] at hc1; cases hc1
        | some s => exact lt_of_get w
      have own0 := kill_own hke hc2
      refine vars_ok (fun j hj => ?_) fun vs hl hk => ⟨by rw [hl]; exact Nat.le_trans (of_decide_eq_true h8) (by decide), fun p hp => .inl ⟨p, rfl, ⟨vs, .inl (.inl upd_same)⟩, ?_⟩⟩
      · obtain ⟨ds, h⟩ := own0 j hj
        obtain ⟨a, us, g, _⟩ := R.own j true ds h
        exact ⟨_, g⟩
      refine ⟨fun t n σ' H' => ∃ e' F', Rel X.K z e' σ' F' H' ∧ StpS e σ F H e' σ' F' H' ∧ H' p = some (.lst vs) ∧ (∀ fz, ¬ OwnAt fz e' σ' p) ∧ n = js.length - t ∧ t ≤ js.length ∧ killGo i (js.drop t) e' = some e2 ∧ nodupB (i :: js.drop t) = true ∧ (∀ j ∈ js.drop t, σ'[j]? = σ[j]?) ∧ σ'.length = σ.length,
        ⟨js.length, e, F, R.newH hp, (Stp.newH hp).up, upd_same, R.noOwn hp, rfl, Nat.zero_le _, hke, hc2, fun _ _ => rfl, rfl⟩, ?_⟩
      rintro t n σ' H' ⟨e', F', R', S', hP, no, rfl, ht, hg, hn, hσ, hL⟩
      by_cases hlt : t < js.length
      · have hd : js.drop t = js[t] :: js.drop (t + 1) := List.drop_eq_getElem_cons hlt
        obtain ⟨v, hv1, hv2⟩ := hk t js[t] (List.getElem?_eq_getElem hlt)
        refine .inr ⟨⟨vs, v, .inl (.inl hP), hv1⟩, fun σ2 H2 => ∃ e' F', Rel X.K z e' σ2 F' H2 ∧ StpS e σ F H e' σ2 F' H2 ∧ H2 p = some (.lst vs) ∧ (∀ fz, ¬ OwnAt fz e' σ2 p) ∧ killGo i (js.drop (t + 1)) e' = some e2 ∧ nodupB (i :: js.drop (t + 1)) = true ∧ (∀ j ∈ js.drop (t + 1), σ2[j]? = σ[j]?) ∧ σ2.length = σ.length, fun σ2 H2 ⟨e3, F3, r1, r2, r3, r4, r5, r6, r7, r8⟩ => ⟨js.length - (t + 1), by omega, e3, F3, r1, r2, r3, r4, rfl, hlt, r5, r6, r7, r8⟩, fun x H'' hy => ?_⟩
        obtain ⟨rfl, hy⟩ := hy
        have hx := hy vs (.inl (.inl hP))
        rw [hv1] at hx
        cases hx
        rw [hd] at hg hn hσ
        have ej := hσ js[t] List.mem_cons_self
        rw [hv2] at ej
        unfold killGo at hg
        split at hg
        · rename_i ds hds
          split at hg
          · rename_i hz
            obtain ⟨a, us, a1, a2, a3, a4⟩ := R'.own js[t] true ds hds
            rw [ej] at a1
            cases a1
            have oa : OwnAt true e' σ' a := ⟨js[t], ds, hds, ej⟩
            have nap : a ≠ p := fun q => no true (by rw [← q]; exact oa)
            have R3 : Rel X.K z ((e'.set js[t] .un).set i .un) (σ'.set i (some (.ref a))) F' H'' := (R'.dropU js[t]).setU i _
            have ow3 : ∀ {fz b}, OwnAt fz ((e'.set js[t] .un).set i .un) (σ'.set i (some (.ref a))) b → OwnAt fz e' σ' b := fun h => own_setD (own_setU h)
            have noa : ∀ fz, ¬ OwnAt fz ((e'.set js[t] .un).set i .un) (σ'.set i (some (.ref a))) a := fun fz h => by
              obtain ⟨j', xs, b1, b2⟩ := own_setU h
              rcases get_set b1 with ⟨_, c2, _⟩ | ⟨n, c2⟩
              · cases c2
              · exact n (R'.inj j' js[t] fz true xs ds a c2 hds b2 ej)
            refine ⟨.ref a, by rw [List.getElem?_set_self (by rw [hL]; exact il)], .inl ⟨rfl, us, .inl (.inl a2)⟩, _, F', d, _, R3, rfl, fun v F1 H1 R1 S1 dp => ?_⟩
            have a5 : H1 a = some (.lst us) := S1.keep a _ a2 noa
            have a6 : F1 a = none := by
              cases w : F1 a with
              | none => rfl
              | some o =>
                rcases S1.new a (by rw [w]; simp) with h | h | h
                · exact absurd a3 h
                · rw [a2] at h; cases h
                · exact absurd h (noa true)
            refine ⟨a, us, v, rfl, rfl, a5, by rw [dps_len a4]; exact hz, ?_⟩
            unfold nodupB at hn
            rw [Bool.and_eq_true] at hn
            have n1 : i ∉ js[t] :: js.drop (t + 1) := by simpa using hn.1
            have n2 := hn.2
            unfold nodupB at n2
            rw [Bool.and_eq_true] at n2
            refine ⟨_, F1, R1.mut a6 noa, S'.trans ⟨S1.fs, fun b o hb nb => ?_, fun b hb => ?_, fun b hb => ?_, fun b hb => .inl (ow3 hb), fun b hb => ow3 hb, S1.nf⟩, ?_, fun fz h => no fz (ow3 h), hg, ?_, fun j hj => ?_, by rw [List.length_set]; exact hL⟩
            · have : b ≠ a := fun q => nb true (by rw [q]; exact oa)
              rw [upd_ne this]
              exact S1.keep b o hb fun fz h => nb fz (ow3 h)
            · by_cases q : b = a
              · subst q; rw [upd_same]; simp
              · rw [upd_ne q]; exact S1.there b hb
            · rcases S1.new b hb with h | h | h
              · exact .inl h
              · exact .inr (.inl h)
              · exact .inr (.inr (ow3 h))
            · rw [upd_ne (fun q => nap q.symm)]
              exact S1.keep p _ hP fun fz h => no fz (ow3 h)
            · unfold nodupB
              rw [Bool.and_eq_true]
              exact ⟨by simpa using fun q => n1 (List.mem_cons_of_mem _ q), n2.2⟩
            · rw [List.getElem?_set_ne (fun q => n1 (by rw [q]; exact List.mem_cons_of_mem _ hj))]
              exact hσ j (List.mem_cons_of_mem _ hj)
          · cases hg
        · cases hg
      · have e1 : t = js.length := by omega
        subst e1
        rw [List.drop_length] at hg
        cases hg
        exact .inl ⟨⟨vs, .inl (.inl hP), by rw [hl]; exact Nat.le_refl _⟩, q σ' F' H' R' S'⟩
    · cases he
  · cases h
theorem S_app (hs : SOk C Φ k X) {i : Nat} {x : Ex} {st : Stmt} (h : chkS C fr (.app i x) X.env.scope st = true) : PS X st (SemS Φ X.K z fr (.app i x)) := by
  simp only [chkS] at h
  split at h
  · rename_i a p1 m apos y cpos pos
    simp only [Bool.and_eq_true] at h
    obtain ⟨⟨⟨⟨h1, h2⟩, h3⟩, h4⟩, h5⟩ := h
    have em := of_decide_eq_true h1
    subst em
    obtain ⟨g1, g2, g3, g4⟩ := nm_of hs.ok h2
    have pe : PE X (.Call (.Attribute (.Name a p1) "append" apos) [y] [] cpos) (tBM X.K "list" rAppend (tVar i) (tCons (SemE Φ X.K z x) tNil)) :=
      pe_bm PySem.F.plainAttrs_list PySem.F.slot_list_append PySem.F.type_list_append mt_append (pe_var g1 g2 g3 g4) (pa_cons ((sound x).e X y hs.ok h3) pa_nil (star_of h4 [])) rfl (by rw [star_of h4 []]; rfl) h5 (star_of h4 []) rfl
    refine ps_imp (ps_expr pe (swN_of rfl)) fun D σ H ⟨e, F, o, R, he, q⟩ => ?_
    simp only [exs] at he
    split at he
    · rename_i ho
      split at he
      · rename_i d e1 h6
        split at he
        · rename_i fz ds h7
          split at he
          · rename_i hl
            cases he
            obtain ⟨w, us0, hw, hw2⟩ := loc_own R ho
            refine ⟨_, hw, .inl ⟨rfl, us0, .inl (.inl hw2)⟩, e, F, d, e1, R, h6, fun v F1 H1 R1 S1 dp => ?_⟩
            obtain ⟨p, us, k1, k2, k3, k4, k5⟩ := own_get R1 h7
            rw [hw] at k2
            cases k2
            refine ⟨_, us, v, rfl, rfl, k3, by rw [dps_len k5]; exact hl, ?_⟩
            exact q _ F1 _ (R1.upd k1 hw (dps_app k5 (.cons dp .nil))) (S1.up.trans (StpS.upd R1 k1 hw))
          · cases he
        · cases he
      · cases he
    · cases he
  · cases h
theorem S_exp (hs : SOk C Φ k X) {x : Ex} {st : Stmt} (h : chkS C fr (.exp x) X.env.scope st = true) : PS X st (SemS Φ X.K z fr (.exp x)) := by
  simp only [chkS] at h
  split at h
  · rename_i e pos
    simp only [Bool.and_eq_true] at h
    refine ps_imp (ps_expr ((sound (z := z) x).e X e hs.ok h.1) (swN_of h.2)) fun D σ H ⟨e, F, o, R, he, q⟩ => ?_
    simp only [exs] at he
    split at he
    · rename_i d e1 h6
      cases he
      exact ⟨e, F, d, e1, R, h6, fun v F1 H1 R1 S1 dp => q σ F1 H1 R1 S1.up⟩
    · cases he
  · cases h
theorem S_ret (hs : SOk C Φ k X) {x : Ex} {st : Stmt} (h : chkS C fr (.ret x) X.env.scope st = true) : PS X st (SemS Φ X.K z fr (.ret x)) := by
  simp only [chkS] at h
  split at h
  · rename_i e pos
    simp only [Bool.and_eq_true] at h
    cases fr with
    | false =>
      refine ps_imp (ps_ret ((sound (z := z) x).e X e hs.ok h.1)) fun D σ H ⟨e, F, o, R, he, q⟩ => ?_
      simp only [exs] at he
      split at he
      · rename_i d e1 h6
        cases he
        exact ⟨e, F, d, e1, R, h6, fun v F1 H1 R1 S1 dp => q v σ F1 H1 R1 S1.up dp⟩
      · cases he
    | true =>
      have hf : isF x = true := by simpa using h.2
      refine ps_imp (ps_ret (F_of (z := z) hf X e hs.ok h.1)) fun D σ H ⟨e, F, o, R, he, q⟩ => ?_
      simp only [exs] at he
      split at he
      · rename_i d e1 h6
        cases he
        obtain ⟨ds, rfl⟩ := listy hf _ _ _ h6
        exact ⟨e, F, ds, e1, R, h6, fun p us F1 H1 R1 S1 hp hP hF dp => q (.ref p) σ F1 H1 R1 S1.up (show FrO X.K e σ H e1 σ F1 H1 (.ref p) (.list ds) from ⟨p, us, ds, rfl, rfl, hP, hF, dp, S1.noOwn R hp, .inl hp⟩)⟩
      · cases he
  · cases h
theorem Rel.drop {K : PySem.W.Frag} {z : L2.St} {e : Ev} {σ : L2.St} {F H : Hp} (R : Rel K z e σ F H) (i : Nat) : Rel K z (e.set i .un) σ F H where
  len := by rw [List.length_set]; exact R.len
  sub := R.sub
  sh := fun j d h => by
    rcases get_set h with ⟨_, h2, _⟩ | ⟨_, h2⟩
    · cases h2
    · exact R.sh j d h2
  own := fun j fz xs h => by
    rcases get_set h with ⟨_, h2, _⟩ | ⟨_, h2⟩
    · cases h2
    · exact R.own j fz xs h2
  inj := fun j j' f f' xs xs' a h h' g g' => by
    rcases get_set h with ⟨_, h2, _⟩ | ⟨_, h2⟩
    · cases h2
    · rcases get_set h' with ⟨_, k2, _⟩ | ⟨_, k2⟩
      · cases k2
      · exact R.inj j j' f f' xs xs' a h2 k2 g g'
  io := fun j xs h => by
    rcases get_set h with ⟨_, h2, _⟩ | ⟨_, h2⟩
    · cases h2
    · exact R.io j xs h2
theorem own_drop {e : Ev} {σ : L2.St} {i : Nat} {fz : Bool} {b : Addr} (h : OwnAt fz (e.set i .un) σ b) : OwnAt fz e σ b := by
  obtain ⟨j, xs, h1, h2⟩ := h
  rcases get_set h1 with ⟨_, k2, _⟩ | ⟨_, k2⟩
  · cases k2
  · exact ⟨j, xs, k2, h2⟩
theorem S_retv (hs : SOk C Φ k X) {i : Nat} {st : Stmt} (h : chkS C fr (.retv i) X.env.scope st = true) : PS X st (SemS Φ X.K z fr (.retv i)) := by
  simp only [chkS] at h
  split at h
  · rename_i x px pos
    rw [Bool.and_eq_true] at h
    obtain ⟨h0, h1⟩ := h
    subst h0
    obtain ⟨g1, g2, g3, g4⟩ := nm_of hs.ok h1
    refine ps_imp (ps_ret (pe_var g1 g2 g3 g4)) fun D σ H ⟨e, F, o, R, he, q⟩ => ?_
    simp only [exs] at he
    split at he
    · rename_i ds h2
      cases he
      obtain ⟨p, us, k1, k2, k3, k4⟩ := R.own i true ds h2
      refine ⟨_, k1, ?_⟩
      refine q (.ref p) σ F H (R.drop i) ⟨Same.refl _, fun b o hb _ => hb, fun b hb => hb, fun b hb => .inl hb, fun b hb => .inl (own_drop hb), fun b hb => own_drop hb, fun _ _ _ h => h⟩ ?_
      refine (show FrO X.K e σ H (e.set i .un) σ F H (.ref p) (.list ds) from ⟨p, us, ds, rfl, rfl, k2, k3, k4, fun fz w => ?_, .inr ⟨i, ds, h2, k1⟩⟩)
      obtain ⟨j, xs, w1, w2⟩ := w
      rcases get_set w1 with ⟨_, w3, _⟩ | ⟨w4, w3⟩
      · cases w3
      · exact w4 (R.inj j i fz true xs ds p w3 h2 w2 k1)
    · cases he
  · cases h
theorem get_listG {X : Cx} : PGet X (rIxL X.K) := by
  intro pins s σ H x y v u Q I rx ry h
  obtain ⟨p, xs, i, z, rfl, rfl, hq, he, q⟩ := h
  cases rx
  obtain ⟨t, rfl⟩ := ry
  obtain ⟨its, r, pl, hz⟩ := I.list hq
  obtain ⟨j, h1, h2, h3, h4, h5⟩ := atI_get he
  obtain ⟨w, ew, rw'⟩ := r.get h2
  have hl := r.length
  have hn := line63
  have fin : EP X pins σ Q w s := ⟨z, H, I, rw', q⟩
  by_cases h0 : 0 ≤ i
  · have hj : i.toNat = j := by
      rw [seqIndex_of h0 h5] at h1
      exact Option.some.inj h1
    exact wpAny_getItem_list pl.isList h0 (by omega) (by rw [hj]; simpa using ew) fin
  · have hj : (i + (its.toArray.size : Int)).toNat = j := by
      rw [seqIndex_neg (by omega) h4] at h1
      rw [List.size_toArray, ← hl]
      exact Option.some.inj h1
    exact wpAny_getItem_list_neg (Q := fun r s' => EP X pins σ Q r s') pl.isList (by omega) (by rw [List.size_toArray] <;> omega) (by omega) (by rw [hj]; simpa using ew) fin
theorem atI_ix {α : Type} {xs : List α} {n : Int} {j : Nat} (h : ixN xs.length n = some j) : atI xs n = xs[j]? := by
  unfold atI
  rw [h]
  rfl
theorem S_aug (hs : SOk C Φ k X) {i : Nat} {kx x : Ex} {b : Bo} {st : Stmt} (h : chkS C fr (.aug i kx b x) X.env.scope st = true) : PS X st (SemS Φ X.K z fr (.aug i kx b x)) := by
  simp only [chkS] at h
  split at h
  · rename_i a p1 ke p2 op e pos
    simp only [Bool.and_eq_true] at h
    obtain ⟨⟨⟨⟨h0, h1⟩, h2⟩, h3⟩, h4⟩ := h
    have eo := of_decide_eq_true h0
    subst eo
    obtain ⟨g1, g2, g3, g4⟩ := nm_of hs.ok h1
    refine ps_imp (ps_augS (pe_var g1 g2 g3 g4) ((sound (z := z) kx).e X ke hs.ok h3) get_listG ((sound (z := z) x).e X e hs.ok h4) ip_add set_list (by intro ov iv new; cases ke <;> first | rfl | cases h2)) fun D σ H ⟨ev0, F, o, R, he, q⟩ => ?_
    simp only [exs] at he
    split at he
    · rename_i ho
      split at he
      · rename_i n e1 h6
        split at he
        · rename_i fz ds h7
          split at he
          · rename_i v h8
            split at he
            · rename_i d e2 h9
              split at he
              · obtain ⟨e3, h10, rfl⟩ := Option.map_eq_some_iff.mp he
                obtain ⟨w, us0, hw, hw2⟩ := loc_own R ho
                refine ⟨_, hw, ev0, F, _, e1, R, h6, fun nv F1 H1 R1 S1 dn => ?_⟩
                cases dn
                obtain ⟨p, us, k1, k2, k3, k4, k5⟩ := own_get R1 h7
                rw [hw] at k2
                cases k2
                have le := dps_len k5
                have hv : ∃ j, ixN us.length n = some j ∧ ds[j]? = some (.int v) := by
                  unfold atI at h8
                  rw [← le] at h8
                  cases hj : ixN us.length n with
                  | none => rw [hj] at h8; cases h8
                  | some j => rw [hj] at h8; exact ⟨j, rfl, h8⟩
                obtain ⟨j, j1, j2⟩ := hv
                obtain ⟨vv, v1, v2⟩ := dps_get k5 j2
                cases v2
                refine ⟨_, us, n, .int v, rfl, rfl, .inl (.inl k3), by rw [atI_ix j1]; exact v1, ?_⟩
                refine ⟨e1, F1, _, e2, R1, h9, fun y F2 H2 R2 S2 dy => ?_⟩
                cases dy
                refine ⟨v, d, rfl, rfl, ?_⟩
                obtain ⟨fz', ds', p', us', m, jj, l1, l2, l3, l4, l5, l6, l7, rfl⟩ := setat_get R2 h10
                rw [hw] at l2
                cases l2
                cases l6
                refine ⟨_, us', _, jj, rfl, rfl, l3, l7, ?_⟩
                exact q _ F2 _ (R2.upd l1 hw (dps_set (.int _) jj l5)) ((S1.trans S2).up.trans (StpS.upd R2 l1 hw))
              · cases he
            · cases he
          · cases he
        · cases he
      · cases he
    · cases he
  · cases h
theorem S_ext (hs : SOk C Φ k X) {i : Nat} {x : Ex} {st : Stmt} (h : chkS C fr (.ext i x) X.env.scope st = true) : PS X st (SemS Φ X.K z fr (.ext i x)) := by
  simp only [chkS] at h
  split at h
  · rename_i a p1 m apos y cpos pos
    simp only [Bool.and_eq_true] at h
    obtain ⟨⟨⟨⟨⟨h1, h2⟩, h3⟩, h4⟩, h5⟩, h6⟩ := h
    have em := of_decide_eq_true h1
    subst em
    obtain ⟨g1, g2, g3, g4⟩ := nm_of hs.ok h2
    have pe : PE X (.Call (.Attribute (.Name a p1) "extend" apos) [y] [] cpos) (tBM X.K "list" rExtend (tVar i) (tCons (SemF Φ X.K z x) tNil)) :=
      pe_bm PySem.F.plainAttrs_list PySem.F.slot_list_extend PySem.F.type_list_extend mt_extend (pe_var g1 g2 g3 g4) (pa_cons (F_of (z := z) h6 X y hs.ok h3) pa_nil (star_of h4 [])) rfl (by rw [star_of h4 []]; rfl) h5 (star_of h4 []) rfl
    refine ps_imp (ps_expr pe (swN_of rfl)) fun D σ H ⟨e, F, o, R, he, q⟩ => ?_
    simp only [exs] at he
    split at he
    · rename_i ho
      split at he
      · rename_i xs e1 h6
        split at he
        · rename_i fz ds h7
          split at he
          · rename_i hl
            cases he
            obtain ⟨w, us0, hw, hw2⟩ := loc_own R ho
            refine ⟨_, hw, .inl ⟨rfl, us0, .inl (.inl hw2)⟩, e, F, xs, e1, R, h6, fun pp ws F1 H1 R1 S1 hp hP hF dp => ?_⟩
            obtain ⟨p, us, k1, k2, k3, k4, k5⟩ := own_get R1 h7
            rw [hw] at k2
            cases k2
            refine ⟨_, pp, us, ws, rfl, rfl, k3, hP, by rw [dps_len k5, dps_len dp]; exact hl, ?_⟩
            exact q _ F1 _ (R1.upd k1 hw (dps_app k5 dp)) (S1.up.trans (StpS.upd R1 k1 hw))
          · cases he
        · cases he
      · cases he
    · cases he
  · cases h
/-! ### the induction -/
structure SndS (C : Cc) (Φ : Fn) (k : Nat) (z : L2.St) (fr : Bool) (t : Sm) : Prop where
  s : ∀ X st, SOk C Φ k X → chkS C fr t X.env.scope st = true → PS X st (SemS Φ X.K z fr t)
  b : ∀ X b, SOk C Φ k X → chkB C fr t X.env.scope b = true → PSs X b (SemS Φ X.K z fr t)
theorem mkSS {s : Sm} (hb : ∀ sc b, chkB C fr s sc b = false) (h : ∀ X st, SOk C Φ k X → chkS C fr s X.env.scope st = true → PS X st (SemS Φ X.K z fr s)) : SndS C Φ k z fr s :=
  ⟨h, fun X b _ q => by rw [hb] at q; cases q⟩
theorem S_ifs {c : Ex} {a b : Sm} (ha : SndS C Φ k z fr a) (hb : SndS C Φ k z fr b) : SndS C Φ k z fr (.ifs c a b) := mkSS (fun _ _ => rfl) fun X st hs h => by
  simp only [chkS] at h
  split at h
  · rename_i t p q pos
    simp only [Bool.and_eq_true] at h
    obtain ⟨⟨⟨h1, h2⟩, h3⟩, h4⟩ := h
    refine ps_imp (ps_if ((sound (z := z) c).b X t hs.ok h1 h2).1 (ha.b X p hs h3) (hb.b X q hs h4)) fun D σ H ⟨e, F, o, R, he, q⟩ => ?_
    simp only [exs, tst] at he
    split at he
    · rename_i e1 h6
      exact ⟨e, F, true, e1, R, h6, fun F1 H1 R1 S1 => ⟨e1, F1, o, R1, he, q.on S1.up⟩⟩
    · rename_i e1 h6
      exact ⟨e, F, false, e1, R, h6, fun F1 H1 R1 S1 => ⟨e1, F1, o, R1, he, q.on S1.up⟩⟩
    · cases he
  · cases h
theorem S_whl {c : Ex} {s : Sm} (hs0 : SndS C Φ k z fr s) : SndS C Φ k z fr (.whl c s) := mkSS (fun _ _ => rfl) fun X st hs h => by
  simp only [chkS] at h
  split at h
  · rename_i t body pos
    simp only [Bool.and_eq_true] at h
    obtain ⟨⟨h1, h2⟩, h3⟩ := h
    refine ps_imp (ps_while hs.ps ((sound (z := z) c).b X t hs.ok h1 h2).1 (hs0.b X body hs h3)) fun D σ0 H0 ⟨e0, F0, o, R0, he, q⟩ => ?_
    simp only [exs] at he
    refine ⟨fun n σ H => ∃ e F, Rel X.K z e σ F H ∧ StpS e0 σ0 F0 H0 e σ F H ∧ whlGo (tst Φ c) (exs Φ s) n e = some o, ⟨turns, e0, F0, R0, .refl, he⟩, ?_⟩
    rintro n σ H ⟨e, F, R, S, hn⟩
    cases n with
    | zero => cases hn
    | succ n =>
      simp only [whlGo] at hn
      split at hn
      · cases hn
      · rename_i e1 h6
        cases hn
        exact ⟨e, F, false, e1, R, h6, fun F1 H1 R1 S1 => q σ F1 H1 R1 (S.trans S1.up)⟩
      · rename_i e1 h6
        refine ⟨e, F, true, e1, R, h6, fun F1 H1 R1 S1 => ⟨fun σ' H' => ∃ e F, Rel X.K z e σ' F H' ∧ StpS e0 σ0 F0 H0 e σ' F H' ∧ whlGo (tst Φ c) (exs Φ s) n e = some o, fun σ' H' w => ⟨n, Nat.lt_succ_self n, w⟩, ?_⟩⟩
        split at hn
        · cases hn
        · rename_i e2 h7
          exact ⟨e1, F1, .nx e2, R1, h7, fun σ' F' H' R' S' => ⟨e2, F', R', S.trans (S1.up.trans S'), hn⟩⟩
        · rename_i e2 h7
          exact ⟨e1, F1, .ct e2, R1, h7, fun σ' F' H' R' S' => ⟨e2, F', R', S.trans (S1.up.trans S'), hn⟩⟩
        · rename_i e2 h7
          cases hn
          exact ⟨e1, F1, .bk e2, R1, h7, fun σ' F' H' R' S' => q σ' F' H' R' (S.trans (S1.up.trans S'))⟩
        · rename_i v e2 h7
          cases hn
          exact ⟨e1, F1, .rt v e2, R1, h7, fun w σ' F' H' R' S' rt => q w σ' F' H' R' (S.trans (S1.up.trans S')) (rt.back (S.trans S1.up))⟩
  · cases h
theorem S_for {g : Tg} {kd : Ik} {a b : Ex} {s : Sm} (hs0 : SndS C Φ k z fr s) : SndS C Φ k z fr (.for_ g kd a b s) := mkSS (fun _ _ => rfl) fun X st hs h => by
  simp only [chkS] at h
  split at h
  · rename_i tg iter body pos
    simp only [Bool.and_eq_true] at h
    obtain ⟨⟨⟨h1, h2⟩, h3⟩, h4⟩ := h
    have pi : PI X tg iter (SemI Φ X.K z kd a b) := iter_ok hs.ok (sound a) (sound b) h3
    refine ps_imp (ps_for hs.ps hs.ok.calm pi (tg_ok hs.ok.N hs.ok.nd hs.ok.calm (loc_ok hs) h1) (hs0.b X body hs h4) (folded_of h2)) fun D σ0 H0 ⟨e0, F0, o, R0, he, q⟩ => ?_
    have he2 : ∃ ds e2, evI Φ kd a b e0 = some (ds, e2) ∧ forGo g (exs Φ s) ds e2 = some o := by
      simp only [exs] at he
      unfold evI
      split at he
      · rename_i x e1 g1
        split at he
        · rename_i y e2 g2
          split at he
          · rename_i ds g3
            exact ⟨ds, e2, by simp only [g1, g2, g3, Option.map_some], he⟩
          · cases he
        · cases he
      · cases he
    obtain ⟨ds, e2, g1, g2⟩ := he2
    refine ⟨e0, F0, ds, e2, R0, g1, fun J F1 H1 R1 S1 it => ?_⟩
    refine ⟨fun i n σ H => ∃ e F, Rel X.K z e σ F H ∧ StpS e0 σ0 F0 H0 e σ F H ∧ Same F1 F ∧ n = ds.length - i ∧ i ≤ ds.length ∧ forGo g (exs Φ s) (ds.drop i) e = some o, ⟨ds.length, e2, F1, R1, S1.up, Same.refl _, rfl, Nat.zero_le _, g2⟩, ?_⟩
    rintro i n σ H ⟨e, F, R, S, sm, rfl, hi, hn⟩
    by_cases hlt : i < ds.length
    · refine .inr ⟨it.go i F H sm R.sub hlt, ?_⟩
      rw [List.drop_eq_getElem_cons hlt] at hn
      simp only [forGo] at hn
      split at hn
      · split at hn
        · cases hn
        · rename_i e3 g3
          refine ⟨fun σ' H' => ∃ e F, Rel X.K z e σ' F H' ∧ StpS e0 σ0 F0 H0 e σ' F H' ∧ Same F1 F ∧ forGo g (exs Φ s) (ds.drop (i + 1)) e = some o, fun σ' H' ⟨e, F, r1, r2, r3, r4⟩ => ⟨ds.length - (i + 1), by omega, e, F, r1, r2, r3, rfl, hlt, r4⟩, fun x H' y => ?_⟩
          have step : ∃ Fx, Rel X.K z e σ Fx H' ∧ Stp e σ F H e σ Fx H' ∧ Dp X.K Fx x ds[i] := by
            rcases it.yld i F H x H' ds[i] sm R.sub (List.getElem?_eq_getElem hlt) y with ⟨rfl, dp⟩ | ⟨T, ob, hT, rfl, dp⟩
            · exact ⟨F, R, .refl, dp⟩
            · exact ⟨_, R.new hT, Stp.new1 R hT, dp⟩
          obtain ⟨Fx, Rx, Sx, dpx⟩ := step
          refine tgG_ok Rx dpx g3 fun σ2 R2 S2 _ _ => ?_
          have S3 := S.trans (Sx.up.trans S2.up)
          split at hn
          · cases hn
          · rename_i e4 g4
            exact ⟨e3, Fx, .nx e4, R2, g4, fun σ' F' H' R' S' => ⟨e4, F', R', S3.trans S', sm.trans (Sx.fs.trans S'.fs), hn⟩⟩
          · rename_i e4 g4
            exact ⟨e3, Fx, .ct e4, R2, g4, fun σ' F' H' R' S' => ⟨e4, F', R', S3.trans S', sm.trans (Sx.fs.trans S'.fs), hn⟩⟩
          · rename_i e4 g4
            cases hn
            exact ⟨e3, Fx, .bk e4, R2, g4, fun σ' F' H' R' S' => q σ' F' H' R' (S3.trans S')⟩
          · rename_i v e4 g4
            cases hn
            exact ⟨e3, Fx, .rt v e4, R2, g4, fun w σ' F' H' R' S' rt => q w σ' F' H' R' (S3.trans S') (rt.back S3)⟩
      · cases hn
    · have e1 : i = ds.length := by omega
      subst e1
      rw [List.drop_length] at hn
      cases hn
      exact .inl ⟨it.stop F H sm R.sub, q σ F H R S⟩
  · cases h
theorem S_seq {s r : Sm} (h1 : SndS C Φ k z fr s) (h2 : SndS C Φ k z fr r) : SndS C Φ k z fr (.consB s r) where
  s := fun X st hs h => by cases h
  b := fun X b hs h => by
    simp only [chkB] at h
    split at h
    · rename_i st t
      rw [Bool.and_eq_true] at h
      refine pss_imp (pss_cons (h1.s X st hs h.1) (h2.b X t hs h.2)) fun D σ H ⟨e, F, o, R, he, q⟩ => ?_
      simp only [exs] at he
      split at he
      · rename_i e1 h6
        exact ⟨e, F, _, R, h6, fun σ' F' H' R' S' => ⟨e1, F', o, R', he, q.on S'⟩⟩
      · rename_i o1 n h6
        cases he
        refine ⟨e, F, o, R, h6, ?_⟩
        cases o with
        | nx e' => exact absurd rfl (n e')
        | bk e' => exact q
        | ct e' => exact q
        | rt d e' => exact q
      · cases he
    · cases h
theorem S_nilB : SndS C Φ k z fr .nilB := by
  refine ⟨fun X st hs h => ?_, fun X b hs h => ?_⟩
  · cases h
  · simp only [chkB] at h
    cases b with
    | nil =>
      refine pss_imp pss_nil fun D σ H ⟨e, F, o, R, he, q⟩ => ?_
      cases he
      exact q σ F H R .refl
    | cons => cases h
theorem S_pass : SndS C Φ k z fr .pass := mkSS (fun _ _ => rfl) fun X st hs h => by
  simp only [chkS] at h
  split at h
  · refine ps_imp ps_pass fun D σ H ⟨e, F, o, R, he, q⟩ => ?_
    cases he
    exact q σ F H R .refl
  · cases h
theorem S_nev : SndS C Φ k z fr .nev := mkSS (fun _ _ => rfl) fun X st hs h => by
  refine ps_imp ps_nev fun D σ H ⟨e, F, o, R, he, q⟩ => ?_
  cases he
theorem S_retn : SndS C Φ k z fr .retn := mkSS (fun _ _ => rfl) fun X st hs h => by
  simp only [chkS] at h
  split at h
  · have e1 : fr = false := by simpa using h
    subst e1
    refine ps_imp ps_retN fun D σ H ⟨e, F, o, R, he, q⟩ => ?_
    cases he
    exact q .non σ F H R .refl (show Dp X.K F .non .none from .non)
  · cases h
theorem S_brk : SndS C Φ k z fr .brk := mkSS (fun _ _ => rfl) fun X st hs h => by
  simp only [chkS] at h
  split at h
  · refine ps_imp ps_break fun D σ H ⟨e, F, o, R, he, q⟩ => ?_
    cases he
    exact q σ F H R .refl
  · cases h
theorem S_cnt : SndS C Φ k z fr .cnt := mkSS (fun _ _ => rfl) fun X st hs h => by
  simp only [chkS] at h
  split at h
  · refine ps_imp ps_continue fun D σ H ⟨e, F, o, R, he, q⟩ => ?_
    cases he
    exact q σ F H R .refl
  · cases h
theorem soundS (s : Sm) : SndS C Φ k z fr s := by
  induction s with
  | nilB => exact S_nilB
  | consB s b h1 h2 => exact S_seq h1 h2
  | pass => exact S_pass
  | nev => exact S_nev
  | asg g e => exact mkSS (fun _ _ => rfl) fun X st hs h => S_asg hs h
  | aso i e => exact mkSS (fun _ _ => rfl) fun X st hs h => S_aso hs h
  | asp is os as => exact mkSS (fun _ _ => rfl) fun X st hs h => S_asp hs h
  | ast i k j e => exact mkSS (fun _ _ => rfl) fun X st hs h => S_ast hs h
  | sub i k e => exact mkSS (fun _ _ => rfl) fun X st hs h => S_sub hs h
  | sw2 i k j l e => exact mkSS (fun _ _ => rfl) fun X st hs h => S_sw2 hs h
  | kill i js d => exact mkSS (fun _ _ => rfl) fun X st hs h => S_kill hs h
  | aug i k o e => exact mkSS (fun _ _ => rfl) fun X st hs h => S_aug hs h
  | app i e => exact mkSS (fun _ _ => rfl) fun X st hs h => S_app hs h
  | ext i e => exact mkSS (fun _ _ => rfl) fun X st hs h => S_ext hs h
  | exp e => exact mkSS (fun _ _ => rfl) fun X st hs h => S_exp hs h
  | ifs c a b h1 h2 => exact S_ifs h1 h2
  | for_ g k a b s h => exact S_for h
  | whl c s h => exact S_whl h
  | ret e => exact mkSS (fun _ _ => rfl) fun X st hs h => S_ret hs h
  | retv i => exact mkSS (fun _ _ => rfl) fun X st hs h => S_retv hs h
  | retn => exact S_retn
  | brk => exact S_brk
  | cnt => exact S_cnt
end
end Iv
end
section
set_option Elab.async false
set_option linter.all false
set_option maxRecDepth 100000
/-! Defs in a table. -/
namespace Iv
open PySem PySem.Spec PyProof.Rows L2
/-! ### the table -/
structure De where
  x : Str
  ps : List Str
  N : List Str
  st : Stmt
  body : Sm
  fr : Bool
  kw : List (Nat × List Str × List Nat)
  nm : Str
def De.df (d : De) : Df := ⟨d.ps.length, d.N.length, d.body⟩
def dfs (ds : List De) : List Df := ds.map De.df
theorem tab_at {f : Df} {r : List Df} {a : List Sl} : tab (f :: r) r.length a = run (tab r) f a := by
  show (if r.length = r.length then _ else _) = _
  rw [if_pos rfl]
theorem tab_lt {f : Df} {r : List Df} {j : Nat} {a : List Sl} (h : j < r.length) : tab (f :: r) j a = tab r j a := by
  show (if j = r.length then _ else _) = _
  rw [if_neg (by omega)]
def intsD (ns : List Int) : D := .list (ns.map PyData.int)
end Iv
end
section
set_option Elab.async false
set_option linter.all false
set_option maxRecDepth 100000
set_option maxHeartbeats 2000000
/-! Defs and the table of them. -/
namespace Iv
open PySem PySem.Spec PyProof.Rows L2
/-! ### a def by its body -/
section
variable {P : Program} {w : World} {K : PySem.W.Frag} {mg : Str → Option Value} {base : Heap}
theorem fnG_body {x qual : Str} {st : Stmt} {f : Addr} {fd : FuncData} {N ps : List Str} {k : Nat} {sp : Sp} (hF : Fun K x qual st f fd) (S : FnScope N ps (defScope st)) (len : ∀ vs H Q E, sp vs H Q E → vs.length = ps.length)
    (hbody : ∀ (cdv : Value) (A : Around) (outer : List Env) (s : Shared) (H : Hp) (vs : List V) (Q : VK) (E : XK), Room k (A.deeper (envOfC qual (defScope st) s.heap.objs.size f cdv)) → A.guards = some [] → sp vs H Q E →
      ∃ t, PSs (cxOf CX0 P w K mg base N qual (defScope st) f cdv A outer s H E).nox (defBody st) t ∧ t { nx := fun _ H' => Q .non H', rt := Q } (start N vs) H) : FnG P w K mg base (k + 1) f fd ps sp := by
  obtain ⟨_, _, _, _, _, _, cv, _, _, rfl, inK, hcode⟩ := hF.ex
  refine ⟨len, fun A outer s H args us vs Q E room gd env0 bnd rel prom => ?_⟩
  have hlen := len _ _ _ _ prom
  have kin : K.In s.heap := env0.mod.kin.keeps fun b o h => (env0.bs b o h).1
  have nol : s.heap.NoLimit := env0.mod.nolimit.keeps fun b o h => (env0.bs b o h).1
  have kinds : ∀ y ∈ ps.zip us, (defScope st).names.lookup y.1 = some .local ∨ ((defScope st).names.lookup y.1 = some .cell ∧ ((cellsFrom (s.heap.objs.size + 1) (defScope st).names []).lookup y.1).isSome = true) := by
    rintro ⟨m, u⟩ hy
    rcases S.par m (List.of_mem_zip hy).1 with g | g
    · exact .inl g
    · exact .inr ⟨g, PySem.W.cellsFrom_some _ _ _ (.inl g)⟩
  refine codeAny_call_function room.depth (kin _ _ inK) rfl S.co S.gen rfl (PySem.W.codeRec_of kin hcode) (bnd _ _ _ _ (wpAny_newFunctionEnv_cells S.kind kinds fun env he s1 inc => ?_))
  subst he
  refine ⟨nol.keeps inc.toInCall.keep, codeAny_func ?_⟩
  obtain ⟨t, reads, ends⟩ := hbody cv A outer s H vs Q E (room.deeper _) gd prom
  have J0 := inv_start (CX := CX0) (P := P) (w := w) (E := E) S room.hd env0 hlen rel inc
  refine wpAny_mono (reads.nox.run [] s1 (start N vs) H _ J0 ends) (fun fl s' hs => ?_) fun e s' hs => hs
  have fin : ∀ {σ' : L2.St} {H' : Hp} {v : V} {u : Value}, Inv (cxOf CX0 P w K mg base N qual (defScope st) f cv A outer s H E) [] σ' H' s' → RelV v u → Q v H' → CE outer P w H s Q u s' := by
    intro σ' H' v u J rv q
    exact ⟨v, H', J.os, J.bare, J.base, J.hok, rv, q⟩
  cases fl with
  | ret u =>
    obtain ⟨v, σ', H', J, rv, q⟩ := hs
    exact fin J rv q
  | next =>
    obtain ⟨σ', H', J, q⟩ := hs
    exact fin (v := .non) (u := .none) J rfl q
  | brk => exact hs.elim fun _ ⟨_, _, q⟩ => q.elim
  | cont => exact hs.elim fun _ ⟨_, _, q⟩ => q.elim
end
/-! ### the promise of a def from its term -/
theorem outs_get : ∀ {args : List Sl} {e : Ev} {os : List Sl}, outs args e = some os → os.length = args.length ∧ ∀ (i : Nat) (s : Sl), os[i]? = some s →
    (∃ d, s = .sh d ∧ args[i]? = some (.sh d)) ∨ (∃ ys fz xs, s = .own false ys ∧ args[i]? = some (.own fz xs) ∧ e[i]? = some (.own false ys))
  | [], e, os, h => by
    cases h
    exact ⟨rfl, fun i s q => by cases q⟩
  | .own fz xs :: r, .own false ys :: t, os, h => by
    obtain ⟨o1, g1, rfl⟩ := Option.map_eq_some_iff.mp h
    obtain ⟨l, q⟩ := outs_get g1
    refine ⟨by rw [List.length_cons, List.length_cons, l], fun i s hs => ?_⟩
    cases i with
    | zero => cases hs; exact .inr ⟨ys, fz, xs, rfl, rfl, rfl⟩
    | succ i => exact q i s hs
  | .sh d :: r, _ :: t, os, h => by
    obtain ⟨o1, g1, rfl⟩ := Option.map_eq_some_iff.mp h
    obtain ⟨l, q⟩ := outs_get g1
    refine ⟨by rw [List.length_cons, List.length_cons, l], fun i s hs => ?_⟩
    cases i with
    | zero => cases hs; exact .inl ⟨d, rfl, rfl⟩
    | succ i => exact q i s hs
  | .un :: _, [], _, h => by cases h
  | .un :: _, _ :: _, _, h => by cases h
  | .own _ _ :: _, [], _, h => by cases h
  | .own _ _ :: _, .un :: _, _, h => by cases h
  | .own _ _ :: _, .sh _ :: _, _, h => by cases h
  | .own _ _ :: _, .own true _ :: _, _, h => by cases h
  | .sh _ :: _, [], _, h => by cases h
section
variable {K : PySem.W.Frag} {N : List Str} {vs : List V} {args os : List Sl} {F H F' H' : Hp} {e' : Ev} {σ' : L2.St} {n : Nat}
theorem st_get {α : Type} {xs ys : List α} {i : Nat} {x : α} (h : xs[i]? = some x) : (xs ++ ys)[i]? = some x := by
  rw [List.getElem?_append_left (List.getElem?_eq_some_iff.mp h).1]; exact h
theorem st_in {m : Nat} {α : Type} {xs : List α} {u x : α} {i : Nat} (h : (xs ++ List.replicate m u)[i]? = some x) (n : x ≠ u) : xs[i]? = some x := by
  by_cases hi : i < xs.length
  · rw [List.getElem?_append_left hi] at h; exact h
  · rw [List.getElem?_append_right (by omega)] at h
    rw [List.getElem?_replicate] at h
    split at h
    · cases h; exact absurd rfl n
    · cases h
theorem own_in {fz : Bool} {b : Addr} {m l : Nat} (h : OwnAt fz (args ++ List.replicate m .un) (vs.map some ++ List.replicate l none) b) : OwnAt fz args (vs.map some) b := by
  obtain ⟨i, ds, h1, h2⟩ := h
  exact ⟨i, ds, st_in h1 (fun q => by cases q), st_in h2 (fun q => by cases q)⟩
theorem own_out {fz : Bool} {b : Addr} {m l : Nat} (h : OwnAt fz args (vs.map some) b) : OwnAt fz (args ++ List.replicate m .un) (vs.map some ++ List.replicate l none) b := by
  obtain ⟨i, ds, h1, h2⟩ := h
  exact ⟨i, ds, st_get h1, st_get h2⟩
theorem rel_in {m l : Nat} (R : Rel K (vs.map some) args (vs.map some) F H) (hml : m = l) : Rel K (vs.map some ++ List.replicate l none) (args ++ List.replicate m .un) (vs.map some ++ List.replicate l none) F H where
  len := by rw [List.length_append, List.length_append, R.len, List.length_replicate, List.length_replicate, hml]
  sub := R.sub
  sh := fun i d h => by
    obtain ⟨v, h1, h2⟩ := R.sh i d (st_in h (fun q => by cases q))
    exact ⟨v, st_get h1, h2⟩
  own := fun i fz ds h => by
    obtain ⟨a, us, h1, h2⟩ := R.own i fz ds (st_in h (fun q => by cases q))
    exact ⟨a, us, st_get h1, h2⟩
  inj := fun i j fz fz' ds ds' a h1 h2 h3 h4 => R.inj i j fz fz' ds ds' a (st_in h1 (fun q => by cases q)) (st_in h2 (fun q => by cases q)) (st_in h3 (fun q => by cases q)) (st_in h4 (fun q => by cases q))
  io := fun i ds h => rfl
theorem rel_out {m l : Nat} (R : Rel K (vs.map some) args (vs.map some) F H) (R2 : Rel K (vs.map some ++ List.replicate l none) e' σ' F' H') (S : StpS (args ++ List.replicate m .un) (vs.map some ++ List.replicate l none) F H e' σ' F' H') (ho : outs args e' = some os) :
    Rel K (vs.map some) os (vs.map some) F' H' ∧ Stp args (vs.map some) F H os (vs.map some) F' H' ∧ ∀ fz b, OwnAt fz os (vs.map some) b → OwnAt fz e' σ' b := by
  obtain ⟨hl, q⟩ := outs_get ho
  have al := R.len
  -- a lent list stands where it stood
  have own1 : ∀ (i : Nat) (fz : Bool) (ys : List D), os[i]? = some (.own fz ys) → fz = false ∧ e'[i]? = some (.own false ys) ∧ (vs.map some)[i]? = σ'[i]? ∧ ∃ f xs, args[i]? = some (.own f xs) := fun i fz ys h => by
    rcases q i _ h with ⟨d, e1, _⟩ | ⟨ys', f, xs, e1, e2, e3⟩
    · cases e1
    · cases e1
      refine ⟨rfl, e3, ?_, f, xs, e2⟩
      rw [R2.io i ys e3, List.getElem?_append_left (by rw [← al]; exact (List.getElem?_eq_some_iff.mp e2).1)]
  refine ⟨⟨by rw [hl]; exact al, R2.sub, fun i d h => ?_, fun i fz ys h => ?_, fun i j fz fz' ys ys' a h1 h2 g1 g2 => ?_, fun _ _ _ => rfl⟩, ⟨S.fs, fun b o hb n => S.keep b o hb fun fz w => n fz (own_in w), S.there, fun b hb => ?_, fun b hb => ?_, fun b hb => ?_, S.nf⟩, fun fz b ⟨i, ys, h1, h2⟩ => ?_⟩
  · rcases q i _ h with ⟨d', e1, e2⟩ | ⟨ys', f, xs, e1, _⟩
    · cases e1
      obtain ⟨v, g1, g2⟩ := R.sh i d e2
      exact ⟨v, g1, dp_mono S.fs g2⟩
    · cases e1
  · obtain ⟨rfl, e1, e2, _⟩ := own1 i fz ys h
    rw [e2]
    exact R2.own i false ys e1
  · obtain ⟨rfl, e1, e2, _⟩ := own1 i fz ys h1
    obtain ⟨rfl, e1', e2', _⟩ := own1 j fz' ys' h2
    rw [e2] at g1
    rw [e2'] at g2
    exact R2.inj i j false false ys ys' a e1 e1' g1 g2
  · rcases S.new b hb with w | w | w
    · exact .inl w
    · exact .inr (.inl w)
    · exact .inr (.inr (own_in w))
  · obtain ⟨i, ys, h1, _⟩ := hb
    exact absurd (own1 i true ys h1).1 (by decide)
  · obtain ⟨i, ys, h1, h2⟩ := hb
    obtain ⟨_, e1, e2, _⟩ := own1 i false ys h1
    rw [e2] at h2
    exact own_in (S.owF b ⟨i, ys, e1, h2⟩)
  · obtain ⟨rfl, e1, e2, _⟩ := own1 i fz ys h1
    rw [e2] at h2
    exact ⟨i, ys, e1, h2⟩
end
structure DefAt (K : PySem.W.Frag) (mg : Str → Option Value) (d : De) : Prop where
  ex : ∃ f fd, mg d.x = some (.ref f) ∧ Fun K d.nm d.nm d.st f fd ∧ Binds K fd d.ps [] ∧ ∀ n ks perm, (n, ks, perm) ∈ d.kw → KwOk K fd d.ps n ks perm
/-- what a def may speak of: the defs ahead of it -/
def kwsOf : List De → List (Nat × Nat × List Str × List Nat)
  | [] => []
  | d :: r => d.kw.map (fun t => (r.length, t.1, t.2.1, t.2.2)) ++ kwsOf r
/-- the defs that give a list of their own -/
def frsOf : List De → List Nat
  | [] => []
  | d :: r => if d.fr then r.length :: frsOf r else frsOf r
def ccOf (glo : List (Str × D)) (bis : List Str) (r : List De) (N : List Str) : Cc := ⟨N, glo, bis, r.reverse.map fun d => (d.x, d.ps), kwsOf r, frsOf r⟩
def nodupS : List Str → Bool
  | [] => true
  | a :: r => !decide (a ∈ r) && nodupS r
theorem nodupS_ok : ∀ {l : List Str}, nodupS l = true → l.Nodup
  | [], _ => List.nodup_nil
  | a :: r, h => by
    unfold nodupS at h
    rw [Bool.and_eq_true] at h
    exact List.nodup_cons.mpr ⟨by simpa using h.1, nodupS_ok h.2⟩
def scopeB (N P : List Str) (sc : Scope) : Bool :=
  (match sc.kind with | .function => true | _ => false) && !sc.isCoroutine && !sc.isGenerator && nodupS N && decide (N.take P.length = P) && P.all (fun x => locB sc x) && sc.names.all fun y => match y.2 with | .free => false | _ => true
theorem scope_of {N P : List Str} {sc : Scope} (h : scopeB N P sc = true) : FnScope N P sc := by
  simp only [scopeB, Bool.and_eq_true] at h
  obtain ⟨⟨⟨⟨⟨⟨h1, h2⟩, h3⟩, h4⟩, h5⟩, h6⟩, h7⟩ := h
  refine ⟨?_, by simpa using h2, by simpa using h3, nodupS_ok h4, of_decide_eq_true h5, fun x hx => ?_, fun y hy e => ?_⟩
  · split at h1
    · assumption
    · cases h1
  · have := List.all_eq_true.mp h6 x hx
    unfold locB at this
    split at this
    · rename_i h; exact .inl h
    · rename_i h; exact .inr h
    · cases this
  · have := List.all_eq_true.mp h7 y hy
    rw [e] at this
    cases this
def chkD (glo : List (Str × D)) (bis : List Str) (r : List De) (d : De) : Bool := scopeB d.N d.ps (defScope d.st) && chkB (ccOf glo bis r d.N) d.fr d.body (defScope d.st) (defBody d.st)
def chkDs (glo : List (Str × D)) (bis : List Str) : List De → Bool
  | [] => true
  | d :: r => chkD glo bis r d && chkDs glo bis r
structure World1 (K : PySem.W.Frag) (mg : Str → Option Value) (glo : List (Str × D)) (bis : List Str) : Prop where
  glo : ∀ x d, (x, d) ∈ glo → ∃ v u, mg x = some u ∧ RelV v u ∧ Dp K (fun _ => none) v d
  bis : ∀ x, bis.contains x = true → mg x = none
  nol : ∀ p o, K.lookup p = some o → o.cls ≠ .type "list"
section
variable {P : Program} {w : World} {K : PySem.W.Frag} {mg : Str → Option Value} {base : Heap} {glo : List (Str × D)} {bis : List Str}
/-- what the table holds -/
def TabOk (P : Program) (w : World) (K : PySem.W.Frag) (mg : Str → Option Value) (base : Heap) (ds : List De) : Prop :=
  ∀ j d, ds.reverse[j]? = some d → ∃ f fd, mg d.x = some (.ref f) ∧ PySem.W.keepIn K (.ref f) = true ∧ Binds K fd d.ps [] ∧ (∀ n ks perm, (n, ks, perm) ∈ d.kw → KwOk K fd d.ps n ks perm) ∧
    FnG P w K mg base (j + 1) f fd d.ps (SpF K (tab (dfs ds)) j) ∧ (d.fr = true → FnG P w K mg base (j + 1) f fd d.ps (SpR K (tab (dfs ds)) j))
theorem frs_in : ∀ {r : List De} {j : Nat}, (frsOf r).contains j = true → ∃ d, r.reverse[j]? = some d ∧ d.fr = true
  | [], j, h => by cases h
  | d :: r, j, h => by
    have h : j ∈ frsOf (d :: r) := by simpa using h
    unfold frsOf at h
    have up : j ∈ frsOf r → ∃ d', (d :: r).reverse[j]? = some d' ∧ d'.fr = true := fun h => by
      obtain ⟨d', h1, h2⟩ := frs_in (r := r) (j := j) (by simpa using h)
      exact ⟨d', by rw [List.reverse_cons]; exact st_get h1, h2⟩
    split at h
    · rename_i hf
      rcases List.mem_cons.mp h with h | h
      · subst h
        refine ⟨d, ?_, hf⟩
        rw [List.reverse_cons, List.getElem?_append_right (by rw [List.length_reverse]; exact Nat.le_refl _), List.length_reverse, Nat.sub_self]
        rfl
      · exact up h
    · exact up h
theorem kws_in : ∀ {r : List De} {j n : Nat} {ks : List Str} {perm : List Nat}, (j, n, ks, perm) ∈ kwsOf r → ∃ d, r.reverse[j]? = some d ∧ (n, ks, perm) ∈ d.kw
  | [], _, _, _, _, h => by cases h
  | d :: r, j, n, ks, perm, h => by
    unfold kwsOf at h
    rw [List.reverse_cons]
    rcases List.mem_append.mp h with h | h
    · obtain ⟨t, h1, h2⟩ := List.mem_map.mp h
      cases h2
      refine ⟨d, ?_, h1⟩
      rw [List.getElem?_append_right (by rw [List.length_reverse]; exact Nat.le_refl _), List.length_reverse, Nat.sub_self]
      rfl
    · obtain ⟨d', h1, h2⟩ := kws_in h
      exact ⟨d', st_get h1, h2⟩
theorem sp_len {Φ : Fn} {j n : Nat} (h : ∀ args o, Φ j args = some o → args.length = n) : ∀ vs H Q E, SpF K Φ j vs H Q E → vs.length = n := fun vs H Q E ⟨args, F, d, os, R, _, hr, _⟩ => by
  have := R.len
  rw [List.length_map] at this
  rw [← this]
  exact h _ _ hr
theorem spr_len {Φ : Fn} {j n : Nat} (h : ∀ args o, Φ j args = some o → args.length = n) : ∀ vs H Q E, SpR K Φ j vs H Q E → vs.length = n := fun vs H Q E ⟨args, F, d, os, R, _, hr, _⟩ => by
  have := R.len
  rw [List.length_map] at this
  rw [← this]
  exact h _ _ hr
theorem run_len {Φ : Fn} {f : Df} {args : List Sl} {o : D × List Sl} (h : run Φ f args = some o) : args.length = f.np := by
  unfold run at h
  split at h
  · assumption
  · cases h
/-- one def over a table -/
theorem def_ok {r : List De} {d : De} {f : Addr} {fd : FuncData} (T : TabOk P w K mg base r) (W : World1 K mg glo bis) (hF : Fun K d.nm d.nm d.st f fd) (h : chkD glo bis r d = true) :
    FnG P w K mg base (r.length + 1) f fd d.ps (SpF K (tab (dfs (d :: r))) r.length) ∧ (d.fr = true → FnG P w K mg base (r.length + 1) f fd d.ps (SpR K (tab (dfs (d :: r))) r.length)) := by
  unfold chkD at h
  rw [Bool.and_eq_true] at h
  obtain ⟨h1, h2⟩ := h
  have S := scope_of h1
  have lr : (dfs r).length = r.length := List.length_map _
  have hrun : ∀ a, tab (dfs (d :: r)) r.length a = run (tab (dfs r)) d.df a := fun a => by
    have := tab_at (f := d.df) (r := dfs r) (a := a)
    rw [lr] at this
    exact this
  have ln : ∀ args o, tab (dfs (d :: r)) r.length args = some o → args.length = d.ps.length := fun args o h => by
    rw [hrun] at h
    exact run_len h
  have lN : d.ps.length ≤ d.N.length := by
    have := congrArg List.length S.pre
    rw [List.length_take] at this
    omega
  have main : ∀ (cdv : Value) (A : Around) (outer : List Env) (s : Shared) (H : Hp) (vs : List V) (Q : VK) (E : XK), Room r.length (A.deeper (envOfC d.nm (defScope d.st) s.heap.objs.size f cdv)) → A.guards = some [] →
      ∀ (args os : List Sl) (F : Hp) (dd : D), Rel K (vs.map some) args (vs.map some) F H → (∀ (i : Nat) (ds : List D), args[i]? ≠ some (Sl.own true ds)) → tab (dfs (d :: r)) r.length args = some (dd, os) →
        (∀ v F' H', Rel K (vs.map some) os (vs.map some) F' H' → Stp args (vs.map some) F H os (vs.map some) F' H' → (∃ e' σ', (∀ fz b, OwnAt fz os (vs.map some) b → OwnAt fz e' σ' b) ∧ (if d.fr = true then FrAt K H e' σ' F' H' v dd else Dp K F' v dd)) ∨ (v = .non ∧ dd = .none) → Q v H') →
      ∃ t, PSs (cxOf CX0 P w K mg base d.N d.nm (defScope d.st) f cdv A outer s H E).nox (defBody d.st) t ∧ t { nx := fun _ H' => Q .non H', rt := Q } (start d.N vs) H := by
    rintro cdv A outer s H vs Q E hr hg args os F dd R noArg he q
    let X := (cxOf CX0 P w K mg base d.N d.nm (defScope d.st) f cdv A outer s H E).nox
    have ck : COk (ccOf glo bis r d.N) (tab (dfs r)) r.length X := by
      refine ⟨rfl, S.nd, rfl, hr, hg, W.glo, W.bis, W.nol, fun j x ps hj => ?_⟩
      have hj : (r.reverse.map fun d => (d.x, d.ps))[j]? = some (x, ps) := hj
      rw [List.getElem?_map] at hj
      obtain ⟨dj, g1, g2⟩ := Option.map_eq_some_iff.mp hj
      cases g2
      have hlt : j < r.length := by
        have := (List.getElem?_eq_some_iff.mp g1).1
        rwa [List.length_reverse] at this
      obtain ⟨f', fd', a1, a2, a3, a4, a5, a6⟩ := T j dj g1
      refine ⟨f', fd', a1, a2, a3, a5.up hlt, fun n ks perm hin => ?_, fun hin => ?_⟩
      · obtain ⟨d2, b1, b2⟩ := kws_in hin
        rw [g1] at b1
        cases b1
        exact a4 n ks perm b2
      · obtain ⟨d2, b1, b2⟩ := frs_in hin
        rw [g1] at b1
        cases b1
        exact (a6 b2).up hlt
    have sk : SOk (ccOf glo bis r d.N) (tab (dfs r)) r.length X := ⟨ck, S.kind, rfl, PassesOwn.never⟩
    refine ⟨_, (soundS (z := start d.N vs) (fr := d.fr) d.body).b X (defBody d.st) sk h2, ?_⟩
    rw [hrun] at he
    unfold run at he
    split at he
    · rename_i hl
      have hl : args.length = d.ps.length := hl
      have lv : vs.length = d.ps.length := by
        have := R.len
        rw [List.length_map] at this
        omega
      have hm : d.N.length - d.ps.length = d.N.length - vs.length := by rw [lv]
      have R0 : Rel K (start d.N vs) (args ++ List.replicate (d.N.length - d.ps.length) .un) (start d.N vs) F H := rel_in R hm
      split at he
      · rename_i dd' e' hx
        obtain ⟨os', ho, e1⟩ := Option.map_eq_some_iff.mp he
        cases e1
        refine ⟨_, F, .rt dd e', R0, hx, fun v σ' F' H' R' S' rt => ?_⟩
        obtain ⟨k1, k2, k3⟩ := rel_out R R' S' ho
        refine q v F' H' k1 k2 (.inl ⟨e', σ', k3, ?_⟩)
        cases hfr : d.fr with
        | false =>
          rw [hfr] at rt
          exact rt
        | true =>
          rw [hfr] at rt
          obtain ⟨p, us, ds, a1, a2, a3, a4, a5, a6, a7⟩ := (show FrO K (args ++ List.replicate (d.N.length - d.ps.length) .un) (start d.N vs) H e' σ' F' H' v _ from rt)
          refine ⟨p, us, ds, a1, a2, a3, a4, a5, a6, ?_⟩
          rcases a7 with a7 | ⟨i, xs, w1, _⟩
          · exact a7
          · exfalso
            by_cases hi : i < args.length
            · rw [List.getElem?_append_left hi] at w1
              exact noArg i xs w1
            · rw [List.getElem?_append_right (by omega)] at w1
              have := List.mem_of_getElem? w1
              have := (List.mem_replicate.mp this).2
              cases this
      · rename_i e' hx
        obtain ⟨os', ho, e1⟩ := Option.map_eq_some_iff.mp he
        cases e1
        refine ⟨_, F, .nx e', R0, hx, fun σ' F' H' R' S' => ?_⟩
        obtain ⟨k1, k2, k3⟩ := rel_out R R' S' ho
        exact q .non F' H' k1 k2 (.inr ⟨rfl, rfl⟩)
      · cases he
    · cases he
  refine ⟨fnG_body hF S (sp_len ln) fun cdv A outer s H vs Q E hr hg ⟨args, F, dd, os, R, na, he, q⟩ => main cdv A outer s H vs Q E hr hg args os F dd R na he fun v F' H' R' S' rt => ?_, fun hfr => fnG_body hF S (spr_len ln) fun cdv A outer s H vs Q E hr hg ⟨args, F, dd, os, R, na, he, ⟨xs, hd⟩, q⟩ => main cdv A outer s H vs Q E hr hg args os F dd R na he fun v F' H' R' S' rt => ?_⟩
  · rcases rt with ⟨e', σ', ow, rt⟩ | ⟨rfl, rfl⟩
    · cases hfr : d.fr with
      | false =>
        rw [hfr] at rt
        exact q v F' H' R' S' rt
      | true =>
        rw [hfr] at rt
        obtain ⟨p, us, ds, rfl, rfl, hP, hF', dp, no, hp⟩ := (show FrAt K H e' σ' F' H' v dd from rt)
        have m : Same F' (upd F' p (.lst us)) := Same.fresh hF'
        refine q (.ref p) (upd F' p (.lst us)) H' (R'.know hP hF' fun fz w => no fz (ow fz p w)) ⟨S'.fs.trans m, S'.keep, S'.there, fun b hb => ?_, S'.owT, S'.owF, nf_upd S'.nf⟩ (.lst (.inl (.inl upd_same)) (dps_mono m dp))
        by_cases e1 : b = p
        · subst e1
          exact .inr (.inl hp)
        · rw [upd_ne e1] at hb
          exact S'.new b hb
    · exact q .non F' H' R' S' .non
  · subst hd
    rcases rt with ⟨e', σ', ow, rt⟩ | ⟨_, e1⟩
    · rw [hfr] at rt
      obtain ⟨p, us, ds, a1, a2, a3, a4, a5, a6, a7⟩ := (show FrAt K H e' σ' F' H' v (.list xs) from rt)
      exact q v F' H' R' S' ⟨p, us, ds, a1, a2, a3, a4, a5, fun fz w => a6 fz (ow fz p w), a7⟩
    · cases e1
theorem sp_congr {Φ Ψ : Fn} {j k : Nat} {f : Addr} {fd : FuncData} {ps : List Str} (h : ∀ a, Φ j a = Ψ j a) (F : FnG P w K mg base k f fd ps (SpF K Φ j)) : FnG P w K mg base k f fd ps (SpF K Ψ j) := by
  have : SpF K Φ j = SpF K Ψ j := by
    unfold SpF
    simp only [h]
  rw [← this]
  exact F
theorem spr_congr {Φ Ψ : Fn} {j k : Nat} {f : Addr} {fd : FuncData} {ps : List Str} (h : ∀ a, Φ j a = Ψ j a) (F : FnG P w K mg base k f fd ps (SpR K Φ j)) : FnG P w K mg base k f fd ps (SpR K Ψ j) := by
  have : SpR K Φ j = SpR K Ψ j := by
    unfold SpR
    simp only [h]
  rw [← this]
  exact F
theorem tab_ok (W : World1 K mg glo bis) : ∀ {ds : List De}, (∀ d ∈ ds, DefAt K mg d) → chkDs glo bis ds = true → TabOk P w K mg base ds
  | [], _, _ => fun j d h => by cases h
  | d :: r, hd, hc => by
    unfold chkDs at hc
    rw [Bool.and_eq_true] at hc
    have T := tab_ok W (ds := r) (fun d' h => hd d' (List.mem_cons_of_mem _ h)) hc.2
    intro j d' hj
    rw [List.reverse_cons] at hj
    have lr : (dfs r).length = r.length := List.length_map _
    by_cases hlt : j < r.length
    · rw [List.getElem?_append_left (by rw [List.length_reverse]; exact hlt)] at hj
      obtain ⟨f, fd, a1, a2, a3, a4, a5, a6⟩ := T j d' hj
      have hh : ∀ a, tab (dfs r) j a = tab (dfs (d :: r)) j a := fun a => (tab_lt (f := d.df) (r := dfs r) (by rw [lr]; exact hlt)).symm
      exact ⟨f, fd, a1, a2, a3, a4, sp_congr hh a5, fun q => spr_congr hh (a6 q)⟩
    · rw [List.getElem?_append_right (by rw [List.length_reverse]; omega), List.length_reverse] at hj
      have e1 : j - r.length = 0 := by
        have := (List.getElem?_eq_some_iff.mp hj).1
        simp at this
        omega
      rw [e1] at hj
      cases hj
      have e2 : j = r.length := by omega
      subst e2
      obtain ⟨f, fd, a1, a2, a3, a4⟩ := (hd d List.mem_cons_self).ex
      obtain ⟨b1, b2⟩ := def_ok T W a2 hc.1
      exact ⟨f, fd, a1, a2.kp, a3, a4, b1, b2⟩
end
end Iv
end
section
set_option Elab.async false
set_option linter.all false
set_option maxRecDepth 100000
set_option maxHeartbeats 2000000
/-! The law's own def and the end of the row. -/
namespace Iv
open PySem PySem.Spec PyProof.Rows L2
def spLaw (K : PySem.W.Frag) (m : Nat) : Sp := fun vs H Q _ => ∃ (a : Addr) (ns : List Int), vs = [.ref a] ∧ SqL K H a (ns.map V.int) ∧ ns.length ≤ m ∧ ∀ H', Q (.bl true) H'
theorem dps_ints {K : PySem.W.Frag} {F : Hp} : ∀ ns : List Int, DpAll K F (ns.map V.int) (ns.map PyData.int)
  | [] => .nil
  | n :: ns => .cons (.int n) (dps_ints ns)
section
variable {P : Program} {w : World} {K : PySem.W.Frag} {mg : Str → Option Value} {base : Heap}
theorem rel_sh {F H : Hp} (m : Same F H) : ∀ {vs : List V} {ds : List D}, DpAll K F vs ds → Rel K (vs.map some) (ds.map Sl.sh) (vs.map some) F H := fun {vs ds} dp => by
  have g : ∀ (i : Nat) (s : Sl), (ds.map Sl.sh)[i]? = some s → ∃ d v, s = .sh d ∧ vs[i]? = some v ∧ Dp K F v d := fun i s h => by
    rw [List.getElem?_map] at h
    obtain ⟨d, h1, rfl⟩ := Option.map_eq_some_iff.mp h
    obtain ⟨v, h2, h3⟩ := dps_get dp h1
    exact ⟨d, v, rfl, h2, h3⟩
  refine ⟨by rw [List.length_map, List.length_map, dps_len dp], m, fun i d h => ?_, fun i fz xs h => ?_, fun i j fz fz' xs xs' a h => ?_, fun _ _ _ => rfl⟩
  · obtain ⟨d', v, e1, h2, h3⟩ := g i _ h
    cases e1
    exact ⟨v, by rw [List.getElem?_map, h2]; rfl, h3⟩
  · obtain ⟨d', v, e1, _⟩ := g i _ h
    cases e1
  · obtain ⟨d', v, e1, _⟩ := g i _ h
    cases e1
/-- the law is one of the defs -/
theorem law_ok2 {ds : List De} {j m : Nat} {d : De} (T : TabOk P w K mg base ds) (hd : ds.reverse[j]? = some d) (hps : d.ps = (["script"] : List Str)) (good : ∀ ns : List Int, ns.length ≤ m → ∃ os, tab (dfs ds) j [.sh (intsD ns)] = some (.bool true, os)) :
    ∃ f fd, mg d.x = some (.ref f) ∧ Binds K fd ["script"] [] ∧ FnG P w K mg base (j + 1) f fd ["script"] (spLaw K m) := by
  obtain ⟨f, fd, h1, _, hb, _, FG, _⟩ := T j d hd
  rw [hps] at FG hb
  refine ⟨f, fd, h1, hb, fun vs H Q E ⟨a, ns, e, _⟩ => by rw [e]; rfl, fun A outer s H args us vs Q E hr hg env0 bnd rel ⟨a, ns, e, hq, hn, q⟩ => ?_⟩
  refine FG.run A outer s H args us vs Q E hr hg env0 bnd rel ?_
  obtain ⟨os, h2⟩ := good ns hn
  subst e
  have dpa : DpAll K H [V.ref a] [intsD ns] := .cons (.lst hq (dps_ints ns)) .nil
  refine ⟨[intsD ns].map Sl.sh, H, .bool true, os, rel_sh (Same.refl H) dpa, fun i xs h => ?_, h2, fun v F' H' _ _ dp => ?_⟩
  · rw [List.getElem?_map] at h
    obtain ⟨_, _, e⟩ := Option.map_eq_some_iff.mp h
    cases e
  · cases dp
    exact q H'
end
end Iv
end
section
set_option Elab.async false
set_option linter.all false
set_option maxRecDepth 100000
set_option maxHeartbeats 2000000
/-! The end of a law's row. -/
namespace Iv
open PySem PySem.Spec PyProof.Rows L2
/-- what of the script may be followed: nothing, or the frozen list -/
theorem law_run {P : Program} {w : World} {K : PySem.W.Frag} {mg mb : Str → Option Value} {k m : Nat} {fa a : Addr} {t0 : Shared} {us : List Value} {ns : List Int}
    (kin : K.In t0.heap) (gl : t0.heap.Ns mainGlobals mg) (bl : t0.heap.Ns builtinsNs mb) (bb : ∀ x : Str, x ≠ "__name__" → mb x = bootBuiltins x) (nol : t0.heap.NoLimit) (ng : t0.gens = #[])
    (at0 : t0.heap.get? a = some { cls := .type "list", data := .seq us.toArray }) (hints : IntsAre us ns) (short : ns.length ≤ m) (hm : m ≤ sizeLine) (room : Room k callerA)
    (F : ∀ base : Heap, K.In base → base.Ns mainGlobals mg → ∃ fd : FuncData, Binds K fd ["script"] [] ∧ FnG P w K mg base k fa fd ["script"] (spLaw K m)) :
    codeAny (model P w) callerA (.call (.ref fa) ⟨[.ref a], []⟩) (fun r t => r = .ok (.ret (.bool true)) ∧ OldK t0.heap t.heap ∧ t.os = t0.os ∧ AllBare t.gens) t0 := by
  have vs := vals_ints hints
  have len := hints.length
  have main : ∀ H : Hp, Only H → SqL K H a (ns.map V.int) → HOk P w H t0.heap → (∀ b, H b ≠ none → b = a) → (H a ≠ none → K.lookup a = none) →
      codeAny (model P w) callerA (.call (.ref fa) ⟨[.ref a], []⟩) (fun r t => r = .ok (.ret (.bool true)) ∧ OldK t0.heap t.heap ∧ t.os = t0.os ∧ AllBare t.gens) t0 := by
    intro H only sq hok onlyA notK
    have seen : ∀ {b : Addr} {o : Obj}, t0.heap.get? b = some o → H b = none → (hidT t0.heap H).get? b = some o := hidT_get
    have dictsFree : ∀ {b : Addr} {o : Obj} {es : Array DictEntry} {ep : Nat}, t0.heap.get? b = some o → o.data = .dict es ep → H b = none := by
      intro b o es ep g d
      by_cases hb : H b = none
      · exact hb
      · have e1 := onlyA b hb
        subst e1
        rw [at0] at g
        cases g
        exact absurd (show Data.seq us.toArray _ = Data.dict es ep from d) (by intro q; cases q)
    have nsOf : ∀ {b : Addr} {μ : Str → Option Value}, t0.heap.Ns b μ → (hidT t0.heap H).Ns b μ := fun {b μ} ⟨o, es, ep, g, d, q⟩ => ⟨o, es, ep, seen g (dictsFree g d), d, q⟩
    have kinB : K.In (hidT t0.heap H) := by
      intro b o g
      refine seen (kin b o g) ?_
      by_cases hb : H b = none
      · exact hb
      · have e1 := onlyA b hb
        subst e1
        rw [notK hb] at g
        cases g
    have mod : Mod K mg (hidT t0.heap H) := by
      obtain ⟨mc, c1, c2⟩ := nol
      exact ⟨kinB, nsOf gl, ⟨mb, nsOf bl, bb⟩, mc, nsOf c1, c2⟩
    have env0 : Env0 P w K mg (hidT t0.heap H) callerA [] t0 H := by
      refine ⟨rfl, mod, fun b o g => of_hidT g, Nat.le_of_eq (hidT_size _ _), trivial, fun b hb => ?_, hok, .of_eq ng⟩
      exact absurd (show b ∈ ([] : List Addr) from hb) List.not_mem_nil
    obtain ⟨fd, hbn, FG⟩ := F _ kinB (nsOf gl)
    have done := FG.run callerA [] t0 H ⟨[.ref a], []⟩ [.ref a] [.ref a] (fun v _ => v = .bl true) E0 room rfl env0 (hbn t0 [.ref a] kin rfl) (.cons rfl .nil) ⟨a, ns, rfl, sq, short, fun _ => rfl⟩
    refine codeAny_mono done fun r t h => ?_
    match r, h with
    | .ok (.ret u), ⟨v, H', os, bare, un, hok', rv, q⟩ =>
      subst q
      cases (show u = Value.bool true from rv)
      refine ⟨rfl, OldK.of_keep fun b o g => ?_, os, bare⟩
      rcases only b with z | ⟨ob, xs, z⟩
      · exact un.keep b o g z (fun q => absurd (show b ∈ ([] : List Addr) from q) List.not_mem_nil) (by simp)
      · obtain ⟨g1, _⟩ := hok b _ z
        obtain ⟨g2, _⟩ := hok' b _ (un.frzs b ob _ z)
        rw [g] at g1
        cases g1
        exact g2
  by_cases hk : K.lookup a = none
  · let H : Hp := fun b => if b = a then some (.frz { cls := .type "list", data := .seq us.toArray } (.lst (ns.map V.int))) else none
    have same : H a = some (.frz { cls := .type "list", data := .seq us.toArray } (.lst (ns.map V.int))) := if_pos rfl
    have other : ∀ b, b ≠ a → H b = none := fun b hb => if_neg hb
    refine main H (fun b => ?_) (.inl (.inr ⟨_, same⟩)) (fun b u z => ?_) (fun b z => ?_) fun _ => hk
    · by_cases hb : b = a
      · rw [hb]; exact .inr ⟨_, _, same⟩
      · exact .inl (other b hb)
    · by_cases hb : b = a
      · subst hb
        rw [same] at z
        cases z
        exact ⟨at0, by rw [List.length_map]; exact Nat.le_trans short hm, us, _, vs, at0⟩
      · rw [other b hb] at z
        cases z
    · by_cases hb : b = a
      · exact hb
      · exact absurd (other b hb) z
  · cases hko : K.lookup a with
    | none => exact absurd hko hk
    | some o =>
      have g := kin a o hko
      rw [at0] at g
      cases g
      refine main (fun _ => none) (fun _ => .inl rfl) (.inr ⟨_, us.toArray, _, hko, rfl, rfl, rfl, by rw [List.size_toArray, len]; exact Nat.le_trans short hm, by simpa using vs⟩) (fun b u z => by cases z) (fun b z => absurd rfl z) fun z => absurd rfl z
end Iv
end
section
set_option Elab.async false
set_option linter.all false
set_option maxRecDepth 100000
set_option maxHeartbeats 2000000
/-! The head: what the top leaves, read by a Hook; the end of a row. -/
namespace Iv
open PySem PySem.Spec PyProof.Rows L2
/-! ### a global that is data -/
mutual
def rdB (K : PySem.W.Frag) : D → Value → Bool
  | .none, .none => true
  | .bool a, .bool b => a == b
  | .int i, .int j _ => decide (j = i)
  | .str x, .str y _ => decide (y = x)
  | .tuple ds, .ref a => (match K.lookup a with
    | some ⟨.type c, _, .seq its _, _⟩ => decide (c = "tuple") && (decide (its.size ≤ sizeLine) && rdsB K ds its.toList)
    | _ => false)
  | _, _ => false
def rdsB (K : PySem.W.Frag) : List D → List Value → Bool
  | [], [] => true
  | d :: ds, u :: us => rdB K d u && rdsB K ds us
  | _, _ => false
end
mutual
theorem rdB_ok {K : PySem.W.Frag} : ∀ {d : D} {u : Value}, rdB K d u = true → ∃ v, RelV v u ∧ Dp K (fun _ => none) v d
  | .none, u, h => by
    cases u <;> first | exact ⟨.non, rfl, .non⟩ | (simp [rdB] at h)
  | .bool a, u, h => by
    cases u with
    | bool b =>
      rw [rdB] at h
      have e : a = b := by simpa using h
      subst e
      exact ⟨.bl a, rfl, .bl _⟩
    | _ => simp [rdB] at h
  | .int i, u, h => by
    cases u with
    | int j t =>
      rw [rdB] at h
      have e := of_decide_eq_true h
      subst e
      exact ⟨.int j, ⟨t, rfl⟩, .int _⟩
    | _ => simp [rdB] at h
  | .str x, u, h => by
    cases u with
    | str y t =>
      rw [rdB] at h
      have e := of_decide_eq_true h
      subst e
      exact ⟨.str y, ⟨t, rfl⟩, .str _⟩
    | _ => simp [rdB] at h
  | .tuple ds, u, h => by
    cases u with
    | ref a =>
      rw [rdB] at h
      cases q : K.lookup a with
      | none => rw [q] at h; cases h
      | some o =>
        obtain ⟨oc, od, dt, osl⟩ := o
        rw [q] at h
        cases oc with
        | type c =>
          cases dt with
          | seq its n =>
            simp only [Bool.and_eq_true] at h
            obtain ⟨h1, h2, h3⟩ := h
            obtain ⟨vs, g1, g2⟩ := rdsB_ok h3
            exact ⟨.ref a, rfl, .tup (.inr ⟨_, its, n, q, congrArg Value.type (of_decide_eq_true h1), rfl, of_decide_eq_true h2, g1⟩) g2⟩
          | _ => cases h
        | _ => cases dt <;> cases h
    | _ => simp [rdB] at h
  | .list ds, u, h => by cases u <;> simp [rdB] at h
  | .dict ds, u, h => by cases u <;> simp [rdB] at h
theorem rdsB_ok {K : PySem.W.Frag} : ∀ {ds : List D} {us : List Value}, rdsB K ds us = true → ∃ vs, Vals vs us ∧ DpAll K (fun _ => none) vs ds
  | [], [], _ => ⟨[], .nil, .nil⟩
  | [], _ :: _, h => by simp [rdsB] at h
  | _ :: _, [], h => by simp [rdsB] at h
  | d :: ds, u :: us, h => by
    rw [rdsB, Bool.and_eq_true] at h
    obtain ⟨v, h1, h2⟩ := rdB_ok h.1
    obtain ⟨vs, h3, h4⟩ := rdsB_ok h.2
    exact ⟨v :: vs, .cons h1 h3, .cons h2 h4⟩
end
def gloB' (K : PySem.W.Frag) (p : Str × D) : Bool := match PySem.W.nsIn K mainGlobals p.1 with
  | some (some u) => rdB K p.2 u
  | _ => false
theorem gloB'_ok {K : PySem.W.Frag} {h : Heap} {mg : Str → Option Value} (X : K.In h) (G : h.Ns mainGlobals mg) {x : Str} {d : D} (c : gloB' K (x, d) = true) : ∃ v u, mg x = some u ∧ RelV v u ∧ Dp K (fun _ => none) v d := by
  unfold gloB' at c
  cases e : PySem.W.nsIn K mainGlobals (x, d).1 with
  | none => rw [e] at c; cases c
  | some o =>
    rw [e] at c
    cases o with
    | none => cases c
    | some u =>
      obtain ⟨v, h1, h2⟩ := rdB_ok c
      exact ⟨v, u, PySem.W.mg_of X G e, h1, h2⟩
/-! ### the Hook -/
/-- no list stands in the module -/
def nolB (K : PySem.W.Frag) : Bool := K.all fun p => match p.2.cls with
  | .type c => !decide (c = "list")
  | _ => true
theorem nolB_ok : ∀ {K : PySem.W.Frag}, nolB K = true → ∀ p o, K.lookup p = some o → o.cls ≠ .type "list"
  | [], _, p, o, h => by cases h
  | (a, b) :: r, hn, p, o, h => by
    have hn : ((match b.cls with
      | .type c => !decide (c = "list")
      | _ => true) && nolB r) = true := hn
    rw [Bool.and_eq_true] at hn
    have h : (match p == a with
      | true => some b
      | false => List.lookup p r) = some o := h
    cases q : p == a with
    | true =>
      rw [q] at h
      cases h
      intro e
      have h1 := hn.1
      rw [e] at h1
      simp at h1
    | false =>
      rw [q] at h
      exact nolB_ok hn.2 p o h
def obsI (fa : List He.Fa) (fn : List He.DefD) (glo : List (Str × D)) (K : PySem.W.Frag) : He.AlD := (((fa.all fun f => f.ok K) && fn.all fun d => d.ok K) && (glo.all (gloB' K) && nolB K), fn.map fun d => He.fnW K d.at_)
def SaysI (fa : List He.Fa) (fn : List He.DefD) (glo : List (Str × D)) (K : PySem.W.Frag) : Prop := obsI fa fn glo K = He.valD fn
def obsIG (n : Nat) (fa : List He.Fa) (fn : List He.DefD) (glo : List (Str × D)) (g : Addr → Option Obj) : He.AlD := obsI fa fn glo (He.frG g (He.asD g n))
def hookI (n : Nat) (fa : List He.Fa) (fn : List He.DefD) (glo : List (Str × D)) : PySem.W.Hook where
  α := He.AlD
  obs := fun s => obsIG n fa fn glo s.heap.get?
  val := fun _ => He.valD fn
  says := fun _ h => ∃ K : PySem.W.Frag, K.In h ∧ SaysI fa fn glo K
  of := fun _ _ e => ⟨_, He.frG_in, e⟩
  keeps := fun _ _ _ ⟨K, hK, c⟩ k => ⟨K, PySem.W.Frag.In.keeps hK k, c⟩
theorem obsIG_eq {n : Nat} {fa : List He.Fa} {fn : List He.DefD} {glo : List (Str × D)} {g : Addr → Option Obj} {s : Shared} (h : ∀ a, g a = s.heap.get? a) : obsIG n fa fn glo g = (hookI n fa fn glo).obs s := by
  have e : g = s.heap.get? := funext h
  rw [e] <;> rfl
section
variable {fa : List He.Fa} {fn : List He.DefD} {glo : List (Str × D)} {K : PySem.W.Frag}
theorem SaysI.toD (c : SaysI fa fn glo K) : He.SaysD fa fn K := by
  have c1 := (He.ba (show (((fa.all fun f => f.ok K) && fn.all fun d => d.ok K) && (glo.all (gloB' K) && nolB K)) = true from congrArg (fun z : He.AlD => z.1) c)).1
  have c2 : fn.map (fun d => He.fnW K d.at_) = fn.map He.DefD.val := congrArg (fun z : He.AlD => z.2) c
  show (((fa.all fun f => f.ok K) && fn.all fun d => d.ok K), fn.map fun d => He.fnW K d.at_) = (true, fn.map He.DefD.val)
  rw [c1, c2]
theorem SaysI.gl (c : SaysI fa fn glo K) : ∀ p ∈ glo, gloB' K p = true := List.all_eq_true.mp (He.ba (He.ba (show (((fa.all fun f => f.ok K) && fn.all fun d => d.ok K) && (glo.all (gloB' K) && nolB K)) = true from congrArg (fun z : He.AlD => z.1) c)).2).1
theorem SaysI.nol (c : SaysI fa fn glo K) : ∀ p o, K.lookup p = some o → o.cls ≠ .type "list" := nolB_ok (He.ba (He.ba (show (((fa.all fun f => f.ok K) && fn.all fun d => d.ok K) && (glo.all (gloB' K) && nolB K)) = true from congrArg (fun z : He.AlD => z.1) c)).2).2
end
/-- the facts that a table asks for -/
def deD (d : De) : He.DefD := ⟨(d.x, none), d.nm, d.nm, defArgs d.st, defBody d.st, defScope d.st, [], []⟩
def fnOfDs (ds : List De) : List He.DefD := ds.map deD
def faOf (ds : List De) (bis : List Str) : List He.Fa := (ds.map fun d => .glo d.x) ++ bis.map .free
theorem fun_of {K : PySem.W.Frag} {d : De} (h : ∃ fd, FunD K (deD d).name (deD d).qual (deD d).params (deD d).body (deD d).scope ((deD d).dvs K) ((deD d).kws K) (He.fAd K (deD d).at_) fd) : ∃ fd, Fun K d.nm d.nm d.st (He.ga K d.x) fd := by
  obtain ⟨fd, F⟩ := h
  obtain ⟨oc, od, dV, kV, doc, pm, an, cdv, ct, osl, rfl, lk, hcd, hD, hK⟩ := F.ex
  rcases hD with ⟨_, rfl⟩ | ⟨e, _⟩
  · exact ⟨_, ⟨⟨oc, od, kV, doc, pm, an, cdv, ct, osl, rfl, lk, hcd⟩, F.kp⟩⟩
  · exact absurd rfl e
section
variable {K : PySem.W.Frag} {h : Heap} {mg : Str → Option Value} {ds : List De} {bis : List Str} {glo : List (Str × D)}
theorem fun_at (X : K.In h) (G : h.Ns mainGlobals mg) (c : SaysI (faOf ds bis) (fnOfDs ds) glo K) {d : De} (hd : d ∈ ds) : ∃ fd, mg d.x = some (.ref (He.ga K d.x)) ∧ Fun K d.nm d.nm d.st (He.ga K d.x) fd := by
  obtain ⟨i, hi⟩ := List.mem_iff_getElem?.mp hd
  have li := (List.getElem?_eq_some_iff.mp hi).1
  have h1 : (fnOfDs ds)[i]? = some (deD d) := by
    show (ds.map deD)[i]? = _
    rw [List.getElem?_map, hi]
    rfl
  have h2 : (faOf ds bis)[i]? = some (.glo d.x) := by
    unfold faOf
    rw [List.getElem?_append_left (by rw [List.length_map]; exact li), List.getElem?_map, hi]
    rfl
  obtain ⟨fd, F⟩ := fun_of (c.toD.def_ i h1)
  exact ⟨fd, He.glo_ok X G (c.toD.fact i h2), F⟩
theorem bis_at (X : K.In h) (G : h.Ns mainGlobals mg) (c : SaysI (faOf ds bis) (fnOfDs ds) glo K) : ∀ x, bis.contains x = true → mg x = none := fun x hx => by
  have hx : x ∈ bis := by simpa using hx
  obtain ⟨i, hi⟩ := List.mem_iff_getElem?.mp hx
  have h2 : (faOf ds bis)[ds.length + i]? = some (.free x) := by
    unfold faOf
    rw [List.getElem?_append_right (by rw [List.length_map]; omega), List.length_map, Nat.add_sub_cancel_left, List.getElem?_map, hi]
    rfl
  exact He.free_ok X G (c.toD.fact _ h2)
theorem world_at (X : K.In h) (G : h.Ns mainGlobals mg) (c : SaysI (faOf ds bis) (fnOfDs ds) glo K) : World1 K mg glo bis := ⟨fun x d hd => gloB'_ok X G (c.gl _ hd), bis_at X G c, c.nol⟩
end
/-- how each def binds: its values, its keywords -/
def BindOk (d : De) : Prop := ∀ (K : PySem.W.Frag) (f : Addr) (fd : FuncData), Fun K d.nm d.nm d.st f fd → Binds K fd d.ps [] ∧ ∀ n ks perm, (n, ks, perm) ∈ d.kw → KwOk K fd d.ps n ks perm
theorem defs_at {K : PySem.W.Frag} {h : Heap} {mg : Str → Option Value} {ds : List De} {bis : List Str} {glo : List (Str × D)} (X : K.In h) (G : h.Ns mainGlobals mg) (c : SaysI (faOf ds bis) (fnOfDs ds) glo K) (hb : ∀ d ∈ ds, BindOk d) : ∀ d ∈ ds, DefAt K mg d := fun d hd => by
  obtain ⟨fd, h1, F⟩ := fun_at X G c hd
  obtain ⟨h2, h3⟩ := hb d hd K _ fd F
  exact ⟨_, fd, h1, F, h2, h3⟩
theorem walkGE {l : PySem.W.OpenLaw} {m k : Nat} {q : Program} {loose : List Str} {XP : (Str → Option Value) → Heap → Prop} {YP : World → Heap → Prop} {d : DefRec}
    (hn : l.most = some m) (hm : m ≤ sizeLine) (hdf : d.params.defaults = []) (room : Room k callerA)
    (F : ∀ (w : World) (mg : Str → Option Value) (fa : Addr) (h : Heap), YP w h → h.Ns mainGlobals mg → mg d.name = some (.ref fa) →
      ∃ K : PySem.W.Frag, K.In h ∧ ∀ base : Heap, K.In base → base.Ns mainGlobals mg → ∃ fd : FuncData, Binds K fd ["script"] [] ∧ FnG l.prog w K mg base k fa fd ["script"] (spLaw K m)) :
    PySem.W.WalkO q loose XP YP l.row.toRowW d [] (fun f vs => PySem.call f vs) := by
  refine Att.attach_call hn hdf fun w s0 t0 mg mb fa o pm cd doc a us ns G Y ho hd hcd hmg hobj hints hlen hg => ?_
  obtain ⟨K, kin, hF⟩ := F w mg fa _ Y G.T.g hmg
  exact law_run kin G.T.g G.T.b G.T.builtins G.T.nolimit hg hobj hints hlen hm room hF
/-- all of a row, from the table -/
theorem row_ok {l : PySem.W.OpenLaw} {m : Nat} {q : Program} {loose : List Str} {XP : (Str → Option Value) → Heap → Prop} {d : DefRec} {ds : List De} {law : De} {bis : List Str} {glo : List (Str × D)} {n jl : Nat}
    (hn : l.most = some m) (hm : m ≤ sizeLine) (hdf : d.params.defaults = []) (room : Room (jl + 1) callerA) (hname : d.name = law.x)
    (hb : ∀ d ∈ ds, BindOk d) (hl : ds.reverse[jl]? = some law) (hps : law.ps = (["script"] : List Str)) (chk : chkDs glo bis ds = true)
    (good : ∀ ns : List Int, ns.length ≤ m → ∃ os, tab (dfs ds) jl [.sh (intsD ns)] = some (.bool true, os)) :
    PySem.W.WalkO q loose XP (hookI n (faOf ds bis) (fnOfDs ds) glo).says l.row.toRowW d [] (fun f vs => PySem.call f vs) := by
  refine walkGE hn hm hdf room fun w mg fa h Y G hmg => ?_
  obtain ⟨K, KX, c⟩ := Y
  refine ⟨K, KX, fun base _ _ => ?_⟩
  have D := defs_at KX G c hb
  have T : TabOk l.prog w K mg base ds := tab_ok (world_at KX G c) D chk
  obtain ⟨f, fd, h1, h2, h3⟩ := law_ok2 T hl hps good
  rw [hname] at hmg
  have e := hmg.symm.trans h1
  cases e
  exact ⟨fd, h2, h3⟩
end Iv
end
section
set_option Elab.async false
set_option linter.all false
set_option maxRecDepth 1000000
set_option maxHeartbeats 0
namespace Iv
open PySem PySem.Spec L2
/-! the text as terms (printed by gen.py) -/
def k91_b__law_draw : Sm := (.consB (.ifs (.cmp .gt (.idx (.var 0) (.cst (.int 0))) (.cst (.int 0))) (.consB (.ast 0 (.cst (.int 0)) 2 (.b2 .dvm (.idx (.var 0) (.cst (.int 0))) (.var 1))) (.consB (.ret (.var 2)) .nilB)) .nilB) (.consB (.sub 0 (.cst (.int 1)) (.bin .mod (.b1 .int (.bin .add (.bin .mul (.idx (.var 0) (.cst (.int 1))) (.cst (.int 39373))) (.cst (.int 317)))) (.cst (.int 2147483587)))) (.consB (.ret (.bin .mod (.b1 .int (.bin .fdv (.bin .mod (.b1 .int (.bin .mul (.idx (.var 0) (.cst (.int 1))) (.idx (.var 0) (.cst (.int 1))))) (.cst (.int 2147483563))) (.cst (.int 19)))) (.var 1))) .nilB)))
def k91_b__law_pick : Sm := (.consB (.ret (.idx (.var 1) (.call 0 (.cons (.mu 0) (.cons (.b1 .len (.var 1)) .nil))))) .nilB)
def k91_b__law_users : Sm := (.consB (.aso 4 (.lst .nil)) (.consB (.for_ (.nm 5) .rng (.var 1) .noe (.consB (.aso 6 (.lc [("good", 8)] (.nm 8) .rng (.var 2) .noe .noe (.call 1 (.cons (.mu 0) (.cons (.lst (.cons (.cst (.int 0)) (.cons (.cst (.int 0)) (.cons (.cst (.int 1)) (.cons (.cst (.int 2)) (.cons (.cst (.int 3)) (.cons (.bin .add (.cst (.int 1)) (.call 0 (.cons (.mu 0) (.cons (.var 3) .nil)))) .nil))))))) .nil))))) (.consB (.ifs (.cmp .eq (.var 6) (.rep (.cons (.cst (.int 0)) .nil) (.var 2))) (.consB (.sub 6 (.call 0 (.cons (.mu 0) (.cons (.var 2) .nil))) (.bin .add (.cst (.int 1)) (.call 0 (.cons (.mu 0) (.cons (.var 3) .nil))))) .nilB) .nilB) (.consB (.asg (.nm 7) (.ite (.cmp .eq (.call 0 (.cons (.mu 0) (.cons (.cst (.int 3)) .nil))) (.cst (.int 0))) (.bin .mul (.bin .mul (.call 0 (.cons (.mu 0) (.cons (.cst (.int 9)) .nil))) (.call 0 (.cons (.mu 0) (.cons (.cst (.int 2)) .nil)))) (.bin .add (.cst (.int 1)) (.bin .mul (.cst (.int 99)) (.call 0 (.cons (.mu 0) (.cons (.cst (.int 2)) .nil)))))) (.cst .none))) (.consB (.app 4 (.tup (.cons (.cst (.str "user")) (.cons (.bin .add (.cst (.int 1)) (.bin .mul (.call 0 (.cons (.mu 0) (.cons (.cst (.int 9)) .nil))) (.call 0 (.cons (.mu 0) (.cons (.cst (.int 2)) .nil))))) (.cons (.b1 .tup (.var 6)) (.cons (.var 7) .nil)))))) .nilB))))) (.consB (.ret (.b1 .tup (.var 4))) .nilB)))
def k91_b__law_totals : Sm := (.consB (.asp [3, 4] [false, true] (.cons (.b1 .len (.idx (.idx (.var 1) (.cst (.int 0))) (.cst (.int 2)))) (.cons (.lst .nil) .nil))) (.consB (.for_ (.nm 5) .rng (.var 3) .noe (.consB (.app 4 (.bin .add (.cst (.int 1)) (.call 0 (.cons (.mu 0) (.cons (.call 1 (.cons (.mu 0) (.cons (.var 2) .nil))) .nil))))) .nilB)) (.consB (.asg (.nm 6) (.lc [("user", 7)] (.nm 7) .walk (.var 1) .noe (.cmp .isn (.idx (.var 7) (.cst (.int 3))) (.cst .none)) (.bin .mul (.idx (.idx (.var 7) (.cst (.int 2))) (.neg (.cst (.int 1)))) (.idx (.var 7) (.cst (.int 3)))))) (.consB (.ifs (.and (.cmp .eq (.call 0 (.cons (.mu 0) (.cons (.cst (.int 3)) .nil))) (.cst (.int 0))) (.and (.cmp .ne (.var 6) (.lst .nil)) (.chn .lt .lt (.cst (.int 0)) (.b1 .sum (.var 6)) (.cst (.int 10000))))) (.consB (.sub 4 (.neg (.cst (.int 1))) (.b1 .sum (.var 6))) .nilB) .nilB) (.consB (.ret (.b1 .tup (.var 4))) .nilB)))))
def k91_b_is_tuple_of : Sm := (.consB (.ifs (.or (.nt (.isi (.var 0) ["tuple"])) (.cmp .ne (.b1 .len (.var 0)) (.var 2))) (.consB (.ret (.cst (.bool false))) .nilB) .nilB) (.consB (.ret (.and (.isi (.idx (.var 0) (.cst (.int 0))) ["str"]) (.cmp .eq (.idx (.var 0) (.cst (.int 0))) (.var 1)))) .nilB))
def k91_b_goods_of : Sm := (.consB (.ifs (.or (.nt (.isi (.var 0) ["tuple"])) (.or (.cmp .eq (.b1 .len (.var 0)) (.cst (.int 0))) (.nt (.call 4 (.cons (.idx (.var 0) (.cst (.int 0))) (.cons (.cst (.str "user")) (.cons (.cst (.int 4)) .nil))))))) (.consB (.ret (.cst (.int 0))) .nilB) .nilB) (.consB (.ret (.ite (.isi (.idx (.idx (.var 0) (.cst (.int 0))) (.cst (.int 2))) ["tuple"]) (.b1 .len (.idx (.idx (.var 0) (.cst (.int 0))) (.cst (.int 2)))) (.cst (.int 0)))) .nilB))
def k91_b_is_integer : Sm := (.consB (.ret (.and (.isi (.var 0) ["int"]) (.nt (.isi (.var 0) ["bool"])))) .nilB)
def k91_b_is_within : Sm := (.consB (.ret (.and (.call 6 (.cons (.var 0) .nil)) (.chn .le .le (.var 1) (.var 0) (.var 2)))) .nilB)
def k91_b_are_needs : Sm := (.consB (.ifs (.or (.nt (.isi (.var 0) ["tuple"])) (.cmp .ne (.b1 .len (.var 0)) (.var 1))) (.consB (.ret (.cst (.bool false))) .nilB) .nilB) (.consB (.ret (.and (.b1 .all (.lc [("one", 2)] (.nm 2) .walk (.var 0) .noe .noe (.call 7 (.cons (.var 2) (.cons (.cst (.int 0)) (.cons (.glo "MOST_NEED" (.int 99)) .nil)))))) (.b1 .any (.lc [("one", 2)] (.nm 2) .walk (.var 0) .noe .noe (.cmp .gt (.var 2) (.cst (.int 0))))))) .nilB))
def k91_b_is_want : Sm := (.consB (.ret (.or (.cmp .is (.var 0) (.cst .none)) (.call 7 (.cons (.var 0) (.cons (.cst (.int 0)) (.cons (.glo "MOST_WANT" (.int 999)) .nil)))))) .nilB)
def k91_b_is_user : Sm := (.consB (.ifs (.or (.nt (.call 4 (.cons (.var 0) (.cons (.cst (.str "user")) (.cons (.cst (.int 4)) .nil))))) (.nt (.call 7 (.cons (.idx (.var 0) (.cst (.int 1))) (.cons (.cst (.int 1)) (.cons (.glo "MOST_WEIGHT" (.int 9)) .nil)))))) (.consB (.ret (.cst (.bool false))) .nilB) .nilB) (.consB (.ret (.and (.call 8 (.cons (.idx (.var 0) (.cst (.int 2))) (.cons (.var 1) .nil))) (.call 9 (.cons (.idx (.var 0) (.cst (.int 3))) .nil)))) .nilB))
def k91_b_are_users : Sm := (.consB (.asg (.nm 1) (.call 5 (.cons (.var 0) .nil))) (.consB (.ifs (.or (.nt (.chn .le .le (.cst (.int 1)) (.var 1) (.glo "MOST_GOODS" (.int 4)))) (.cmp .gt (.b1 .len (.var 0)) (.glo "MOST_USERS" (.int 6)))) (.consB (.ret (.cst (.bool false))) .nilB) .nilB) (.consB (.ret (.b1 .all (.lc [("one", 2)] (.nm 2) .walk (.var 0) .noe .noe (.call 10 (.cons (.var 2) (.cons (.var 1) .nil)))))) .nilB)))
def k91_b_want_users : Sm := (.consB (.ifs (.nt (.call 11 (.cons (.var 0) .nil))) (.consB .nev .nilB) .nilB) .nilB)
def k91_b_totals_are_right : Sm := (.consB (.ifs (.or (.nt (.isi (.var 1) ["tuple"])) (.cmp .ne (.b1 .len (.var 1)) (.b1 .len (.idx (.idx (.var 0) (.cst (.int 0))) (.cst (.int 2)))))) (.consB (.ret (.cst (.bool false))) .nilB) .nilB) (.consB (.ret (.b1 .all (.lc [("one", 2)] (.nm 2) .walk (.var 1) .noe .noe (.call 7 (.cons (.var 2) (.cons (.cst (.int 1)) (.cons (.glo "MOST_TOTAL" (.int 9999)) .nil))))))) .nilB))
def k91_b_want_both : Sm := (.consB (.exp (.call 12 (.cons (.var 0) .nil))) (.consB (.ifs (.nt (.call 13 (.cons (.var 0) (.cons (.var 1) .nil)))) (.consB .nev .nilB) .nilB) .nilB))
def k91_b_common_part : Sm := (.consB (.asp [0, 1] [false, false] (.cons (.b1 .abs (.var 0)) (.cons (.b1 .abs (.var 1)) .nil))) (.consB (.whl (.cmp .gt (.var 1) (.cst (.int 0))) (.consB (.asp [0, 1] [false, false] (.cons (.var 1) (.cons (.bin .mod (.var 0) (.var 1)) .nil))) .nilB)) (.consB (.ret (.var 0)) .nilB)))
def k91_b_lowest : Sm := (.consB (.asg (.nm 2) (.call 15 (.cons (.var 0) (.cons (.var 1) .nil)))) (.consB (.asg (.nm 2) (.ite (.cmp .gt (.var 1) (.cst (.int 0))) (.var 2) (.bin .sub (.cst (.int 0)) (.var 2)))) (.consB (.ret (.tup (.cons (.bin .fdv (.var 0) (.var 2)) (.cons (.bin .fdv (.var 1) (.var 2)) .nil)))) .nilB)))
def k91_b_over : Sm := (.consB (.ret (.call 16 (.cons (.bin .mul (.idx (.var 0) (.cst (.int 0))) (.idx (.var 1) (.cst (.int 1)))) (.cons (.bin .mul (.idx (.var 0) (.cst (.int 1))) (.idx (.var 1) (.cst (.int 0)))) .nil)))) .nilB)
def k91_b_is_below : Sm := (.consB (.ret (.cmp .lt (.bin .mul (.idx (.var 0) (.cst (.int 0))) (.idx (.var 1) (.cst (.int 1)))) (.bin .mul (.idx (.var 1) (.cst (.int 0))) (.idx (.var 0) (.cst (.int 1)))))) .nilB)
def k91_b_greatest_of : Sm := (.consB (.asg (.nm 1) (.idx (.var 0) (.cst (.int 0)))) (.consB (.for_ (.nm 2) .walk (.slc (.var 0) (.cst (.int 1)) .noe) .noe (.consB (.asg (.nm 1) (.ite (.call 18 (.cons (.var 1) (.cons (.var 2) .nil))) (.var 2) (.var 1))) .nilB)) (.consB (.ret (.var 1)) .nilB)))
def k91_b_height : Sm := (.consB (.ret (.call 19 (.cons (.lc [("need", 2), ("total", 3)] (.tp [2, 3]) .zip (.idx (.var 0) (.cst (.int 2))) (.var 1) .noe (.call 17 (.cons (.tup (.cons (.var 2) (.cons (.cst (.int 1)) .nil))) (.cons (.tup (.cons (.var 3) (.cons (.cst (.int 1)) .nil))) .nil)))) .nil))) .nilB)
def k91_b_speed : Sm := (.consB (.ret (.call 17 (.cons (.tup (.cons (.idx (.var 0) (.cst (.int 1))) (.cons (.cst (.int 1)) .nil))) (.cons (.call 20 (.cons (.var 0) (.cons (.var 1) .nil))) .nil)))) .nilB)
def k91_b_least_of : Sm := (.consB (.asg (.nm 1) (.idx (.var 0) (.cst (.int 0)))) (.consB (.for_ (.nm 2) .walk (.slc (.var 0) (.cst (.int 1)) .noe) .noe (.consB (.asg (.nm 1) (.ite (.call 18 (.cons (.var 2) (.cons (.var 1) .nil))) (.var 2) (.var 1))) .nilB)) (.consB (.ret (.var 1)) .nilB)))
def k91_b_plus : Sm := (.consB (.ret (.call 16 (.cons (.bin .add (.bin .mul (.idx (.var 0) (.cst (.int 0))) (.idx (.var 1) (.cst (.int 1)))) (.bin .mul (.idx (.var 1) (.cst (.int 0))) (.idx (.var 0) (.cst (.int 1))))) (.cons (.bin .mul (.idx (.var 0) (.cst (.int 1))) (.idx (.var 1) (.cst (.int 1)))) .nil)))) .nilB)
def k91_b_minus : Sm := (.consB (.ret (.call 16 (.cons (.bin .sub (.bin .mul (.idx (.var 0) (.cst (.int 0))) (.idx (.var 1) (.cst (.int 1)))) (.bin .mul (.idx (.var 1) (.cst (.int 0))) (.idx (.var 0) (.cst (.int 1))))) (.cons (.bin .mul (.idx (.var 0) (.cst (.int 1))) (.idx (.var 1) (.cst (.int 1)))) .nil)))) .nilB)
def k91_b_times : Sm := (.consB (.ret (.call 16 (.cons (.bin .mul (.idx (.var 0) (.cst (.int 0))) (.idx (.var 1) (.cst (.int 0)))) (.cons (.bin .mul (.idx (.var 0) (.cst (.int 1))) (.idx (.var 1) (.cst (.int 1)))) .nil)))) .nilB)
def k91_b_good_stop : Sm := (.consB (.asp [6, 7] [false, false] (.cons (.tup (.cons (.var 5) (.cons (.cst (.int 1)) .nil))) (.cons (.glo "NOUGHT" (.tuple [(.int 0), (.int 1)])) .nil))) (.consB (.for_ (.tp [8, 9]) .enm (.var 0) .noe (.consB (.asg (.nm 10) (.tup (.cons (.idx (.idx (.var 9) (.cst (.int 2))) (.var 4)) (.cons (.cst (.int 1)) .nil)))) (.consB (.ifs (.cmp .inn (.var 8) (.var 3)) (.consB (.asg (.nm 7) (.call 23 (.cons (.var 7) (.cons (.call 25 (.cons (.idx (.var 1) (.var 8)) (.cons (.var 10) .nil))) .nil)))) .nilB) (.consB (.asg (.nm 6) (.call 24 (.cons (.var 6) (.cons (.call 25 (.cons (.idx (.var 2) (.var 8)) (.cons (.var 10) .nil))) .nil)))) .nilB)) .nilB))) (.consB (.ret (.ite (.cmp .ne (.var 7) (.glo "NOUGHT" (.tuple [(.int 0), (.int 1)]))) (.call 17 (.cons (.var 6) (.cons (.var 7) .nil))) (.cst .none))) .nilB)))
def k91_b_want_stop : Sm := (.consB (.ret (.ite (.cmp .isn (.idx (.var 0) (.cst (.int 3))) (.cst .none)) (.call 17 (.cons (.tup (.cons (.idx (.var 0) (.cst (.int 3))) (.cons (.cst (.int 1)) .nil))) (.cons (.var 1) .nil))) (.cst .none))) .nilB)
def k91_b_filled : Sm := (.consB (.asg (.nm 2) (.lc [("user", 13)] (.nm 13) .walk (.var 0) .noe .noe (.call 21 (.cons (.var 13) (.cons (.var 1) .nil))))) (.consB (.asp [3, 4, 5] [true, false, true] (.cons (.rep (.cons (.glo "NOUGHT" (.tuple [(.int 0), (.int 1)])) .nil) (.b1 .len (.var 0))) (.cons (.m1 .lrng (.b1 .len (.var 0)) .noe) (.cons (.lst .nil) .nil)))) (.consB (.whl (.cmp .ne (.var 4) (.lst .nil)) (.consB (.asg (.nm 6) (.lc [("good", 14), ("total", 15)] (.tp [14, 15]) .enm (.var 1) .noe .noe (.call 26 (.cons (.var 0) (.cons (.var 2) (.cons (.mu 3) (.cons (.var 4) (.cons (.var 14) (.cons (.var 15) .nil))))))))) (.consB (.asg (.nm 7) (.lc [("at", 11)] (.nm 11) .walk (.var 4) .noe .noe (.call 27 (.cons (.idx (.var 0) (.var 11)) (.cons (.idx (.var 2) (.var 11)) .nil))))) (.consB (.asg (.nm 8) (.call 22 (.cons (.lc [("one", 12)] (.nm 12) .walk (.bin .add (.var 6) (.var 7)) .noe (.cmp .isn (.var 12) (.cst .none)) (.var 12)) .nil))) (.consB (.asg (.nm 9) (.lc [("good", 14), ("one", 12)] (.tp [14, 12]) .enm (.var 6) .noe (.cmp .eq (.var 12) (.var 8)) (.var 14))) (.consB (.aso 10 (.lst .nil)) (.consB (.for_ (.tp [11, 12]) .zip (.var 4) (.var 7) (.consB (.ifs (.or (.cmp .eq (.var 12) (.var 8)) (.b1 .any (.lc [("good", 14)] (.nm 14) .walk (.var 9) .noe .noe (.cmp .gt (.idx (.idx (.idx (.var 0) (.var 11)) (.cst (.int 2))) (.var 14)) (.cst (.int 0)))))) (.consB (.app 10 (.var 11)) (.consB (.sub 3 (.var 11) (.call 25 (.cons (.var 8) (.cons (.idx (.var 2) (.var 11)) .nil)))) .nilB)) .nilB) .nilB)) (.consB (.asg (.nm 4) (.lc [("at", 11)] (.nm 11) .walk (.var 4) .noe (.cmp .nin (.var 11) (.var 10)) (.var 11))) (.consB (.app 5 (.tup (.cons (.var 8) (.cons (.b1 .tup (.var 9)) (.cons (.b1 .tup (.var 10)) .nil))))) .nilB))))))))) (.consB (.ret (.tup (.cons (.var 3) (.cons (.var 5) .nil)))) .nilB))))
def k91_b_bottlenecks : Sm := (.consB (.exp (.call 14 (.cons (.var 0) (.cons (.var 1) .nil)))) (.consB (.asg (.tp [2, 3]) (.call 28 (.cons (.var 0) (.cons (.var 1) .nil)))) (.consB (.aso 4 (.rep (.cons (.cst (.str "want")) .nil) (.b1 .len (.var 0)))) (.consB (.for_ (.tp [5, 6, 7]) .walk (.var 3) .noe (.consB (.for_ (.nm 8) .walk (.var 7) .noe (.consB (.ifs (.or (.cmp .is (.idx (.idx (.var 0) (.var 8)) (.cst (.int 3))) (.cst .none)) (.cmp .ne (.idx (.var 2) (.var 8)) (.tup (.cons (.idx (.idx (.var 0) (.var 8)) (.cst (.int 3))) (.cons (.cst (.int 1)) .nil))))) (.consB (.sub 4 (.var 8) (.b1 .min (.lc [("good", 9)] (.nm 9) .walk (.var 6) .noe (.cmp .gt (.idx (.idx (.idx (.var 0) (.var 8)) (.cst (.int 2))) (.var 9)) (.cst (.int 0))) (.var 9)))) .nilB) .nilB) .nilB)) .nilB)) (.consB (.ret (.var 4)) .nilB)))))
def k91_b__law_ratio : Sm := (.consB (.asp [2, 3] [false, false] (.cons (.b1 .abs (.var 0)) (.cons (.b1 .abs (.var 1)) .nil))) (.consB (.for_ (.nm 4) .rng (.cst (.int 2000)) .noe (.consB (.ifs (.cmp .eq (.var 3) (.cst (.int 0))) (.consB .brk .nilB) .nilB) (.consB (.asp [2, 3] [false, false] (.cons (.var 3) (.cons (.bin .mod (.b1 .int (.var 2)) (.var 3)) .nil))) .nilB))) (.consB (.asg (.nm 5) (.ite (.cmp .gt (.var 1) (.cst (.int 0))) (.cst (.int 1)) (.neg (.cst (.int 1))))) (.consB (.ret (.tup (.cons (.bin .fdv (.bin .mul (.var 5) (.var 0)) (.var 2)) (.cons (.bin .fdv (.bin .mul (.var 5) (.var 1)) (.var 2)) .nil)))) .nilB))))
def k91_b__law_is_below : Sm := (.consB (.ret (.cmp .lt (.bin .mul (.idx (.var 0) (.cst (.int 0))) (.idx (.var 1) (.cst (.int 1)))) (.bin .mul (.idx (.var 1) (.cst (.int 0))) (.idx (.var 0) (.cst (.int 1)))))) .nilB)
def k91_b__law_height : Sm := (.consB (.asg (.nm 2) (.lc [("need", 5), ("total", 6)] (.tp [5, 6]) .zip (.idx (.var 0) (.cst (.int 2))) (.var 1) .noe (.call 30 (.cons (.var 5) (.cons (.var 6) .nil))))) (.consB (.asg (.nm 3) (.idx (.var 2) (.cst (.int 0)))) (.consB (.for_ (.nm 4) .walk (.var 2) .noe (.consB (.asg (.nm 3) (.ite (.call 31 (.cons (.var 3) (.cons (.var 4) .nil))) (.var 4) (.var 3))) .nilB)) (.consB (.ret (.var 3)) .nilB))))
def k91_b__law_over : Sm := (.consB (.ret (.call 30 (.cons (.bin .mul (.idx (.var 0) (.cst (.int 0))) (.idx (.var 1) (.cst (.int 1)))) (.cons (.bin .mul (.idx (.var 0) (.cst (.int 1))) (.idx (.var 1) (.cst (.int 0)))) .nil)))) .nilB)
def k91_b__law_least : Sm := (.consB (.asg (.nm 1) (.idx (.var 0) (.cst (.int 0)))) (.consB (.for_ (.nm 2) .walk (.var 0) .noe (.consB (.asg (.nm 1) (.ite (.call 31 (.cons (.var 2) (.cons (.var 1) .nil))) (.var 2) (.var 1))) .nilB)) (.consB (.ret (.var 1)) .nilB)))
def k91_b__law_times : Sm := (.consB (.ret (.call 30 (.cons (.bin .mul (.idx (.var 0) (.cst (.int 0))) (.idx (.var 1) (.cst (.int 0)))) (.cons (.bin .mul (.idx (.var 0) (.cst (.int 1))) (.idx (.var 1) (.cst (.int 1)))) .nil)))) .nilB)
def k91_b__law_plus : Sm := (.consB (.ret (.call 30 (.cons (.bin .add (.bin .mul (.idx (.var 0) (.cst (.int 0))) (.idx (.var 1) (.cst (.int 1)))) (.bin .mul (.idx (.var 1) (.cst (.int 0))) (.idx (.var 0) (.cst (.int 1))))) (.cons (.bin .mul (.idx (.var 0) (.cst (.int 1))) (.idx (.var 1) (.cst (.int 1)))) .nil)))) .nilB)
def k91_b__law_less : Sm := (.consB (.ret (.call 30 (.cons (.bin .sub (.bin .mul (.idx (.var 0) (.cst (.int 0))) (.idx (.var 1) (.cst (.int 1)))) (.bin .mul (.idx (.var 1) (.cst (.int 0))) (.idx (.var 0) (.cst (.int 1))))) (.cons (.bin .mul (.idx (.var 0) (.cst (.int 1))) (.idx (.var 1) (.cst (.int 1)))) .nil)))) .nilB)
def k91_b__law_filled : Sm := (.consB (.asp [2, 3, 4] [true, true, false] (.cons (.rep (.cons (.tup (.cons (.cst (.int 0)) (.cons (.cst (.int 1)) .nil))) .nil) (.b1 .len (.var 0))) (.cons (.lst .nil) (.cons (.m1 .lrng (.b1 .len (.var 0)) .noe) .nil)))) (.consB (.asg (.nm 5) (.lc [("user", 15)] (.nm 15) .walk (.var 0) .noe .noe (.call 32 (.cons (.var 15) (.cons (.var 1) .nil))))) (.consB (.asg (.nm 6) (.lc [("user", 15), ("height_v", 16)] (.tp [15, 16]) .zip (.var 0) (.var 5) .noe (.call 33 (.cons (.tup (.cons (.idx (.var 15) (.cst (.int 1))) (.cons (.cst (.int 1)) .nil))) (.cons (.var 16) .nil))))) (.consB (.for_ (.nm 7) .rng (.b1 .len (.var 0)) .noe (.consB (.ifs (.cmp .eq (.var 4) (.lst .nil)) (.consB .brk .nilB) .nilB) (.consB (.aso 8 (.lst .nil)) (.consB (.for_ (.tp [9, 10]) .enm (.var 1) .noe (.consB (.asp [17, 18] [false, false] (.cons (.tup (.cons (.cst (.int 0)) (.cons (.cst (.int 1)) .nil))) (.cons (.tup (.cons (.cst (.int 0)) (.cons (.cst (.int 1)) .nil))) .nil))) (.consB (.for_ (.tp [15, 19]) .enm (.var 0) .noe (.consB (.ifs (.cmp .inn (.var 15) (.var 4)) (.consB (.asg (.nm 17) (.call 36 (.cons (.var 17) (.cons (.call 35 (.cons (.idx (.var 6) (.var 15)) (.cons (.tup (.cons (.idx (.idx (.var 19) (.cst (.int 2))) (.var 9)) (.cons (.cst (.int 1)) .nil))) .nil))) .nil)))) .nilB) (.consB (.asg (.nm 18) (.call 36 (.cons (.var 18) (.cons (.call 35 (.cons (.idx (.var 2) (.var 15)) (.cons (.tup (.cons (.idx (.idx (.var 19) (.cst (.int 2))) (.var 9)) (.cons (.cst (.int 1)) .nil))) .nil))) .nil)))) .nilB)) .nilB)) (.consB (.ifs (.cmp .ne (.var 17) (.tup (.cons (.cst (.int 0)) (.cons (.cst (.int 1)) .nil)))) (.consB (.app 8 (.tup (.cons (.var 9) (.cons (.call 33 (.cons (.call 37 (.cons (.tup (.cons (.var 10) (.cons (.cst (.int 1)) .nil))) (.cons (.var 18) .nil))) (.cons (.var 17) .nil))) .nil)))) .nilB) .nilB) .nilB)))) (.consB (.asg (.nm 11) (.lc [("user", 15)] (.nm 15) .walk (.var 4) .noe (.cmp .isn (.idx (.idx (.var 0) (.var 15)) (.cst (.int 3))) (.cst .none)) (.tup (.cons (.var 15) (.cons (.call 33 (.cons (.tup (.cons (.idx (.idx (.var 0) (.var 15)) (.cst (.int 3))) (.cons (.cst (.int 1)) .nil))) (.cons (.idx (.var 6) (.var 15)) .nil))) .nil))))) (.consB (.asg (.nm 12) (.call 34 (.cons (.bin .add (.lc [("good", 9), ("one", 20)] (.tp [9, 20]) .walk (.var 8) .noe .noe (.var 20)) (.lc [("user", 15), ("one", 20)] (.tp [15, 20]) .walk (.var 11) .noe .noe (.var 20))) .nil))) (.consB (.asg (.nm 13) (.lc [("good", 9), ("one", 20)] (.tp [9, 20]) .walk (.var 8) .noe (.cmp .eq (.var 20) (.var 12)) (.var 9))) (.consB (.asg (.nm 14) (.lc [("user", 15), ("one", 20)] (.tp [15, 20]) .walk (.var 11) .noe (.cmp .eq (.var 20) (.var 12)) (.var 15))) (.consB (.asg (.nm 14) (.lc [("user", 15)] (.nm 15) .walk (.var 4) .noe (.or (.cmp .inn (.var 15) (.var 14)) (.b1 .any (.lc [("good", 9)] (.nm 9) .walk (.var 13) .noe .noe (.cmp .gt (.idx (.idx (.idx (.var 0) (.var 15)) (.cst (.int 2))) (.var 9)) (.cst (.int 0)))))) (.var 15))) (.consB (.for_ (.nm 15) .walk (.var 14) .noe (.consB (.sub 2 (.var 15) (.call 35 (.cons (.var 12) (.cons (.idx (.var 6) (.var 15)) .nil)))) .nilB)) (.consB (.asg (.nm 4) (.lc [("user", 15)] (.nm 15) .walk (.var 4) .noe (.cmp .nin (.var 15) (.var 14)) (.var 15))) (.consB (.app 3 (.tup (.cons (.var 12) (.cons (.b1 .tup (.var 13)) (.cons (.b1 .tup (.var 14)) .nil))))) .nilB)))))))))))) (.consB (.ret (.tup (.cons (.var 2) (.cons (.var 3) .nil)))) .nilB)))))
def k91_b_shared : Sm := (.consB (.exp (.call 14 (.cons (.var 0) (.cons (.var 1) .nil)))) (.consB (.ret (.idx (.call 28 (.cons (.var 0) (.cons (.var 1) .nil))) (.cst (.int 0)))) .nilB))
def k91_b_filling : Sm := (.consB (.exp (.call 14 (.cons (.var 0) (.cons (.var 1) .nil)))) (.consB (.ret (.idx (.call 28 (.cons (.var 0) (.cons (.var 1) .nil))) (.cst (.int 1)))) .nilB))
def k91_b__law_used : Sm := (.consB (.asg (.nm 3) (.tup (.cons (.cst (.int 0)) (.cons (.cst (.int 1)) .nil)))) (.consB (.for_ (.tp [4, 5]) .zip (.var 0) (.var 1) (.consB (.asg (.nm 3) (.call 36 (.cons (.var 3) (.cons (.call 35 (.cons (.var 5) (.cons (.tup (.cons (.idx (.idx (.var 4) (.cst (.int 2))) (.var 2)) (.cons (.cst (.int 1)) .nil))) .nil))) .nil)))) .nilB)) (.consB (.ret (.var 3)) .nilB)))
def k91_b_is_ratio : Sm := (.consB (.ifs (.or (.nt (.isi (.var 0) ["tuple"])) (.or (.cmp .ne (.b1 .len (.var 0)) (.cst (.int 2))) (.or (.nt (.call 6 (.cons (.idx (.var 0) (.cst (.int 0))) .nil))) (.nt (.call 6 (.cons (.idx (.var 0) (.cst (.int 1))) .nil)))))) (.consB (.ret (.cst (.bool false))) .nilB) .nilB) (.consB (.ret (.and (.cmp .gt (.idx (.var 0) (.cst (.int 1))) (.cst (.int 0))) (.cmp .eq (.call 15 (.cons (.idx (.var 0) (.cst (.int 0))) (.cons (.idx (.var 0) (.cst (.int 1))) .nil))) (.cst (.int 1))))) .nilB))
def k91_b_amounts_are_right : Sm := (.consB (.ifs (.or (.nt (.isi (.var 1) ["list", "tuple"])) (.cmp .ne (.b1 .len (.var 1)) (.b1 .len (.var 0)))) (.consB (.ret (.cst (.bool false))) .nilB) .nilB) (.consB (.ret (.b1 .all (.lc [("one", 2)] (.nm 2) .walk (.var 1) .noe .noe (.and (.call 42 (.cons (.var 2) .nil)) (.cmp .ge (.idx (.var 2) (.cst (.int 0))) (.cst (.int 0))))))) .nilB))
def k91_b_are_amounts : Sm := (.consB (.exp (.call 12 (.cons (.var 0) .nil))) (.consB (.ret (.call 43 (.cons (.var 0) (.cons (.var 1) .nil)))) .nilB))
def k91_b_want_amounts : Sm := (.consB (.exp (.call 14 (.cons (.var 0) (.cons (.var 1) .nil)))) (.consB (.ifs (.nt (.call 43 (.cons (.var 0) (.cons (.var 2) .nil)))) (.consB .nev .nilB) .nilB) .nilB))
def k91_b_used_of : Sm := (.consB (.aso 2 (.lst .nil)) (.consB (.for_ (.nm 3) .rng (.b1 .len (.idx (.idx (.var 0) (.cst (.int 0))) (.cst (.int 2)))) .noe (.consB (.asg (.nm 4) (.glo "NOUGHT" (.tuple [(.int 0), (.int 1)]))) (.consB (.for_ (.tp [5, 6]) .zip (.var 0) (.var 1) (.consB (.asg (.nm 4) (.call 23 (.cons (.var 4) (.cons (.call 25 (.cons (.var 6) (.cons (.tup (.cons (.idx (.idx (.var 5) (.cst (.int 2))) (.var 3)) (.cons (.cst (.int 1)) .nil))) .nil))) .nil)))) .nilB)) (.consB (.app 2 (.var 4)) .nilB)))) (.consB (.ret (.var 2)) .nilB)))
def k91_b_is_within_want : Sm := (.consB (.ret (.or (.cmp .is (.idx (.var 0) (.cst (.int 3))) (.cst .none)) (.nt (.call 18 (.cons (.tup (.cons (.idx (.var 0) (.cst (.int 3))) (.cons (.cst (.int 1)) .nil))) (.cons (.var 1) .nil)))))) .nilB)
def k91_b_do_fit : Sm := (.consB (.asg (.nm 3) (.call 46 (.cons (.var 0) (.cons (.var 2) .nil)))) (.consB (.ifs (.b1 .any (.lc [("total", 4), ("used_now", 5)] (.tp [4, 5]) .zip (.var 1) (.var 3) .noe (.call 18 (.cons (.tup (.cons (.var 4) (.cons (.cst (.int 1)) .nil))) (.cons (.var 5) .nil))))) (.consB (.ret (.cst (.bool false))) .nilB) .nilB) (.consB (.ret (.b1 .all (.lc [("user", 6), ("amount", 7)] (.tp [6, 7]) .zip (.var 0) (.var 2) .noe (.call 47 (.cons (.var 6) (.cons (.var 7) .nil)))))) .nilB)))
def k91_b_is_fitting : Sm := (.consB (.exp (.call 45 (.cons (.var 0) (.cons (.var 1) (.cons (.var 2) .nil))))) (.consB (.ret (.call 48 (.cons (.var 0) (.cons (.var 1) (.cons (.var 2) .nil))))) .nilB))
def k91_b__law_fits : Sm := (.consB (.for_ (.tp [3, 4]) .enm (.var 1) .noe (.consB (.ifs (.call 31 (.cons (.tup (.cons (.var 4) (.cons (.cst (.int 1)) .nil))) (.cons (.call 41 (.cons (.var 0) (.cons (.var 2) (.cons (.var 3) .nil)))) .nil))) (.consB (.ret (.cst (.bool false))) .nilB) .nilB) .nilB)) (.consB (.ret (.nt (.b1 .any (.lc [("user", 5), ("amount", 6)] (.tp [5, 6]) .zip (.var 0) (.var 2) .noe (.and (.cmp .isn (.idx (.var 5) (.cst (.int 3))) (.cst .none)) (.call 31 (.cons (.tup (.cons (.idx (.var 5) (.cst (.int 3))) (.cons (.cst (.int 1)) .nil))) (.cons (.var 6) .nil)))))))) .nilB))
def k91_b_used : Sm := (.consB (.exp (.call 45 (.cons (.var 0) (.cons (.var 1) (.cons (.var 2) .nil))))) (.consB (.ret (.call 46 (.cons (.var 0) (.cons (.var 2) .nil)))) .nilB))
def k91_b_is_count : Sm := (.consB (.ret (.and (.call 6 (.cons (.var 0) .nil)) (.cmp .ge (.var 0) (.cst (.int 0))))) .nilB)
def k91_b_want_user : Sm := (.consB (.ifs (.or (.nt (.call 52 (.cons (.var 1) .nil))) (.cmp .ge (.var 1) (.b1 .len (.var 0)))) (.consB .nev .nilB) .nilB) .nilB)
def k91_b_level_of : Sm := (.consB (.ret (.call 17 (.cons (.call 25 (.cons (.var 2) (.cons (.call 20 (.cons (.var 0) (.cons (.var 1) .nil))) .nil))) (.cons (.tup (.cons (.idx (.var 0) (.cst (.int 1))) (.cons (.cst (.int 1)) .nil))) .nil)))) .nilB)
def k91_b_level : Sm := (.consB (.exp (.call 14 (.cons (.var 0) (.cons (.var 1) .nil)))) (.consB (.exp (.call 53 (.cons (.var 0) (.cons (.var 2) .nil)))) (.consB (.ifs (.or (.nt (.call 42 (.cons (.var 3) .nil))) (.cmp .lt (.idx (.var 3) (.cst (.int 0))) (.cst (.int 0)))) (.consB .nev .nilB) .nilB) (.consB (.ret (.call 54 (.cons (.idx (.var 0) (.var 2)) (.cons (.var 1) (.cons (.var 3) .nil))))) .nilB))))
def k91_b__law_level : Sm := (.consB (.ret (.call 33 (.cons (.call 35 (.cons (.var 3) (.cons (.call 32 (.cons (.idx (.var 0) (.var 2)) (.cons (.var 1) .nil))) .nil))) (.cons (.tup (.cons (.idx (.idx (.var 0) (.var 2)) (.cst (.int 1))) (.cons (.cst (.int 1)) .nil))) .nil)))) .nilB)
def k91_b__law_amounts_right : Sm := (.consB (.asg (.nm 3) (.lc [("good", 6)] (.nm 6) .rng (.b1 .len (.var 1)) .noe .noe (.call 41 (.cons (.var 0) (.cons (.var 2) (.cons (.var 6) .nil)))))) (.consB (.ifs (.or (.cmp .ne (.b1 .repr (.call 51 (.cons (.var 0) (.cons (.var 1) (.cons (.var 2) .nil))))) (.b1 .repr (.var 3))) (.cmp .ne (.b1 .repr (.calk 51 .nil (.cons (.var 2) (.cons (.var 1) (.cons (.var 0) .nil))) [2, 1, 0])) (.b1 .repr (.var 3)))) (.consB (.ret (.cst (.bool false))) .nilB) .nilB) (.consB (.ifs (.cmp .ne (.b1 .repr (.call 49 (.cons (.var 0) (.cons (.var 1) (.cons (.var 2) .nil))))) (.b1 .repr (.call 50 (.cons (.var 0) (.cons (.var 1) (.cons (.var 2) .nil)))))) (.consB (.ret (.cst (.bool false))) .nilB) .nilB) (.consB (.for_ (.tp [4, 5]) .enm (.var 2) .noe (.consB (.ifs (.cmp .ne (.b1 .repr (.call 55 (.cons (.var 0) (.cons (.var 1) (.cons (.var 4) (.cons (.var 5) .nil)))))) (.b1 .repr (.call 56 (.cons (.var 0) (.cons (.var 1) (.cons (.var 4) (.cons (.var 5) .nil))))))) (.consB (.ret (.cst (.bool false))) .nilB) .nilB) .nilB)) (.consB (.ret (.cmp .is (.call 44 (.cons (.var 0) (.cons (.var 2) .nil))) (.cst (.bool true)))) .nilB)))))
def k91_b__law_ends : Sm := (.consB (.aso 3 (.lst .nil)) (.consB (.asg (.nm 4) (.lc [("user", 6), ("amount", 10)] (.tp [6, 10]) .enm (.var 2) .noe .noe (.call 56 (.cons (.var 0) (.cons (.var 1) (.cons (.var 6) (.cons (.var 10) .nil))))))) (.consB (.asg (.nm 5) (.lc [("good", 9), ("total", 11)] (.tp [9, 11]) .enm (.var 1) .noe (.cmp .eq (.call 41 (.cons (.var 0) (.cons (.var 2) (.cons (.var 9) .nil)))) (.tup (.cons (.var 11) (.cons (.cst (.int 1)) .nil)))) (.var 9))) (.consB (.for_ (.tp [6, 7]) .enm (.var 0) .noe (.consB (.aso 8 (.ite (.and (.cmp .isn (.idx (.var 7) (.cst (.int 3))) (.cst .none)) (.cmp .eq (.idx (.var 2) (.var 6)) (.tup (.cons (.idx (.var 7) (.cst (.int 3))) (.cons (.cst (.int 1)) .nil))))) (.lst (.cons (.cst (.str "want")) .nil)) (.lst .nil))) (.consB (.for_ (.nm 9) .walk (.var 5) .noe (.consB (.asg (.nm 12) (.lc [("other", 13)] (.nm 13) .rng (.b1 .len (.var 0)) .noe (.cmp .gt (.idx (.idx (.idx (.var 0) (.var 13)) (.cst (.int 2))) (.var 9)) (.cst (.int 0))) (.var 13))) (.consB (.ifs (.and (.cmp .inn (.var 6) (.var 12)) (.nt (.b1 .any (.lc [("other", 13)] (.nm 13) .walk (.var 12) .noe .noe (.call 31 (.cons (.idx (.var 4) (.var 6)) (.cons (.idx (.var 4) (.var 13)) .nil))))))) (.consB (.app 8 (.var 9)) .nilB) .nilB) .nilB))) (.consB (.app 3 (.var 8)) .nilB)))) (.consB (.ret (.var 3)) .nilB)))))
def k91_b__law_is_right : Sm := (.consB (.ret (.and (.call 50 (.cons (.var 0) (.cons (.var 1) (.cons (.var 2) .nil)))) (.cmp .nin (.lst .nil) (.call 58 (.cons (.var 0) (.cons (.var 1) (.cons (.var 2) .nil))))))) .nilB)
def k91_b_is_share : Sm := (.consB (.exp (.call 14 (.cons (.var 0) (.cons (.var 1) .nil)))) (.consB (.ret (.and (.call 43 (.cons (.var 0) (.cons (.var 2) .nil))) (.cmp .eq (.b1 .list (.var 2)) (.idx (.call 28 (.cons (.var 0) (.cons (.var 1) .nil))) (.cst (.int 0)))))) .nilB))
def k91_b__law_bent : Sm := (.consB (.asp [2, 3] [false, false] (.cons (.call 0 (.cons (.mu 0) (.cons (.b1 .len (.var 1)) .nil))) (.cons (.call 0 (.cons (.mu 0) (.cons (.b1 .len (.var 1)) .nil))) .nil))) (.consB (.asp [4, 5] [false, false] (.cons (.idx (.var 1) (.var 2)) (.cons (.call 0 (.cons (.mu 0) (.cons (.cst (.int 6)) .nil))) .nil))) (.consB (.ifs (.cmp .eq (.var 5) (.cst (.int 0))) (.consB (.asg (.nm 4) (.call 36 (.cons (.var 4) (.cons (.tup (.cons (.cst (.int 1)) (.cons (.bin .add (.cst (.int 1)) (.call 0 (.cons (.mu 0) (.cons (.cst (.int 9)) .nil)))) .nil))) .nil)))) .nilB) (.consB (.ifs (.cmp .eq (.var 5) (.cst (.int 1))) (.consB (.asg (.nm 4) (.call 35 (.cons (.var 4) (.cons (.tup (.cons (.call 0 (.cons (.mu 0) (.cons (.cst (.int 9)) .nil))) (.cons (.cst (.int 9)) .nil))) .nil)))) .nilB) (.consB (.ifs (.cmp .eq (.var 5) (.cst (.int 2))) (.consB (.ret (.lc [("amount", 7)] (.nm 7) .walk (.var 1) .noe .noe (.call 35 (.cons (.var 7) (.cons (.tup (.cons (.cst (.int 8)) (.cons (.cst (.int 9)) .nil))) .nil))))) .nilB) (.consB (.ifs (.cmp .eq (.var 5) (.cst (.int 3))) (.consB (.aso 8 (.b1 .list (.var 1))) (.consB (.sw2 8 (.var 2) 8 (.var 3) (.tup (.cons (.idx (.var 1) (.var 3)) (.cons (.idx (.var 1) (.var 2)) .nil)))) (.consB (.ret (.var 8)) .nilB))) (.consB (.ifs (.cmp .eq (.var 5) (.cst (.int 4))) (.consB (.ret (.rep (.cons (.tup (.cons (.cst (.int 0)) (.cons (.cst (.int 1)) .nil))) .nil) (.b1 .len (.var 1)))) .nilB) (.consB (.asg (.nm 9) (.call 35 (.cons (.var 4) (.cons (.tup (.cons (.cst (.int 1)) (.cons (.cst (.int 2)) .nil))) .nil)))) (.consB (.aso 8 (.lc [("user", 6), ("amount", 7)] (.tp [6, 7]) .enm (.var 1) .noe .noe (.ite (.and (.cmp .eq (.var 6) (.var 3)) (.cmp .ne (.var 6) (.var 2))) (.call 36 (.cons (.var 7) (.cons (.var 9) .nil))) (.var 7)))) (.consB (.sub 8 (.var 2) (.call 37 (.cons (.var 4) (.cons (.var 9) .nil)))) (.consB (.ret (.var 8)) .nilB))))) .nilB)) .nilB)) .nilB)) .nilB)) (.consB (.ret (.lc [("user", 6), ("amount", 7)] (.tp [6, 7]) .enm (.var 1) .noe .noe (.ite (.cmp .eq (.var 6) (.var 2)) (.var 4) (.var 7)))) .nilB))))
def k91_b_are_totals : Sm := (.consB (.exp (.call 12 (.cons (.var 0) .nil))) (.consB (.ret (.call 13 (.cons (.var 0) (.cons (.var 1) .nil)))) .nilB))
def k91_b__law_right : Sm := (.consB (.asg (.nm 1) (.cmp .eq (.call 0 (.cons (.mu 0) (.cons (.cst (.int 8)) .nil))) (.cst (.int 0)))) (.consB (.asg (.nm 2) (.call 2 (.cons (.mu 0) (.cons (.bin .add (.cst (.int 1)) (.call 0 (.cons (.mu 0) (.cons (.cst (.int 6)) .nil)))) (.cons (.bin .add (.cst (.int 1)) (.call 0 (.cons (.mu 0) (.cons (.cst (.int 4)) .nil)))) (.cons (.ite (.var 1) (.cst (.int 99)) (.cst (.int 9))) .nil)))))) (.consB (.asg (.nm 3) (.call 3 (.cons (.mu 0) (.cons (.var 2) (.cons (.ite (.var 1) (.lst (.cons (.cst (.int 99)) (.cons (.cst (.int 9999)) .nil))) (.lst (.cons (.cst (.int 9)) (.cons (.cst (.int 99)) .nil)))) .nil))))) (.consB (.ifs (.and (.cmp .gt (.b1 .len (.var 3)) (.cst (.int 1))) (.cmp .eq (.call 0 (.cons (.mu 0) (.cons (.cst (.int 3)) .nil))) (.cst (.int 0)))) (.consB (.asg (.nm 2) (.b1 .tup (.lc [("user", 15)] (.nm 15) .walk (.var 2) .noe .noe (.bin .add (.bin .add (.slc (.var 15) .noe (.cst (.int 2))) (.tup (.cons (.bin .add (.slc (.idx (.var 15) (.cst (.int 2))) .noe (.neg (.cst (.int 1)))) (.slc (.idx (.var 15) (.cst (.int 2))) .noe (.cst (.int 1)))) .nil))) (.slc (.var 15) (.cst (.int 3)) .noe))))) (.consB (.asp [2, 3] [false, false] (.cons (.b1 .tup (.lc [("user", 15)] (.nm 15) .walk (.var 2) .noe (.cmp .gt (.b1 .sum (.idx (.var 15) (.cst (.int 2)))) (.cst (.int 0))) (.var 15))) (.cons (.bin .add (.slc (.var 3) .noe (.neg (.cst (.int 1)))) (.slc (.var 3) .noe (.cst (.int 1)))) .nil))) (.consB (.asg (.nm 2) (.ite (.cmp .ne (.var 2) (.tup .nil)) (.var 2) (.tup (.cons (.tup (.cons (.cst (.str "user")) (.cons (.cst (.int 1)) (.cons (.bin .mul (.tup (.cons (.cst (.int 1)) .nil)) (.b1 .len (.var 3))) (.cons (.cst .none) .nil))))) .nil)))) .nilB))) .nilB) (.consB (.asp [4, 5] [false, false] (.cons (.b1 .repr (.lst (.cons (.var 2) (.cons (.var 3) .nil)))) (.cons (.call 38 (.cons (.var 2) (.cons (.var 3) .nil))) .nil))) (.consB (.asp [6, 7] [true, true] (.cons (.m1 .fl (.call 39 (.cons (.var 2) (.cons (.var 3) .nil))) .noe) (.cons (.m1 .fl (.call 40 (.cons (.var 2) (.cons (.var 3) .nil))) .noe) .nil))) (.consB (.ifs (.or (.cmp .ne (.m1 .scr (.b1 .repr (.lst (.cons (.var 6) (.cons (.var 7) .nil)))) .noe) (.b1 .repr (.lst (.cons (.idx (.var 5) (.cst (.int 0))) (.cons (.idx (.var 5) (.cst (.int 1))) .nil))))) (.nt (.call 59 (.cons (.var 2) (.cons (.var 3) (.cons (.idx (.var 5) (.cst (.int 0))) .nil)))))) (.consB (.ret (.cst (.bool false))) .nilB) .nilB) (.consB (.asg (.nm 8) (.lc [("row", 14)] (.nm 14) .walk (.call 58 (.cons (.var 2) (.cons (.var 3) (.cons (.idx (.var 5) (.cst (.int 0))) .nil)))) .noe .noe (.idx (.var 14) (.cst (.int 0))))) (.consB (.aso 9 (.m1 .fl (.calk 29 .nil (.cons (.var 3) (.cons (.var 2) .nil)) [1, 0]) .noe)) (.consB (.ifs (.or (.cmp .ne (.b1 .repr (.var 9)) (.b1 .repr (.var 8))) (.cmp .ne (.lst (.cons (.call 11 (.cons (.var 2) .nil)) (.cons (.call 62 (.cons (.var 2) (.cons (.var 3) .nil))) .nil))) (.lst (.cons (.cst (.bool true)) (.cons (.cst (.bool true)) .nil))))) (.consB (.ret (.cst (.bool false))) .nilB) .nilB) (.consB (.kill 10 [6, 7, 9] .none) (.consB (.ifs (.cmp .ne (.b1 .repr (.lst (.cons (.call 39 (.cons (.var 2) (.cons (.var 3) .nil))) (.cons (.call 40 (.cons (.var 2) (.cons (.var 3) .nil))) (.cons (.call 29 (.cons (.var 2) (.cons (.var 3) .nil))) .nil))))) (.b1 .repr (.lst (.cons (.idx (.var 5) (.cst (.int 0))) (.cons (.idx (.var 5) (.cst (.int 1))) (.cons (.var 8) .nil)))))) (.consB (.ret (.cst (.bool false))) .nilB) .nilB) (.consB (.ifs (.or (.cmp .isn (.call 60 (.cons (.var 2) (.cons (.var 3) (.cons (.idx (.var 5) (.cst (.int 0))) .nil)))) (.cst (.bool true))) (.cmp .isn (.calk 60 .nil (.cons (.var 3) (.cons (.b1 .tup (.idx (.var 5) (.cst (.int 0)))) (.cons (.var 2) .nil))) [2, 0, 1]) (.cst (.bool true)))) (.consB (.ret (.cst (.bool false))) .nilB) .nilB) (.consB (.aso 10 (.lst (.cons (.idx (.call 38 (.cons (.b1 .tup (.lc [("user", 15)] (.nm 15) .walk (.var 2) .noe .noe (.bin .add (.slc (.var 15) .noe (.cst (.int 3))) (.tup (.cons (.cst .none) .nil))))) (.cons (.var 3) .nil))) (.cst (.int 0))) .nil))) (.consB (.asg (.nm 11) (.call 0 (.cons (.mu 0) (.cons (.b1 .len (.var 3)) .nil)))) (.consB (.app 10 (.idx (.call 38 (.cons (.var 2) (.cons (.bin .add (.bin .add (.slc (.var 3) .noe (.var 11)) (.tup (.cons (.bin .mul (.cst (.int 2)) (.idx (.var 3) (.var 11))) .nil))) (.slc (.var 3) (.bin .add (.var 11) (.cst (.int 1))) .noe)) .nil))) (.cst (.int 0)))) (.consB (.for_ (.nm 12) .rng (.cst (.int 3)) .noe (.consB (.asg (.nm 13) (.ite (.cmp .lt (.var 12) (.cst (.int 2))) (.idx (.var 10) (.var 12)) (.call 61 (.cons (.mu 0) (.cons (.idx (.var 5) (.cst (.int 0))) .nil))))) (.consB (.ifs (.cmp .ge (.b1 .max (.lc [("amount", 16)] (.nm 16) .walk (.var 13) .noe .noe (.b2 .max (.b1 .abs (.idx (.var 16) (.cst (.int 0)))) (.idx (.var 16) (.cst (.int 1)))))) (.bin .pow (.cst (.int 10)) (.cst (.int 30)))) (.consB .cnt .nilB) .nilB) (.consB (.ifs (.cmp .ne (.b1 .repr (.call 60 (.cons (.var 2) (.cons (.var 3) (.cons (.var 13) .nil))))) (.b1 .repr (.call 59 (.cons (.var 2) (.cons (.var 3) (.cons (.var 13) .nil)))))) (.consB (.ret (.cst (.bool false))) .nilB) .nilB) (.consB (.ifs (.nt (.call 57 (.cons (.var 2) (.cons (.var 3) (.cons (.var 13) .nil))))) (.consB (.ret (.cst (.bool false))) .nilB) .nilB) .nilB))))) (.consB (.ret (.and (.call 57 (.cons (.var 2) (.cons (.var 3) (.cons (.idx (.var 5) (.cst (.int 0))) .nil)))) (.cmp .eq (.b1 .repr (.lst (.cons (.var 2) (.cons (.var 3) .nil)))) (.var 4)))) .nilB))))))))))))))))))
def k91_b__law_pot : Sm := (.consB (.asg (.nm 2) (.ite (.cmp .lt (.var 1) (.b1 .len (.var 0))) (.b1 .abs (.idx (.var 0) (.var 1))) (.bin .add (.bin .add (.bin .mul (.cst (.int 911)) (.var 1)) (.cst (.int 317))) (.bin .mod (.b1 .abs (.b1 .sum (.slc (.var 0) .noe (.cst (.int 1))))) (.cst (.int 1000003)))))) (.consB (.ret (.lst (.cons (.b2 .max (.cst (.int 0)) (.bin .sub (.var 2) (.bin .pow (.cst (.int 10)) (.cst (.int 18))))) (.cons (.bin .add (.bin .mod (.b1 .int (.bin .add (.bin .add (.bin .mul (.bin .mod (.b1 .int (.var 2)) (.cst (.int 2147483549))) (.cst (.int 40014))) (.bin .mul (.cst (.int 6007)) (.var 1))) (.cst (.int 317)))) (.cst (.int 2147483563))) (.cst (.int 1))) .nil)))) .nilB))
def k91_b_law : Sm := (.consB (.ret (.cf 63 (.call 64 (.cons (.var 0) (.cons (.cst (.int 0)) .nil))))) .nilB)
def k91_top (i : Nat) : Stmt := PySem.Challenge.pw_promisedhall_k91_whole_one_share.main.body.getD i (.Pass ⟨0, 0, 0, 0⟩)
def k91_glo : List (Str × D) := [("NOUGHT", (.tuple [(.int 0), (.int 1)])), ("MOST_USERS", (.int 6)), ("MOST_GOODS", (.int 4)), ("MOST_WEIGHT", (.int 9)), ("MOST_NEED", (.int 99)), ("MOST_WANT", (.int 999)), ("MOST_TOTAL", (.int 9999))]
def k91_bis : List Str := ["isinstance", "len", "abs", "max", "min", "sum", "all", "any", "int", "str", "repr", "list", "tuple", "divmod", "enumerate", "zip", "range", "bool"]
def k91_d__law_draw : De := ⟨"_law_draw", ["pot", "many"], ["pot", "many", "digit"], k91_top 62, k91_b__law_draw, false, [], "_law_draw"⟩
def k91_d__law_pick : De := ⟨"_law_pick", ["pot", "some"], ["pot", "some"], k91_top 63, k91_b__law_pick, false, [], "_law_pick"⟩
def k91_d__law_users : De := ⟨"_law_users", ["pot", "many", "goods", "most"], ["pot", "many", "goods", "most", "found", "user", "needs", "want", "good"], k91_top 71, k91_b__law_users, false, [], "_law_users"⟩
def k91_d__law_totals : De := ⟨"_law_totals", ["pot", "users", "mosts"], ["pot", "users", "mosts", "goods", "found", "good", "wants", "user"], k91_top 78, k91_b__law_totals, false, [], "_law_totals"⟩
def k91_d_is_tuple_of : De := ⟨"is_tuple_of", ["value", "word", "size"], ["value", "word", "size"], k91_top 4, k91_b_is_tuple_of, false, [], "is_tuple_of"⟩
def k91_d_goods_of : De := ⟨"goods_of", ["value"], ["value"], k91_top 34, k91_b_goods_of, false, [], "goods_of"⟩
def k91_d_is_integer : De := ⟨"is_integer", ["value"], ["value"], k91_top 1, k91_b_is_integer, false, [], "is_integer"⟩
def k91_d_is_within : De := ⟨"is_within", ["value", "least", "most"], ["value", "least", "most"], k91_top 3, k91_b_is_within, false, [], "is_within"⟩
def k91_d_are_needs : De := ⟨"are_needs", ["value", "goods"], ["value", "goods", "one"], k91_top 31, k91_b_are_needs, false, [], "are_needs"⟩
def k91_d_is_want : De := ⟨"is_want", ["value"], ["value"], k91_top 32, k91_b_is_want, false, [], "is_want"⟩
def k91_d_is_user : De := ⟨"is_user", ["value", "goods"], ["value", "goods"], k91_top 33, k91_b_is_user, false, [], "is_user"⟩
def k91_d_are_users : De := ⟨"are_users", ["value"], ["value", "goods", "one"], k91_top 35, k91_b_are_users, false, [], "are_users"⟩
def k91_d_want_users : De := ⟨"want_users", ["users"], ["users"], k91_top 38, k91_b_want_users, false, [], "want_users"⟩
def k91_d_totals_are_right : De := ⟨"totals_are_right", ["users", "value"], ["users", "value", "one"], k91_top 36, k91_b_totals_are_right, false, [], "totals_are_right"⟩
def k91_d_want_both : De := ⟨"want_both", ["users", "totals"], ["users", "totals"], k91_top 39, k91_b_want_both, false, [], "want_both"⟩
def k91_d_common_part : De := ⟨"common_part", ["one", "other"], ["one", "other"], k91_top 14, k91_b_common_part, false, [], "common_part"⟩
def k91_d_lowest : De := ⟨"lowest", ["top", "bottom"], ["top", "bottom", "part"], k91_top 15, k91_b_lowest, false, [], "lowest"⟩
def k91_d_over : De := ⟨"over", ["one", "other"], ["one", "other"], k91_top 19, k91_b_over, false, [], "over"⟩
def k91_d_is_below : De := ⟨"is_below", ["one", "other"], ["one", "other"], k91_top 20, k91_b_is_below, false, [], "is_below"⟩
def k91_d_greatest_of : De := ⟨"greatest_of", ["some"], ["some", "found", "one"], k91_top 22, k91_b_greatest_of, false, [], "greatest_of"⟩
def k91_d_height : De := ⟨"height", ["user", "totals"], ["user", "totals", "need", "total"], k91_top 42, k91_b_height, false, [], "height"⟩
def k91_d_speed : De := ⟨"speed", ["user", "totals"], ["user", "totals"], k91_top 47, k91_b_speed, false, [], "speed"⟩
def k91_d_least_of : De := ⟨"least_of", ["some"], ["some", "found", "one"], k91_top 21, k91_b_least_of, false, [], "least_of"⟩
def k91_d_plus : De := ⟨"plus", ["one", "other"], ["one", "other"], k91_top 16, k91_b_plus, false, [], "plus"⟩
def k91_d_minus : De := ⟨"minus", ["one", "other"], ["one", "other"], k91_top 17, k91_b_minus, false, [], "minus"⟩
def k91_d_times : De := ⟨"times", ["one", "other"], ["one", "other"], k91_top 18, k91_b_times, false, [], "times"⟩
def k91_d_good_stop : De := ⟨"good_stop", ["users", "speeds", "amounts", "rising", "good", "total"], ["users", "speeds", "amounts", "rising", "good", "total", "left", "pull", "at", "user", "need"], k91_top 48, k91_b_good_stop, false, [], "good_stop"⟩
def k91_d_want_stop : De := ⟨"want_stop", ["user", "speed_now"], ["user", "speed_now"], k91_top 49, k91_b_want_stop, false, [], "want_stop"⟩
def k91_d_filled : De := ⟨"filled", ["users", "totals"], ["users", "totals", "speeds", "amounts", "rising", "rows", "goods", "wants", "level_now", "full", "stopped", "at", "one", "user", "good", "total"], k91_top 50, k91_b_filled, false, [], "filled"⟩
def k91_d_bottlenecks : De := ⟨"bottlenecks", ["users", "totals"], ["users", "totals", "amounts", "rows", "found", "level_now", "goods", "stopped", "at", "good"], k91_top 58, k91_b_bottlenecks, false, [(0, ["totals", "users"], [1, 0])], "bottlenecks"⟩
def k91_d__law_ratio : De := ⟨"_law_ratio", ["top", "bottom"], ["top", "bottom", "one", "other", "turn", "sign"], k91_top 64, k91_b__law_ratio, false, [], "_law_ratio"⟩
def k91_d__law_is_below : De := ⟨"_law_is_below", ["one", "other"], ["one", "other"], k91_top 69, k91_b__law_is_below, false, [], "_law_is_below"⟩
def k91_d__law_height : De := ⟨"_law_height", ["user", "totals"], ["user", "totals", "some", "found", "one", "need", "total"], k91_top 72, k91_b__law_height, false, [], "_law_height"⟩
def k91_d__law_over : De := ⟨"_law_over", ["one", "other"], ["one", "other"], k91_top 68, k91_b__law_over, false, [], "_law_over"⟩
def k91_d__law_least : De := ⟨"_law_least", ["some"], ["some", "found", "one"], k91_top 70, k91_b__law_least, false, [], "_law_least"⟩
def k91_d__law_times : De := ⟨"_law_times", ["one", "other"], ["one", "other"], k91_top 67, k91_b__law_times, false, [], "_law_times"⟩
def k91_d__law_plus : De := ⟨"_law_plus", ["one", "other"], ["one", "other"], k91_top 65, k91_b__law_plus, false, [], "_law_plus"⟩
def k91_d__law_less : De := ⟨"_law_less", ["one", "other"], ["one", "other"], k91_top 66, k91_b__law_less, false, [], "_law_less"⟩
def k91_d__law_filled : De := ⟨"_law_filled", ["users", "totals"], ["users", "totals", "amounts", "stops", "rising", "heights", "speeds", "turn", "spent", "good", "total", "wants", "mark", "goods", "stays", "user", "height_v", "rate", "fixed", "told", "one"], k91_top 77, k91_b__law_filled, false, [], "_law_filled"⟩
def k91_d_shared : De := ⟨"shared", ["users", "totals"], ["users", "totals"], k91_top 56, k91_b_shared, false, [], "shared"⟩
def k91_d_filling : De := ⟨"filling", ["users", "totals"], ["users", "totals"], k91_top 59, k91_b_filling, false, [], "filling"⟩
def k91_d__law_used : De := ⟨"_law_used", ["users", "amounts", "good"], ["users", "amounts", "good", "found", "user", "amount"], k91_top 74, k91_b__law_used, false, [], "_law_used"⟩
def k91_d_is_ratio : De := ⟨"is_ratio", ["value"], ["value"], k91_top 23, k91_b_is_ratio, false, [], "is_ratio"⟩
def k91_d_amounts_are_right : De := ⟨"amounts_are_right", ["users", "value"], ["users", "value", "one"], k91_top 37, k91_b_amounts_are_right, false, [], "amounts_are_right"⟩
def k91_d_are_amounts : De := ⟨"are_amounts", ["users", "value"], ["users", "value"], k91_top 52, k91_b_are_amounts, false, [], "are_amounts"⟩
def k91_d_want_amounts : De := ⟨"want_amounts", ["users", "totals", "amounts"], ["users", "totals", "amounts"], k91_top 40, k91_b_want_amounts, false, [], "want_amounts"⟩
def k91_d_used_of : De := ⟨"used_of", ["users", "amounts"], ["users", "amounts", "found", "good", "whole", "user", "amount"], k91_top 44, k91_b_used_of, false, [], "used_of"⟩
def k91_d_is_within_want : De := ⟨"is_within_want", ["user", "amount"], ["user", "amount"], k91_top 45, k91_b_is_within_want, false, [], "is_within_want"⟩
def k91_d_do_fit : De := ⟨"do_fit", ["users", "totals", "amounts"], ["users", "totals", "amounts", "whole", "total", "used_now", "user", "amount"], k91_top 46, k91_b_do_fit, false, [], "do_fit"⟩
def k91_d_is_fitting : De := ⟨"is_fitting", ["users", "totals", "amounts"], ["users", "totals", "amounts"], k91_top 55, k91_b_is_fitting, false, [], "is_fitting"⟩
def k91_d__law_fits : De := ⟨"_law_fits", ["users", "totals", "amounts"], ["users", "totals", "amounts", "good", "total", "user", "amount"], k91_top 75, k91_b__law_fits, false, [], "_law_fits"⟩
def k91_d_used : De := ⟨"used", ["users", "totals", "amounts"], ["users", "totals", "amounts"], k91_top 53, k91_b_used, false, [(0, ["amounts", "totals", "users"], [2, 1, 0])], "used"⟩
def k91_d_is_count : De := ⟨"is_count", ["value"], ["value"], k91_top 2, k91_b_is_count, false, [], "is_count"⟩
def k91_d_want_user : De := ⟨"want_user", ["users", "user"], ["users", "user"], k91_top 41, k91_b_want_user, false, [], "want_user"⟩
def k91_d_level_of : De := ⟨"level_of", ["user", "totals", "amount"], ["user", "totals", "amount"], k91_top 43, k91_b_level_of, false, [], "level_of"⟩
def k91_d_level : De := ⟨"level", ["users", "totals", "user", "amount"], ["users", "totals", "user", "amount"], k91_top 54, k91_b_level, false, [], "level"⟩
def k91_d__law_level : De := ⟨"_law_level", ["users", "totals", "user", "amount"], ["users", "totals", "user", "amount"], k91_top 73, k91_b__law_level, false, [], "_law_level"⟩
def k91_d__law_amounts_right : De := ⟨"_law_amounts_right", ["users", "totals", "amounts"], ["users", "totals", "amounts", "due", "user", "amount", "good"], k91_top 81, k91_b__law_amounts_right, false, [], "_law_amounts_right"⟩
def k91_d__law_ends : De := ⟨"_law_ends", ["users", "totals", "amounts"], ["users", "totals", "amounts", "found", "levels", "spent", "user", "told", "row", "good", "amount", "total", "others", "other"], k91_top 76, k91_b__law_ends, false, [], "_law_ends"⟩
def k91_d__law_is_right : De := ⟨"_law_is_right", ["users", "totals", "amounts"], ["users", "totals", "amounts"], k91_top 80, k91_b__law_is_right, false, [], "_law_is_right"⟩
def k91_d_is_share : De := ⟨"is_share", ["users", "totals", "value"], ["users", "totals", "value"], k91_top 57, k91_b_is_share, false, [(0, ["totals", "value", "users"], [2, 0, 1])], "is_share"⟩
def k91_d__law_bent : De := ⟨"_law_bent", ["pot", "amounts"], ["pot", "amounts", "at", "other", "one", "way", "user", "amount", "found", "more"], k91_top 79, k91_b__law_bent, false, [], "_law_bent"⟩
def k91_d_are_totals : De := ⟨"are_totals", ["users", "value"], ["users", "value"], k91_top 51, k91_b_are_totals, false, [], "are_totals"⟩
def k91_d__law_right : De := ⟨"_law_right", ["pot"], ["pot", "great", "users", "totals", "shown", "due", "told", "stops", "ends", "late", "some", "at", "turn", "near", "row", "user", "amount"], k91_top 82, k91_b__law_right, false, [], "_law_right"⟩
def k91_d__law_pot : De := ⟨"_law_pot", ["script", "k"], ["script", "k", "cell"], k91_top 61, k91_b__law_pot, true, [], "_law_pot"⟩
def k91_d_law : De := ⟨"law", ["script"], ["script"], k91_top 83, k91_b_law, false, [], "law"⟩
def k91_ds : List De := [k91_d_law, k91_d__law_pot, k91_d__law_right, k91_d_are_totals, k91_d__law_bent, k91_d_is_share, k91_d__law_is_right, k91_d__law_ends, k91_d__law_amounts_right, k91_d__law_level, k91_d_level, k91_d_level_of, k91_d_want_user, k91_d_is_count, k91_d_used, k91_d__law_fits, k91_d_is_fitting, k91_d_do_fit, k91_d_is_within_want, k91_d_used_of, k91_d_want_amounts, k91_d_are_amounts, k91_d_amounts_are_right, k91_d_is_ratio, k91_d__law_used, k91_d_filling, k91_d_shared, k91_d__law_filled, k91_d__law_less, k91_d__law_plus, k91_d__law_times, k91_d__law_least, k91_d__law_over, k91_d__law_height, k91_d__law_is_below, k91_d__law_ratio, k91_d_bottlenecks, k91_d_filled, k91_d_want_stop, k91_d_good_stop, k91_d_times, k91_d_minus, k91_d_plus, k91_d_least_of, k91_d_speed, k91_d_height, k91_d_greatest_of, k91_d_is_below, k91_d_over, k91_d_lowest, k91_d_common_part, k91_d_want_both, k91_d_totals_are_right, k91_d_want_users, k91_d_are_users, k91_d_is_user, k91_d_is_want, k91_d_are_needs, k91_d_is_within, k91_d_is_integer, k91_d_goods_of, k91_d_is_tuple_of, k91_d__law_totals, k91_d__law_users, k91_d__law_pick, k91_d__law_draw]
end Iv
end
section
set_option Elab.async false
set_option linter.all false
set_option maxRecDepth 100000
set_option maxHeartbeats 1000000
/-! Tables: a def by its own run. Euclid's loops. Rationals. -/
namespace Iv
open PySem PySem.Spec L2
theorem tab_run : ∀ {ds : List De} {j : Nat} {d : De}, ds.reverse[j]? = some d → ∃ Φ : Fn, (∀ i, i < j → Φ i = tab (dfs ds) i) ∧ ∀ a, tab (dfs ds) j a = run Φ d.df a
  | [], _, _, h => by cases h
  | c :: r, j, d, h => by
    rw [List.reverse_cons] at h
    have lr : (dfs r).length = r.length := List.length_map _
    have low : ∀ i, i < r.length → tab (dfs (c :: r)) i = tab (dfs r) i := fun i hi => funext fun a => tab_lt (f := c.df) (r := dfs r) (by rw [lr]; exact hi)
    by_cases hlt : j < r.length
    · rw [List.getElem?_append_left (by rw [List.length_reverse]; exact hlt)] at h
      obtain ⟨Φ, h1, h2⟩ := tab_run h
      refine ⟨Φ, fun i hi => ?_, fun a => ?_⟩
      · rw [low i (by omega)]; exact h1 i hi
      · rw [low j hlt]; exact h2 a
    · rw [List.getElem?_append_right (by rw [List.length_reverse]; omega), List.length_reverse] at h
      have e1 : j = r.length := by
        have := (List.getElem?_eq_some_iff.mp h).1
        simp at this
        omega
      subst e1
      simp at h
      subst h
      refine ⟨tab (dfs r), fun i hi => (low i hi).symm, fun a => ?_⟩
      have := tab_at (f := c.df) (r := dfs r) (a := a)
      rw [lr] at this
      exact this
/-! ### Euclid -/
theorem eu_half {a b : Nat} (hb : b ≠ 0) (hr : a % b ≠ 0) : (b % (a % b)) * 2 < b := by
  have h1 : a % b < b := Nat.mod_lt _ (by omega)
  have h2 := Nat.mod_lt b (show a % b > 0 by omega)
  have h3 := Nat.div_add_mod b (a % b)
  have h4 : 1 ≤ b / (a % b) := Nat.div_pos (by omega) (by omega)
  have h5 : (a % b) * 1 ≤ (a % b) * (b / (a % b)) := Nat.mul_le_mul_left _ h4
  omega
/-- so many steps, stopping at nought -/
def eu : Nat → Nat → Nat → Option Nat
  | 0, a, b => if b = 0 then some a else none
  | n + 1, a, b => if b = 0 then some a else eu n b (a % b)
theorem eu_zero : ∀ (n a : Nat), eu n a 0 = some a
  | 0, a => rfl
  | n + 1, a => rfl
theorem eu_ok : ∀ (k n a b : Nat), b < 2 ^ k → 2 * k ≤ n → eu n a b = some (Nat.gcd b a)
  | 0, n, a, b, h, _ => by
    have e : b = 0 := by simpa using h
    subst e
    rw [eu_zero, Nat.gcd_zero_left]
  | k + 1, n, a, b, h, hn => by
    obtain ⟨m, rfl⟩ : ∃ m, n = m + 2 := ⟨n - 2, by omega⟩
    by_cases hb : b = 0
    · subst hb
      rw [eu_zero, Nat.gcd_zero_left]
    · rw [Nat.gcd_rec]
      show (if b = 0 then some a else (if a % b = 0 then some b else eu m (a % b) (b % (a % b)))) = _
      rw [if_neg hb]
      by_cases hr : a % b = 0
      · rw [if_pos hr, hr, Nat.gcd_zero_left]
      · rw [if_neg hr, Nat.gcd_rec]
        refine eu_ok k m (a % b) (b % (a % b)) ?_ (by omega)
        have := eu_half hb hr
        rw [Nat.pow_succ] at h
        omega
/-! ### rationals -/
def rt (q : Rat) : D := .tuple [.int q.num, .int q.den]
theorem rt_div {a b : Int} (hb : 0 < b) : rt ((a : Rat) / (b : Rat)) = .tuple [.int (a / (Nat.gcd b.natAbs a.natAbs : Nat)), .int (b / (Nat.gcd b.natAbs a.natAbs : Nat))] := by
  have e : ((a : Rat) / (b : Rat)) = Rat.divInt a b := (Rat.divInt_eq_div a b).symm
  have hs : b.sign = 1 := Int.sign_eq_one_of_pos hb
  unfold rt
  rw [e, Rat.num_divInt, Rat.den_divInt, if_neg (by omega), hs, Int.one_mul]
  have h2 : ((b.natAbs / b.gcd a : Nat) : Int) = b / (Nat.gcd b.natAbs a.natAbs : Nat) := by
    show ((b.natAbs / Nat.gcd b.natAbs a.natAbs : Nat) : Int) = _
    rw [Int.natCast_ediv]
    congr 1
    omega
  rw [h2]
  rfl
end Iv
end
section
set_option Elab.async false
set_option linter.all false
set_option maxRecDepth 100000
set_option maxHeartbeats 1000000
/-! Loops and comprehensions of the evaluator, as maps and folds. -/
namespace Iv
open PySem PySem.Spec L2
theorem exs_nx {Φ : Fn} {s b : Sm} {e e1 : Ev} {o : Option Out} (h : exs Φ s e = some (.nx e1)) (h2 : exs Φ b e1 = o) : exs Φ (.consB s b) e = o := by
  simp only [exs, h, h2]
theorem for_nx {g : Tg} {f : Ev → Option Out} {d : D} {ds : List D} {e e1 e2 : Ev} {o : Option Out} (ht : tgOk e g = true) (hb : bindT g d e = some e1) (hf : f e1 = some (.nx e2)) (hr : forGo g f ds e2 = o) : forGo g f (d :: ds) e = o := by
  rw [forGo, if_pos ht]
  simp only [hb, hf, hr]
theorem for_bk {g : Tg} {f : Ev → Option Out} {d : D} {ds : List D} {e e1 e2 : Ev} (ht : tgOk e g = true) (hb : bindT g d e = some e1) (hf : f e1 = some (.bk e2)) : forGo g f (d :: ds) e = some (.nx e2) := by
  rw [forGo, if_pos ht]
  simp only [hb, hf]
theorem for_map {α S : Type} {g : Tg} {f : Ev → Option Out} (φ : α → D) (env : S → Ev) (step : S → α → S) (I : S → Prop) : ∀ (xs : List α) (s : S), (∀ s x, x ∈ xs → I s → tgOk (env s) g = true ∧ (∃ e1, bindT g (φ x) (env s) = some e1 ∧ f e1 = some (.nx (env (step s x)))) ∧ I (step s x)) → I s →
    forGo g f (xs.map φ) (env s) = some (.nx (env (xs.foldl step s))) ∧ I (xs.foldl step s)
  | [], s, _, h0 => ⟨rfl, h0⟩
  | x :: xs, s, h, h0 => by
    obtain ⟨h1, ⟨e1, h2, h3⟩, h4⟩ := h s x List.mem_cons_self h0
    obtain ⟨g1, g2⟩ := for_map φ env step I xs (step s x) (fun s y hy => h s y (List.mem_cons_of_mem _ hy)) h4
    exact ⟨for_nx h1 h2 h3 g1, g2⟩
/-- a loop whose state hangs on the turn -/
theorem for_at {α Z : Type} {g : Tg} {f : Ev → Option Out} (φ : α → D) (env : Nat → Z → Ev) (ok : Z → Prop) : ∀ (xs : List α) (k : Nat) (z : Z), ok z →
    (∀ i x z, xs[i]? = some x → ok z → tgOk (env (k + i) z) g = true ∧ ∃ e1 z', bindT g (φ x) (env (k + i) z) = some e1 ∧ f e1 = some (.nx (env (k + i + 1) z')) ∧ ok z') →
    ∃ z', ok z' ∧ forGo g f (xs.map φ) (env k z) = some (.nx (env (k + xs.length) z'))
  | [], k, z, hz, _ => ⟨z, hz, rfl⟩
  | x :: xs, k, z, hz, h => by
    obtain ⟨h1, e1, z', h2, h3, h4⟩ := h 0 x z rfl hz
    obtain ⟨z2, g1, g2⟩ := for_at φ env ok xs (k + 1) z' h4 fun i y w hy hw => by
      have := h (i + 1) y w hy hw
      rw [show k + (i + 1) = k + 1 + i by omega] at this
      exact this
    refine ⟨z2, g1, ?_⟩
    rw [List.length_cons, show k + (xs.length + 1) = k + 1 + xs.length by omega]
    exact for_nx h1 h2 h3 g2
theorem wipeE_length (e : Ev) : ∀ vs : List Nat, (wipeE e vs).length = e.length
  | [] => rfl
  | v :: vs => by
    show ((wipeE e vs).set v .un).length = _
    rw [List.length_set, wipeE_length e vs]
theorem back_wipe {e e3 : Ev} {own : List Nat} (h : wipeE e3 own = wipeE e own) : backE e e3 own = e := by
  have hl : e3.length = e.length := by
    have := congrArg List.length h
    rwa [wipeE_length, wipeE_length] at this
  refine List.ext_getElem? fun j => ?_
  by_cases hj : j ∈ own
  · cases q : (backE e e3 own)[j]? with
    | none =>
      have : (backE e e3 own).length ≤ j := List.getElem?_eq_none_iff.mp q
      rw [backE_len, hl] at this
      rw [List.getElem?_eq_none this]
    | some s =>
      have e1 := backE_in hj q
      have lj : j < e.length := by
        have := (List.getElem?_eq_some_iff.mp q).1
        rwa [backE_len, hl] at this
      rw [e1, List.getD_eq_getElem?_getD, List.getElem?_eq_getElem lj]
      rfl
  · rw [backE_out hj, ← wipeE_out (e := e3) hj, h, wipeE_out hj]
theorem wipe_set {e : Ev} {i : Nat} {s : Sl} : ∀ {own : List Nat}, i ∈ own → wipeE (e.set i s) own = wipeE e own := fun {own} h => by
  refine List.ext_getElem? fun j => ?_
  by_cases hj : j ∈ own
  · cases q : (wipeE (e.set i s) own)[j]? with
    | none =>
      have : (wipeE (e.set i s) own).length ≤ j := List.getElem?_eq_none_iff.mp q
      rw [wipeE_length, List.length_set] at this
      rw [List.getElem?_eq_none (by rw [wipeE_length]; exact this)]
    | some a =>
      have lj : j < (wipeE e own).length := by
        have := (List.getElem?_eq_some_iff.mp q).1
        rwa [wipeE_length, List.length_set, ← wipeE_length e own] at this
      have e1 := wipeE_in hj q
      have e2 := wipeE_in hj (List.getElem?_eq_getElem lj)
      rw [List.getElem?_eq_getElem lj, e1, e2]
  · rw [wipeE_out hj, wipeE_out hj, List.getElem?_set_ne (fun q => hj (by rw [← q]; exact h))]
theorem wipe_idem {e : Ev} {own : List Nat} : wipeE (wipeE e own) own = wipeE e own := by
  refine List.ext_getElem? fun j => ?_
  by_cases hj : j ∈ own
  · by_cases lj : j < e.length
    · have l1 : j < (wipeE (wipeE e own) own).length := by rw [wipeE_length, wipeE_length]; exact lj
      have l2 : j < (wipeE e own).length := by rw [wipeE_length]; exact lj
      rw [List.getElem?_eq_getElem l1, List.getElem?_eq_getElem l2, wipeE_in hj (List.getElem?_eq_getElem l1), wipeE_in hj (List.getElem?_eq_getElem l2)]
    · rw [List.getElem?_eq_none (by rw [wipeE_length, wipeE_length]; omega), List.getElem?_eq_none (by rw [wipeE_length]; omega)]
  · rw [wipeE_out hj]
/-- a comprehension that changes nothing -/
theorem lc_pure {α : Type} {own : List Nat} {g : Tg} {c : Ev → Option (Bool × Ev)} {f : Ev → Option (D × Ev)} (φ : α → D) (b : α → Bool) (v : α → D) {e : Ev} : ∀ (xs : List α) (e' : Ev) (acc : List D), wipeE e' own = wipeE e own →
    (∀ x ∈ xs, ∃ e1, bindT g (φ x) (wipeE e own) = some e1 ∧ c e1 = some (b x, e1) ∧ (b x = true → f e1 = some (v x, e1)) ∧ wipeE e1 own = wipeE e own) → acc.length + xs.length ≤ sizeLine →
    ∃ e3, lcGo own g c f (xs.map φ) e' acc = some (acc ++ (xs.filter b).map v, e3) ∧ wipeE e3 own = wipeE e own
  | [], e', acc, hw, _, _ => ⟨e', by simp [lcGo], hw⟩
  | x :: xs, e', acc, hw, h, hl => by
    obtain ⟨e1, h1, h2, h3, h4⟩ := h x List.mem_cons_self
    rw [List.length_cons] at hl
    cases hb : b x with
    | false =>
      obtain ⟨e3, g1, g2⟩ := lc_pure φ b v xs e1 acc h4 (fun y hy => h y (List.mem_cons_of_mem _ hy)) (by omega)
      refine ⟨e3, ?_, g2⟩
      rw [hb] at h2
      simp only [List.map_cons, lcGo, hw, h1, h2, g1, List.filter_cons, hb, Bool.false_eq_true, if_false]
    | true =>
      obtain ⟨e3, g1, g2⟩ := lc_pure φ b v xs e1 (acc ++ [v x]) h4 (fun y hy => h y (List.mem_cons_of_mem _ hy)) (by rw [List.length_append, List.length_singleton]; omega)
      refine ⟨e3, ?_, g2⟩
      rw [hb] at h2
      simp only [List.map_cons, lcGo, hw, h1, h2, h3 hb, if_pos (show acc.length < sizeLine by omega), g1, List.filter_cons, hb, if_true, List.append_assoc, List.singleton_append]
/-- the term of such a comprehension -/
theorem ev_lcP {α : Type} {Φ : Fn} {own : List (Str × Nat)} {g : Tg} {k : Ik} {a b c f : Ex} {x y : D} {e : Ev} (φ : α → D) (t : α → Bool) (v : α → D) (xs : List α) (h1 : ev Φ a e = some (x, e)) (h2 : ev Φ b e = some (y, e)) (h3 : walkD k x y = some (xs.map φ))
    (h : ∀ z ∈ xs, ∃ e1, bindT g (φ z) (wipeE e (own.map (·.2))) = some e1 ∧ lcT c (ev Φ c) e1 = some (t z, e1) ∧ (t z = true → ev Φ f e1 = some (v z, e1)) ∧ wipeE e1 (own.map (·.2)) = wipeE e (own.map (·.2))) (hl : xs.length ≤ sizeLine) :
    ev Φ (.lc own g k a b c f) e = some (.list ((xs.filter t).map v), e) := by
  obtain ⟨e3, g1, g2⟩ := lc_pure (c := lcT c (ev Φ c)) (f := ev Φ f) φ t v xs e [] rfl h (by simpa using hl)
  simp only [ev, h1, h2, h3, g1, back_wipe g2, List.nil_append]
end Iv
end
section
set_option Elab.async false
set_option linter.all false
set_option maxRecDepth 100000
set_option maxHeartbeats 1000000
/-! What repr may be asked of. -/
namespace Iv
open PySem PySem.Spec L2
structure RP (k m : Nat) (d : D) : Prop where
  sh : d.showable = true
  nd : d.hasDict = false
  dp : d.depth ≤ k
  ln : d.shown.length ≤ m
theorem RP.up {k k' m m' : Nat} {d : D} (h : RP k m d) (h1 : k ≤ k') (h2 : m ≤ m') : RP k' m' d := ⟨h.sh, h.nd, Nat.le_trans h.dp h1, Nat.le_trans h.ln h2⟩
theorem RP.int {i : Int} (h : i.natAbs.log2 < 1920) : RP 0 1921 (.int i) := ⟨decide_eq_true h, rfl, Nat.le_of_eq (by simp [PyData.depth]), by
  show (PySem.Str.ofString (toString i)).length ≤ 1921
  rw [PySem.ofString_length]
  exact PySem.int_text_length_le (k := 1920) (by decide) h⟩
theorem RP.none : RP 0 4 .none := ⟨rfl, rfl, Nat.le_of_eq (by simp [PyData.depth]), by decide⟩
theorem RP.bool (b : Bool) : RP 0 5 (.bool b) := by cases b <;> exact ⟨rfl, rfl, Nat.le_of_eq (by simp [PyData.depth]), by decide⟩
theorem tf_len : ∀ (ts : List Str) (k : Nat) (acc : Str), (PySem.textFrom k acc ts).length ≤ acc.length + (ts.map fun t => t.length + 2).sum
  | [], k, acc => by simp [PySem.textFrom]
  | t :: r, k, acc => by
    have h := tf_len r (k + 1) (acc ++ (if k > 0 then ", " else "" : String) ++ t)
    have e : (acc ++ (if k > 0 then ", " else "" : String) ++ t).length ≤ acc.length + 2 + t.length := by
      rw [PySem.strLen_append, PySem.strLen_append]
      have : ((if k > 0 then ", " else "" : String) : Str).length ≤ 2 := by split <;> decide
      omega
    rw [PySem.textFrom, List.map_cons, List.sum_cons]
    omega
theorem sum_le {m : Nat} : ∀ ts : List Str, (∀ t ∈ ts, t.length ≤ m) → (ts.map fun t => t.length + 2).sum ≤ ts.length * (m + 2)
  | [], _ => by simp
  | t :: r, h => by
    have h1 := sum_le r fun x hx => h x (List.mem_cons_of_mem _ hx)
    have h2 := h t List.mem_cons_self
    rw [List.map_cons, List.sum_cons, List.length_cons, Nat.succ_mul]
    omega
theorem shownAll_map : ∀ ds : List D, PyData.shownAll ds = ds.map PyData.shown
  | [] => by simp [PyData.shownAll]
  | d :: ds => by rw [PyData.shownAll, shownAll_map ds]; rfl
theorem showAll {k m : Nat} : ∀ {ds : List D}, (∀ d ∈ ds, RP k m d) → PyData.showableAll ds = true ∧ PyData.hasDictAll ds = false ∧ PyData.depthAll ds ≤ k
  | [], _ => ⟨by simp [PyData.showableAll], by simp [PyData.hasDictAll], by simp [PyData.depthAll]⟩
  | d :: ds, h => by
    obtain ⟨h1, h2, h3⟩ := showAll fun x hx => h x (List.mem_cons_of_mem _ hx)
    have g := h d List.mem_cons_self
    refine ⟨by rw [PyData.showableAll, g.sh, h1]; rfl, by rw [PyData.hasDictAll, g.nd, h2]; rfl, ?_⟩
    rw [PyData.depthAll]
    exact Nat.max_le.mpr ⟨g.dp, h3⟩
theorem shown_le {k m : Nat} {ds : List D} (h : ∀ d ∈ ds, RP k m d) : ((PyData.shownAll ds).map fun t => t.length + 2).sum ≤ ds.length * (m + 2) := by
  rw [shownAll_map]
  have := sum_le (m := m) (ds.map PyData.shown) fun t ht => by
    obtain ⟨d, hd, rfl⟩ := List.mem_map.mp ht
    exact (h d hd).ln
  rwa [List.length_map] at this
theorem RP.list {k m : Nat} {ds : List D} (h : ∀ d ∈ ds, RP k m d) : RP (k + 1) (ds.length * (m + 2) + 3) (.list ds) := by
  obtain ⟨h1, h2, h3⟩ := showAll h
  refine ⟨by rw [PyData.showable]; exact h1, by rw [PyData.hasDict]; exact h2, by rw [PyData.depth]; omega, ?_⟩
  show (PySem.textFrom 0 "[" (PyData.shownAll ds) ++ ("]" : String)).length ≤ _
  rw [PySem.strLen_append]
  have g1 := tf_len (PyData.shownAll ds) 0 "["
  have g2 := shown_le h
  have e1 : (("[" : String) : Str).length = 1 := rfl
  have e2 : (("]" : String) : Str).length = 1 := rfl
  rw [e1] at g1
  rw [e2]
  omega
theorem RP.tup {k m : Nat} {ds : List D} (h : ∀ d ∈ ds, RP k m d) : RP (k + 1) (ds.length * (m + 2) + 3) (.tuple ds) := by
  obtain ⟨h1, h2, h3⟩ := showAll h
  refine ⟨by rw [PyData.showable]; exact h1, by rw [PyData.hasDict]; exact h2, by rw [PyData.depth]; omega, ?_⟩
  show ((("(" : String) : Str) ++ PySem.Str.join ", " (PyData.shownAll ds) ++ (if (PyData.shownAll ds).length == 1 then ",)" else ")" : String)).length ≤ _
  rw [PySem.strLen_append, PySem.strLen_append]
  have g2 := shown_le h
  have e1 : (("(" : String) : Str).length = 1 := rfl
  have e3 : (((if (PyData.shownAll ds).length == 1 then ",)" else ")" : String) : Str)).length ≤ 2 := by split <;> decide
  rw [e1]
  by_cases hn : PyData.shownAll ds = []
  · have e4 : (PySem.Str.join ", " (PyData.shownAll ds)).length = 0 := by rw [hn]; rfl
    rw [e4]
    omega
  · have h5 := PySem.join_length_add (PyData.shownAll ds) hn
    have h6 : PySem.piled (PyData.shownAll ds) = ((PyData.shownAll ds).map fun t => t.length + 2).sum := rfl
    rw [h6] at h5
    omega
theorem RP.repr {k m : Nat} {d : D} (h : RP k m d) (hk : k ≤ 60) (hm : m ≤ sizeLine) : b1D .repr d = some (.str d.shown) := by
  show (if d.showable && !d.hasDict && decide (d.depth ≤ 60) && decide (d.shown.length ≤ sizeLine) then some (PyData.str d.shown) else Option.none) = _
  rw [h.sh, h.nd, decide_eq_true (Nat.le_trans h.dp hk), decide_eq_true (Nat.le_trans h.ln hm)]
  rfl
theorem ne_str (s : Str) : cmpD .ne (.str s) (.str s) = some false := by
  show (eqD (.str s) (.str s)).map (!·) = _
  have : eqD (.str s) (.str s) = some (decide (s = s)) := rfl
  rw [this, decide_eq_true rfl]
  rfl
theorem eq_str (s : Str) : cmpD .eq (.str s) (.str s) = some true := by
  show eqD (.str s) (.str s) = _
  have : eqD (.str s) (.str s) = some (decide (s = s)) := rfl
  rw [this, decide_eq_true rfl]
end Iv
end
section
set_option linter.all false
/-! Weighted filling: part, envy, telling, from what a fair share is. -/
namespace Iv
def S : Nat → (Nat → Rat) → Rat
  | 0, _ => 0
  | n + 1, f => S n f + f n
theorem S_le {f g : Nat → Rat} : ∀ {n : Nat}, (∀ i, i < n → f i ≤ g i) → S n f ≤ S n g
  | 0, _ => by simp [S]
  | n + 1, h => by
    have h1 := S_le (n := n) fun i hi => h i (by omega)
    have h2 := h n (by omega)
    simp only [S]
    grind
theorem S_congr {f g : Nat → Rat} : ∀ {n : Nat}, (∀ i, i < n → f i = g i) → S n f = S n g
  | 0, _ => rfl
  | n + 1, h => by
    simp only [S, S_congr (n := n) fun i hi => h i (by omega), h n (by omega)]
theorem S_mul {f : Nat → Rat} (c : Rat) : ∀ n : Nat, S n (fun i => c * f i) = c * S n f
  | 0 => by simp [S]
  | n + 1 => by
    simp only [S, S_mul c n]
    grind
theorem S_add {f g : Nat → Rat} : ∀ n : Nat, S n (fun i => f i + g i) = S n f + S n g
  | 0 => by simp only [S]; grind
  | n + 1 => by
    simp only [S, S_add n]
    grind
theorem S_nonneg {f : Nat → Rat} : ∀ {n : Nat}, (∀ i, i < n → 0 ≤ f i) → 0 ≤ S n f
  | 0, _ => by simp [S]
  | n + 1, h => by
    have h1 := S_nonneg (n := n) fun i hi => h i (by omega)
    have h2 := h n (by omega)
    simp only [S]
    grind
theorem S_ge {f : Nat → Rat} {i : Nat} : ∀ {n : Nat}, i < n → (∀ i, i < n → 0 ≤ f i) → f i ≤ S n f
  | 0, h, _ => by omega
  | n + 1, h, h0 => by
    have h2 := h0 n (by omega)
    simp only [S]
    by_cases e : i = n
    · subst e
      have h1 := S_nonneg (n := i) (f := f) fun j hj => h0 j (by omega)
      grind
    · have h1 := S_ge (n := n) (f := f) (i := i) (by omega) fun j hj => h0 j (by omega)
      grind
theorem S_lt {f g : Nat → Rat} : ∀ {n : Nat}, S n f < S n g → ∃ i, i < n ∧ f i < g i
  | 0, h => by simp [S] at h
  | n + 1, h => by
    simp only [S] at h
    by_cases hn : f n < g n
    · exact ⟨n, by omega, hn⟩
    · have : S n f < S n g := by grind
      obtain ⟨i, h1, h2⟩ := S_lt this
      exact ⟨i, by omega, h2⟩
theorem exists_min (p : Nat → Prop) (f : Nat → Rat) : ∀ {n : Nat}, (∃ i, i < n ∧ p i) → ∃ i, i < n ∧ p i ∧ ∀ j, j < n → p j → f i ≤ f j
  | 0, h => by obtain ⟨i, h, _⟩ := h; omega
  | n + 1, h => by
    by_cases hn : ∃ i, i < n ∧ p i
    · obtain ⟨i, h1, h2, h3⟩ := exists_min p f hn
      by_cases hp : p n ∧ f n < f i
      · refine ⟨n, by omega, hp.1, fun j hj pj => ?_⟩
        by_cases e : j = n
        · subst e; grind
        · have := h3 j (by omega) pj
          grind
      · refine ⟨i, by omega, h2, fun j hj pj => ?_⟩
        by_cases e : j = n
        · subst e
          grind
        · exact h3 j (by omega) pj
    · obtain ⟨i, h1, h2⟩ := h
      have e : i = n := by
        by_cases hi : i < n
        · exact absurd ⟨i, hi, h2⟩ hn
        · omega
      subst e
      refine ⟨i, by omega, h2, fun j hj pj => ?_⟩
      by_cases e : j = i
      · subst e; grind
      · exact absurd ⟨j, by omega, pj⟩ hn
/-- a sharing problem: n users, G goods -/
structure Pr where
  n : Nat
  G : Nat
  w : Nat → Rat
  nd : Nat → Nat → Rat
  T : Nat → Rat
  want : Nat → Option Rat
  h : Nat → Rat
structure Pr.Ok (P : Pr) : Prop where
  w : ∀ i, i < P.n → 0 < P.w i
  nd : ∀ i g, i < P.n → g < P.G → 0 ≤ P.nd i g
  T : ∀ g, g < P.G → 0 < P.T g
  le : ∀ i g, i < P.n → g < P.G → P.nd i g ≤ P.h i * P.T g
  top : ∀ i, i < P.n → ∃ g, g < P.G ∧ P.nd i g = P.h i * P.T g
  h : ∀ i, i < P.n → 0 < P.h i
/-- a share with its levels: in units of w/h -/
structure Fair (P : Pr) (a l : Nat → Rat) : Prop where
  lev : ∀ i, i < P.n → a i * P.h i = l i * P.w i
  nn : ∀ i, i < P.n → 0 ≤ l i
  fit : ∀ g, g < P.G → S P.n (fun i => a i * P.nd i g) ≤ P.T g
  want : ∀ i v, i < P.n → P.want i = some v → a i ≤ v
  stop : ∀ i, i < P.n → P.want i = some (a i) ∨ ∃ g, g < P.G ∧ 0 < P.nd i g ∧ S P.n (fun i => a i * P.nd i g) = P.T g ∧ ∀ j, j < P.n → 0 < P.nd j g → l j ≤ l i
section
variable {P : Pr} {a l : Nat → Rat}
theorem mul_le {a b c : Rat} (h : a ≤ b) (hc : 0 ≤ c) : c * a ≤ c * b := Rat.mul_le_mul_of_nonneg_left h hc
theorem nn2 {a b : Rat} (ha : 0 ≤ a) (hb : 0 ≤ b) : 0 ≤ a * b := Rat.mul_nonneg ha hb
theorem nn3 {a b c : Rat} (ha : 0 ≤ a) (hb : 0 ≤ b) (hc : 0 ≤ c) : 0 ≤ a * b * c := Rat.mul_nonneg (Rat.mul_nonneg ha hb) hc
theorem le_of_mul {a b c : Rat} (h : c * a ≤ c * b) (hc : 0 < c) : a ≤ b := by
  by_cases q : a ≤ b
  · exact q
  · have : c * b < c * a := Rat.mul_lt_mul_of_pos_left (by grind) hc
    grind
theorem Fair.an (F : Fair P a l) (ok : P.Ok) {i : Nat} (hi : i < P.n) : 0 ≤ a i := by
  have h1 := F.lev i hi
  have h2 := mul_le (F.nn i hi) (show 0 ≤ P.w i by have := ok.w i hi; grind)
  refine le_of_mul (c := P.h i) ?_ (ok.h i hi)
  grind
/-- what a user takes of a good is at most its level times its weight times the good -/
theorem Fair.takes (F : Fair P a l) (ok : P.Ok) {i g : Nat} (hi : i < P.n) (hg : g < P.G) : a i * P.nd i g ≤ l i * P.w i * P.T g := by
  have h1 := mul_le (ok.le i g hi hg) (F.an ok hi)
  have h2 : a i * (P.h i * P.T g) = l i * P.w i * P.T g := by rw [← F.lev i hi, Rat.mul_assoc]
  rw [← h2]
  exact h1
theorem part_ok (ok : P.Ok) (F : Fair P a l) {i : Nat} (hi : i < P.n) {x : Rat} (hw : ∀ v, P.want i = some v → x ≤ v) (hx : ∀ g, g < P.G → x * S P.n P.w * P.nd i g ≤ P.w i * P.T g) : x ≤ a i := by
  rcases F.stop i hi with h | ⟨g, hg, h0, hf, hl⟩
  · exact hw _ h
  · have hW : 0 < S P.n P.w := by
      have h1 := S_ge (f := P.w) hi fun j hj => by have := ok.w j hj; grind
      have := ok.w i hi
      grind
    -- the good is full: so l i ≥ 1 / W
    have h1 : P.T g ≤ l i * P.T g * S P.n P.w := by
      have e1 : S P.n (fun j => a j * P.nd j g) ≤ S P.n (fun j => l i * P.T g * P.w j) := ?_
      · rw [S_mul, hf] at e1
        exact e1
      refine S_le fun j hj => ?_
      by_cases hj0 : 0 < P.nd j g
      · have k1 := F.takes ok hj hg
        have k2 := mul_le (hl j hj hj0) (show 0 ≤ P.w j * P.T g by
          have := ok.w j hj
          have := ok.T g hg
          have := mul_le (show (0 : Rat) ≤ P.T g by grind) (show (0 : Rat) ≤ P.w j by grind)
          grind)
        grind
      · have k1 : P.nd j g = 0 := by
          have := ok.nd j g hj hg
          grind
        have k2 := nn3 (F.nn i hi) (Rat.le_of_lt (ok.T g hg)) (Rat.le_of_lt (ok.w j hj))
        rw [k1]
        grind
    have h2 : 1 ≤ l i * S P.n P.w := by
      refine le_of_mul (c := P.T g) ?_ (ok.T g hg)
      grind
    obtain ⟨q, hq, e⟩ := ok.top i hi
    have h3 := hx q hq
    rw [e] at h3
    have hT := ok.T q hq
    -- x * W * h ≤ w
    have h4 : x * S P.n P.w * P.h i ≤ P.w i := by
      refine le_of_mul (c := P.T q) ?_ hT
      grind
    have h5 := mul_le h2 (show 0 ≤ P.w i by have := ok.w i hi; grind)
    have h6 := F.lev i hi
    have h8 : a i * (S P.n P.w * P.h i) = P.w i * (l i * S P.n P.w) := by
      have : a i * (S P.n P.w * P.h i) = (a i * P.h i) * S P.n P.w := by grind
      rw [this, h6]
      grind
    have h7 : x * (S P.n P.w * P.h i) ≤ a i * (S P.n P.w * P.h i) := by
      rw [h8]
      grind
    have hp : 0 < S P.n P.w * P.h i := Rat.mul_pos hW (ok.h i hi)
    refine le_of_mul (c := S P.n P.w * P.h i) ?_ hp
    grind
/-- what one could make of another's goods, by the weights, is at most one's own -/
theorem envy_ok (ok : P.Ok) (F : Fair P a l) {i f : Nat} (hi : i < P.n) (hf : f < P.n) {x : Rat} (hw : ∀ v, P.want i = some v → x ≤ v) (hx : ∀ g, g < P.G → 0 < P.nd i g → x * P.nd i g * P.w f ≤ a f * P.nd f g * P.w i) : x ≤ a i := by
  rcases F.stop i hi with h | ⟨g, hg, h0, _, hl⟩
  · exact hw _ h
  · have wf := ok.w f hf
    have wi := ok.w i hi
    have ai := F.an ok hi
    by_cases hfg : 0 < P.nd f g
    · have lf := hl f hf hfg
      obtain ⟨q, hq, e⟩ := ok.top i hi
      have hT := ok.T q hq
      have hh := ok.h i hi
      have k1 := hx q hq (by rw [e]; exact Rat.mul_pos hh hT)
      have k2 := F.takes ok hf hq
      have k3 : l f * (P.w f * P.T q * P.w i) ≤ l i * (P.w f * P.T q * P.w i) := by
        have := mul_le lf (nn3 (Rat.le_of_lt wf) (Rat.le_of_lt hT) (Rat.le_of_lt wi))
        grind
      have k4 : a f * P.nd f q * P.w i ≤ l f * P.w f * P.T q * P.w i := by
        have := mul_le k2 (Rat.le_of_lt wi)
        grind
      have k5 := F.lev i hi
      have k6 : l i * (P.w f * P.T q * P.w i) = a i * P.h i * (P.w f * P.T q) := by
        rw [k5]; grind
      have hp : 0 < P.h i * P.T q * P.w f := Rat.mul_pos (Rat.mul_pos hh hT) wf
      refine le_of_mul (c := P.h i * P.T q * P.w f) ?_ hp
      rw [e] at k1
      grind
    · have e0 : P.nd f g = 0 := by
        have := ok.nd f g hf hg
        grind
      have k1 := hx g hg h0
      rw [e0] at k1
      have hp : 0 < P.nd i g * P.w f := Rat.mul_pos h0 wf
      have k2 := mul_le ai (Rat.le_of_lt hp)
      refine le_of_mul (c := P.nd i g * P.w f) ?_ hp
      grind
/-- telling otherwise gains nothing -/
theorem truly_ok {P' : Pr} {a' l' : Nat → Rat} (ok : P.Ok) (ok' : P'.Ok) (F : Fair P a l) (F' : Fair P' a' l') (hn : P'.n = P.n) (hG : P'.G = P.G) (hT : ∀ g, g < P.G → P'.T g = P.T g) {i : Nat} (hi : i < P.n) (hwi : P'.w i = P.w i)
    (same : ∀ j, j < P.n → j ≠ i → P'.w j = P.w j ∧ (∀ g, g < P.G → P'.nd j g = P.nd j g) ∧ P'.want j = P.want j ∧ P'.h j = P.h j)
    {x : Rat} (hw : ∀ v, P.want i = some v → x ≤ v) (hx : ∀ g, g < P.G → x * P.nd i g ≤ a' i * P'.nd i g) : x ≤ a i := by
  by_cases hle : x ≤ a i
  · exact hle
  have hlt : a i < x := by grind
  rcases F.stop i hi with h | ⟨g0, hg0, h0, hf0, hl0⟩
  · exact absurd (hw _ h) (by grind)
  -- a smaller amount has a smaller level
  have cmpl : ∀ {j : Nat} {b c m k : Rat}, j < P.n → b * P.h j = m * P.w j → c * P.h j = k * P.w j → b < c → m < k := fun {j b c m k} hj e1 e2 h => by
    by_cases q : m < k
    · exact q
    · have : k ≤ m := by grind
      have k1 := mul_le this (Rat.le_of_lt (ok.w j hj))
      have k2 : P.h j * b < P.h j * c := Rat.mul_lt_mul_of_pos_left h (ok.h j hj)
      grind
  have cmpa : ∀ {j : Nat} {b c m k : Rat}, j < P.n → b * P.h j = m * P.w j → c * P.h j = k * P.w j → m ≤ k → b ≤ c := fun {j b c m k} hj e1 e2 h => by
    by_cases q : b ≤ c
    · exact q
    · exact absurd (cmpl hj e2 e1 (by grind)) (by grind)
  have lev' : ∀ j, j < P.n → j ≠ i → a' j * P.h j = l' j * P.w j := fun j hj ne => by
    obtain ⟨s1, _, _, s4⟩ := same j hj ne
    have := F'.lev j (by omega)
    rw [s1, s4] at this
    exact this
  -- others lose something of a good that is full for i
  have less : ∀ {g : Nat}, g < P.G → 0 < P.nd i g → S P.n (fun j => a j * P.nd j g) = P.T g → ∃ j, j < P.n ∧ j ≠ i ∧ 0 < P.nd j g ∧ a' j < a j := fun {g} hg hp hfull => by
    by_cases q : ∃ j, j < P.n ∧ j ≠ i ∧ 0 < P.nd j g ∧ a' j < a j
    · exact q
    · have fit := F'.fit g (by omega)
      rw [hn, hT g hg, ← hfull] at fit
      have hd : ∀ j, j < P.n → a j * P.nd j g ≤ a' j * P'.nd j g := fun j hj => by
        by_cases e : j = i
        · subst e
          have k1 := hx g hg
          have k2 := mul_le (Rat.le_of_lt hlt) (Rat.le_of_lt hp)
          grind
        · rw [(same j hj e).2.1 g hg]
          by_cases hp2 : 0 < P.nd j g
          · have k0 : a j ≤ a' j := by
              by_cases w : a' j < a j
              · exact absurd ⟨j, hj, e, hp2, w⟩ q
              · grind
            have := mul_le k0 (Rat.le_of_lt hp2)
            grind
          · have e0 : P.nd j g = 0 := by
              have := ok.nd j g hj hg
              grind
            rw [e0]
            grind
      have hs : a i * P.nd i g < a' i * P'.nd i g := by
        have k1 := hx g hg
        have k2 : P.nd i g * a i < P.nd i g * x := Rat.mul_lt_mul_of_pos_left hlt hp
        grind
      have e1 := S_le (n := P.n) hd
      -- strictly
      have e2 : S P.n (fun j => a' j * P'.nd j g - a j * P.nd j g) ≤ 0 := by
        have k1 := S_add (f := fun j => a' j * P'.nd j g - a j * P.nd j g) (g := fun j => a j * P.nd j g) P.n
        have k2 : S P.n (fun j => a' j * P'.nd j g - a j * P.nd j g + a j * P.nd j g) = S P.n (fun j => a' j * P'.nd j g) := S_congr fun j _ => by grind
        rw [k2] at k1
        grind
      have e3 := S_ge (f := fun j => a' j * P'.nd j g - a j * P.nd j g) hi fun j hj => by
        have := hd j hj
        grind
      exact absurd e3 (by grind)
  obtain ⟨j0, hj0, nj0, pj0, lj0⟩ := less hg0 h0 hf0
  obtain ⟨j, hj, ⟨nj, lj⟩, hmin⟩ := exists_min (fun j => j ≠ i ∧ a' j < a j) l' ⟨j0, hj0, nj0, lj0⟩
  -- its level is under that of i
  have under : l' j < l i := by
    have k1 := hmin j0 hj0 ⟨nj0, lj0⟩
    have k2 := cmpl hj0 (lev' j0 hj0 nj0) (F.lev j0 hj0) lj0
    have k3 := hl0 j0 hj0 pj0
    grind
  obtain ⟨s1, s2, s3, s4⟩ := same j hj nj
  rcases F'.stop j (by omega) with h | ⟨g1, hg1, p1, f1, m1⟩
  · rw [s3] at h
    exact absurd (F.want j _ hj h) (by grind)
  rw [hG] at hg1
  rw [s2 g1 hg1] at p1
  rw [hn, hT g1 hg1] at f1
  -- of that good somebody takes more
  have more : ∃ k, k < P.n ∧ a k * P.nd k g1 < a' k * P'.nd k g1 := by
    have fit := F.fit g1 hg1
    by_cases q : ∃ k, k < P.n ∧ a k * P.nd k g1 < a' k * P'.nd k g1
    · exact q
    · have hd : ∀ k, k < P.n → a' k * P'.nd k g1 ≤ a k * P.nd k g1 := fun k hk => by
        by_cases w : a k * P.nd k g1 < a' k * P'.nd k g1
        · exact absurd ⟨k, hk, w⟩ q
        · grind
      have e2 : S P.n (fun k => a k * P.nd k g1 - a' k * P'.nd k g1) ≤ 0 := by
        have k1 := S_add (f := fun k => a k * P.nd k g1 - a' k * P'.nd k g1) (g := fun k => a' k * P'.nd k g1) P.n
        have k2 : S P.n (fun k => a k * P.nd k g1 - a' k * P'.nd k g1 + a' k * P'.nd k g1) = S P.n (fun k => a k * P.nd k g1) := S_congr fun k _ => by grind
        rw [k2] at k1
        grind
      have e3 := S_ge (f := fun k => a k * P.nd k g1 - a' k * P'.nd k g1) hj fun k hk => by
        have := hd k hk
        grind
      have e4 : P.nd j g1 * a' j < P.nd j g1 * a j := Rat.mul_lt_mul_of_pos_left lj p1
      rw [s2 g1 hg1] at e3
      exact absurd e3 (by grind)
  obtain ⟨k, hk, km⟩ := more
  have ak := F.an ok hk
  have ak' := F'.an ok' (show k < P'.n by omega)
  have nk := ok.nd k g1 hk hg1
  have nk' := ok'.nd k g1 (by omega) (by omega)
  have pk' : 0 < P'.nd k g1 := by
    by_cases q : 0 < P'.nd k g1
    · exact q
    · have e0 : P'.nd k g1 = 0 := by grind
      rw [e0] at km
      have := nn2 ak nk
      grind
  have lk' : l' k ≤ l' j := m1 k (by omega) pk'
  by_cases e : k = i
  · subst e
    -- i itself: at its greatest need
    obtain ⟨q, hq, eq⟩ := ok.top k hk
    have h1 := hx q hq
    have h2 := F'.takes ok' (show k < P'.n by omega) (show q < P'.G by omega)
    rw [hT q hq, hwi] at h2
    rw [eq] at h1
    have hTq := ok.T q hq
    have h3 : x * P.h k ≤ l' k * P.w k := by
      refine le_of_mul (c := P.T q) ?_ hTq
      grind
    have h4 := mul_le lk' (Rat.le_of_lt (ok.w k hk))
    have h5 := F.lev k hk
    have h6 : P.h k * a k < P.h k * x := Rat.mul_lt_mul_of_pos_left hlt (ok.h k hk)
    have h7 : P.w k * l' j < P.w k * l k := Rat.mul_lt_mul_of_pos_left under (ok.w k hk)
    exact absurd h6 (by grind)
  · obtain ⟨t1, t2, t3, t4⟩ := same k hk e
    rw [t2 g1 hg1] at km pk'
    have hak : a k < a' k := by
      by_cases q : a k < a' k
      · exact q
      · have := mul_le (show a' k ≤ a k by grind) (Rat.le_of_lt pk')
        grind
    have lk : l k < l' k := cmpl hk (F.lev k hk) (lev' k hk e) hak
    rcases F.stop k hk with h | ⟨g2, hg2, p2, f2, m2⟩
    · have := F'.want k (a k) (by omega) (by rw [t3]; exact h)
      exact absurd this (by grind)
    · -- in the true run that good is full: another loses, at a lower level yet
      have lose : ∃ m, m < P.n ∧ m ≠ i ∧ 0 < P.nd m g2 ∧ a' m < a m := by
        have fit := F'.fit g2 (by omega)
        rw [hn, hT g2 hg2, ← f2] at fit
        by_cases q : ∃ m, m < P.n ∧ m ≠ i ∧ 0 < P.nd m g2 ∧ a' m < a m
        · exact q
        · have hd : ∀ m, m < P.n → a m * P.nd m g2 ≤ a' m * P'.nd m g2 := fun m hm => by
            by_cases em : m = i
            · subst em
              have k1 := hx g2 hg2
              have k2 := mul_le (Rat.le_of_lt hlt) (ok.nd m g2 hm hg2)
              grind
            · rw [(same m hm em).2.1 g2 hg2]
              by_cases hp2 : 0 < P.nd m g2
              · have k0 : a m ≤ a' m := by
                  by_cases w : a' m < a m
                  · exact absurd ⟨m, hm, em, hp2, w⟩ q
                  · grind
                have := mul_le k0 (Rat.le_of_lt hp2)
                grind
              · have e0 : P.nd m g2 = 0 := by
                  have := ok.nd m g2 hm hg2
                  grind
                rw [e0]
                grind
          have e2 : S P.n (fun m => a' m * P'.nd m g2 - a m * P.nd m g2) ≤ 0 := by
            have k1 := S_add (f := fun m => a' m * P'.nd m g2 - a m * P.nd m g2) (g := fun m => a m * P.nd m g2) P.n
            have k2 : S P.n (fun m => a' m * P'.nd m g2 - a m * P.nd m g2 + a m * P.nd m g2) = S P.n (fun m => a' m * P'.nd m g2) := S_congr fun m _ => by grind
            rw [k2] at k1
            grind
          have e3 := S_ge (f := fun m => a' m * P'.nd m g2 - a m * P.nd m g2) hk fun m hm => by
            have := hd m hm
            grind
          have e4 : P.nd k g2 * a k < P.nd k g2 * a' k := Rat.mul_lt_mul_of_pos_left hak p2
          rw [t2 g2 hg2] at e3
          exact absurd e3 (by grind)
      obtain ⟨m, hm, nm, pm, lm⟩ := lose
      have k1 := hmin m hm ⟨nm, lm⟩
      have k2 := cmpl hm (lev' m hm nm) (F.lev m hm) lm
      have k3 := m2 m hm pm
      grind
end
end Iv
end
section
set_option linter.all false
/-! The filling, and that it gives a fair share. -/
namespace Iv
def lo (m x : Rat) : Rat := if x < m then x else m
theorem lo_le (xs : List Rat) : ∀ x : Rat, xs.foldl lo x ≤ x ∧ (∀ y ∈ xs, xs.foldl lo x ≤ y) ∧ (xs.foldl lo x = x ∨ xs.foldl lo x ∈ xs) := by
  induction xs with
  | nil => intro x; exact ⟨Rat.le_refl, fun y h => by simp at h, .inl rfl⟩
  | cons a xs ih =>
    intro x
    obtain ⟨h1, h2, h3⟩ := ih (lo x a)
    have k1 : lo x a ≤ x ∧ lo x a ≤ a ∧ (lo x a = x ∨ lo x a = a) := by
      unfold lo
      split
      · grind
      · grind
    rw [List.foldl_cons]
    refine ⟨by grind, fun y hy => ?_, ?_⟩
    · rcases List.mem_cons.mp hy with rfl | h
      · grind
      · exact h2 y h
    · rcases h3 with h3 | h3
      · rcases k1.2.2 with e | e
        · exact .inl (by rw [h3, e])
        · exact .inr (by rw [h3, e]; exact List.mem_cons_self)
      · exact .inr (List.mem_cons_of_mem _ h3)
structure Fl where
  n : Nat
  G : Nat
  nd : Nat → Nat → Nat
  T : Nat → Nat
  want : Nat → Option Nat
  s : Nat → Rat
namespace Fl
variable (P : Fl)
def rate (R : List Nat) (g : Nat) : Rat := S P.n fun i => if i ∈ R then P.s i * (P.nd i g : Rat) else 0
def fixd (R : List Nat) (am : Nat → Rat) (g : Nat) : Rat := S P.n fun i => if i ∈ R then 0 else am i * (P.nd i g : Rat)
def gst (R : List Nat) (am : Nat → Rat) (g : Nat) : Option Rat := if P.rate R g = 0 then none else some (((P.T g : Rat) - P.fixd R am g) / P.rate R g)
def wst (i : Nat) : Option Rat := (P.want i).map fun v => (v : Rat) / P.s i
def cands (R : List Nat) (am : Nat → Rat) : List Rat := (List.range P.G).filterMap (P.gst R am) ++ R.filterMap P.wst
def mark (R : List Nat) (am : Nat → Rat) : Rat := match P.cands R am with
  | [] => 0
  | x :: xs => xs.foldl lo x
def full (R : List Nat) (am : Nat → Rat) : List Nat := (List.range P.G).filter fun g => decide (P.gst R am g = some (P.mark R am))
def out (R : List Nat) (am : Nat → Rat) (i : Nat) : Bool := decide (P.wst i = some (P.mark R am)) || (P.full R am).any fun g => decide (0 < P.nd i g)
def stp (R : List Nat) (am : Nat → Rat) : List Nat := R.filter (P.out R am)
def am2 (R : List Nat) (am : Nat → Rat) : Nat → Rat := fun i => if i ∈ P.stp R am then P.mark R am * P.s i else am i
def R2 (R : List Nat) (am : Nat → Rat) : List Nat := R.filter fun i => !decide (i ∈ P.stp R am)
def fill : Nat → List Nat → (Nat → Rat) → (Nat → Rat)
  | 0, _, am => am
  | _ + 1, [], am => am
  | k + 1, i :: R, am => fill k (P.R2 (i :: R) am) (P.am2 (i :: R) am)
structure Ok : Prop where
  s : ∀ i, i < P.n → 0 < P.s i
  some : ∀ i, i < P.n → ∃ g, g < P.G ∧ 0 < P.nd i g
def v (R : List Nat) (am : Nat → Rat) (c : Rat) (i : Nat) : Rat := if i ∈ R then c * P.s i else am i
/-- while it fills -/
structure At (R : List Nat) (am l : Nat → Rat) (c : Rat) : Prop where
  lt : ∀ i ∈ R, i < P.n
  cn : 0 ≤ c
  lev : ∀ i, i < P.n → i ∉ R → am i = l i * P.s i ∧ 0 ≤ l i ∧ l i ≤ c
  fit : ∀ g, g < P.G → S P.n (fun i => P.v R am c i * (P.nd i g : Rat)) ≤ (P.T g : Rat)
  want : ∀ (i x : Nat), i < P.n → P.want i = Option.some x → P.v R am c i ≤ ((x : Nat) : Rat)
  stop : ∀ i, i < P.n → i ∉ R → (∃ x : Nat, P.want i = Option.some x ∧ am i = ((x : Nat) : Rat)) ∨ ∃ g, g < P.G ∧ 0 < P.nd i g ∧ S P.n (fun i => P.v R am c i * (P.nd i g : Rat)) = (P.T g : Rat) ∧ ∀ j, j < P.n → 0 < P.nd j g → j ∉ R ∧ l j ≤ l i
variable {P}
variable {R : List Nat} {am l : Nat → Rat} {c : Rat}
theorem S_v (c : Rat) (g : Nat) : S P.n (fun i => P.v R am c i * (P.nd i g : Rat)) = P.fixd R am g + c * P.rate R g := by
  unfold fixd rate
  rw [← S_mul, ← S_add]
  refine S_congr fun i _ => ?_
  unfold v
  split <;> grind
theorem cast_pos {n : Nat} (h : 0 < n) : (0 : Rat) < (n : Rat) := by exact_mod_cast h
theorem cast_nn (n : Nat) : (0 : Rat) ≤ (n : Rat) := by exact_mod_cast Nat.zero_le n
theorem rate_nn (ok : P.Ok) (g : Nat) : 0 ≤ P.rate R g := by
  refine S_nonneg fun i hi => ?_
  split
  · exact nn2 (Rat.le_of_lt (ok.s i hi)) (cast_nn _)
  · grind
theorem rate_pos (ok : P.Ok) {i g : Nat} (hi : i < P.n) (hR : i ∈ R) (hn : 0 < P.nd i g) : 0 < P.rate R g := by
  have h1 := S_ge (f := fun i => if i ∈ R then P.s i * (P.nd i g : Rat) else 0) hi fun j hj => by
    split
    · exact nn2 (Rat.le_of_lt (ok.s j hj)) (cast_nn _)
    · grind
  rw [if_pos hR] at h1
  have h2 : 0 < P.s i * (P.nd i g : Rat) := Rat.mul_pos (ok.s i hi) (cast_pos hn)
  unfold rate
  grind
theorem rate_ex (ok : P.Ok) {g : Nat} (h : 0 < P.rate R g) : ∃ i, i < P.n ∧ i ∈ R ∧ 0 < P.nd i g := by
  have h0 : S P.n (fun _ => (0 : Rat)) = 0 := by
    have := S_mul (f := fun _ => (0 : Rat)) 0 P.n
    simp at this
    exact this
  unfold rate at h
  rw [← h0] at h
  obtain ⟨i, hi, h1⟩ := S_lt h
  by_cases hR : i ∈ R
  · rw [if_pos hR] at h1
    refine ⟨i, hi, hR, ?_⟩
    by_cases q : P.nd i g = 0
    · rw [q] at h1
      simp at h1
    · omega
  · rw [if_neg hR] at h1
    grind
theorem mark_spec (ok : P.Ok) (A : P.At R am l c) (hR : R ≠ []) : (∀ y ∈ P.cands R am, P.mark R am ≤ y) ∧ P.mark R am ∈ P.cands R am := by
  have ne : P.cands R am ≠ [] := by
    cases R with
    | nil => exact absurd rfl hR
    | cons i R =>
      have hi := A.lt i List.mem_cons_self
      obtain ⟨g, hg, hn⟩ := ok.some i hi
      have hp := rate_pos (R := i :: R) ok hi List.mem_cons_self hn
      intro e
      have : (((P.T g : Rat) - P.fixd (i :: R) am g) / P.rate (i :: R) g) ∈ P.cands (i :: R) am := by
        unfold cands
        refine List.mem_append_left _ (List.mem_filterMap.mpr ⟨g, List.mem_range.mpr hg, ?_⟩)
        unfold gst
        rw [if_neg (by grind)]
      rw [e] at this
      cases this
  unfold mark
  cases h : P.cands R am with
  | nil => exact absurd h ne
  | cons x xs =>
    obtain ⟨h1, h2, h3⟩ := lo_le xs x
    refine ⟨fun y hy => ?_, ?_⟩
    · rcases List.mem_cons.mp hy with rfl | hy
      · exact h1
      · exact h2 y hy
    · show xs.foldl lo x ∈ x :: xs
      rcases h3 with h3 | h3
      · rw [h3]; exact List.mem_cons_self
      · exact List.mem_cons_of_mem _ h3
theorem gst_in {g : Nat} (hg : g < P.G) {y : Rat} (h : P.gst R am g = some y) : y ∈ P.cands R am := List.mem_append_left _ (List.mem_filterMap.mpr ⟨g, List.mem_range.mpr hg, h⟩)
theorem wst_in {i : Nat} (hi : i ∈ R) {y : Rat} (h : P.wst i = some y) : y ∈ P.cands R am := List.mem_append_right _ (List.mem_filterMap.mpr ⟨i, hi, h⟩)
theorem gst_eq {g : Nat} {y : Rat} (ok : P.Ok) (h : P.gst R am g = some y) : 0 < P.rate R g ∧ P.fixd R am g + y * P.rate R g = (P.T g : Rat) := by
  unfold gst at h
  split at h
  · cases h
  · rename_i h0
    have hp : 0 < P.rate R g := by
      have := rate_nn (R := R) ok g
      grind
    cases h
    refine ⟨hp, ?_⟩
    grind
theorem wst_eq {i : Nat} {y : Rat} (ok : P.Ok) (hi : i < P.n) (h : P.wst i = some y) : ∃ x : Nat, P.want i = some x ∧ y * P.s i = ((x : Nat) : Rat) := by
  have k := ok.s i hi
  cases h1 : P.want i with
  | none =>
    unfold wst at h
    rw [h1] at h
    cases h
  | some x =>
    unfold wst at h
    rw [h1] at h
    cases h
    exact ⟨x, rfl, by grind⟩
theorem step (ok : P.Ok) (A : P.At R am l c) (hR : R ≠ []) : c ≤ P.mark R am ∧ P.At (P.R2 R am) (P.am2 R am) (fun i => if i ∈ P.stp R am then P.mark R am else l i) (P.mark R am) ∧ (P.R2 R am).length < R.length := by
  obtain ⟨m1, m2⟩ := mark_spec ok A hR
  have stR : ∀ i, i ∈ P.stp R am → i ∈ R := fun i h => (List.mem_filter.mp h).1
  have inR2 : ∀ i, i ∈ P.R2 R am ↔ i ∈ R ∧ i ∉ P.stp R am := fun i => by
    unfold R2
    rw [List.mem_filter]
    simp
  have hc : c ≤ P.mark R am := by
    rcases List.mem_append.mp m2 with h | h
    · obtain ⟨g, hg, h⟩ := List.mem_filterMap.mp h
      have hg := List.mem_range.mp hg
      obtain ⟨hp, e⟩ := gst_eq ok h
      have f := A.fit g hg
      rw [S_v] at f
      have : P.rate R g * c ≤ P.rate R g * P.mark R am := by grind
      exact le_of_mul this hp
    · obtain ⟨i, hi, h⟩ := List.mem_filterMap.mp h
      have hn := A.lt i hi
      obtain ⟨x, e1, e2⟩ := wst_eq ok hn h
      have w := A.want i x hn e1
      unfold v at w
      rw [if_pos hi] at w
      have : P.s i * c ≤ P.s i * P.mark R am := by grind
      exact le_of_mul this (ok.s i hn)
  -- the virtual amounts at the mark are those of the next state
  have vv : ∀ i, P.v (P.R2 R am) (P.am2 R am) (P.mark R am) i = P.v R am (P.mark R am) i := fun i => by
    unfold v am2
    by_cases h1 : i ∈ P.stp R am
    · have h2 := stR i h1
      rw [if_neg (fun h => ((inR2 i).mp h).2 h1), if_pos h1, if_pos h2]
    · by_cases h2 : i ∈ R
      · rw [if_pos ((inR2 i).mpr ⟨h2, h1⟩), if_pos h2]
      · rw [if_neg (fun h => h2 ((inR2 i).mp h).1), if_neg h1, if_neg h2]
  have vS : ∀ g, S P.n (fun i => P.v (P.R2 R am) (P.am2 R am) (P.mark R am) i * (P.nd i g : Rat)) = P.fixd R am g + P.mark R am * P.rate R g := fun g => by
    rw [← S_v]
    exact S_congr fun i _ => by rw [vv i]
  have some1 : ∃ i, i ∈ P.stp R am := by
    rcases List.mem_append.mp m2 with h | h
    · obtain ⟨g, hg, h⟩ := List.mem_filterMap.mp h
      obtain ⟨hp, _⟩ := gst_eq ok h
      obtain ⟨i, hi, hiR, hn⟩ := rate_ex ok hp
      refine ⟨i, List.mem_filter.mpr ⟨hiR, ?_⟩⟩
      unfold out
      rw [Bool.or_eq_true]
      refine .inr (List.any_eq_true.mpr ⟨g, ?_, decide_eq_true hn⟩)
      exact List.mem_filter.mpr ⟨hg, decide_eq_true h⟩
    · obtain ⟨i, hi, h⟩ := List.mem_filterMap.mp h
      refine ⟨i, List.mem_filter.mpr ⟨hi, ?_⟩⟩
      unfold out
      rw [Bool.or_eq_true]
      exact .inl (decide_eq_true h)
  refine ⟨hc, ⟨fun i hi => A.lt i ((inR2 i).mp hi).1, by have := A.cn; grind, fun i hi hn => ?_, fun g hg => ?_, fun i x hi hx => ?_, fun i hi hn => ?_⟩, ?_⟩
  · by_cases h1 : i ∈ P.stp R am
    · have := A.cn
      show (if i ∈ P.stp R am then P.mark R am * P.s i else am i) = (if i ∈ P.stp R am then P.mark R am else l i) * P.s i ∧ 0 ≤ (if i ∈ P.stp R am then P.mark R am else l i) ∧ (if i ∈ P.stp R am then P.mark R am else l i) ≤ P.mark R am
      rw [if_pos h1, if_pos h1]
      exact ⟨rfl, by grind, Rat.le_refl⟩
    · have h2 : i ∉ R := fun h => hn ((inR2 i).mpr ⟨h, h1⟩)
      obtain ⟨e1, e2, e3⟩ := A.lev i hi h2
      unfold am2
      rw [if_neg h1]
      simp only [if_neg h1]
      exact ⟨e1, e2, by grind⟩
  · rw [vS]
    by_cases h0 : P.rate R g = 0
    · have f := A.fit g hg
      rw [S_v, h0] at f
      rw [h0]
      grind
    · have hp : 0 < P.rate R g := by
        have := rate_nn (R := R) ok g
        grind
      have e : P.gst R am g = some (((P.T g : Rat) - P.fixd R am g) / P.rate R g) := by
        unfold gst
        rw [if_neg h0]
      obtain ⟨_, e2⟩ := gst_eq ok e
      have := mul_le (m1 _ (gst_in hg e)) (Rat.le_of_lt hp)
      grind
  · rw [vv]
    unfold v
    by_cases h1 : i ∈ R
    · rw [if_pos h1]
      have e : P.wst i = some ((x : Rat) / P.s i) := by
        unfold wst
        rw [hx]
        rfl
      have k1 := mul_le (m1 _ (wst_in h1 e)) (Rat.le_of_lt (ok.s i hi))
      have k2 := ok.s i hi
      have k3 : P.s i * ((x : Rat) / P.s i) = (x : Rat) := by
        clear k1 e m1 inR2 vv vS stR some1
        grind
      rw [k3] at k1
      rw [Rat.mul_comm]
      exact k1
    · rw [if_neg h1]
      have w := A.want i x hi hx
      unfold v at w
      rw [if_neg h1] at w
      exact w
  · by_cases h1 : i ∈ P.stp R am
    · have h2 := (List.mem_filter.mp h1).2
      unfold out at h2
      rw [Bool.or_eq_true] at h2
      rcases h2 with h2 | h2
      · obtain ⟨x, e1, e2⟩ := wst_eq ok hi (of_decide_eq_true h2)
        refine .inl ⟨x, e1, ?_⟩
        unfold am2
        rw [if_pos h1]
        exact e2
      · obtain ⟨g, hg, h2⟩ := List.any_eq_true.mp h2
        obtain ⟨hg1, hg2⟩ := List.mem_filter.mp hg
        have hg1 := List.mem_range.mp hg1
        obtain ⟨hp, e⟩ := gst_eq ok (of_decide_eq_true hg2)
        refine .inr ⟨g, hg1, of_decide_eq_true h2, by rw [vS]; exact e, fun j hj hn => ?_⟩
        simp only [if_pos h1]
        by_cases hjR : j ∈ R
        · have hjs : j ∈ P.stp R am := by
            refine List.mem_filter.mpr ⟨hjR, ?_⟩
            unfold out
            rw [Bool.or_eq_true]
            exact .inr (List.any_eq_true.mpr ⟨g, hg, decide_eq_true hn⟩)
          refine ⟨fun h => ((inR2 j).mp h).2 hjs, ?_⟩
          simp only [if_pos hjs]
          exact Rat.le_refl
        · refine ⟨fun h => hjR ((inR2 j).mp h).1, ?_⟩
          obtain ⟨_, _, e3⟩ := A.lev j hj hjR
          simp only [if_neg (fun h => hjR (stR j h))]
          grind
    · have h2 : i ∉ R := fun h => hn ((inR2 i).mpr ⟨h, h1⟩)
      rcases A.stop i hi h2 with ⟨x, e1, e2⟩ | ⟨g, hg, h3, h4, h5⟩
      · refine .inl ⟨x, e1, ?_⟩
        unfold am2
        rw [if_neg h1]
        exact e2
      · refine .inr ⟨g, hg, h3, ?_, fun j hj hn => ?_⟩
        · rw [vS]
          rw [S_v] at h4
          have h0 : P.rate R g = 0 := by
            by_cases q : P.rate R g = 0
            · exact q
            · have hp : 0 < P.rate R g := by
                have := rate_nn (R := R) ok g
                grind
              obtain ⟨j, hj, hjR, hjn⟩ := rate_ex ok hp
              exact absurd hjR (h5 j hj hjn).1
          rw [h0] at h4 ⊢
          grind
        · obtain ⟨k1, k2⟩ := h5 j hj hn
          refine ⟨fun h => k1 ((inR2 j).mp h).1, ?_⟩
          simp only [if_neg h1, if_neg (fun h => k1 (stR j h))]
          exact k2
  · obtain ⟨i, hi⟩ := some1
    unfold R2
    have : (R.filter fun i => !decide (i ∈ P.stp R am)).length < R.length := by
      refine List.length_filter_lt_length_iff_exists.mpr ⟨i, stR i hi, ?_⟩
      simp [hi]
    exact this
theorem fill_at (ok : P.Ok) : ∀ (k : Nat) (R : List Nat) (am l : Nat → Rat) (c : Rat), R.length ≤ k → P.At R am l c → ∃ l' c', P.At [] (P.fill k R am) l' c'
  | 0, R, am, l, c, hk, A => by
    cases R with
    | nil => exact ⟨l, c, A⟩
    | cons => simp at hk
  | k + 1, [], am, l, c, _, A => ⟨l, c, A⟩
  | k + 1, i :: R, am, l, c, hk, A => by
    obtain ⟨_, h2, h3⟩ := step ok A (by simp)
    exact fill_at ok k _ _ _ _ (by omega) h2
theorem start (ok : P.Ok) : P.At (List.range P.n) (fun _ => 0) (fun _ => 0) 0 := by
  have vz : ∀ i, P.v (List.range P.n) (fun _ => 0) 0 i = 0 := fun i => by
    unfold v
    split <;> grind
  have no : ∀ i, i < P.n → i ∉ List.range P.n → False := fun i hi h => h (List.mem_range.mpr hi)
  have z : ∀ g, S P.n (fun i => P.v (List.range P.n) (fun _ => 0) 0 i * (P.nd i g : Rat)) = 0 := fun g => by
    rw [S_congr (g := fun i => 0 * (P.nd i g : Rat)) fun i _ => by rw [vz i]]
    rw [S_mul]
    grind
  refine ⟨fun i h => List.mem_range.mp h, Rat.le_refl, fun i hi h => (no i hi h).elim, fun g _ => by rw [z]; exact cast_nn _, fun i x hi _ => by rw [vz]; exact cast_nn _, fun i hi h => (no i hi h).elim⟩
/-- the share -/
def share (P : Fl) : Nat → Rat := P.fill P.n (List.range P.n) fun _ => 0
end Fl
end Iv
end
section
set_option linter.all false
/-! Bounds by common denominators. -/
namespace Iv
structure Bd (m V : Nat) (q : Rat) : Prop where
  nn : 0 ≤ q
  le : q ≤ (V : Rat)
  dv : ∃ z : Int, q * (m : Rat) = (z : Rat)
section
variable {m k V W : Nat} {q r : Rat}
theorem Bd.nat (n : Nat) (h : n ≤ V) : Bd 1 V (n : Rat) := ⟨by exact_mod_cast Nat.zero_le n, by exact_mod_cast h, (n : Int), by simp [Rat.intCast_natCast]⟩
theorem Bd.zero : Bd m V 0 := ⟨Rat.le_refl, by exact_mod_cast Nat.zero_le V, 0, by simp⟩
theorem Bd.wide (h : Bd m V q) (hv : V ≤ W) : Bd m W q := ⟨h.nn, by
  have h1 := h.le
  have : (V : Rat) ≤ (W : Rat) := by exact_mod_cast hv
  grind, h.dv⟩
theorem Bd.times (h : Bd m V q) (k : Nat) : Bd (m * k) V q := by
  obtain ⟨z, e⟩ := h.dv
  refine ⟨h.nn, h.le, z * (k : Int), ?_⟩
  rw [Rat.natCast_mul, ← Rat.mul_assoc, e, Rat.intCast_mul, Rat.intCast_natCast]
theorem Bd.of (h : Bd m V q) (e : m = k) : Bd k V q := by subst e; exact h
theorem Bd.dvd (h : Bd m V q) (hd : m ∣ k) : Bd k V q := by
  obtain ⟨c, rfl⟩ := hd
  exact h.times c
theorem Bd.add (h : Bd m V q) (h2 : Bd m W r) : Bd m (V + W) (q + r) := by
  obtain ⟨z, e⟩ := h.dv
  obtain ⟨y, e2⟩ := h2.dv
  refine ⟨?_, ?_, z + y, ?_⟩
  · have := h.nn
    have := h2.nn
    grind
  · have := h.le
    have := h2.le
    rw [Rat.natCast_add]
    grind
  · rw [Rat.add_mul, e, e2, Rat.intCast_add]
theorem Bd.mul (h : Bd m V q) (h2 : Bd k W r) : Bd (m * k) (V * W) (q * r) := by
  obtain ⟨z, e⟩ := h.dv
  obtain ⟨y, e2⟩ := h2.dv
  refine ⟨Rat.mul_nonneg h.nn h2.nn, ?_, z * y, ?_⟩
  · have k1 := Rat.mul_le_mul_of_nonneg_right h.le h2.nn
    have k2 := Rat.mul_le_mul_of_nonneg_left h2.le (show (0 : Rat) ≤ (V : Rat) by exact_mod_cast Nat.zero_le V)
    rw [Rat.natCast_mul]
    grind
  · rw [Rat.natCast_mul, Rat.intCast_mul, ← e, ← e2]
    grind
/-- a - b, where it is not negative -/
theorem Bd.sub (h : Bd m V q) (h2 : Bd m W r) (hle : r ≤ q) : Bd m V (q - r) := by
  obtain ⟨z, e⟩ := h.dv
  obtain ⟨y, e2⟩ := h2.dv
  refine ⟨by grind, ?_, z - y, ?_⟩
  · have := h.le
    have := h2.nn
    grind
  · rw [Rat.sub_eq_add_neg, Rat.add_mul, Rat.neg_mul, e, e2, Rat.intCast_sub]
    grind
theorem den_num (hm : 0 < m) {z : Int} (h : q * (m : Rat) = (z : Rat)) : q.den ≤ m ∧ q.num.natAbs ≤ z.natAbs := by
  have hm0 : (m : Rat) ≠ 0 := by
    intro e
    have : m = 0 := by exact_mod_cast e
    omega
  have e : q = Rat.divInt z (m : Int) := by
    rw [Rat.divInt_eq_div, Rat.intCast_natCast]
    grind
  rw [e]
  refine ⟨?_, ?_⟩
  · rw [Rat.den_divInt]
    split
    · omega
    · rw [Int.natAbs_natCast]
      exact Nat.div_le_self _ _
  · rw [Rat.num_divInt, Int.sign_eq_one_of_pos (by omega), Int.one_mul, Int.natAbs_ediv_of_dvd]
    · exact Nat.div_le_self _ _
    · exact Int.gcd_dvd_right ..
theorem Bd.small (h : Bd m V q) (hm : 0 < m) : q.den ≤ m ∧ q.num.natAbs ≤ V * m := by
  obtain ⟨z, e⟩ := h.dv
  obtain ⟨h1, h2⟩ := den_num hm e
  refine ⟨h1, Nat.le_trans h2 ?_⟩
  have hm' : (0 : Rat) ≤ (m : Rat) := by exact_mod_cast Nat.zero_le m
  have k1 := Rat.mul_le_mul_of_nonneg_right h.le hm'
  have k2 := Rat.mul_nonneg h.nn hm'
  rw [e] at k1 k2
  have k3 : (0 : Int) ≤ z := by exact_mod_cast k2
  have k4 : (z : Rat) ≤ ((V * m : Nat) : Rat) := by rw [Rat.natCast_mul]; exact k1
  have k5 : z ≤ ((V * m : Nat) : Int) := by exact_mod_cast k4
  omega
/-- n / d -/
theorem Bd.frac (n d : Nat) (hd : 0 < d) : Bd d n ((n : Rat) / (d : Rat)) := by
  have hd0 : (0 : Rat) < (d : Rat) := by exact_mod_cast hd
  have hn : (0 : Rat) ≤ (n : Rat) := by exact_mod_cast Nat.zero_le n
  have e : ((n : Rat) / (d : Rat)) * (d : Rat) = ((n : Int) : Rat) := by
    rw [Rat.intCast_natCast]
    grind
  have h1 : (1 : Rat) ≤ (d : Rat) := by exact_mod_cast hd
  have e' : ((n : Rat) / (d : Rat)) * (d : Rat) = (n : Rat) := by rw [e, Rat.intCast_natCast]
  have nn : 0 ≤ (n : Rat) / (d : Rat) := by
    refine le_of_mul (c := (d : Rat)) ?_ hd0
    rw [Rat.mul_comm (d : Rat) ((n : Rat) / (d : Rat)), e']
    grind
  refine ⟨nn, ?_, n, e⟩
  have := Rat.mul_le_mul_of_nonneg_left h1 nn
  grind
/-- q / r, where r * m is a whole number -/
theorem Bd.div (h : Bd k V q) (h2 : Bd m W r) (hr : 0 < r) (hm : 0 < m) : ∃ N : Nat, 0 < N ∧ N ≤ W * m ∧ r * (m : Rat) = (N : Rat) ∧ Bd (k * N) (V * m) (q / r) := by
  obtain ⟨z, e⟩ := h.dv
  obtain ⟨y, e2⟩ := h2.dv
  have hm' : (0 : Rat) < (m : Rat) := by exact_mod_cast hm
  have hy : (0 : Rat) < (y : Rat) := by rw [← e2]; exact Rat.mul_pos hr hm'
  have hy' : 0 < y := by exact_mod_cast hy
  have eN : ((y.toNat : Nat) : Rat) = (y : Rat) := by
    rw [← Rat.intCast_natCast]
    congr 1
    omega
  have hN : r * (m : Rat) = ((y.toNat : Nat) : Rat) := by rw [e2, eN]
  have hNp : 0 < y.toNat := by omega
  have hNr : (0 : Rat) < ((y.toNat : Nat) : Rat) := by rw [eN]; exact hy
  refine ⟨y.toNat, hNp, ?_, hN, ?_, ?_, z * (m : Int), ?_⟩
  · have k1 := Rat.mul_le_mul_of_nonneg_right h2.le (Rat.le_of_lt hm')
    rw [hN, ← Rat.natCast_mul] at k1
    exact_mod_cast k1
  · have e3 : r * (q / r) = q := by grind
    refine le_of_mul (c := r) ?_ hr
    rw [e3]
    have := h.nn
    grind
  · -- q / r ≤ V * m as r * m ≥ 1
    have k1 : (1 : Rat) ≤ r * (m : Rat) := by
      rw [hN]
      exact_mod_cast hNp
    have e3 : (q / r) * r = q := by grind
    refine le_of_mul (c := r) ?_ hr
    rw [Rat.mul_comm r (q / r), e3, Rat.natCast_mul]
    have k2 := Rat.mul_le_mul_of_nonneg_left k1 (show (0 : Rat) ≤ (V : Rat) by exact_mod_cast Nat.zero_le V)
    have := h.le
    grind
  · rw [Rat.natCast_mul, Rat.intCast_mul, Rat.intCast_natCast, ← e, ← hN]
    have e3 : (q / r) * r = q := by grind
    have e4 : q / r * ((k : Rat) * (r * (m : Rat))) = ((q / r) * r) * (k : Rat) * (m : Rat) := by grind
    rw [e4, e3]
end
end Iv
end
section
set_option Elab.async false
set_option linter.all false
set_option maxRecDepth 100000
set_option exponentiation.threshold 3000
set_option maxHeartbeats 4000000
/-! What holds of the evaluator at any table (taken out of the texts of k92 by mkga.py). -/
namespace Iv
open PySem PySem.Spec L2
section
variable {x y : Rat}
theorem log_lt {a k : Nat} (h : a < 2 ^ k) : a.log2 ≤ k := by
  by_cases h0 : a = 0
  · subst h0; simp
  · exact Nat.le_of_lt ((Nat.log2_lt h0).mpr h)
theorem mul_ok {i j : Int} {k l : Nat} (h1 : i.natAbs < 2 ^ k) (h2 : j.natAbs < 2 ^ l) (h : k + l < 1000000 := by decide) : mulOk i j = true := by
  unfold mulOk
  have := log_lt h1
  have := log_lt h2
  exact decide_eq_true (by omega)
theorem div_ok {j : Int} {k : Nat} (h0 : 0 < j) (h1 : j.natAbs < 2 ^ k) (h : k < 9000 := by decide) : divOk j = true := by
  unfold divOk
  have := log_lt h1
  rw [decide_eq_true h0, decide_eq_true (by omega)]
  rfl
theorem cp_loop (Φ : Fn) : ∀ (n a b r : Nat), eu n a b = some r → whlGo (tst Φ (.cmp .gt (.var 1) (.cst (.int 0)))) (exs Φ (.consB (.asp [0, 1] [false, false] (.cons (.var 1) (.cons (.bin .mod (.var 0) (.var 1)) .nil))) .nilB)) (n + 1) [.sh (.int a), .sh (.int b)] = some (.nx [.sh (.int r), .sh (.int 0)])
  | 0, a, b, r, h => by
    unfold eu at h
    split at h
    · rename_i hb
      subst hb
      cases h
      simp [whlGo, tst, opT, opd, ev, op2, res, cmpD, truth]
    · cases h
  | n + 1, a, b, r, h => by
    unfold eu at h
    split at h
    · rename_i hb
      subst hb
      cases h
      simp [whlGo, tst, opT, opd, ev, op2, res, cmpD, truth]
    · rename_i hb
      have ih := cp_loop Φ n b (a % b) r h
      have h0 : (0 : Int) < (b : Int) := by omega
      rw [whlGo]
      simp only [tst, opT, opd, ev, op2, res, cmpD, truth, exs, rdv, putSl, putOk, binD, List.getElem?_cons_zero, List.getElem?_cons_succ, Option.map_some, decide_eq_true h0, List.set_cons_zero, List.set_cons_succ, if_pos h0, if_true]
      have e : ((a : Int) % (b : Int)) = ((a % b : Nat) : Int) := by simp
      rw [e]
      exact ih
theorem outs_sh : ∀ (ds : List D) (e : Ev), ds.length ≤ e.length → outs (ds.map Sl.sh) e = some (ds.map Sl.sh)
  | [], _, _ => rfl
  | d :: ds, [], h => by simp at h
  | d :: ds, s :: e, h => by
    show (outs (ds.map Sl.sh) e).map (.sh d :: ·) = _
    rw [outs_sh ds e (by simpa using h)]
    rfl
theorem abs_int (i : Int) : (if i < 0 then -i else i) = (i.natAbs : Int) := by split <;> omega
theorem z1 : (1 : Nat) ≤ sizeLine := by decide
theorem z2 : (2 : Nat) ≤ sizeLine := by decide
theorem z3 : (3 : Nat) ≤ sizeLine := by decide
theorem z4 : (4 : Nat) ≤ sizeLine := by decide
def Fit (q : Rat) : Prop := q.den < 2 ^ 480 ∧ q.num.natAbs < 2 ^ 520
theorem den_pos (q : Rat) : 0 < (q.den : Int) := by have := q.den_nz; omega
theorem rat_eq (q : Rat) : (q.num : Rat) / (q.den : Rat) = q := by
  rw [show ((q.den : Nat) : Rat) = (((q.den : Nat) : Int) : Rat) from (Rat.intCast_natCast _).symm, ← Rat.divInt_eq_div]
  exact Rat.num_divInt_den q
theorem den_ne (q : Rat) : ((q.den : Nat) : Rat) ≠ 0 := by
  intro h
  have := q.den_nz
  exact this (by exact_mod_cast h)
theorem div_eq (x y : Rat) (hy : 0 < y) : (((x.num * y.den : Int)) : Rat) / ((x.den * y.num : Int) : Rat) = x / y := by
  have h1 := rat_eq x
  have h2 := rat_eq y
  have h3 := den_ne x
  have h4 := den_ne y
  have h5 : (y.num : Rat) ≠ 0 := by
    intro h
    rw [h] at h2
    grind
  rw [Rat.intCast_mul, Rat.intCast_mul, Rat.intCast_natCast, Rat.intCast_natCast]
  grind
theorem num_pos' {y : Rat} (h : 0 < y) : 0 < y.num := by
  have := (Rat.lt_iff 0 y).mp h
  simpa using this
theorem nb {a b : Int} {k l : Nat} (h1 : a.natAbs < 2 ^ k) (h2 : b.natAbs < 2 ^ l) : (a * b).natAbs < 2 ^ (k + l) := by
  rw [Int.natAbs_mul, Nat.pow_add]
  exact Nat.mul_lt_mul'' h1 h2
theorem nadd {a b : Int} {k : Nat} (h1 : a.natAbs < 2 ^ k) (h2 : b.natAbs < 2 ^ k) : (a + b).natAbs < 2 ^ (k + 1) := by
  have := Int.natAbs_add_le a b
  rw [Nat.pow_succ]
  omega
theorem nsub {a b : Int} {k : Nat} (h1 : a.natAbs < 2 ^ k) (h2 : b.natAbs < 2 ^ k) : (a - b).natAbs < 2 ^ (k + 1) := by
  have := Int.natAbs_sub_le a b
  rw [Nat.pow_succ]
  omega
theorem up_pow {a : Nat} {k l : Nat} (h : a < 2 ^ k) (hk : k ≤ l) : a < 2 ^ l := Nat.lt_of_lt_of_le h (Nat.pow_le_pow_right (by decide) hk)
theorem fd (hx : Fit x) : ((x.den : Nat) : Int).natAbs < 2 ^ 480 := by rw [Int.natAbs_natCast]; exact hx.1
end
section
def hi (m x : Rat) : Rat := if m < x then x else m
theorem Fit.hi {m x : Rat} (h1 : Fit m) (h2 : Fit x) : Fit (hi m x) := by unfold Iv.hi; split <;> assumption
theorem cut1 (d : D) (ds : List D) : cutL (d :: ds) (some 1) none = ds := by
  unfold cutL
  have h1 : HT.sIx (d :: ds).length 0 (some 1) = 1 := by
    simp [HT.sIx]
  have h2 : HT.sIx (d :: ds).length (d :: ds).length none = (d :: ds).length := by rfl
  rw [h1, h2]
  simp
theorem fold_fst {α β γ : Type} {f : α → β → α} {g : α → γ → β → γ} : ∀ (xs : List β) (a : α) (c : γ), (xs.foldl (fun (s : α × γ) y => (f s.1 y, g s.1 s.2 y)) (a, c)).1 = xs.foldl f a
  | [], _, _ => rfl
  | x :: xs, a, c => fold_fst xs (f a x) (g a c x)
theorem fold_run {Φ : Fn} {st : Sl} {cal : Ex} {cmp : Rat → Rat → Rat} (hf : ∀ m x : Rat, Fit m → Fit x → Fit (cmp m x))
    (hb : ∀ m y : Rat, Fit m → Fit y → exs Φ (.consB (.asg (.nm 1) (.ite cal (.var 2) (.var 1))) .nilB) [st, .sh (rt m), .sh (rt y)] = some (.nx [st, .sh (rt (cmp m y)), .sh (rt y)])) {x : Rat} {xs : List Rat} (hx : Fit x) (hs : ∀ y ∈ xs, Fit y) :
    ∃ s3, forGo (.nm 2) (exs Φ (.consB (.asg (.nm 1) (.ite cal (.var 2) (.var 1))) .nilB)) (xs.map rt) [st, .sh (rt x), .un] = some (.nx [st, .sh (rt (xs.foldl cmp x)), s3]) := by
  have fl := for_map (g := .nm 2) (f := exs Φ (.consB (.asg (.nm 1) (.ite cal (.var 2) (.var 1))) .nilB)) rt
    (fun s : Rat × Sl => [st, .sh (rt s.1), s.2]) (fun s y => (cmp s.1 y, .sh (rt y))) (fun s => Fit s.1 ∧ (s.2 = .un ∨ ∃ d, s.2 = .sh d)) xs (x, .un)
    (fun s y hy ⟨h1, h2⟩ => by
      refine ⟨?_, ⟨[st, .sh (rt s.1), .sh (rt y)], rfl, hb _ _ h1 (hs y hy)⟩, hf _ _ h1 (hs y hy), .inr ⟨_, rfl⟩⟩
      rcases h2 with h2 | ⟨d, h2⟩ <;> rw [h2] <;> rfl) ⟨hx, .inl rfl⟩
  have g1 := fl.1
  rw [show (xs.foldl (fun (s : Rat × Sl) y => (cmp s.1 y, Sl.sh (rt y))) (x, Sl.un)).1 = xs.foldl cmp x from fold_fst (f := cmp) (g := fun _ _ y => Sl.sh (rt y)) xs x .un] at g1
  exact ⟨_, g1⟩
theorem hi_self (x : Rat) : hi x x = x := by unfold hi; split <;> rfl
structure U where
  w : Nat
  ns : List Nat
  want : Option Nat
def wd : Option Nat → D
  | none => .none
  | some n => .int (n : Int)
def nd (n : Nat) : D := .int (n : Int)
def ud (u : U) : D := .tuple [.str "user", nd u.w, .tuple (u.ns.map nd), wd u.want]
def one1 (n : Nat) : D := .tuple [.int (n : Int), .int 1]
theorem rt_nat (n : Nat) : rt (n : Rat) = one1 n := rfl
theorem fit_nat {n : Nat} (h : n < 2 ^ 400) : Fit (n : Rat) := by
  refine ⟨?_, ?_⟩
  · show 1 < 2 ^ 480; exact Nat.one_lt_two_pow (by decide)
  · show ((n : Int)).natAbs < 2 ^ 520
    rw [Int.natAbs_natCast]
    exact up_pow h (by decide)
def hgt (u : U) (ts : List Nat) : List Rat := (u.ns.zip ts).map fun p => (p.1 : Rat) / (p.2 : Rat)
def hgtM (u : U) (ts : List Nat) : Rat := match hgt u ts with
  | [] => 0
  | x :: xs => xs.foldl hi x
structure Vu (G : Nat) (u : U) : Prop where
  w0 : 1 ≤ u.w
  w1 : u.w ≤ 9
  len : u.ns.length = G
  le : ∀ n ∈ u.ns, n ≤ 99
  ex : ∃ n ∈ u.ns, 0 < n
  want : ∀ v, u.want = some v → v ≤ 999
structure Vt (ts : List Nat) : Prop where
  l0 : 1 ≤ ts.length
  l1 : ts.length ≤ 4
  le : ∀ t ∈ ts, 1 ≤ t ∧ t ≤ 19998
theorem Bd.fit {m V : Nat} {q : Rat} (h : Bd m V q) (hm : 0 < m) (h1 : m < 2 ^ 450) (h2 : V < 2 ^ 60) : Fit q := by
  obtain ⟨k1, k2⟩ := h.small hm
  refine ⟨Nat.lt_of_le_of_lt k1 (up_pow h1 (by decide)), Nat.lt_of_le_of_lt k2 ?_⟩
  have := Nat.mul_lt_mul'' h2 h1
  rw [← Nat.pow_add] at this
  exact up_pow this (by decide)
theorem fit_frac {n d : Nat} (hd : 0 < d) (h1 : d < 2 ^ 450) (h2 : n < 2 ^ 60) : Fit ((n : Rat) / (d : Rat)) := (Bd.frac n d hd).fit hd h1 h2
theorem fold_gen {g : Tg} {f : Ev → Option Out} (env : Rat → Sl → Ev) {cmp : Rat → Rat → Rat} (hok : ∀ m s, (s = .un ∨ ∃ d, s = .sh d) → tgOk (env m s) g = true ∧ ∀ y, bindT g (rt y) (env m s) = some (env m (.sh (rt y)))) (hf : ∀ m x : Rat, Fit m → Fit x → Fit (cmp m x))
    (hb : ∀ m y : Rat, Fit m → Fit y → f (env m (.sh (rt y))) = some (.nx (env (cmp m y) (.sh (rt y))))) {x : Rat} {xs : List Rat} (hx : Fit x) (hs : ∀ y ∈ xs, Fit y) :
    ∃ s3, forGo g f (xs.map rt) (env x .un) = some (.nx (env (xs.foldl cmp x) s3)) := by
  have fl := for_map (g := g) (f := f) rt (fun s : Rat × Sl => env s.1 s.2) (fun s y => (cmp s.1 y, .sh (rt y))) (fun s => Fit s.1 ∧ (s.2 = .un ∨ ∃ d, s.2 = .sh d)) xs (x, .un)
    (fun s y hy ⟨h1, h2⟩ => ⟨(hok _ _ h2).1, ⟨_, (hok _ _ h2).2 y, hb _ _ h1 (hs y hy)⟩, hf _ _ h1 (hs y hy), .inr ⟨_, rfl⟩⟩) ⟨hx, .inl rfl⟩
  have g1 := fl.1
  rw [show (xs.foldl (fun (s : Rat × Sl) y => (cmp s.1 y, Sl.sh (rt y))) (x, Sl.un)).1 = xs.foldl cmp x from fold_fst (f := cmp) (g := fun _ _ y => Sl.sh (rt y)) xs x .un] at g1
  exact ⟨_, g1⟩
def pr2 (p : Nat × Nat) : D := .tuple [nd p.1, nd p.2]
theorem zip_nd (a b : List Nat) : ((a.map nd).zip (b.map nd)).map (fun p => PyData.tuple [p.1, p.2]) = (a.zip b).map pr2 := by
  rw [List.zip_map, List.map_map] <;> rfl
theorem walk_zip (a b : List Nat) : walkD .zip (.tuple (a.map nd)) (.tuple (b.map nd)) = some ((a.zip b).map pr2) := by
  show some (((a.map nd).zip (b.map nd)).map fun p => PyData.tuple [p.1, p.2]) = _
  rw [zip_nd]
end
section
variable {u : U} {ts : List Nat}
theorem hgt_fit (hu : Vu ts.length u) (ht : Vt ts) : ∀ q ∈ hgt u ts, Fit q := fun q h => by
  obtain ⟨p, hp, rfl⟩ := List.mem_map.mp h
  obtain ⟨h1, h2⟩ := List.of_mem_zip hp
  have k1 := hu.le _ h1
  have k2 := ht.le _ h2
  exact fit_frac (by omega) (by exact Nat.lt_of_le_of_lt k2.2 (by decide)) (by exact Nat.lt_of_le_of_lt k1 (by decide))
theorem hgt_ne (hu : Vu ts.length u) (ht : Vt ts) : ∃ x xs, hgt u ts = x :: xs := by
  have h1 := hu.len
  have h2 := ht.l0
  unfold hgt
  cases e1 : u.ns with
  | nil => rw [e1] at h1; simp at h1; omega
  | cons a r =>
    cases e2 : ts with
    | nil => rw [e2] at h2; simp at h2
    | cons b s => exact ⟨_, _, rfl⟩
theorem zlen (hu : Vu ts.length u) (ht : Vt ts) : (u.ns.zip ts).length ≤ 100 := by
  have h1 := hu.len
  have h2 := ht.l1
  rw [List.length_zip]
  omega
theorem sz {n : Nat} (h : n ≤ 100) : n ≤ sizeLine := Nat.le_trans h (by decide)
theorem hi_spec (xs : List Rat) : ∀ x : Rat, x ≤ xs.foldl hi x ∧ (∀ y ∈ xs, y ≤ xs.foldl hi x) ∧ (xs.foldl hi x = x ∨ xs.foldl hi x ∈ xs) := by
  induction xs with
  | nil => intro x; exact ⟨Rat.le_refl, fun y h => by simp at h, .inl rfl⟩
  | cons a xs ih =>
    intro x
    obtain ⟨h1, h2, h3⟩ := ih (hi x a)
    have k1 : x ≤ hi x a ∧ a ≤ hi x a ∧ (hi x a = x ∨ hi x a = a) := by
      unfold hi
      split <;> grind
    rw [List.foldl_cons]
    refine ⟨by grind, fun y hy => ?_, ?_⟩
    · rcases List.mem_cons.mp hy with rfl | h
      · grind
      · exact h2 y h
    · rcases h3 with h3 | h3
      · rcases k1.2.2 with e | e
        · exact .inl (by rw [h3, e])
        · exact .inr (by rw [h3, e]; exact List.mem_cons_self)
      · exact .inr (List.mem_cons_of_mem _ h3)
theorem hgtM_spec (hu : Vu ts.length u) (ht : Vt ts) : hgtM u ts ∈ hgt u ts ∧ ∀ y ∈ hgt u ts, y ≤ hgtM u ts := by
  obtain ⟨x, xs, e⟩ := hgt_ne hu ht
  obtain ⟨h1, h2, h3⟩ := hi_spec xs x
  have em : hgtM u ts = xs.foldl hi x := by unfold hgtM; rw [e]
  rw [em, e]
  refine ⟨?_, fun y hy => ?_⟩
  · rcases h3 with h3 | h3
    · rw [h3]; exact List.mem_cons_self
    · exact List.mem_cons_of_mem _ h3
  · rcases List.mem_cons.mp hy with rfl | h
    · exact h1
    · exact h2 y h
theorem frac_pos {n d : Nat} (hn : 0 < n) (hd : 0 < d) : (0 : Rat) < (n : Rat) / (d : Rat) := by
  have h1 := Fl.cast_pos hn
  have h2 := Fl.cast_pos hd
  have h3 : ((n : Rat) / (d : Rat)) * (d : Rat) = (n : Rat) := by grind
  by_cases q : (0 : Rat) < (n : Rat) / (d : Rat)
  · exact q
  · have := mul_le (show (n : Rat) / (d : Rat) ≤ 0 by grind) (Rat.le_of_lt h2)
    grind
theorem hgtM_at (hu : Vu ts.length u) (ht : Vt ts) : ∃ n t : Nat, (n, t) ∈ u.ns.zip ts ∧ 1 ≤ n ∧ n ≤ 99 ∧ 1 ≤ t ∧ t ≤ 19998 ∧ hgtM u ts = (n : Rat) / (t : Rat) := by
  obtain ⟨h1, h2⟩ := hgtM_spec hu ht
  obtain ⟨⟨n, t⟩, hp, e⟩ := List.mem_map.mp h1
  obtain ⟨m1, m2⟩ := List.of_mem_zip hp
  have kt := ht.le _ m2
  obtain ⟨m, hm, hm0⟩ := hu.ex
  obtain ⟨i, hi⟩ := List.mem_iff_getElem?.mp hm
  have li := (List.getElem?_eq_some_iff.mp hi).1
  rw [hu.len] at li
  have kz : (m, ts[i]) ∈ u.ns.zip ts := by
    refine List.mem_iff_getElem?.mpr ⟨i, ?_⟩
    rw [List.getElem?_zip_eq_some]
    exact ⟨hi, List.getElem?_eq_getElem li⟩
  have kp := h2 _ (List.mem_map.mpr ⟨_, kz, rfl⟩)
  have kq : (0 : Rat) < (m : Rat) / ((ts[i] : Nat) : Rat) := frac_pos hm0 (by have := (ht.le _ (List.getElem_mem li)).1; omega)
  refine ⟨n, t, hp, ?_, hu.le _ m1, kt.1, kt.2, e.symm⟩
  by_cases q : n = 0
  · subst q
    have e' : hgtM u ts = ((0 : Nat) : Rat) / (t : Rat) := e.symm
    rw [e'] at kp
    have : ((0 : Nat) : Rat) / (t : Rat) = 0 := by
      rw [Rat.div_def]
      simp
    rw [this] at kp
    have kp : (m : Rat) / ((ts[i] : Nat) : Rat) ≤ 0 := kp
    grind
  · omega
theorem hgtM_pos (hu : Vu ts.length u) (ht : Vt ts) : 0 < hgtM u ts := by
  obtain ⟨n, t, _, h1, _, h2, _, e⟩ := hgtM_at hu ht
  rw [e]
  exact frac_pos (by omega) (by omega)
theorem hgtM_fit (hu : Vu ts.length u) (ht : Vt ts) : Fit (hgtM u ts) := hgt_fit hu ht _ (hgtM_spec hu ht).1
end
section
def U0 : U := ⟨0, [], none⟩
def usD (us : List U) : D := .tuple (us.map ud)
def tsD (ts : List Nat) : D := .tuple (ts.map nd)
def ixD (R : List Nat) : D := .list (R.map nd)
end
section
theorem flat_ix (R : List Nat) : (R.map nd).all flat = true := by
  rw [List.all_map]
  exact List.all_eq_true.mpr fun _ _ => rfl
theorem in_ix (i : Nat) (R : List Nat) : inD (nd i) (ixD R) = some (decide (i ∈ R)) := by
  have h : inD (nd i) (ixD R) = if flat (nd i) && (R.map nd).all flat then some ((R.map nd).any fun y => PyData.eqv y (nd i)) else (if SeqAt.shaped (nd i) && SeqAt.shaped (ixD R) then some ((R.map nd).any fun y => PyData.eqv y (nd i)) else none) := rfl
  rw [h, flat_ix]
  have e : ((R.map nd).any fun y => PyData.eqv y (nd i)) = decide (i ∈ R) := by
    rw [List.any_map]
    by_cases hm : i ∈ R
    · rw [decide_eq_true hm]
      refine List.any_eq_true.mpr ⟨i, hm, ?_⟩
      simp [nd, PyData.eqv]
    · rw [decide_eq_false hm]
      refine List.any_eq_false.mpr fun j hj => ?_
      have : j ≠ i := fun q => hm (q ▸ hj)
      simp [nd, PyData.eqv]
      omega
  rw [e]
  rfl
def at2 {α : Type} (φ : α → D) (p : α × Nat) : D := .tuple [nd p.2, φ p.1]
theorem walk_enm_t {α : Type} (φ : α → D) (xs : List α) : walkD .enm (.tuple (xs.map φ)) .none = some (xs.zipIdx.map (at2 φ)) := by
  show some ((xs.map φ).zipIdx.map fun p => PyData.tuple [.int (p.2 : Nat), p.1]) = _
  rw [List.zipIdx_map, List.map_map]
  rfl
theorem walk_enm_l {α : Type} (φ : α → D) (xs : List α) : walkD .enm (.list (xs.map φ)) .none = some (xs.zipIdx.map (at2 φ)) := by
  show some ((xs.map φ).zipIdx.map fun p => PyData.tuple [.int (p.2 : Nat), p.1]) = _
  rw [List.zipIdx_map, List.map_map]
  rfl
theorem at_nat {α : Type} {xs : List α} {i : Nat} {x : α} (h : xs[i]? = some x) : atI xs (i : Int) = some x := by
  have hi := (List.getElem?_eq_some_iff.mp h).1
  unfold atI ixN
  rw [if_pos (by omega), if_pos (by omega)]
  simp [h]
theorem idx_l {α : Type} (φ : α → D) {xs : List α} {i : Nat} {x : α} (h : xs[i]? = some x) : idxD (.list (xs.map φ)) (nd i) = some (φ x) := at_nat (by rw [List.getElem?_map, h]; rfl)
theorem idx_t {α : Type} (φ : α → D) {xs : List α} {i : Nat} {x : α} (h : xs[i]? = some x) : idxD (.tuple (xs.map φ)) (nd i) = some (φ x) := at_nat (by rw [List.getElem?_map, h]; rfl)
end
section
variable {us : List U} {ts R : List Nat} {am : List Rat}
theorem one1_nd (n : Nat) : one1 n = .tuple [nd n, .int 1] := rfl
theorem getD_of {α : Type} {xs : List α} {i : Nat} {x d : α} (h : xs[i]? = some x) : xs.getD i d = x := by
  rw [List.getD_eq_getElem?_getD, h]
  rfl
theorem at_lt {α : Type} {xs : List α} {i : Nat} (h : i < xs.length) (d : α) : xs[i]? = some (xs.getD i d) := by
  rw [List.getD_eq_getElem?_getD, List.getElem?_eq_getElem h]
  rfl
end
section
variable {us : List U} {ts R : List Nat} {am : List Rat} {Φ : Fn} {s6 s7 s8 s9 s10 s11 s12 s13 s14 s15 : Sl} {rows : List D}
theorem all_true {α : Type} (xs : List α) : xs.filter (fun _ => true) = xs := List.filter_eq_self.mpr fun _ _ => rfl
theorem bools_map {α : Type} (f : α → Bool) : ∀ xs : List α, boolsOf (xs.map fun x => PyData.bool (f x)) = some (xs.map f)
  | [] => rfl
  | x :: xs => by
    show (boolsOf (xs.map fun x => PyData.bool (f x))).map (f x :: ·) = _
    rw [bools_map f xs]
    rfl
end
section
variable {us : List U} {ts R : List Nat} {am : List Rat} {Φ : Fn}
theorem exs_ift {Φ : Fn} {c : Ex} {a b : Sm} {e e1 : Ev} (nv : ∀ i, c ≠ .var i) (h : ev Φ c e = some (.bool true, e1)) : exs Φ (.ifs c a b) e = exs Φ a e1 := by
  have : opT c (ev Φ c) e = some (true, e1) := by
    unfold opT opd
    cases c <;> first | (exact absurd rfl (nv _)) | (simp only [h, res, truth]; rfl)
  simp only [exs, tst, this]
theorem exs_iff {Φ : Fn} {c : Ex} {a b : Sm} {e e1 : Ev} (nv : ∀ i, c ≠ .var i) (h : ev Φ c e = some (.bool false, e1)) : exs Φ (.ifs c a b) e = exs Φ b e1 := by
  have : opT c (ev Φ c) e = some (false, e1) := by
    unfold opT opd
    cases c <;> first | (exact absurd rfl (nv _)) | (simp only [h, res, truth]; rfl)
  simp only [exs, tst, this]
end
section
variable {us : List U} {ts R : List Nat} {am : List Rat} {Φ : Fn} {rows : List D}
def junk (s : Sl) : Prop := s = .un ∨ (∃ d, s = .sh d) ∨ ∃ ds, s = .own true ds
theorem put_junk {e : Ev} {i : Nat} {s : Sl} (h : e[i]? = some s) (j : junk s) : putOk e i = true := by
  unfold putOk
  rw [h]
  rcases j with rfl | ⟨d, rfl⟩ | ⟨ds, rfl⟩ <;> rfl
theorem asg_nm {Φ : Fn} {x : Ex} {e e1 : Ev} {d : D} {i : Nat} (h : ev Φ x e = some (d, e1)) (hp : putOk e1 i = true) : exs Φ (.asg (.nm i) x) e = some (.nx (e1.set i (.sh d))) := by
  simp only [exs, h, tgOk, tgIxs, List.all_cons, List.all_nil, hp, Bool.and_true, if_true, bindT, Option.map_some]
theorem aso_nil {Φ : Fn} {e : Ev} {i : Nat} (hp : putOk e i = true) : exs Φ (.aso i (.lst .nil)) e = some (.nx (e.set i (.own true []))) := by
  have hz : (0 : Nat) ≤ sizeLine := Nat.zero_le _
  simp [exs, ev, hp]
end
section
variable {us : List U} {ts R : List Nat} {am : List Rat} {Φ : Fn} {l : Nat → Rat} {c : Rat} {L M : Nat}
structure Ps (us : List U) (ts : List Nat) : Prop where
  l0 : 1 ≤ us.length
  l1 : us.length ≤ 6
  ok : ∀ u ∈ us, Vu ts.length u
  vt : Vt ts
theorem getD_mem {α : Type} {xs : List α} {i : Nat} {d : α} (h : i < xs.length) : xs.getD i d ∈ xs := List.mem_of_getElem? (at_lt h d)
theorem getD_out {α : Type} {xs : List α} {i : Nat} {d : α} (h : ¬ i < xs.length) : xs.getD i d = d := by
  rw [List.getD_eq_getElem?_getD, List.getElem?_eq_none (by omega)]
  rfl
end
section
variable {us : List U} {ts R : List Nat} {am : List Rat} {Φ : Fn} {l : Nat → Rat} {c : Rat} {L M : Nat}
theorem can_ix : ∀ R : List Nat, PyData.canLayAll0 (R.map nd) = true
  | [] => by simp [PyData.canLayAll0]
  | n :: R => by
    have := can_ix R
    simp [PyData.canLayAll0, nd, PyData.canLay0] at this ⊢
    exact this
theorem dep_ix : ∀ R : List Nat, PyData.depthAll (R.map nd) = 0
  | [] => by simp [PyData.depthAll]
  | n :: R => by
    have := dep_ix R
    simp [PyData.depthAll, nd, PyData.depth] at this ⊢
    exact this
theorem shaped_ix (R : List Nat) : SeqAt.shaped (ixD R) = true := by
  unfold SeqAt.shaped ixD
  rw [PyData.canLay0, can_ix, PyData.depth, dep_ix]
  rfl
theorem ne_ix (R : List Nat) : cmpD .ne (ixD R) (.list []) = some (!R.isEmpty) := by
  have h : cmpD .ne (ixD R) (.list []) = (if SeqAt.shaped (ixD R) && SeqAt.shaped (.list []) then some (PyData.eqv (ixD R) (.list [])) else none).map (!·) := rfl
  have h2 : SeqAt.shaped (.list []) = true := shaped_ix []
  rw [h, shaped_ix, h2]
  cases R with
  | nil => simp [ixD, PyData.eqv, PyData.eqvAll]
  | cons => simp [ixD, PyData.eqv, PyData.eqvAll]
end
section
variable {us : List U} {ts : List Nat} {Φ : Fn} {L : Nat}
theorem exs_whl {c : Ex} {s : Sm} {e : Ev} : exs Φ (.whl c s) e = whlGo (tst Φ c) (exs Φ s) turns e := by simp only [exs]
theorem rng_nd (n : Nat) : rngD 0 n = (List.range n).map nd := by
  unfold rngD nd
  have : ((n : Int) - 0).toNat = n := by omega
  rw [this]
  refine List.map_congr_left fun i _ => ?_
  rw [Int.zero_add]
theorem evl_cons {a r : Ex} {e e1 e2 : Ev} {d : D} {ds : List D} (h : ev Φ a e = some (d, e1)) (h2 : ev Φ r e1 = some (.tuple ds, e2)) : ev Φ (.cons a r) e = some (.tuple (d :: ds), e2) := by simp only [ev, h, h2]
theorem evl_nil {e : Ev} : ev Φ .nil e = some (.tuple [], e) := by simp only [ev]
theorem ev_lst0 {e : Ev} : ev Φ (.lst .nil) e = some (.list [], e) := by
  have hz0 : (0 : Nat) ≤ sizeLine := Nat.zero_le _
  simp [ev, hz0]
theorem exs_asp {is : List Nat} {os : List Bool} {as : Ex} {e e1 e2 : Ev} {ds : List D} (h : ev Φ as e = some (.tuple ds, e1)) (h2 : putSl e1 is os ds = some e2) : exs Φ (.asp is os as) e = some (.nx e2) := by simp only [exs, h, h2, Option.map_some]
theorem ev_rep {as n : Ex} {e e1 e2 : Ev} {ds : List D} {k v : D} (h : ev Φ as e = some (.tuple ds, e1)) (hl : ds.length ≤ sizeLine) (h2 : ev Φ n e1 = some (k, e2)) (h3 : repD (.list ds) k = some v) : ev Φ (.rep as n) e = some (v, e2) := by simp only [ev, h, if_pos hl, h2, h3, Option.map_some]
end
section
variable {u : U} {us : List U} {ts : List Nat}
theorem ev_lcF {α : Type} {Φ : Fn} {own : List (Str × Nat)} {g : Tg} {k : Ik} {a b c f : Ex} {x y : D} {e0 e1 e : Ev} (φ : α → D) (t : α → Bool) (v : α → D) (xs : List α) (h1 : ev Φ a e0 = some (x, e1)) (h2 : ev Φ b e1 = some (y, e)) (h3 : walkD k x y = some (xs.map φ))
    (h : ∀ z ∈ xs, ∃ e1, bindT g (φ z) (wipeE e (own.map (·.2))) = some e1 ∧ lcT c (ev Φ c) e1 = some (t z, e1) ∧ (t z = true → ev Φ f e1 = some (v z, e1)) ∧ wipeE e1 (own.map (·.2)) = wipeE e (own.map (·.2))) (hl : xs.length ≤ sizeLine) :
    ev Φ (.lc own g k a b c f) e0 = some (.list ((xs.filter t).map v), e) := by
  obtain ⟨e3, g1, g2⟩ := lc_pure (c := lcT c (ev Φ c)) (f := ev Φ f) φ t v xs e [] rfl h (by simpa using hl)
  simp only [ev, h1, h2, h3, g1, back_wipe g2, List.nil_append]
end
section
variable {us : List U} {ts R : List Nat} {am : List Rat} {Φ : Fn} {rows : List D} {s0 s1 s2 s3 s4 s5 s6 s7 s8 s9 s10 s11 s12 s13 s14 s15 s16 s17 s18 s19 s20 : Sl}
def forS : Sm → Sm
  | .for_ _ _ _ _ s => s
  | s => s
def nthS : Nat → Sm → Sm
  | 0, .consB s _ => s
  | n + 1, .consB _ b => nthS n b
  | _, s => s
def jk (s : Sl) : Prop := s = .un ∨ ∃ d, s = .sh d
theorem jk.put {s : Sl} {e : Ev} {i : Nat} (j : jk s) (h : e[i]? = some s) : putOk e i = true := by
  unfold putOk
  rw [h]
  rcases j with rfl | ⟨d, rfl⟩ <;> rfl
theorem jk.sh (d : D) : jk (.sh d) := .inr ⟨d, rfl⟩
end
section
variable {us : List U} {ts R : List Nat} {am : List Rat} {Φ : Fn} {rows : List D} {s0 s1 s2 s3 s4 s5 s6 s7 s8 s9 s10 s11 s12 s13 s14 s15 s16 s17 s18 s19 s20 : Sl}
theorem lcT_bool {Φ : Fn} {c : Ex} {e e1 : Ev} {b : Bool} (nv : ∀ i, c ≠ .var i) (nn : c ≠ .noe) (h : ev Φ c e = some (.bool b, e1)) : lcT c (ev Φ c) e = some (b, e1) := by
  have h2 : opT c (ev Φ c) e = some (b, e1) := by
    unfold opT opd
    cases c <;> first | (exact absurd rfl (nv _)) | (simp only [h, res, truth, Option.map_some])
  cases c <;> first | (exact absurd rfl nn) | exact h2
theorem isn_wd (w : Option Nat) : cmpD .isn (wd w) .none = some w.isSome := by cases w <;> rfl
end
section
variable {us : List U} {ts R : List Nat} {am : List Rat} {Φ : Fn} {rows : List D} {s0 s1 s2 s3 s4 s5 s6 s7 s8 s9 s10 s11 s12 s13 s14 s15 s16 s17 s18 s19 s20 : Sl}
theorem set_at {e : Ev} {i n : Nat} {v : D} {ds : List D} (h1 : e[2]? = some (.own true ds)) (h2 : ds.length = n) (hi : i < n) : setAt e 2 (nd i) v = some (e.set 2 (.own true (ds.set i v))) := by
  have ix : ixN n (i : Int) = some i := by
    unfold ixN
    rw [if_pos (by omega), if_pos (by omega)]
    simp
  unfold setAt ownAt nd
  simp [h1, h2, ix]
theorem l_eq (R : List Nat) : eqD (ixD R) (.list []) = some R.isEmpty := by
  have h : eqD (ixD R) (.list []) = (if SeqAt.shaped (ixD R) && SeqAt.shaped (.list []) then some (PyData.eqv (ixD R) (.list [])) else none) := rfl
  have h2 : SeqAt.shaped (.list []) = true := shaped_ix []
  rw [h, shaped_ix, h2]
  cases R with
  | nil => simp [ixD, PyData.eqv, PyData.eqvAll]
  | cons => simp [ixD, PyData.eqv, PyData.eqvAll]
end
section
variable {us : List U} {ts : List Nat} {Φ : Fn} {L : Nat}
theorem exs_for {g : Tg} {k : Ik} {a b : Ex} {s : Sm} {e e1 e2 : Ev} {x y : D} {ds : List D} (h1 : ev Φ a e = some (x, e1)) (h2 : ev Φ b e1 = some (y, e2)) (h3 : walkD k x y = some ds) : exs Φ (.for_ g k a b s) e = forGo g (exs Φ s) ds e2 := by simp only [exs, h1, h2, h3]
end
section
variable {us : List U} {u : U} {ts : List Nat} {G : Nat}
def isI : D → Bool
  | .int _ => true
  | _ => false
def isC : D → Bool
  | .int i => decide (0 ≤ i)
  | _ => false
def isW (lo hi : Int) : D → Bool
  | .int i => decide (lo ≤ i) && decide (i ≤ hi)
  | _ => false
theorem isW_nd {n : Nat} {a b : Int} (h1 : a ≤ (n : Int)) (h2 : (n : Int) ≤ b) : isW a b (nd n) = true := by
  unfold isW nd
  simp [h1, h2]
theorem all_bools {α : Type} (f : α → Bool) (xs : List α) : b1D .all (.list (xs.map fun x => PyData.bool (f x))) = some (.bool (xs.all f)) := by
  simp only [b1D, bools_map, Option.map_some, List.all_map]
  rfl
theorem any_bools {α : Type} (f : α → Bool) (xs : List α) : b1D .any (.list (xs.map fun x => PyData.bool (f x))) = some (.bool (xs.any f)) := by
  simp only [b1D, bools_map, Option.map_some, List.any_map]
  rfl
theorem ev_b1 {Φ : Fn} {b : B1} {a : Ex} {e e1 : Ev} {x d : D} (nv : ∀ i, a ≠ .var i) (h : ev Φ a e = some (x, e1)) (h2 : b1D b x = some d) : ev Φ (.b1 b a) e = some (d, e1) := by
  rw [ev.eq_def Φ (.b1 _ _)]
  show op1 a (ev Φ a) (b1D b) e = _
  unfold op1 opd
  cases a <;> first | (exact absurd rfl (nv _)) | (simp only [h, res, h2, Option.map_some])
theorem evl_and {Φ : Fn} {a b : Ex} {e e1 e2 : Ev} {x y : Bool} (h : ev Φ a e = some (.bool x, e1)) (h2 : ev Φ b e1 = some (.bool y, e2)) (he : e2 = e1) : ev Φ (.and a b) e = some (.bool (x && y), e1) := by
  subst he
  cases x <;> simp only [ev, h, h2, Bool.true_and, Bool.false_and]
theorem us_cons (p : Ps us ts) : ∃ u r, us = u :: r := by
  have := p.l0
  cases us with
  | nil => simp at this
  | cons u r => exact ⟨u, r, rfl⟩
def seqD (b : Bool) (ds : List D) : D := if b then .list ds else .tuple ds
end
section
variable {a b c d : Nat} {x y : Rat}
variable {us : List U} {u v : U} {ts : List Nat} {L : Nat}
theorem gt_nd (n : Nat) : cmpD .gt (nd n) (.int 0) = some (decide (0 < n)) := by
  show some (decide ((0 : Int) < (n : Int))) = _
  congr 1
  simp
theorem exs_aso {Φ : Fn} {x : Ex} {e e1 : Ev} {ds : List D} {i : Nat} (h : ev Φ x e = some (.list ds, e1)) (hp : putOk e1 i = true) : exs Φ (.aso i x) e = some (.nx (e1.set i (.own true ds))) := by
  simp only [exs, h, hp, if_true]
theorem ev_call {Φ : Fn} {j : Nat} {as : Ex} {e e1 e2 : Ev} {ds : List D} {sl os : List Sl} {r : D} (h : ev Φ as e = some (.tuple ds, e1)) (ha : argSl as ds e1 = some sl) (hm : nodupB (musOf as) = true) (hc : Φ j sl = some (r, os)) (hw : wbk as os e1 = some e2) : ev Φ (.call j as) e = some (r, e2) := by
  simp only [ev, h, ha, hm, if_true, hc, hw, Option.map_some]
theorem n99 {n : Nat} (h : n ≤ 99) : n < 2 ^ 7 := Nat.lt_of_le_of_lt h (by decide)
end
section
variable {us : List U} {u v : U} {ts : List Nat} {L : Nat}
theorem ev_tup {Φ : Fn} {as : Ex} {e e1 : Ev} {ds : List D} (h : ev Φ as e = some (.tuple ds, e1)) (hl : ds.length ≤ sizeLine) : ev Φ (.tup as) e = some (.tuple ds, e1) := by simp only [ev, h, if_pos hl]
theorem exs_ret {Φ : Fn} {x : Ex} {b : Sm} {e e1 : Ev} {d : D} (h : ev Φ x e = some (d, e1)) : exs Φ (.consB (.ret x) b) e = some (.rt d e1) := by simp only [exs, h]
theorem ints_nd {α : Type} (f : α → Nat) : ∀ xs : List α, intsOf (xs.map fun x => nd (f x)) = some (xs.map fun x => (f x : Int))
  | [] => rfl
  | x :: xs => by
    show (intsOf (xs.map fun x => nd (f x))).map ((f x : Int) :: ·) = _
    rw [ints_nd f xs]
    rfl
theorem sum_cast (ns : List Nat) : (ns.map fun (n : Nat) => (n : Int)).sum = ((ns.sum : Nat) : Int) := by
  induction ns with
  | nil => rfl
  | cons n ns ih => rw [List.map_cons, List.sum_cons, List.sum_cons, ih]; omega
end
section
variable {us : List U} {u v : U} {ts : List Nat} {L : Nat}
theorem add_tt (a b : List D) (h : a.length + b.length ≤ sizeLine) : addD (.tuple a) (.tuple b) = some (.tuple (a ++ b)) := if_pos h
theorem cut_to {α : Type} (xs : List α) (i : Nat) : cutL xs none (some (i : Int)) = xs.take i := by
  unfold cutL
  rw [HT.sIx_none, HT.sIx_nat]
  by_cases h : i ≤ xs.length
  · rw [Nat.min_eq_left h]
    rfl
  · rw [Nat.min_eq_right (by omega), List.drop_zero, Nat.sub_zero, List.take_of_length_le (Nat.le_refl _), List.take_of_length_le (by omega)]
theorem cut_from {α : Type} (xs : List α) (i : Nat) : cutL xs (some (i : Int)) none = xs.drop i := by
  unfold cutL
  rw [HT.sIx_none, HT.sIx_nat]
  by_cases h : i ≤ xs.length
  · rw [Nat.min_eq_left h, List.take_of_length_le (by rw [List.length_drop]; exact Nat.le_refl _)]
  · rw [Nat.min_eq_right (by omega), List.drop_eq_nil_of_le (Nat.le_refl _), List.drop_eq_nil_of_le (by omega)]
    simp
end
section
variable {us : List U} {u v : U} {ts : List Nat} {L : Nat}
theorem getD_set_ne {xs : List U} {i j : Nat} {v : U} (h : j ≠ i) : (xs.set i v).getD j U0 = xs.getD j U0 := by
  rw [List.getD_eq_getElem?_getD, List.getD_eq_getElem?_getD, List.getElem?_set_ne (fun q => h q.symm)]
theorem getD_set_eq {xs : List U} {i : Nat} {v : U} (h : i < xs.length) : (xs.set i v).getD i U0 = v := by
  rw [List.getD_eq_getElem?_getD, List.getElem?_set_self h]
  rfl
theorem set_self {xs : List U} {i : Nat} (h : i < xs.length) : xs.set i (xs.getD i U0) = xs := by
  refine List.ext_getElem? fun j => ?_
  by_cases e : j = i
  · subst e
    rw [List.getElem?_set_self h, ← at_lt h U0]
  · rw [List.getElem?_set_ne (fun q => e q.symm)]
end
section
def Pot (P : List D) : Prop := ∃ a b : Int, P = [.int a, .int b] ∧ 0 ≤ a ∧ 0 ≤ b ∧ b < 2 ^ 31
theorem dvm_small {a m : Int} (h1 : 1 ≤ m) (h2 : m ≤ 10000) : b2D .dvm (.int a) (.int m) = some (.tuple [.int (a / m), .int (a % m)]) := by
  have h : Builtin.divisionGoesByPylong a m = false := PyProof.noPylong_small (by omega)
  show (if 0 < m ∧ Builtin.divisionGoesByPylong a m = false then some (PyData.tuple [.int (a / m), .int (a % m)]) else none) = _
  rw [if_pos ⟨by omega, h⟩]
theorem nd_of {i : Int} (h : 0 ≤ i) : ∃ n : Nat, PyData.int i = nd n ∧ (n : Int) = i := ⟨i.toNat, by unfold nd; congr 1; omega, by omega⟩
theorem idx_seqD {b : Bool} {xs : List D} {i : Nat} {x : D} (h : xs[i]? = some x) : idxD (seqD b xs) (nd i) = some x := by
  cases b <;> exact at_nat h
theorem for_ex {α Z : Type} {g : Tg} {f : Ev → Option Out} (φ : α → D) (env : Z → Ev) (ok : Nat → Z → Prop) : ∀ (xs : List α) (k : Nat) (z : Z), ok k z →
    (∀ i x z, xs[i]? = some x → ok (k + i) z → tgOk (env z) g = true ∧ ∃ e1 z', bindT g (φ x) (env z) = some e1 ∧ f e1 = some (.nx (env z')) ∧ ok (k + i + 1) z') →
    ∃ z', ok (k + xs.length) z' ∧ forGo g f (xs.map φ) (env z) = some (.nx (env z'))
  | [], k, z, hz, _ => ⟨z, hz, rfl⟩
  | x :: xs, k, z, hz, h => by
    obtain ⟨h1, e1, z', h2, h3, h4⟩ := h 0 x z rfl hz
    obtain ⟨z2, g1, g2⟩ := for_ex φ env ok xs (k + 1) z' h4 fun i y w hy hw => by
      have := h (i + 1) y w hy (by rw [show k + (i + 1) = k + 1 + i by omega]; exact hw)
      rw [show k + (i + 1) = k + 1 + i by omega] at this
      exact this
    refine ⟨z2, ?_, for_nx h1 h2 h3 g2⟩
    rw [List.length_cons, show k + (xs.length + 1) = k + 1 + xs.length by omega]
    exact g1
theorem lc_ex {α Z : Type} {own : List Nat} {g : Tg} {c : Ev → Option (Bool × Ev)} {f : Ev → Option (D × Ev)} (φ : α → D) (env : Z → Ev) (ok : Z → Prop) (Q : D → Prop) : ∀ (xs : List α) (z : Z) (acc : List D), ok z →
    (∀ x ∈ xs, ∀ z, ok z → ∃ e1 y z', bindT g (φ x) (wipeE (env z) own) = some e1 ∧ c e1 = some (true, e1) ∧ f e1 = some (y, env z') ∧ ok z' ∧ Q y) → acc.length + xs.length ≤ sizeLine →
    ∃ ys z', lcGo own g c f (xs.map φ) (env z) acc = some (acc ++ ys, env z') ∧ ok z' ∧ ys.length = xs.length ∧ ∀ y ∈ ys, Q y
  | [], z, acc, hz, _, _ => ⟨[], z, by simp [lcGo], hz, rfl, fun y h => by cases h⟩
  | x :: xs, z, acc, hz, h, hl => by
    obtain ⟨e1, y, z1, h1, h2, h3, h4, h5⟩ := h x List.mem_cons_self z hz
    rw [List.length_cons] at hl
    obtain ⟨ys, z', g1, g2, g3, g4⟩ := lc_ex φ env ok Q xs z1 (acc ++ [y]) h4 (fun y hy => h y (List.mem_cons_of_mem _ hy)) (by rw [List.length_append, List.length_singleton]; omega)
    refine ⟨y :: ys, z', ?_, g2, by rw [List.length_cons, List.length_cons, g3], fun w hw => ?_⟩
    · simp only [List.map_cons, lcGo, h1, h2, h3, if_pos (show acc.length < sizeLine by omega), g1, List.append_assoc, List.singleton_append]
    · rcases List.mem_cons.mp hw with rfl | hw
      · exact h5
      · exact g4 w hw
end
section
variable {Φ : Fn} {G most : Nat}
theorem map_of {α : Type} (φ : α → D) (Q : α → Prop) : ∀ ys : List D, (∀ y ∈ ys, ∃ n, Q n ∧ y = φ n) → ∃ ns : List α, ys = ns.map φ ∧ ∀ n ∈ ns, Q n
  | [], _ => ⟨[], rfl, fun n h => by cases h⟩
  | y :: ys, h => by
    obtain ⟨n, h1, rfl⟩ := h y List.mem_cons_self
    obtain ⟨ns, rfl, h2⟩ := map_of φ Q ys fun z hz => h z (List.mem_cons_of_mem _ hz)
    refine ⟨n :: ns, rfl, fun m hm => ?_⟩
    rcases List.mem_cons.mp hm with rfl | hm
    · exact h1
    · exact h2 m hm
theorem eqv_ix : ∀ a b : List Nat, PyData.eqvAll (a.map nd) (b.map nd) = decide (a = b)
  | [], [] => by simp [PyData.eqvAll]
  | [], b :: bs => by simp [PyData.eqvAll]
  | a :: as, [] => by simp [PyData.eqvAll]
  | a :: as, b :: bs => by
    have ih := eqv_ix as bs
    have e : PyData.eqvAll ((a :: as).map nd) ((b :: bs).map nd) = (PyData.eqv (nd a) (nd b) && PyData.eqvAll (as.map nd) (bs.map nd)) := by
      simp [PyData.eqvAll]
    rw [e, ih]
    have e2 : PyData.eqv (nd a) (nd b) = decide (a = b) := by
      by_cases h : a = b
      · subst h; simp [nd, PyData.eqv]
      · simp [nd, PyData.eqv, h]; omega
    rw [e2]
    by_cases h : a = b <;> simp [h]
theorem eq_ix (a b : List Nat) : eqD (ixD a) (ixD b) = some (decide (a = b)) := by
  have h : eqD (ixD a) (ixD b) = (if SeqAt.shaped (ixD a) && SeqAt.shaped (ixD b) then some (PyData.eqv (ixD a) (ixD b)) else none) := rfl
  have h2 : PyData.eqv (ixD a) (ixD b) = PyData.eqvAll (a.map nd) (b.map nd) := by simp [ixD, PyData.eqv]
  rw [h, shaped_ix, shaped_ix, h2, eqv_ix]
  rfl
theorem rep_nd (x n : Nat) (h : n ≤ 100) : repD (.list [nd x]) (nd n) = some (ixD (List.replicate n x)) := by
  have hz : [nd x].length * ((n : Int)).toNat ≤ sizeLine := by
    have : ((n : Int)).toNat = n := by omega
    rw [this, List.length_singleton, Nat.one_mul]
    exact sz h
  unfold nd
  simp only [repD, if_pos (show -(2 ^ 63) ≤ (n : Int) ∧ (n : Int) < 2 ^ 63 ∧ [PyData.int (x : Int)].length * ((n : Int)).toNat ≤ sizeLine from ⟨by omega, by omega, hz⟩)]
  unfold ixD
  congr 2
  have : ((n : Int)).toNat = n := by omega
  rw [this, List.map_replicate]
  clear h hz this
  induction n with
  | zero => rfl
  | succ n ih => rw [List.replicate_succ, List.replicate_succ, List.flatten_cons, ih]; rfl
theorem not_zero {ns : List Nat} {G : Nat} (hl : ns.length = G) (h : ns ≠ List.replicate G 0) : ∃ n ∈ ns, 0 < n := by
  by_cases q : ∃ n ∈ ns, 0 < n
  · exact q
  · refine absurd (List.eq_replicate_iff.mpr ⟨hl, fun n hn => ?_⟩) h
    by_cases q2 : n = 0
    · exact q2
    · exact absurd ⟨n, hn, by omega⟩ q
theorem walk_rng' {n : Nat} (hn : n ≤ 100) : walkD .rng (nd n) .none = some ((List.range n).map nd) := by
  have hs : small62 (n : Int) = true := by
    unfold small62
    rw [decide_eq_true (by omega), decide_eq_true (by omega)]
    rfl
  unfold nd
  simp only [walkD, hs, if_true]
  rw [rng_nd]
  rfl
theorem set_at6 {e : Ev} {j i : Nat} {v : D} {ds : List D} (h1 : e[j]? = some (.own true ds)) (hi : i < ds.length) : setAt e j (nd i) v = some (e.set j (.own true (ds.set i v))) := by
  have ix : ixN ds.length (i : Int) = some i := by
    unfold ixN
    rw [if_pos (by omega), if_pos (by omega)]
    simp
  unfold setAt ownAt nd
  simp [h1, ix]
theorem ev_lc_go {Φ : Fn} {own : List (Str × Nat)} {g : Tg} {k : Ik} {a b c f : Ex} {x y : D} {e e1 e2 e3 : Ev} {ds acc : List D} (h1 : ev Φ a e = some (x, e1)) (h2 : ev Φ b e1 = some (y, e2)) (h3 : walkD k x y = some ds) (h4 : lcGo (own.map (·.2)) g (lcT c (ev Φ c)) (ev Φ f) ds e2 [] = some (acc, e3)) : ev Φ (.lc own g k a b c f) e = some (.list acc, backE e2 e3 (own.map (·.2))) := by
  simp only [ev, h1, h2, h3, h4]
end
section
variable {Φ : Fn} {G most : Nat}
theorem nmul_bd {a b c d : Nat} (h1 : a ≤ b) (h2 : c ≤ d) : a * c ≤ b * d := Nat.mul_le_mul h1 h2
theorem mul_nd (a b : Nat) (ha : a < 2 ^ 64) (hb : b < 2 ^ 64) : binD .mul (nd a) (nd b) = some (nd (a * b)) := by
  have h : mulOk (a : Int) (b : Int) = true := mul_ok (k := 64) (l := 64) (by rw [Int.natAbs_natCast]; exact ha) (by rw [Int.natAbs_natCast]; exact hb)
  show (if mulOk (a : Int) (b : Int) then some (PyData.int ((a : Int) * (b : Int))) else none) = _
  rw [h]
  simp [nd]
theorem add_nd (a b : Nat) : binD .add (nd a) (nd b) = some (nd (a + b)) := by
  show some (PyData.int ((a : Int) + (b : Int))) = _
  simp [nd]
theorem ev_cmp' {Φ : Fn} {o : Co} {a b : Ex} {e e1 e2 : Ev} {x y : Op} {p q : D} {t : Bool} (h1 : opd a (ev Φ a e) e = some (x, e1)) (h2 : opd b (ev Φ b e1) e1 = some (y, e2)) (r1 : res e2 x = some p) (r2 : res e2 y = some q) (h : cmpD o p q = some t) : ev Φ (.cmp o a b) e = some (.bool t, e2) := by
  simp only [ev, op2, h1, h2, r1, r2, h, Option.map_some]
theorem opd_nv {Φ : Fn} {a : Ex} {e e1 : Ev} {d : D} (nv : ∀ i, a ≠ .var i) (h : ev Φ a e = some (d, e1)) : opd a (ev Φ a e) e = some (.v d, e1) := by
  cases a <;> first | (exact absurd rfl (nv _)) | (simp only [opd, h])
end
section
variable {Φ : Fn} {G most : Nat} {us : List U} {ts : List Nat}
theorem upd {ns : List Nat} {i v : Nat} (h : ∀ n ∈ ns, n ≤ 99) (hv : v ≤ 99) : ∀ n ∈ ns.set i v, n ≤ 99 := fun n hn => by
  rcases List.mem_or_eq_of_mem_set hn with h1 | h1
  · exact h n h1
  · omega
theorem cmp_nd (a b : Nat) : cmpD .eq (nd a) (.int (b : Int)) = some (decide (a = b)) := by
  show some (decide ((a : Int) = (b : Int))) = _
  rw [decide_eq_decide.mpr (show ((a : Int) = (b : Int)) ↔ a = b by omega)]
theorem min_nd (a b : Nat) : b2D .min (nd a) (nd b) = some (nd (min a b)) := by
  show some (PyData.int (if (b : Int) < (a : Int) then (b : Int) else (a : Int))) = _
  unfold nd
  congr 2
  split <;> omega
end
section
variable {Φ : Fn} {G most : Nat} {us : List U} {ts : List Nat}
theorem cmp_ne_ix (a b : List Nat) : cmpD .ne (ixD a) (ixD b) = some (!decide (a = b)) := by
  show (eqD (ixD a) (ixD b)).map (!·) = _
  rw [eq_ix]
  rfl
theorem ev_itet {c a b : Ex} {e e1 : Ev} {r : Option (D × Ev)} (nv : ∀ i, c ≠ .var i) (h : ev Φ c e = some (.bool true, e1)) (h2 : ev Φ a e1 = r) : ev Φ (.ite c a b) e = r := by
  have : opT c (ev Φ c) e = some (true, e1) := by
    unfold opT opd
    cases c <;> first | (exact absurd rfl (nv _)) | (simp only [h, res, truth]; rfl)
  simp only [ev, this, h2]
theorem ev_itef {c a b : Ex} {e e1 : Ev} {r : Option (D × Ev)} (nv : ∀ i, c ≠ .var i) (h : ev Φ c e = some (.bool false, e1)) (h2 : ev Φ b e1 = r) : ev Φ (.ite c a b) e = r := by
  have : opT c (ev Φ c) e = some (false, e1) := by
    unfold opT opd
    cases c <;> first | (exact absurd rfl (nv _)) | (simp only [h, res, truth]; rfl)
  simp only [ev, this, h2]
end
section
variable {Φ : Fn} {us : List U} {ts : List Nat} {oth : List Rat} {great : Bool}
variable {s7 s8 s9 s10 s11 s12 s13 s14 : Sl}
theorem ev_lst {Φ : Fn} {as : Ex} {e e1 : Ev} {ds : List D} (h : ev Φ as e = some (.tuple ds, e1)) (hl : ds.length ≤ sizeLine) : ev Φ (.lst as) e = some (.list ds, e1) := by simp only [ev, h, if_pos hl]
theorem ev_calk {Φ : Fn} {j : Nat} {as ks : Ex} {perm : List Nat} {e e1 e2 : Ev} {ds es : List D} {sl os : List Sl} {r : D} (h1 : ev Φ as e = some (.tuple ds, e1)) (h2 : ev Φ ks e1 = some (.tuple es, e2)) (hp : permL perm ((ds ++ es).map Sl.sh) = some sl) (hc : Φ j sl = some (r, os)) : ev Φ (.calk j as ks perm) e = some (r, e2) := by
  simp only [ev, h1, h2, hp, hc, Option.map_some]
theorem ev_b1v {Φ : Fn} {b : B1} {i : Nat} {e : Ev} {x d : D} (h : e[i]? = some (.sh x)) (h2 : b1D b x = some d) : ev Φ (.b1 b (.var i)) e = some (d, e) := by
  simp only [ev, op1, opd, h, res, h2, Option.map_some]
theorem evl_or {Φ : Fn} {a b : Ex} {e e1 e2 : Ev} {t : Bool} (h : ev Φ a e = some (.bool false, e1)) (h2 : ev Φ b e1 = some (.bool t, e2)) : ev Φ (.or a b) e = some (.bool t, e2) := by simp only [ev, h, h2]
theorem ev_andt {Φ : Fn} {a b : Ex} {e e1 e2 : Ev} {t : Bool} (h : ev Φ a e = some (.bool true, e1)) (h2 : ev Φ b e1 = some (.bool t, e2)) : ev Φ (.and a b) e = some (.bool t, e2) := by simp only [ev, h, h2]
theorem ev_idxv {Φ : Fn} {a i : Nat} {e : Ev} {x y d : D} (h : e[a]? = some (.sh x)) (h2 : e[i]? = some (.sh y)) (h3 : idxD x y = some d) : ev Φ (.idx (.var a) (.var i)) e = some (d, e) := by
  simp only [ev, op2, opd, h, h2, res, h3, Option.map_some]
theorem ev_ne_rep {Φ : Fn} {a b : Ex} {e e1 e2 : Ev} {s : Str} (na : ∀ i, a ≠ .var i) (nb : ∀ i, b ≠ .var i) (h1 : ev Φ a e = some (.str s, e1)) (h2 : ev Φ b e1 = some (.str s, e2)) : ev Φ (.cmp .ne a b) e = some (.bool false, e2) := ev_cmp' (opd_nv na h1) (opd_nv nb h2) rfl rfl (ne_str s)
theorem rp_nd {n : Nat} (h : n ≤ 19998) : RP 0 1921 (nd n) := RP.int (Nat.lt_of_le_of_lt (log_lt (k := 15) (by rw [Int.natAbs_natCast]; omega)) (by decide))
theorem rp_tup {ns : List Nat} (hl : ns.length ≤ 4) (h : ∀ n ∈ ns, n ≤ 19998) : RP 1 7695 (.tuple (ns.map nd)) := by
  have := RP.tup (k := 0) (m := 1921) (ds := ns.map nd) (fun d hd => by
    obtain ⟨n, hn, rfl⟩ := List.mem_map.mp hd
    exact rp_nd (h n hn))
  refine this.up (Nat.le_refl _) ?_
  rw [List.length_map]
  have := Nat.mul_le_mul_right (1921 + 2) hl
  omega
theorem rp_ud {u : U} {G : Nat} (hu : Vu G u) (hG : G ≤ 4) : RP 2 30791 (ud u) := by
  have hs : RP 1 7695 (.str "user") := RP.up (k := 0) (m := 6) ⟨rfl, rfl, Nat.le_of_eq (by simp [PyData.depth]), by decide +kernel⟩ (by decide) (by decide)
  have hw : RP 1 7695 (wd u.want) := by
    cases e : u.want with
    | none => exact RP.none.up (by decide) (by decide)
    | some v => exact (rp_nd (Nat.le_trans (hu.want v e) (by decide))).up (by decide) (by decide)
  have := RP.tup (k := 1) (m := 7695) (ds := [.str "user", nd u.w, .tuple (u.ns.map nd), wd u.want]) (fun d hd => by
    simp at hd
    rcases hd with rfl | rfl | rfl | rfl
    · exact hs
    · exact (rp_nd (Nat.le_trans hu.w1 (by decide))).up (by decide) (by decide)
    · exact rp_tup (by rw [hu.len]; exact hG) fun n hn => Nat.le_trans (hu.le n hn) (by decide)
    · exact hw)
  exact this
theorem rp_both (p : Ps us ts) : RP 4 369535 (.list [usD us, tsD ts]) := by
  have h1 : RP 3 184761 (usD us) := by
    have := RP.tup (k := 2) (m := 30791) (ds := us.map ud) (fun d hd => by
      obtain ⟨u, hu, rfl⟩ := List.mem_map.mp hd
      exact rp_ud (p.ok u hu) p.vt.l1)
    refine this.up (Nat.le_refl _) ?_
    rw [List.length_map]
    have := Nat.mul_le_mul_right (30791 + 2) p.l1
    omega
  have h2 : RP 3 184761 (tsD ts) := (rp_tup p.vt.l1 fun t ht => (p.vt.le t ht).2).up (by decide) (by decide)
  have := RP.list (k := 3) (m := 184761) (ds := [usD us, tsD ts]) (fun d hd => by
    simp at hd
    rcases hd with rfl | rfl
    · exact h1
    · exact h2)
  exact this.up (Nat.le_refl _) (by show 2 * (184761 + 2) + 3 ≤ 369535; decide)
theorem z_of {m : Nat} (h : m ≤ 400000) : m ≤ sizeLine := Nat.le_trans h (by decide)
theorem rep_both (p : Ps us ts) : b1D .repr (.list [usD us, tsD ts]) = some (.str (PyData.list [usD us, tsD ts]).shown) := (rp_both p).repr (by decide) (z_of (by decide))
theorem len_us (us : List U) : b1D .len (usD us) = some (nd us.length) := by
  show some (PyData.int ((us.map ud).length : Nat)) = _
  rw [List.length_map]
  rfl
end
section
variable {Φ : Fn} {us : List U} {ts : List Nat} {oth : List Rat} {great : Bool} {s7 s8 s9 s10 s11 s12 s13 s14 : Sl}
theorem exs_asg {Φ : Fn} {g : Tg} {x : Ex} {e e1 e2 : Ev} {d : D} (h : ev Φ x e = some (d, e1)) (ht : tgOk e1 g = true) (hb : bindT g d e1 = some e2) : exs Φ (.asg g x) e = some (.nx e2) := by
  simp only [exs, h, ht, if_true, hb, Option.map_some]
end
end Iv
end
section
set_option linter.all false
set_option exponentiation.threshold 3000
/-! The filling's numbers stay small. -/
namespace Iv
theorem S_mono {f : Nat → Rat} {k : Nat} : ∀ {n : Nat}, k ≤ n → (∀ i, i < n → 0 ≤ f i) → S k f ≤ S n f
  | 0, h, _ => by
    have e : k = 0 := by omega
    subst e
    exact Rat.le_refl
  | n + 1, h, hf => by
    by_cases e : k = n + 1
    · subst e
      exact Rat.le_refl
    · have h1 := S_mono (k := k) (n := n) (by omega) fun i hi => hf i (by omega)
      have h2 := hf n (by omega)
      show S k f ≤ S n f + f n
      grind
theorem S_bd {m V : Nat} {f : Nat → Rat} : ∀ {k : Nat}, (∀ i, i < k → Bd m V (f i)) → Bd m (k * V) (S k f)
  | 0, _ => by
    show Bd m (0 * V) 0
    exact Bd.zero
  | k + 1, h => by
    have h1 := S_bd (k := k) fun i hi => h i (by omega)
    have h2 := (h1.add (h k (by omega)))
    refine Bd.wide (V := k * V + V) h2 ?_
    rw [Nat.succ_mul]
    exact Nat.le_refl _
theorem Bd.num {m n V : Nat} {q : Rat} (h : Bd m V q) : Bd m (V * n) (q * (n : Rat)) := by
  have := h.mul (Bd.nat (V := n) n (Nat.le_refl _))
  exact this.of (Nat.mul_one _)
namespace Fl
variable {P : Fl} {R : List Nat} {am l : Nat → Rat} {c : Rat} {L M : Nat}
structure Bs (P : Fl) (L : Nat) : Prop where
  ok : P.Ok
  n6 : P.n ≤ 6
  l0 : 0 < L
  l1 : L ≤ 2 ^ 40
  s : ∀ i, i < P.n → Bd L 179982 (P.s i)
  nd : ∀ i g, P.nd i g ≤ 99
  T : ∀ g, P.T g ≤ 19998
  want : ∀ i v, P.want i = Option.some v → v ≤ 999
structure St (P : Fl) (L : Nat) (R : List Nat) (am l : Nat → Rat) (c : Rat) (M : Nat) : Prop where
  at_ : P.At R am l c
  r6 : R.length ≤ 6
  m0 : 0 < M
  m1 : M ≤ 2 ^ (67 * (6 - R.length))
  dv : ∀ i, i < P.n → i ∉ R → ∃ z : Int, am i * ((L * M : Nat) : Rat) = (z : Rat)
theorem v_nn (ok : P.Ok) (A : P.At R am l c) {i : Nat} (hi : i < P.n) : 0 ≤ P.v R am c i := by
  unfold v
  split
  · exact nn2 A.cn (Rat.le_of_lt (ok.s i hi))
  · rename_i h
    obtain ⟨e, h1, _⟩ := A.lev i hi h
    rw [e]
    exact nn2 h1 (Rat.le_of_lt (ok.s i hi))
theorem am_bd (B : P.Bs L) (A : P.St L R am l c M) {i : Nat} (hi : i < P.n) (hR : i ∉ R) : Bd (L * M) 19998 (am i) := by
  obtain ⟨g, hg, hn⟩ := B.ok.some i hi
  have h1 := A.at_.fit g hg
  have h2 := S_ge (f := fun i => P.v R am c i * (P.nd i g : Rat)) hi fun j hj => nn2 (v_nn B.ok A.at_ hj) (cast_nn _)
  have h3 := v_nn B.ok A.at_ hi
  have hv : P.v R am c i = am i := if_neg hR
  rw [hv] at h3
  simp only [hv] at h2
  refine ⟨h3, ?_, A.dv i hi hR⟩
  have h4 : (1 : Rat) ≤ (P.nd i g : Rat) := by exact_mod_cast hn
  have h5 := mul_le h4 h3
  have h6 : (P.T g : Rat) ≤ ((19998 : Nat) : Rat) := by exact_mod_cast B.T g
  grind
theorem sn_bd (B : P.Bs L) {i : Nat} (hi : i < P.n) (g : Nat) : Bd L (179982 * 99) (P.s i * (P.nd i g : Rat)) := ((B.s i hi).num).wide (Nat.mul_le_mul_left _ (B.nd i g))
theorem an_bd (B : P.Bs L) (A : P.St L R am l c M) {i : Nat} (hi : i < P.n) (hR : i ∉ R) (g : Nat) : Bd (L * M) (19998 * 99) (am i * (P.nd i g : Rat)) := ((am_bd B A hi hR).num).wide (Nat.mul_le_mul_left _ (B.nd i g))
def rx (P : Fl) (R : List Nat) (g : Nat) (i : Nat) : Rat := if i ∈ R then P.s i * (P.nd i g : Rat) else 0
def fx (P : Fl) (R : List Nat) (am : Nat → Rat) (g : Nat) (i : Nat) : Rat := if i ∈ R then 0 else am i * (P.nd i g : Rat)
theorem rx_bd (B : P.Bs L) {k : Nat} (hk : k ≤ P.n) (g : Nat) : Bd L (6 * (179982 * 99)) (S k (rx P R g)) := by
  have h := S_bd (m := L) (V := 179982 * 99) (f := rx P R g) (k := k) fun i hi => by
    unfold rx
    split
    · exact sn_bd B (by omega) g
    · exact Bd.zero
  exact h.wide (Nat.mul_le_mul_right _ (by have := B.n6; omega))
theorem fx_bd (B : P.Bs L) (A : P.St L R am l c M) {k : Nat} (hk : k ≤ P.n) (g : Nat) : Bd (L * M) (6 * (19998 * 99)) (S k (fx P R am g)) := by
  have h := S_bd (m := L * M) (V := 19998 * 99) (f := fx P R am g) (k := k) fun i hi => by
    unfold fx
    split
    · exact Bd.zero
    · rename_i hR
      exact an_bd B A (by omega) hR g
  exact h.wide (Nat.mul_le_mul_right _ (by have := B.n6; omega))
theorem fx_le (B : P.Bs L) (A : P.St L R am l c M) {k g : Nat} (hk : k ≤ P.n) (hg : g < P.G) : S k (fx P R am g) ≤ (P.T g : Rat) := by
  have hn : ∀ i, i < P.n → 0 ≤ fx P R am g i := fun i hi => by
    unfold fx
    split
    · exact Rat.le_refl
    · rename_i h
      have := v_nn B.ok A.at_ hi
      unfold v at this
      rw [if_neg h] at this
      exact nn2 this (cast_nn _)
  have h1 := S_mono hk hn
  have h2 := A.at_.fit g hg
  rw [S_v] at h2
  have h3 := nn2 A.at_.cn (rate_nn (R := R) B.ok g)
  have h4 : P.fixd R am g = S P.n (fx P R am g) := rfl
  rw [h4] at h2
  grind
theorem left_bd (B : P.Bs L) (A : P.St L R am l c M) {k g : Nat} (hk : k ≤ P.n) (hg : g < P.G) : Bd (L * M) 19998 ((P.T g : Rat) - S k (fx P R am g)) := by
  have h1 := (((Bd.nat (P.T g) (B.T g)).times (L * M)).of (Nat.one_mul _)).sub (fx_bd B A hk g) (fx_le B A hk hg)
  exact h1
/-- a quotient of such numbers -/
theorem quo_bd {q r : Rat} {V W : Nat} (h : Bd (L * M) V q) (h2 : Bd L W r) (hr : 0 < r) (hL : 0 < L) (hM : 0 < M) : ∃ N : Nat, 0 < N ∧ N ≤ W * L ∧ Bd (M * N) (V * L) (q / r) := by
  obtain ⟨N, n0, n1, n2, n3⟩ := h.div h2 hr hL
  refine ⟨N, n0, n1, n3.nn, n3.le, ?_⟩
  obtain ⟨z, e⟩ := h.dv
  refine ⟨z, ?_⟩
  rw [Rat.natCast_mul] at e
  rw [Rat.natCast_mul, ← e, ← n2]
  have e3 : (q / r) * r = q := by grind
  have e4 : q / r * ((M : Rat) * (r * (L : Rat))) = ((q / r) * r) * ((L : Rat) * (M : Rat)) := by grind
  rw [e4, e3]
theorem cand_bd (B : P.Bs L) (A : P.St L R am l c M) {q : Rat} (h : q ∈ P.cands R am) : ∃ N : Nat, 0 < N ∧ N ≤ 2 ^ 67 ∧ Bd (M * N) (19998 * L) q := by
  rcases List.mem_append.mp h with h | h
  · obtain ⟨g, hg, h⟩ := List.mem_filterMap.mp h
    have hg := List.mem_range.mp hg
    obtain ⟨hp, _⟩ := gst_eq B.ok h
    unfold gst at h
    split at h
    · cases h
    · cases h
      have hr : P.rate R g = S P.n (rx P R g) := rfl
      have hf : P.fixd R am g = S P.n (fx P R am g) := rfl
      rw [hr] at hp ⊢
      rw [hf]
      obtain ⟨N, n0, n1, n2⟩ := quo_bd (left_bd B A (Nat.le_refl _) hg) (rx_bd B (Nat.le_refl _) g) hp B.l0 A.m0
      refine ⟨N, n0, ?_, n2⟩
      have h1 := Nat.mul_le_mul (show 6 * (179982 * 99) ≤ 2 ^ 27 by decide) B.l1
      rw [← Nat.pow_add] at h1
      omega
  · obtain ⟨i, hi, h⟩ := List.mem_filterMap.mp h
    have hn := A.at_.lt i hi
    obtain ⟨v, hv, e⟩ := wst_eq B.ok hn h
    have hs := B.ok.s i hn
    have eq : q = (v : Rat) / P.s i := by grind
    rw [eq]
    obtain ⟨N, n0, n1, n2⟩ := quo_bd (M := M) (((Bd.nat v (Nat.le_trans (B.want i v hv) (show 999 ≤ 19998 by decide))).times (L * M)).of (Nat.one_mul _)) (B.s i hn) (B.ok.s i hn) B.l0 A.m0
    refine ⟨N, n0, ?_, n2⟩
    have h1 := Nat.mul_le_mul (show 179982 ≤ 2 ^ 27 by decide) B.l1
    rw [← Nat.pow_add] at h1
    omega
theorem mark_bd (B : P.Bs L) (A : P.St L R am l c M) (hR : R ≠ []) : ∃ N : Nat, 0 < N ∧ N ≤ 2 ^ 67 ∧ Bd (M * N) (19998 * L) (P.mark R am) := cand_bd B A (mark_spec B.ok A.at_ hR).2
theorem next (B : P.Bs L) (A : P.St L R am l c M) (hR : R ≠ []) : ∃ l' M', P.St L (P.R2 R am) (P.am2 R am) l' (P.mark R am) M' ∧ (P.R2 R am).length < R.length := by
  obtain ⟨h1, h2, h3⟩ := step B.ok A.at_ hR
  obtain ⟨N, n0, n1, n2⟩ := mark_bd B A hR
  refine ⟨_, M * N, ⟨h2, by have := A.r6; omega, Nat.mul_pos A.m0 n0, ?_, fun i hi hn => ?_⟩, h3⟩
  · have k1 := Nat.mul_le_mul A.m1 n1
    rw [← Nat.pow_add] at k1
    refine Nat.le_trans k1 (Nat.pow_le_pow_right (by decide) ?_)
    have := A.r6
    omega
  · unfold am2
    by_cases q : i ∈ P.stp R am
    · rw [if_pos q]
      obtain ⟨z, e⟩ := n2.dv
      obtain ⟨y, e2⟩ := (B.s i hi).dv
      refine ⟨z * y, ?_⟩
      rw [Rat.natCast_mul, Rat.natCast_mul, Rat.intCast_mul, ← e, ← e2, Rat.natCast_mul]
      grind
    · rw [if_neg q]
      have hR2 : i ∉ R := fun h => hn (List.mem_filter.mpr ⟨h, by simp [q]⟩)
      obtain ⟨z, e⟩ := A.dv i hi hR2
      refine ⟨z * (N : Int), ?_⟩
      rw [Rat.intCast_mul, Rat.intCast_natCast, ← e, Rat.natCast_mul, Rat.natCast_mul, Rat.natCast_mul]
      grind
theorem first (B : P.Bs L) : P.St L (List.range P.n) (fun _ => 0) (fun _ => 0) 0 1 := ⟨start B.ok, by rw [List.length_range]; exact B.n6, by decide, Nat.one_le_two_pow, fun i hi h => absurd (List.mem_range.mpr hi) h⟩
theorem lm (B : P.Bs L) (A : P.St L R am l c M) : 0 < L * M ∧ L * M < 2 ^ 445 := by
  refine ⟨Nat.mul_pos B.l0 A.m0, ?_⟩
  have k1 := Nat.mul_le_mul B.l1 A.m1
  rw [← Nat.pow_add] at k1
  have := A.r6
  have k2 : 2 ^ (40 + 67 * (6 - R.length)) ≤ 2 ^ 442 := Nat.pow_le_pow_right (by decide) (by omega)
  have k3 : 2 ^ 442 < 2 ^ 445 := by decide
  omega
end Fl
end Iv
end
section
set_option Elab.async false
set_option linter.all false
set_option maxRecDepth 100000
set_option exponentiation.threshold 3000
set_option maxHeartbeats 4000000
/-! defs as in k92 (printed by trans91.py) -/
namespace Iv
open PySem PySem.Spec L2
/-! K92F -/
section
abbrev T : Fn := tab (dfs k91_ds)
/-- a def gives this at these values -/
def Gv (j : Nat) (as : List D) (d : D) : Prop := T j (as.map Sl.sh) = some (d, as.map Sl.sh)
theorem gv {j : Nat} {d : De} {as : List D} {r : D} (hj : k91_ds.reverse[j]? = some d) (hn : as.length = d.ps.length) (h : ∀ Φ : Fn, (∀ i, i < j → Φ i = T i) → ∃ e, exs Φ d.body (as.map Sl.sh ++ List.replicate (d.N.length - d.ps.length) .un) = some (.rt r e) ∧ as.length ≤ e.length) : Gv j as r := by
  obtain ⟨Φ, hΦ, hT⟩ := tab_run hj
  obtain ⟨e, h1, h2⟩ := h Φ hΦ
  unfold Gv
  rw [T, hT]
  unfold run De.df
  simp only [List.length_map, hn, if_true, h1, outs_sh as e h2, Option.map_some]
/-- a def that ends without a value -/
theorem gvn {j : Nat} {d : De} {as : List D} (hj : k91_ds.reverse[j]? = some d) (hn : as.length = d.ps.length) (h : ∀ Φ : Fn, (∀ i, i < j → Φ i = T i) → ∃ e, exs Φ d.body (as.map Sl.sh ++ List.replicate (d.N.length - d.ps.length) .un) = some (.nx e) ∧ as.length ≤ e.length) : Gv j as .none := by
  obtain ⟨Φ, hΦ, hT⟩ := tab_run hj
  obtain ⟨e, h1, h2⟩ := h Φ hΦ
  unfold Gv
  rw [T, hT]
  unfold run De.df
  simp only [List.length_map, hn, if_true, h1, outs_sh as e h2, Option.map_some]
theorem Gv.on {j : Nat} {as : List D} {d : D} {Φ : Fn} (h : Gv j as d) (e : Φ j = T j) : Φ j (as.map Sl.sh) = some (d, as.map Sl.sh) := by rw [e]; exact h
theorem common_ok {a b : Int} (hb : b.natAbs < 2 ^ 1000) : Gv 15 [.int a, .int b] (.int (Nat.gcd b.natAbs a.natAbs : Nat)) := by
  refine gv (d := k91_d_common_part) rfl rfl fun Φ hΦ => ?_
  have hl := cp_loop Φ 999999 a.natAbs b.natAbs _ (eu_ok 1000 999999 a.natAbs b.natAbs hb (by decide))
  rw [show 999999 + 1 = turns from rfl] at hl
  refine ⟨[.sh (.int (Nat.gcd b.natAbs a.natAbs : Nat)), .sh (.int 0)], ?_, by simp⟩
  refine exs_nx (e1 := [.sh (.int a.natAbs), .sh (.int b.natAbs)]) ?_ (exs_nx hl ?_)
  · simp [k91_d_common_part, exs, ev, op1, opd, res, rdv, b1D, putSl, putOk, abs_int]
  · simp [exs, ev, rdv]
theorem lowest_ok {a b : Int} (h0 : 0 < b) (hb : b.natAbs < 2 ^ 1000) : Gv 16 [.int a, .int b] (rt ((a : Rat) / (b : Rat))) := by
  refine gv (d := k91_d_lowest) rfl rfl fun Φ hΦ => ?_
  have hc := (common_ok (a := a) hb).on (hΦ 15 (by decide))
  have hg : 0 < Nat.gcd b.natAbs a.natAbs := Nat.gcd_pos_of_pos_left _ (by omega)
  have hd : divOk ((Nat.gcd b.natAbs a.natAbs : Nat) : Int) = true := div_ok (k := 1000) (by omega) (by
    rw [Int.natAbs_natCast]
    exact Nat.lt_of_le_of_lt (Nat.gcd_le_left _ (by omega)) hb)
  refine ⟨[.sh (.int a), .sh (.int b), .sh (.int (Nat.gcd b.natAbs a.natAbs : Nat))], ?_, by simp⟩
  rw [rt_div h0]
  simp at hc
  simp [k91_d_lowest, k91_b_lowest, exs, ev, op1, op2, opd, res, opT, rdv, bindT, tgOk, tgIxs, putOk, argSl, musOf, nodupB, wbk, cmpD, truth, binD, hc, hd, h0, z2]
theorem add_eq (x y : Rat) : (((x.num * y.den + y.num * x.den : Int)) : Rat) / ((x.den * y.den : Int) : Rat) = x + y := by
  have h1 := rat_eq x
  have h2 := rat_eq y
  have h3 := den_ne x
  have h4 := den_ne y
  rw [Rat.intCast_add, Rat.intCast_mul, Rat.intCast_mul, Rat.intCast_mul, Rat.intCast_natCast, Rat.intCast_natCast]
  grind
theorem sub_eq (x y : Rat) : (((x.num * y.den - y.num * x.den : Int)) : Rat) / ((x.den * y.den : Int) : Rat) = x - y := by
  have h1 := rat_eq x
  have h2 := rat_eq y
  have h3 := den_ne x
  have h4 := den_ne y
  rw [Rat.intCast_sub, Rat.intCast_mul, Rat.intCast_mul, Rat.intCast_mul, Rat.intCast_natCast, Rat.intCast_natCast]
  grind
theorem mul_eq (x y : Rat) : (((x.num * y.num : Int)) : Rat) / ((x.den * y.den : Int) : Rat) = x * y := by
  have h1 := rat_eq x
  have h2 := rat_eq y
  have h3 := den_ne x
  have h4 := den_ne y
  rw [Rat.intCast_mul, Rat.intCast_mul, Rat.intCast_natCast, Rat.intCast_natCast]
  grind
theorem lr_loop (Φ : Fn) (t bt s5 : Sl) : ∀ (ds : List D) (a b r : Nat) (s4 : Sl), (s4 = .un ∨ ∃ d, s4 = .sh d) → eu ds.length a b = some r → ∃ s4', forGo (.nm 4) (exs Φ (.consB (.ifs (.cmp .eq (.var 3) (.cst (.int 0))) (.consB .brk .nilB) .nilB) (.consB (.asp [2, 3] [false, false] (.cons (.var 3) (.cons (.bin .mod (.b1 .int (.var 2)) (.var 3)) .nil))) .nilB))) ds [t, bt, .sh (.int a), .sh (.int b), s4, s5] = some (.nx [t, bt, .sh (.int r), .sh (.int 0), s4', s5])
  | [], a, b, r, s4, _, h => by
    simp only [List.length_nil, eu] at h
    split at h
    · rename_i hb
      subst hb
      cases h
      exact ⟨s4, rfl⟩
    · cases h
  | d :: ds, a, b, r, s4, hs, h => by
    have ok : tgOk [t, bt, .sh (.int a), .sh (.int b), s4, s5] (.nm 4) = true := by
      rcases hs with rfl | ⟨d, rfl⟩ <;> rfl
    simp only [List.length_cons, eu] at h
    split at h
    · rename_i hb
      subst hb
      cases h
      exact ⟨.sh d, for_bk (e1 := [t, bt, .sh (.int a), .sh (.int 0), .sh d, s5]) ok rfl (by simp [exs, tst, opT, opd, ev, op2, res, cmpD, eqD, truth])⟩
    · rename_i hb
      obtain ⟨s4', ih⟩ := lr_loop Φ t bt s5 ds b (a % b) r (.sh d) (.inr ⟨d, rfl⟩) h
      have h0 : 0 < b := by omega
      exact ⟨s4', for_nx (e1 := [t, bt, .sh (.int a), .sh (.int b), .sh d, s5]) ok rfl (by simp [exs, tst, opT, opd, ev, op1, op2, res, cmpD, eqD, truth, rdv, putSl, putOk, binD, b1D, h0, hb]) ih⟩
theorem ratio_ok {a b : Int} (h0 : 0 < b) (hb : b.natAbs < 2 ^ 1000) (ha : a.natAbs < 2 ^ 2000) : Gv 30 [.int a, .int b] (rt ((a : Rat) / (b : Rat))) := by
  refine gv (d := k91_d__law_ratio) rfl rfl fun Φ hΦ => ?_
  have hg : 0 < Nat.gcd b.natAbs a.natAbs := Nat.gcd_pos_of_pos_left _ (by omega)
  have hd : divOk ((Nat.gcd b.natAbs a.natAbs : Nat) : Int) = true := div_ok (k := 1000) (by omega) (by
    rw [Int.natAbs_natCast]
    exact Nat.lt_of_le_of_lt (Nat.gcd_le_left _ (by omega)) hb)
  have m1 : mulOk 1 a = true := mul_ok (k := 1) (l := 2000) (by decide) ha
  have m2 : mulOk 1 b = true := mul_ok (k := 1) (l := 1000) (by decide) hb
  have hl : (rngD 0 2000).length = 2000 := by
    unfold rngD
    rw [List.length_map, List.length_range]
    rfl
  obtain ⟨s4', hlp⟩ := lr_loop Φ (.sh (.int a)) (.sh (.int b)) .un (rngD 0 2000) a.natAbs b.natAbs _ .un (.inl rfl) (by rw [hl]; exact eu_ok 1000 2000 a.natAbs b.natAbs hb (by decide))
  refine ⟨[.sh (.int a), .sh (.int b), .sh (.int (Nat.gcd b.natAbs a.natAbs : Nat)), .sh (.int 0), s4', .sh (.int 1)], ?_, by simp⟩
  refine exs_nx (e1 := [.sh (.int a), .sh (.int b), .sh (.int a.natAbs), .sh (.int b.natAbs), .un, .un]) ?_ (exs_nx (e1 := [.sh (.int a), .sh (.int b), .sh (.int (Nat.gcd b.natAbs a.natAbs : Nat)), .sh (.int 0), s4', .un]) ?_ ?_)
  · simp [k91_d__law_ratio, exs, ev, op1, opd, res, rdv, b1D, putSl, putOk, abs_int]
  · rw [← hlp]
    simp only [exs, ev]
    rw [show walkD .rng (.int 2000) .none = some (rngD 0 2000) by simp [walkD, small62]]
  · rw [rt_div h0]
    simp [exs, ev, op1, op2, opd, res, opT, rdv, bindT, tgOk, tgIxs, putOk, cmpD, truth, binD, mulD, hd, h0, z2, m1, m2]
section
variable {x y : Rat}
theorem pplus_ok (hx : Fit x) (hy : Fit y) : Gv 23 [rt x, rt y] (rt (x + y)) := by
  refine gv (d := k91_d_plus) rfl rfl fun Φ hΦ => ?_
  have hb : ((x.den : Int) * y.den).natAbs < 2 ^ 1000 := up_pow (nb (fd hx) (fd hy)) (by decide)
  have ht : (x.num * y.den + y.num * x.den).natAbs < 2 ^ 1001 := nadd (nb hx.2 (fd hy)) (nb hy.2 (fd hx))
  have h0 : 0 < (x.den : Int) * y.den := Int.mul_pos (den_pos x) (den_pos y)
  have hc := (lowest_ok (a := x.num * y.den + y.num * x.den) h0 hb).on (hΦ 16 (by decide))
  rw [add_eq x y] at hc
  simp only [List.map_cons, List.map_nil] at hc
  have m1 : mulOk x.num y.den = true := mul_ok hx.2 (fd hy)
  have m2 : mulOk y.num x.den = true := mul_ok hy.2 (fd hx)
  have m3 : mulOk x.den y.den = true := mul_ok (fd hx) (fd hy)
  have m4 : mulOk x.num y.num = true := mul_ok hx.2 hy.2
  have m5 : mulOk x.den y.num = true := mul_ok (fd hx) hy.2
  refine ⟨[.sh (rt x), .sh (rt y)], ?_, by simp⟩
  unfold rt at hc ⊢
  simp [k91_d_plus, k91_b_plus, exs, ev, op2, opd, res, argSl, musOf, nodupB, wbk, binD, addD, mulD, idxD, atI, ixN, m1, m2, m3, m4, m5, hc]
theorem pminus_ok (hx : Fit x) (hy : Fit y) : Gv 24 [rt x, rt y] (rt (x - y)) := by
  refine gv (d := k91_d_minus) rfl rfl fun Φ hΦ => ?_
  have hb : ((x.den : Int) * y.den).natAbs < 2 ^ 1000 := up_pow (nb (fd hx) (fd hy)) (by decide)
  have ht : (x.num * y.den - y.num * x.den).natAbs < 2 ^ 1001 := nsub (nb hx.2 (fd hy)) (nb hy.2 (fd hx))
  have h0 : 0 < (x.den : Int) * y.den := Int.mul_pos (den_pos x) (den_pos y)
  have hc := (lowest_ok (a := x.num * y.den - y.num * x.den) h0 hb).on (hΦ 16 (by decide))
  rw [sub_eq x y] at hc
  simp only [List.map_cons, List.map_nil] at hc
  have m1 : mulOk x.num y.den = true := mul_ok hx.2 (fd hy)
  have m2 : mulOk y.num x.den = true := mul_ok hy.2 (fd hx)
  have m3 : mulOk x.den y.den = true := mul_ok (fd hx) (fd hy)
  have m4 : mulOk x.num y.num = true := mul_ok hx.2 hy.2
  have m5 : mulOk x.den y.num = true := mul_ok (fd hx) hy.2
  refine ⟨[.sh (rt x), .sh (rt y)], ?_, by simp⟩
  unfold rt at hc ⊢
  simp [k91_d_minus, k91_b_minus, exs, ev, op2, opd, res, argSl, musOf, nodupB, wbk, binD, addD, mulD, idxD, atI, ixN, m1, m2, m3, m4, m5, hc]
theorem ptimes_ok (hx : Fit x) (hy : Fit y) : Gv 25 [rt x, rt y] (rt (x * y)) := by
  refine gv (d := k91_d_times) rfl rfl fun Φ hΦ => ?_
  have hb : ((x.den : Int) * y.den).natAbs < 2 ^ 1000 := up_pow (nb (fd hx) (fd hy)) (by decide)
  have ht : (x.num * y.num).natAbs < 2 ^ 1040 := nb hx.2 hy.2
  have h0 : 0 < (x.den : Int) * y.den := Int.mul_pos (den_pos x) (den_pos y)
  have hc := (lowest_ok (a := x.num * y.num) h0 hb).on (hΦ 16 (by decide))
  rw [mul_eq x y] at hc
  simp only [List.map_cons, List.map_nil] at hc
  have m1 : mulOk x.num y.den = true := mul_ok hx.2 (fd hy)
  have m2 : mulOk y.num x.den = true := mul_ok hy.2 (fd hx)
  have m3 : mulOk x.den y.den = true := mul_ok (fd hx) (fd hy)
  have m4 : mulOk x.num y.num = true := mul_ok hx.2 hy.2
  have m5 : mulOk x.den y.num = true := mul_ok (fd hx) hy.2
  refine ⟨[.sh (rt x), .sh (rt y)], ?_, by simp⟩
  unfold rt at hc ⊢
  simp [k91_d_times, k91_b_times, exs, ev, op2, opd, res, argSl, musOf, nodupB, wbk, binD, addD, mulD, idxD, atI, ixN, m1, m2, m3, m4, m5, hc]
theorem pover_ok (hx : Fit x) (hy : Fit y) (h : 0 < y) : Gv 17 [rt x, rt y] (rt (x / y)) := by
  refine gv (d := k91_d_over) rfl rfl fun Φ hΦ => ?_
  have hn : 0 < y.num := num_pos' h
  have hb : ((x.den : Int) * y.num).natAbs < 2 ^ 1000 := up_pow (nb (fd hx) hy.2) (by decide)
  have ht : (x.num * y.den).natAbs < 2 ^ 1000 := nb hx.2 (fd hy)
  have h0 : 0 < (x.den : Int) * y.num := Int.mul_pos (den_pos x) hn
  have hc := (lowest_ok (a := x.num * y.den) h0 hb).on (hΦ 16 (by decide))
  rw [div_eq x y h] at hc
  simp only [List.map_cons, List.map_nil] at hc
  have m1 : mulOk x.num y.den = true := mul_ok hx.2 (fd hy)
  have m2 : mulOk y.num x.den = true := mul_ok hy.2 (fd hx)
  have m3 : mulOk x.den y.den = true := mul_ok (fd hx) (fd hy)
  have m4 : mulOk x.num y.num = true := mul_ok hx.2 hy.2
  have m5 : mulOk x.den y.num = true := mul_ok (fd hx) hy.2
  refine ⟨[.sh (rt x), .sh (rt y)], ?_, by simp⟩
  unfold rt at hc ⊢
  simp [k91_d_over, k91_b_over, exs, ev, op2, opd, res, argSl, musOf, nodupB, wbk, binD, addD, mulD, idxD, atI, ixN, m1, m2, m3, m4, m5, hc]
theorem pbelow_ok (hx : Fit x) (hy : Fit y) : Gv 18 [rt x, rt y] (.bool (decide (x < y))) := by
  refine gv (d := k91_d_is_below) rfl rfl fun Φ hΦ => ?_
  have m1 : mulOk x.num y.den = true := mul_ok hx.2 (fd hy)
  have m2 : mulOk y.num x.den = true := mul_ok hy.2 (fd hx)
  have m3 : mulOk x.den y.den = true := mul_ok (fd hx) (fd hy)
  have m4 : mulOk x.num y.num = true := mul_ok hx.2 hy.2
  have m5 : mulOk x.den y.num = true := mul_ok (fd hx) hy.2
  refine ⟨[.sh (rt x), .sh (rt y)], ?_, by simp⟩
  unfold rt
  simp [k91_d_is_below, k91_b_is_below, exs, ev, op2, opd, res, binD, mulD, idxD, atI, ixN, cmpD, ltD, Rat.lt_iff, m1, m2, m3, m4, m5]
theorem lplus_ok (hx : Fit x) (hy : Fit y) : Gv 36 [rt x, rt y] (rt (x + y)) := by
  refine gv (d := k91_d__law_plus) rfl rfl fun Φ hΦ => ?_
  have hb : ((x.den : Int) * y.den).natAbs < 2 ^ 1000 := up_pow (nb (fd hx) (fd hy)) (by decide)
  have ht : (x.num * y.den + y.num * x.den).natAbs < 2 ^ 1001 := nadd (nb hx.2 (fd hy)) (nb hy.2 (fd hx))
  have h0 : 0 < (x.den : Int) * y.den := Int.mul_pos (den_pos x) (den_pos y)
  have hc := (ratio_ok (a := x.num * y.den + y.num * x.den) h0 hb (up_pow ht (by decide))).on (hΦ 30 (by decide))
  rw [add_eq x y] at hc
  simp only [List.map_cons, List.map_nil] at hc
  have m1 : mulOk x.num y.den = true := mul_ok hx.2 (fd hy)
  have m2 : mulOk y.num x.den = true := mul_ok hy.2 (fd hx)
  have m3 : mulOk x.den y.den = true := mul_ok (fd hx) (fd hy)
  have m4 : mulOk x.num y.num = true := mul_ok hx.2 hy.2
  have m5 : mulOk x.den y.num = true := mul_ok (fd hx) hy.2
  refine ⟨[.sh (rt x), .sh (rt y)], ?_, by simp⟩
  unfold rt at hc ⊢
  simp [k91_d__law_plus, k91_b__law_plus, exs, ev, op2, opd, res, argSl, musOf, nodupB, wbk, binD, addD, mulD, idxD, atI, ixN, m1, m2, m3, m4, m5, hc]
theorem lminus_ok (hx : Fit x) (hy : Fit y) : Gv 37 [rt x, rt y] (rt (x - y)) := by
  refine gv (d := k91_d__law_less) rfl rfl fun Φ hΦ => ?_
  have hb : ((x.den : Int) * y.den).natAbs < 2 ^ 1000 := up_pow (nb (fd hx) (fd hy)) (by decide)
  have ht : (x.num * y.den - y.num * x.den).natAbs < 2 ^ 1001 := nsub (nb hx.2 (fd hy)) (nb hy.2 (fd hx))
  have h0 : 0 < (x.den : Int) * y.den := Int.mul_pos (den_pos x) (den_pos y)
  have hc := (ratio_ok (a := x.num * y.den - y.num * x.den) h0 hb (up_pow ht (by decide))).on (hΦ 30 (by decide))
  rw [sub_eq x y] at hc
  simp only [List.map_cons, List.map_nil] at hc
  have m1 : mulOk x.num y.den = true := mul_ok hx.2 (fd hy)
  have m2 : mulOk y.num x.den = true := mul_ok hy.2 (fd hx)
  have m3 : mulOk x.den y.den = true := mul_ok (fd hx) (fd hy)
  have m4 : mulOk x.num y.num = true := mul_ok hx.2 hy.2
  have m5 : mulOk x.den y.num = true := mul_ok (fd hx) hy.2
  refine ⟨[.sh (rt x), .sh (rt y)], ?_, by simp⟩
  unfold rt at hc ⊢
  simp [k91_d__law_less, k91_b__law_less, exs, ev, op2, opd, res, argSl, musOf, nodupB, wbk, binD, addD, mulD, idxD, atI, ixN, m1, m2, m3, m4, m5, hc]
theorem ltimes_ok (hx : Fit x) (hy : Fit y) : Gv 35 [rt x, rt y] (rt (x * y)) := by
  refine gv (d := k91_d__law_times) rfl rfl fun Φ hΦ => ?_
  have hb : ((x.den : Int) * y.den).natAbs < 2 ^ 1000 := up_pow (nb (fd hx) (fd hy)) (by decide)
  have ht : (x.num * y.num).natAbs < 2 ^ 1040 := nb hx.2 hy.2
  have h0 : 0 < (x.den : Int) * y.den := Int.mul_pos (den_pos x) (den_pos y)
  have hc := (ratio_ok (a := x.num * y.num) h0 hb (up_pow ht (by decide))).on (hΦ 30 (by decide))
  rw [mul_eq x y] at hc
  simp only [List.map_cons, List.map_nil] at hc
  have m1 : mulOk x.num y.den = true := mul_ok hx.2 (fd hy)
  have m2 : mulOk y.num x.den = true := mul_ok hy.2 (fd hx)
  have m3 : mulOk x.den y.den = true := mul_ok (fd hx) (fd hy)
  have m4 : mulOk x.num y.num = true := mul_ok hx.2 hy.2
  have m5 : mulOk x.den y.num = true := mul_ok (fd hx) hy.2
  refine ⟨[.sh (rt x), .sh (rt y)], ?_, by simp⟩
  unfold rt at hc ⊢
  simp [k91_d__law_times, k91_b__law_times, exs, ev, op2, opd, res, argSl, musOf, nodupB, wbk, binD, addD, mulD, idxD, atI, ixN, m1, m2, m3, m4, m5, hc]
theorem lover_ok (hx : Fit x) (hy : Fit y) (h : 0 < y) : Gv 33 [rt x, rt y] (rt (x / y)) := by
  refine gv (d := k91_d__law_over) rfl rfl fun Φ hΦ => ?_
  have hn : 0 < y.num := num_pos' h
  have hb : ((x.den : Int) * y.num).natAbs < 2 ^ 1000 := up_pow (nb (fd hx) hy.2) (by decide)
  have ht : (x.num * y.den).natAbs < 2 ^ 1000 := nb hx.2 (fd hy)
  have h0 : 0 < (x.den : Int) * y.num := Int.mul_pos (den_pos x) hn
  have hc := (ratio_ok (a := x.num * y.den) h0 hb (up_pow ht (by decide))).on (hΦ 30 (by decide))
  rw [div_eq x y h] at hc
  simp only [List.map_cons, List.map_nil] at hc
  have m1 : mulOk x.num y.den = true := mul_ok hx.2 (fd hy)
  have m2 : mulOk y.num x.den = true := mul_ok hy.2 (fd hx)
  have m3 : mulOk x.den y.den = true := mul_ok (fd hx) (fd hy)
  have m4 : mulOk x.num y.num = true := mul_ok hx.2 hy.2
  have m5 : mulOk x.den y.num = true := mul_ok (fd hx) hy.2
  refine ⟨[.sh (rt x), .sh (rt y)], ?_, by simp⟩
  unfold rt at hc ⊢
  simp [k91_d__law_over, k91_b__law_over, exs, ev, op2, opd, res, argSl, musOf, nodupB, wbk, binD, addD, mulD, idxD, atI, ixN, m1, m2, m3, m4, m5, hc]
theorem lbelow_ok (hx : Fit x) (hy : Fit y) : Gv 31 [rt x, rt y] (.bool (decide (x < y))) := by
  refine gv (d := k91_d__law_is_below) rfl rfl fun Φ hΦ => ?_
  have m1 : mulOk x.num y.den = true := mul_ok hx.2 (fd hy)
  have m2 : mulOk y.num x.den = true := mul_ok hy.2 (fd hx)
  have m3 : mulOk x.den y.den = true := mul_ok (fd hx) (fd hy)
  have m4 : mulOk x.num y.num = true := mul_ok hx.2 hy.2
  have m5 : mulOk x.den y.num = true := mul_ok (fd hx) hy.2
  refine ⟨[.sh (rt x), .sh (rt y)], ?_, by simp⟩
  unfold rt
  simp [k91_d__law_is_below, k91_b__law_is_below, exs, ev, op2, opd, res, binD, mulD, idxD, atI, ixN, cmpD, ltD, Rat.lt_iff, m1, m2, m3, m4, m5]
end
end
/-! K92G -/
section
theorem Fit.lo {m x : Rat} (h1 : Fit m) (h2 : Fit x) : Fit (lo m x) := by unfold Iv.lo; split <;> assumption
theorem least_ok {x : Rat} {xs : List Rat} (hx : Fit x) (hs : ∀ y ∈ xs, Fit y) : Gv 22 [.list ((x :: xs).map rt)] (rt (xs.foldl lo x)) := by
  refine gv (d := k91_d_least_of) rfl rfl fun Φ hΦ => ?_
  obtain ⟨s3, fl⟩ := fold_run (Φ := Φ) (st := .sh (.list ((x :: xs).map rt))) (cal := .call 18 (.cons (.var 2) (.cons (.var 1) .nil))) (cmp := lo) (fun m x => Fit.lo) (fun m y h1 h2 => by
      have hc := (pbelow_ok h2 h1).on (hΦ 18 (by decide))
      simp only [List.map_cons, List.map_nil] at hc
      by_cases hlt : y < m
      · simp [exs, ev, opT, opd, res, rdv, argSl, musOf, nodupB, wbk, hc, truth, tgOk, tgIxs, putOk, bindT, lo, hlt]
      · simp [exs, ev, opT, opd, res, rdv, argSl, musOf, nodupB, wbk, hc, truth, tgOk, tgIxs, putOk, bindT, lo, hlt]) hx hs
  refine ⟨[.sh (.list ((x :: xs).map rt)), .sh (rt (xs.foldl lo x)), s3], ?_, by simp⟩
  refine exs_nx (e1 := [.sh (.list ((x :: xs).map rt)), .sh (rt x), .un]) ?_ (exs_nx (e1 := [.sh (.list ((x :: xs).map rt)), .sh (rt (xs.foldl lo x)), s3]) ?_ ?_)
  · simp [k91_d_least_of, exs, ev, op2, opd, res, idxD, atI, ixN, tgOk, tgIxs, putOk, bindT]
  · rw [← fl]
    simp only [exs, ev, opd, res, List.getElem?_cons_zero, partOf, slcD, List.map_cons, cut1, Option.map_some, walkD, itemsOf, List.append_nil]
  · simp [exs, ev, rdv]
theorem greatest_ok {x : Rat} {xs : List Rat} (hx : Fit x) (hs : ∀ y ∈ xs, Fit y) : Gv 19 [.list ((x :: xs).map rt)] (rt (xs.foldl hi x)) := by
  refine gv (d := k91_d_greatest_of) rfl rfl fun Φ hΦ => ?_
  obtain ⟨s3, fl⟩ := fold_run (Φ := Φ) (st := .sh (.list ((x :: xs).map rt))) (cal := .call 18 (.cons (.var 1) (.cons (.var 2) .nil))) (cmp := hi) (fun m x => Fit.hi) (fun m y h1 h2 => by
      have hc := (pbelow_ok h1 h2).on (hΦ 18 (by decide))
      simp only [List.map_cons, List.map_nil] at hc
      by_cases hlt : m < y
      · simp [exs, ev, opT, opd, res, rdv, argSl, musOf, nodupB, wbk, hc, truth, tgOk, tgIxs, putOk, bindT, hi, hlt]
      · simp [exs, ev, opT, opd, res, rdv, argSl, musOf, nodupB, wbk, hc, truth, tgOk, tgIxs, putOk, bindT, hi, hlt]) hx hs
  refine ⟨[.sh (.list ((x :: xs).map rt)), .sh (rt (xs.foldl hi x)), s3], ?_, by simp⟩
  refine exs_nx (e1 := [.sh (.list ((x :: xs).map rt)), .sh (rt x), .un]) ?_ (exs_nx (e1 := [.sh (.list ((x :: xs).map rt)), .sh (rt (xs.foldl hi x)), s3]) ?_ ?_)
  · simp [k91_d_greatest_of, exs, ev, op2, opd, res, idxD, atI, ixN, tgOk, tgIxs, putOk, bindT]
  · rw [← fl]
    simp only [exs, ev, opd, res, List.getElem?_cons_zero, partOf, slcD, List.map_cons, cut1, Option.map_some, walkD, itemsOf, List.append_nil]
  · simp [exs, ev, rdv]
theorem lo_self (x : Rat) : lo x x = x := by unfold lo; split <;> rfl
theorem lleast_ok {x : Rat} {xs : List Rat} (hx : Fit x) (hs : ∀ y ∈ xs, Fit y) : Gv 34 [.list ((x :: xs).map rt)] (rt (xs.foldl lo x)) := by
  refine gv (d := k91_d__law_least) rfl rfl fun Φ hΦ => ?_
  obtain ⟨s3, fl⟩ := fold_run (Φ := Φ) (st := .sh (.list ((x :: xs).map rt))) (cal := .call 31 (.cons (.var 2) (.cons (.var 1) .nil))) (cmp := lo) (fun m x => Fit.lo) (fun m y h1 h2 => by
      have hc := (lbelow_ok h2 h1).on (hΦ 31 (by decide))
      simp only [List.map_cons, List.map_nil] at hc
      by_cases hlt : y < m
      · simp [exs, ev, opT, opd, res, rdv, argSl, musOf, nodupB, wbk, hc, truth, tgOk, tgIxs, putOk, bindT, lo, hlt]
      · simp [exs, ev, opT, opd, res, rdv, argSl, musOf, nodupB, wbk, hc, truth, tgOk, tgIxs, putOk, bindT, lo, hlt]) (x := x) (xs := x :: xs) hx (fun y hy => by
      rcases List.mem_cons.mp hy with rfl | h
      · exact hx
      · exact hs y h)
  rw [List.foldl_cons, lo_self] at fl
  refine ⟨[.sh (.list ((x :: xs).map rt)), .sh (rt (xs.foldl lo x)), s3], ?_, by simp⟩
  refine exs_nx (e1 := [.sh (.list ((x :: xs).map rt)), .sh (rt x), .un]) ?_ (exs_nx (e1 := [.sh (.list ((x :: xs).map rt)), .sh (rt (xs.foldl lo x)), s3]) ?_ ?_)
  · simp [k91_d__law_least, exs, ev, op2, opd, res, idxD, atI, ixN, tgOk, tgIxs, putOk, bindT]
  · rw [← fl]
    simp only [exs, ev, rdv, List.getElem?_cons_zero, walkD, itemsOf]
  · simp [exs, ev, rdv]
end
/-! K92H -/
section
section
variable {u : U} {ts : List Nat}
theorem height_ok (hu : Vu ts.length u) (ht : Vt ts) : Gv 20 [ud u, .tuple (ts.map nd)] (rt (hgtM u ts)) := by
  refine gv (d := k91_d_height) rfl rfl fun Φ hΦ => ?_
  refine ⟨[.sh (ud u), .sh (.tuple (ts.map nd)), .un, .un], ?_, by simp⟩
  obtain ⟨x, xs, e⟩ := hgt_ne hu ht
  have hfit := hgt_fit hu ht
  rw [e] at hfit
  have hl : ev Φ (.lc [("need", 2), ("total", 3)] (.tp [2, 3]) .zip (.idx (.var 0) (.cst (.int 2))) (.var 1) .noe (.call 17 (.cons (.tup (.cons (.var 2) (.cons (.cst (.int 1)) .nil))) (.cons (.tup (.cons (.var 3) (.cons (.cst (.int 1)) .nil))) .nil)))) [.sh (ud u), .sh (.tuple (ts.map nd)), .un, .un] = some (.list ((x :: xs).map rt), [.sh (ud u), .sh (.tuple (ts.map nd)), .un, .un]) := by
    have := ev_lcP (Φ := Φ) (own := [("need", 2), ("total", 3)]) (g := .tp [2, 3]) (k := .zip) (a := .idx (.var 0) (.cst (.int 2))) (b := .var 1) (c := .noe) (f := .call 17 (.cons (.tup (.cons (.var 2) (.cons (.cst (.int 1)) .nil))) (.cons (.tup (.cons (.var 3) (.cons (.cst (.int 1)) .nil))) .nil)))
      (e := [.sh (ud u), .sh (.tuple (ts.map nd)), .un, .un]) pr2 (fun _ => true) (fun p => rt ((p.1 : Rat) / (p.2 : Rat))) (u.ns.zip ts) (by simp [ev, op2, opd, res, idxD, atI, ixN, ud]) rfl (walk_zip u.ns ts) (fun p hp => by
        obtain ⟨h1, h2⟩ := List.of_mem_zip hp
        have k1 := hu.le _ h1
        have k2 := ht.le _ h2
        have f1 : Fit (p.1 : Rat) := fit_nat (Nat.lt_of_le_of_lt k1 (by decide))
        have f2 : Fit (p.2 : Rat) := fit_nat (Nat.lt_of_le_of_lt k2.2 (by decide))
        have hc := (pover_ok f1 f2 (Fl.cast_pos (by omega))).on (hΦ 17 (by decide))
        rw [rt_nat, rt_nat] at hc
        simp only [List.map_cons, List.map_nil, one1] at hc
        refine ⟨[.sh (ud u), .sh (.tuple (ts.map nd)), .sh (nd p.1), .sh (nd p.2)], rfl, rfl, fun _ => ?_, rfl⟩
        simp [ev, rdv, argSl, musOf, nodupB, wbk, nd, z2, hc]) (sz (zlen hu ht))
    rw [this]
    rw [show (u.ns.zip ts).filter (fun _ => true) = u.ns.zip ts from List.filter_eq_self.mpr fun _ _ => rfl]
    rw [← e]
    unfold hgt
    rw [List.map_map]
    rfl
  have hc := (greatest_ok (x := x) (xs := xs) (hfit x List.mem_cons_self) (fun y hy => hfit y (List.mem_cons_of_mem _ hy))).on (hΦ 19 (by decide))
  have em : hgtM u ts = xs.foldl hi x := by unfold hgtM; rw [e]
  rw [em]
  simp only [List.map_cons, List.map_nil] at hc hl
  show exs Φ (.consB (.ret (.call 19 (.cons _ .nil))) .nilB) [.sh (ud u), .sh (.tuple (ts.map nd)), .un, .un] = _
  simp only [exs, ev.eq_def Φ (.call 19 _), ev.eq_def Φ (.cons _ _), ev.eq_def Φ .nil, hl, argSl, musOf, nodupB, hc, wbk]
  rfl
def spd (u : U) (ts : List Nat) : Rat := (u.w : Rat) / hgtM u ts
theorem speed_ok (hu : Vu ts.length u) (ht : Vt ts) : Gv 21 [ud u, .tuple (ts.map nd)] (rt (spd u ts)) := by
  refine gv (d := k91_d_speed) rfl rfl fun Φ hΦ => ?_
  refine ⟨[.sh (ud u), .sh (.tuple (ts.map nd))], ?_, by simp⟩
  have h1 := (height_ok hu ht).on (hΦ 20 (by decide))
  have hw : Fit (u.w : Rat) := fit_nat (Nat.lt_of_le_of_lt hu.w1 (by decide))
  have h2 := (pover_ok hw (hgtM_fit hu ht) (hgtM_pos hu ht)).on (hΦ 17 (by decide))
  rw [rt_nat] at h2
  simp only [List.map_cons, List.map_nil, one1] at h1 h2
  unfold ud at h1 ⊢
  simp [nd] at h1
  simp [k91_d_speed, k91_b_speed, exs, ev, op2, opd, res, rdv, idxD, atI, ixN, nd, argSl, musOf, nodupB, wbk, z2, h1, h2, spd]
/-- speeds: w t / n -/
theorem spd_bd (hu : Vu ts.length u) (ht : Vt ts) : 0 < spd u ts ∧ ∃ n : Nat, 1 ≤ n ∧ n ≤ 99 ∧ Bd n 179982 (spd u ts) := by
  obtain ⟨n, t, _, h1, h1', h2, h2', e⟩ := hgtM_at hu ht
  have hn := Fl.cast_pos (show 0 < n by omega)
  have hT := Fl.cast_pos (show 0 < t by omega)
  have hw := Fl.cast_pos (show 0 < u.w from hu.w0)
  have es : spd u ts = ((u.w * t : Nat) : Rat) / (n : Rat) := by
    unfold spd
    rw [e, Rat.natCast_mul]
    grind
  rw [es]
  refine ⟨frac_pos (Nat.mul_pos hu.w0 (by omega)) (by omega), n, h1, h1', (Bd.frac (u.w * t) n (by omega)).wide ?_⟩
  have := Nat.mul_le_mul hu.w1 h2'
  omega
theorem spd_fit (hu : Vu ts.length u) (ht : Vt ts) : Fit (spd u ts) := by
  obtain ⟨_, n, h1, h2, h3⟩ := spd_bd hu ht
  exact h3.fit (by omega) (Nat.lt_of_le_of_lt h2 (by decide)) (by decide)
end
end
/-! K92I -/
section
def od : Option Rat → D
  | none => .none
  | some q => rt q
/-- the problem of these users -/
def flOf (us : List U) (ts : List Nat) : Fl := ⟨us.length, ts.length, fun i g => (us.getD i U0).ns.getD g 0, fun g => ts.getD g 0, fun i => (us.getD i U0).want, fun i => spd (us.getD i U0) ts⟩
def rtl (qs : List Rat) : D := .list (qs.map rt)
theorem want_stop_ok {u : U} {q : Rat} {G : Nat} (hu : Vu G u) (hq : Fit q) (h0 : 0 < q) : Gv 27 [ud u, rt q] (od (u.want.map fun v => (v : Rat) / q)) := by
  refine gv (d := k91_d_want_stop) rfl rfl fun Φ hΦ => ?_
  refine ⟨[.sh (ud u), .sh (rt q)], ?_, by simp⟩
  cases hw : u.want with
  | none => simp [k91_d_want_stop, k91_b_want_stop, exs, ev, op2, opd, res, opT, rdv, idxD, atI, ixN, ud, hw, wd, cmpD, isNone, truth, od]
  | some v =>
    have hv : Fit (v : Rat) := fit_nat (Nat.lt_of_le_of_lt (hu.want v hw) (by decide))
    have h2 := (pover_ok hv hq h0).on (hΦ 17 (by decide))
    rw [rt_nat] at h2
    simp only [List.map_cons, List.map_nil, one1] at h2
    simp [k91_d_want_stop, k91_b_want_stop, exs, ev, op2, opd, res, opT, rdv, idxD, atI, ixN, ud, hw, wd, cmpD, isNone, truth, od, argSl, musOf, nodupB, wbk, z2, h2]
end
/-! K92J -/
section
theorem rt_inj {a b : Rat} : (a.num = b.num ∧ a.den = b.den) ↔ a = b := by
  constructor
  · rintro ⟨h1, h2⟩
    exact Rat.ext h1 h2
  · rintro rfl
    exact ⟨rfl, rfl⟩
theorem shaped_rt (a : Rat) : SeqAt.shaped (rt a) = true := by
  unfold rt
  simp [SeqAt.shaped, PyData.canLay0, PyData.canLayAll0, PyData.depth, PyData.depthAll]
theorem eqv_rt (a b : Rat) : PyData.eqv (rt a) (rt b) = decide (a = b) := by
  unfold rt
  have e : PyData.eqv (.tuple [.int a.num, .int a.den]) (.tuple [.int b.num, .int b.den]) = ((a.num == b.num) && (((a.den : Int) == (b.den : Int)) && true)) := by
    simp [PyData.eqv, PyData.eqvAll]
  rw [e]
  by_cases h : a = b
  · subst h
    simp
  · rw [decide_eq_false h, Bool.and_true]
    by_cases h1 : a.num = b.num
    · have h2 : ¬ a.den = b.den := fun h2 => h (rt_inj.mp ⟨h1, h2⟩)
      have h3 : ¬ (a.den : Int) = (b.den : Int) := by omega
      have h4 : ((a.den : Int) == (b.den : Int)) = false := by simpa using h3
      rw [h4]
      simp
    · simp [h1]
theorem eq_rt (a b : Rat) : eqD (rt a) (rt b) = some (decide (a = b)) := by
  have h : eqD (rt a) (rt b) = if SeqAt.shaped (rt a) && SeqAt.shaped (rt b) then some (PyData.eqv (rt a) (rt b)) else none := rfl
  rw [h, shaped_rt, shaped_rt, eqv_rt]
  rfl
theorem eq_od (a : Option Rat) (b : Rat) : eqD (od a) (rt b) = some (decide (a = some b)) := by
  cases a with
  | some a =>
    rw [show od (some a) = rt a from rfl, eq_rt]
    simp
  | none =>
    have h : eqD (od none) (rt b) = if SeqAt.shaped .none && SeqAt.shaped (rt b) then some (PyData.eqv .none (rt b)) else none := rfl
    rw [h, shaped_rt]
    unfold rt
    simp [SeqAt.shaped, PyData.canLay0, PyData.depth, PyData.eqv]
end
end Iv
end
section
set_option Elab.async false
set_option linter.all false
set_option maxRecDepth 100000
set_option exponentiation.threshold 3000
set_option maxHeartbeats 4000000
/-! defs as in k92 (printed by trans91.py) -/
namespace Iv
open PySem PySem.Spec L2
/-! K92K -/
section
/-- a row of amounts as a function -/
def fn (am : List Rat) (i : Nat) : Rat := am.getD i 0
def rx (P : Fl) (R : List Nat) (g : Nat) (i : Nat) : Rat := if i ∈ R then P.s i * (P.nd i g : Rat) else 0
def fx (P : Fl) (R : List Nat) (am : Nat → Rat) (g : Nat) (i : Nat) : Rat := if i ∈ R then 0 else am i * (P.nd i g : Rat)
theorem rate_rx (P : Fl) (R : List Nat) (g : Nat) : P.rate R g = S P.n (rx P R g) := rfl
theorem fixd_fx (P : Fl) (R : List Nat) (am : Nat → Rat) (g : Nat) : P.fixd R am g = S P.n (fx P R am g) := rfl
/-- what the loops meet is small enough -/
structure Rn (us : List U) (ts : List Nat) (R : List Nat) (am : List Rat) : Prop where
  ok : ∀ u ∈ us, Vu ts.length u
  vt : Vt ts
  len : am.length = us.length
  lt : ∀ i ∈ R, i < us.length
  fa : ∀ i, i < us.length → i ∉ R → Fit (fn am i)
  fsn : ∀ i g, i < us.length → g < ts.length → Fit ((flOf us ts).s i * ((flOf us ts).nd i g : Rat))
  fan : ∀ i g, i < us.length → g < ts.length → i ∉ R → Fit (fn am i * ((flOf us ts).nd i g : Rat))
  fr : ∀ k g, k ≤ us.length → g < ts.length → Fit (S k (rx (flOf us ts) R g))
  fl : ∀ k g, k ≤ us.length → g < ts.length → Fit (((flOf us ts).T g : Rat) - S k (fx (flOf us ts) R (fn am) g))
  rp : ∀ g, g < ts.length → 0 ≤ (flOf us ts).rate R g
section
variable {us : List U} {ts R : List Nat} {am : List Rat}
theorem need_at (ok : ∀ u ∈ us, Vu ts.length u) {i g : Nat} {u : U} (hi : us[i]? = some u) (hg : g < ts.length) : u.ns[g]? = some ((flOf us ts).nd i g) ∧ (flOf us ts).nd i g ≤ 99 := by
  have hu := ok u (List.mem_of_getElem? hi)
  have e : (flOf us ts).nd i g = u.ns.getD g 0 := by
    show (us.getD i U0).ns.getD g 0 = _
    rw [getD_of hi]
  have h1 : u.ns[g]? = some (u.ns.getD g 0) := at_lt (by rw [hu.len]; exact hg) 0
  rw [e]
  exact ⟨h1, hu.le _ (List.mem_of_getElem? h1)⟩
def spsD (us : List U) (ts : List Nat) : D := rtl (us.map fun u => spd u ts)
theorem sp_at {i : Nat} {u : U} (hi : us[i]? = some u) : (us.map fun u => spd u ts)[i]? = some ((flOf us ts).s i) := by
  rw [List.getElem?_map, hi]
  show some (spd u ts) = some (spd (us.getD i U0) ts)
  rw [getD_of hi]
theorem stop_turn (r : Rn us ts R am) {Φ : Fn} (hΦ : ∀ i, i < 26 → Φ i = T i) {g : Nat} (hg : g < ts.length) {i : Nat} {u : U} (hi : us[i]? = some u) (s10 : Sl) (h10 : s10 = .un ∨ ∃ d, s10 = .sh d) :
    exs Φ (.consB (.asg (.nm 10) (.tup (.cons (.idx (.idx (.var 9) (.cst (.int 2))) (.var 4)) (.cons (.cst (.int 1)) .nil)))) (.consB (.ifs (.cmp .inn (.var 8) (.var 3)) (.consB (.asg (.nm 7) (.call 23 (.cons (.var 7) (.cons (.call 25 (.cons (.idx (.var 1) (.var 8)) (.cons (.var 10) .nil))) .nil)))) .nilB) (.consB (.asg (.nm 6) (.call 24 (.cons (.var 6) (.cons (.call 25 (.cons (.idx (.var 2) (.var 8)) (.cons (.var 10) .nil))) .nil)))) .nilB)) .nilB))
      [.sh (usD us), .sh (spsD us ts), .own false (am.map rt), .sh (ixD R), .sh (nd g), .sh (nd ((flOf us ts).T g)), .sh (rt (((flOf us ts).T g : Rat) - S i (fx (flOf us ts) R (fn am) g))), .sh (rt (S i (rx (flOf us ts) R g))), .sh (nd i), .sh (ud u), s10]
      = some (.nx [.sh (usD us), .sh (spsD us ts), .own false (am.map rt), .sh (ixD R), .sh (nd g), .sh (nd ((flOf us ts).T g)), .sh (rt (((flOf us ts).T g : Rat) - S (i + 1) (fx (flOf us ts) R (fn am) g))), .sh (rt (S (i + 1) (rx (flOf us ts) R g))), .sh (nd i), .sh (ud u), .sh (one1 ((flOf us ts).nd i g))]) := by
  have hil := (List.getElem?_eq_some_iff.mp hi).1
  obtain ⟨n1, n2⟩ := need_at r.ok hi hg
  have hn : Fit (((flOf us ts).nd i g : Nat) : Rat) := fit_nat (Nat.lt_of_le_of_lt n2 (by decide))
  have i1 : idxD (.tuple (u.ns.map nd)) (nd g) = some (nd ((flOf us ts).nd i g)) := idx_t nd n1
  have i2 : idxD (spsD us ts) (nd i) = some (rt ((flOf us ts).s i)) := idx_l rt (sp_at hi)
  have i3 : idxD (.list (am.map rt)) (nd i) = some (rt (fn am i)) := idx_l rt (at_lt (by rw [r.len]; exact hil) 0)
  have i4 : idxD (ud u) (.int 2) = some (.tuple (u.ns.map nd)) := rfl
  have p10 : putOk [.sh (usD us), .sh (spsD us ts), .own false (am.map rt), .sh (ixD R), .sh (nd g), .sh (nd ((flOf us ts).T g)), .sh (rt (((flOf us ts).T g : Rat) - S i (fx (flOf us ts) R (fn am) g))), .sh (rt (S i (rx (flOf us ts) R g))), .sh (nd i), .sh (ud u), s10] 10 = true := by
    rcases h10 with rfl | ⟨d, rfl⟩ <;> rfl
  have hs : Fit ((flOf us ts).s i) := by
    show Fit (spd (us.getD i U0) ts)
    rw [getD_of hi]
    exact spd_fit (r.ok u (List.mem_of_getElem? hi)) r.vt
  refine exs_nx (e1 := [.sh (usD us), .sh (spsD us ts), .own false (am.map rt), .sh (ixD R), .sh (nd g), .sh (nd ((flOf us ts).T g)), .sh (rt (((flOf us ts).T g : Rat) - S i (fx (flOf us ts) R (fn am) g))), .sh (rt (S i (rx (flOf us ts) R g))), .sh (nd i), .sh (ud u), .sh (one1 ((flOf us ts).nd i g))]) ?_ ?_
  · simp [exs, ev, op2, opd, res, i4, i1, tgOk, tgIxs, p10, bindT, z2, one1_nd]
  by_cases hR : i ∈ R
  · have c1 := (ptimes_ok hs hn).on (hΦ 25 (by decide))
    have c2 := (pplus_ok (r.fr i g (by omega) hg) (r.fsn i g hil hg)).on (hΦ 23 (by decide))
    rw [rt_nat] at c1
    simp only [List.map_cons, List.map_nil] at c1 c2
    have e1 : S (i + 1) (fx (flOf us ts) R (fn am) g) = S i (fx (flOf us ts) R (fn am) g) := by
      simp only [S, fx, if_pos hR]
      grind
    have e2 : S (i + 1) (rx (flOf us ts) R g) = S i (rx (flOf us ts) R g) + (flOf us ts).s i * ((flOf us ts).nd i g : Rat) := by
      simp only [S]
      rw [show rx (flOf us ts) R g i = (flOf us ts).s i * ((flOf us ts).nd i g : Rat) from if_pos hR]
    rw [e1, e2]
    simp [exs, tst, opT, ev, op2, opd, res, rdv, cmpD, in_ix, hR, truth, i2, argSl, musOf, nodupB, wbk, c1, c2, tgOk, tgIxs, putOk, bindT]
  · have c1 := (ptimes_ok (r.fa i hil hR) hn).on (hΦ 25 (by decide))
    have c2 := (pminus_ok (r.fl i g (by omega) hg) (r.fan i g hil hg hR)).on (hΦ 24 (by decide))
    rw [rt_nat] at c1
    simp only [List.map_cons, List.map_nil] at c1 c2
    have e1 : S (i + 1) (rx (flOf us ts) R g) = S i (rx (flOf us ts) R g) := by
      simp only [S, rx, if_neg hR]
      grind
    have e2 : ((flOf us ts).T g : Rat) - S (i + 1) (fx (flOf us ts) R (fn am) g) = ((flOf us ts).T g : Rat) - S i (fx (flOf us ts) R (fn am) g) - fn am i * ((flOf us ts).nd i g : Rat) := by
      simp only [S]
      rw [show fx (flOf us ts) R (fn am) g i = fn am i * ((flOf us ts).nd i g : Rat) from if_neg hR]
      grind
    rw [e1, e2]
    simp [exs, tst, opT, ev, op2, opd, res, rdv, cmpD, in_ix, hR, truth, i3, argSl, musOf, nodupB, wbk, c1, c2, tgOk, tgIxs, putOk, bindT]
theorem gv2 {j : Nat} {d : De} {args os : List Sl} {r : D} (hj : k91_ds.reverse[j]? = some d) (hn : args.length = d.ps.length) (h : ∀ Φ : Fn, (∀ i, i < j → Φ i = T i) → ∃ e, exs Φ d.body (args ++ List.replicate (d.N.length - d.ps.length) .un) = some (.rt r e) ∧ outs args e = some os) : T j args = some (r, os) := by
  obtain ⟨Φ, hΦ, hT⟩ := tab_run hj
  obtain ⟨e, h1, h2⟩ := h Φ hΦ
  rw [T, hT]
  unfold run De.df
  simp only [hn, if_true, h1, h2, Option.map_some]
theorem good_stop_ok (r : Rn us ts R am) {g : Nat} (hg : g < ts.length) : T 26 [.sh (usD us), .sh (spsD us ts), .own false (am.map rt), .sh (ixD R), .sh (nd g), .sh (nd ((flOf us ts).T g))] = some (od ((flOf us ts).gst R (fn am) g), [.sh (usD us), .sh (spsD us ts), .own false (am.map rt), .sh (ixD R), .sh (nd g), .sh (nd ((flOf us ts).T g))]) := by
  refine gv2 (d := k91_d_good_stop) rfl rfl fun Φ hΦ => ?_
  obtain ⟨z, hz, lp⟩ := for_at (g := .tp [8, 9]) (f := exs Φ (.consB (.asg (.nm 10) (.tup (.cons (.idx (.idx (.var 9) (.cst (.int 2))) (.var 4)) (.cons (.cst (.int 1)) .nil)))) (.consB (.ifs (.cmp .inn (.var 8) (.var 3)) (.consB (.asg (.nm 7) (.call 23 (.cons (.var 7) (.cons (.call 25 (.cons (.idx (.var 1) (.var 8)) (.cons (.var 10) .nil))) .nil)))) .nilB) (.consB (.asg (.nm 6) (.call 24 (.cons (.var 6) (.cons (.call 25 (.cons (.idx (.var 2) (.var 8)) (.cons (.var 10) .nil))) .nil)))) .nilB)) .nilB)))
    (at2 ud) (fun k (z : Sl × Sl × Sl) => [.sh (usD us), .sh (spsD us ts), .own false (am.map rt), .sh (ixD R), .sh (nd g), .sh (nd ((flOf us ts).T g)), .sh (rt (((flOf us ts).T g : Rat) - S k (fx (flOf us ts) R (fn am) g))), .sh (rt (S k (rx (flOf us ts) R g))), z.1, z.2.1, z.2.2])
    (fun z => (z.1 = .un ∨ ∃ d, z.1 = .sh d) ∧ (z.2.1 = .un ∨ ∃ d, z.2.1 = .sh d) ∧ (z.2.2 = .un ∨ ∃ d, z.2.2 = .sh d)) us.zipIdx 0 (.un, .un, .un) ⟨.inl rfl, .inl rfl, .inl rfl⟩ (fun i x z hx ⟨z1, z2, z3⟩ => by
      rw [List.getElem?_zipIdx] at hx
      obtain ⟨u, hu, rfl⟩ := Option.map_eq_some_iff.mp hx
      have st := stop_turn r hΦ hg hu z.2.2 z3
      rw [Nat.zero_add] at *
      refine ⟨?_, _, (.sh (nd i), .sh (ud u), .sh (one1 ((flOf us ts).nd i g))), rfl, ?_, .inr ⟨_, rfl⟩, .inr ⟨_, rfl⟩, .inr ⟨_, rfl⟩⟩
      · obtain ⟨a, b, c⟩ := z
        rcases z1 with h1 | ⟨_, h1⟩ <;> rcases z2 with h2 | ⟨_, h2⟩ <;> (dsimp only at h1 h2; subst h1; subst h2; rfl)
      · simp only [Nat.zero_add] at st ⊢
        exact st)
  rw [Nat.zero_add, List.length_zipIdx] at lp
  have e0 : ((flOf us ts).T g : Rat) - S 0 (fx (flOf us ts) R (fn am) g) = (((flOf us ts).T g : Nat) : Rat) := by
    simp only [S]
    grind
  rw [e0] at lp
  refine ⟨[.sh (usD us), .sh (spsD us ts), .own false (am.map rt), .sh (ixD R), .sh (nd g), .sh (nd ((flOf us ts).T g)), .sh (rt (((flOf us ts).T g : Rat) - S us.length (fx (flOf us ts) R (fn am) g))), .sh (rt (S us.length (rx (flOf us ts) R g))), z.1, z.2.1, z.2.2], ?_, rfl⟩
  refine exs_nx (e1 := [.sh (usD us), .sh (spsD us ts), .own false (am.map rt), .sh (ixD R), .sh (nd g), .sh (nd ((flOf us ts).T g)), .sh (one1 ((flOf us ts).T g)), .sh (rt 0), .un, .un, .un]) ?_ (exs_nx (e1 := [.sh (usD us), .sh (spsD us ts), .own false (am.map rt), .sh (ixD R), .sh (nd g), .sh (nd ((flOf us ts).T g)), .sh (rt (((flOf us ts).T g : Rat) - S us.length (fx (flOf us ts) R (fn am) g))), .sh (rt (S us.length (rx (flOf us ts) R g))), z.1, z.2.1, z.2.2]) ?_ ?_)
  · have e1 : rt 0 = .tuple [.int 0, .int 1] := rfl
    simp [k91_d_good_stop, exs, ev, rdv, putSl, putOk, z2, one1_nd, e1]
  · rw [← lp]
    simp only [exs, ev, rdv, List.getElem?_cons_zero]
    rw [show walkD .enm (usD us) .none = some (us.zipIdx.map (at2 ud)) from walk_enm_t ud us]
    rfl
  · have e1 : (PyData.tuple [.int 0, .int 1]) = rt 0 := rfl
    unfold Fl.gst
    by_cases h0 : (flOf us ts).rate R g = 0
    · rw [if_pos h0]
      rw [rate_rx] at h0
      have h0 : S us.length (rx (flOf us ts) R g) = 0 := h0
      rw [h0]
      simp [exs, ev, opT, op2, opd, res, rdv, cmpD, e1, eq_rt, truth, od]
    · rw [if_neg h0]
      have hp : 0 < (flOf us ts).rate R g := by
        have := r.rp g hg
        grind
      have c1 := (pover_ok (r.fl us.length g (Nat.le_refl _) hg) (r.fr us.length g (Nat.le_refl _) hg) hp).on (hΦ 17 (by decide))
      simp only [List.map_cons, List.map_nil] at c1
      rw [rate_rx] at h0
      have h0 : ¬ S us.length (rx (flOf us ts) R g) = 0 := h0
      simp [exs, ev, opT, op2, opd, res, rdv, cmpD, e1, eq_rt, truth, od, h0, argSl, musOf, nodupB, wbk, c1]
      rfl
end
end
/-! K92L -/
section
section
variable {us : List U} {ts R : List Nat} {am : List Rat} {Φ : Fn} {s6 s7 s8 s9 s10 s11 s12 s13 s14 s15 : Sl} {rows : List D}
/-- the goods' stops of a turn -/
def gss (us : List U) (ts R : List Nat) (am : List Rat) : List (Option Rat) := (List.range ts.length).map fun g => (flOf us ts).gst R (fn am) g
theorem T_at {p : Nat × Nat} (h : p ∈ ts.zipIdx) : p.2 < ts.length ∧ (flOf us ts).T p.2 = p.1 := by
  obtain ⟨i, hi⟩ := List.mem_iff_getElem?.mp h
  rw [List.getElem?_zipIdx] at hi
  obtain ⟨t, h1, rfl⟩ := Option.map_eq_some_iff.mp hi
  rw [Nat.zero_add]
  exact ⟨(List.getElem?_eq_some_iff.mp h1).1, getD_of h1⟩
theorem zip_range {α β : Type} (f : Nat → β) (xs : List α) : xs.zipIdx.map (fun p => f p.2) = (List.range xs.length).map f := by
  refine List.ext_getElem? fun i => ?_
  rw [List.getElem?_map, List.getElem?_zipIdx, List.getElem?_map, Nat.zero_add]
  by_cases h : i < xs.length
  · rw [List.getElem?_eq_getElem h, List.getElem?_range h]
    rfl
  · rw [List.getElem?_eq_none (by omega), List.getElem?_eq_none (by rw [List.length_range]; omega)]
    rfl
theorem ev_goods (r : Rn us ts R am) (hΦ : ∀ i, i < 28 → Φ i = T i) :
    ev Φ (.lc [("good", 14), ("total", 15)] (.tp [14, 15]) .enm (.var 1) .noe .noe (.call 26 (.cons (.var 0) (.cons (.var 2) (.cons (.mu 3) (.cons (.var 4) (.cons (.var 14) (.cons (.var 15) .nil))))))))
      [.sh (usD us), .sh (tsD ts), .sh (spsD us ts), .own true (am.map rt), .sh (ixD R), .own true rows, s6, s7, s8, s9, s10, s11, s12, s13, s14, s15]
      = some (.list ((gss us ts R am).map od), [.sh (usD us), .sh (tsD ts), .sh (spsD us ts), .own true (am.map rt), .sh (ixD R), .own true rows, s6, s7, s8, s9, s10, s11, s12, s13, s14, s15]) := by
  have := ev_lcP (Φ := Φ) (own := [("good", 14), ("total", 15)]) (g := .tp [14, 15]) (k := .enm) (a := .var 1) (b := .noe) (c := .noe) (f := .call 26 (.cons (.var 0) (.cons (.var 2) (.cons (.mu 3) (.cons (.var 4) (.cons (.var 14) (.cons (.var 15) .nil)))))))
    (e := [.sh (usD us), .sh (tsD ts), .sh (spsD us ts), .own true (am.map rt), .sh (ixD R), .own true rows, s6, s7, s8, s9, s10, s11, s12, s13, s14, s15]) (x := tsD ts) (y := .none) (at2 nd) (fun _ => true) (fun p => od ((flOf us ts).gst R (fn am) p.2)) ts.zipIdx rfl rfl (walk_enm_t nd ts) (fun p hp => by
      obtain ⟨h1, h2⟩ := T_at (us := us) hp
      have c := good_stop_ok r h1
      rw [h2, ← hΦ 26 (by decide)] at c
      refine ⟨[.sh (usD us), .sh (tsD ts), .sh (spsD us ts), .own true (am.map rt), .sh (ixD R), .own true rows, s6, s7, s8, s9, s10, s11, s12, s13, .sh (nd p.2), .sh (nd p.1)], rfl, rfl, fun _ => ?_, rfl⟩
      simp [ev, rdv, argSl, musOf, nodupB, wbk, c]) (by rw [List.length_zipIdx]; exact sz (by have := r.vt.l1; omega))
  rw [this, all_true]
  unfold gss
  rw [List.map_map, zip_range (fun g => od ((flOf us ts).gst R (fn am) g)) ts]
  rfl
def wss (us : List U) (ts R : List Nat) : List (Option Rat) := R.map fun i => (flOf us ts).wst i
theorem ev_wants (r : Rn us ts R am) (hR : R.length ≤ 100) (hΦ : ∀ i, i < 28 → Φ i = T i) :
    ev Φ (.lc [("at", 11)] (.nm 11) .walk (.var 4) .noe .noe (.call 27 (.cons (.idx (.var 0) (.var 11)) (.cons (.idx (.var 2) (.var 11)) .nil))))
      [.sh (usD us), .sh (tsD ts), .sh (spsD us ts), .own true (am.map rt), .sh (ixD R), .own true rows, s6, s7, s8, s9, s10, s11, s12, s13, s14, s15]
      = some (.list ((wss us ts R).map od), [.sh (usD us), .sh (tsD ts), .sh (spsD us ts), .own true (am.map rt), .sh (ixD R), .own true rows, s6, s7, s8, s9, s10, s11, s12, s13, s14, s15]) := by
  have := ev_lcP (Φ := Φ) (own := [("at", 11)]) (g := .nm 11) (k := .walk) (a := .var 4) (b := .noe) (c := .noe) (f := .call 27 (.cons (.idx (.var 0) (.var 11)) (.cons (.idx (.var 2) (.var 11)) .nil)))
    (e := [.sh (usD us), .sh (tsD ts), .sh (spsD us ts), .own true (am.map rt), .sh (ixD R), .own true rows, s6, s7, s8, s9, s10, s11, s12, s13, s14, s15]) (x := ixD R) (y := .none) nd (fun _ => true) (fun i => od ((flOf us ts).wst i)) R rfl rfl rfl (fun i hi => by
      have hil := r.lt i hi
      obtain ⟨u, hu⟩ : ∃ u, us[i]? = some u := ⟨_, List.getElem?_eq_getElem hil⟩
      have vu := r.ok _ (List.mem_of_getElem? hu)
      have hs := spd_fit vu r.vt
      have hp := (spd_bd vu r.vt).1
      have c := (want_stop_ok vu hs hp).on (hΦ 27 (by decide))
      simp only [List.map_cons, List.map_nil] at c
      have ew : ∀ u, us.getD i U0 = u → (flOf us ts).wst i = (u.want.map fun v => (v : Rat) / spd u ts) := by
        rintro _ rfl
        rfl
      rw [← ew u (getD_of hu)] at c
      have i1 : idxD (usD us) (nd i) = some (ud u) := idx_t ud hu
      have i2 : idxD (spsD us ts) (nd i) = some (rt (spd u ts)) := idx_l rt (by rw [List.getElem?_map, hu]; rfl)
      refine ⟨[.sh (usD us), .sh (tsD ts), .sh (spsD us ts), .own true (am.map rt), .sh (ixD R), .own true rows, s6, s7, s8, s9, s10, .sh (nd i), s12, s13, s14, s15], rfl, rfl, fun _ => ?_, rfl⟩
      simp [ev, op2, opd, res, i1, i2, argSl, musOf, nodupB, wbk, c]) (sz hR)
  rw [this, all_true]
  unfold wss
  rw [List.map_map]
  rfl
/-- what stops are there -/
theorem cands_eq : ((gss us ts R am ++ wss us ts R).filterMap id) = (flOf us ts).cands R (fn am) := by
  unfold gss wss Fl.cands
  rw [List.filterMap_append, List.filterMap_map, List.filterMap_map]
  rfl
theorem od_isn (o : Option Rat) : cmpD .isn (od o) .none = some o.isSome := by
  cases o <;> rfl
theorem filt_od : ∀ os : List (Option Rat), (os.filter (·.isSome)).map od = (os.filterMap id).map rt
  | [] => rfl
  | none :: r => by simpa using filt_od r
  | some q :: r => by
    have := filt_od r
    simp [this, od]
theorem ev_level (hc : (flOf us ts).cands R (fn am) ≠ []) (hf : ∀ q ∈ (flOf us ts).cands R (fn am), Fit q) (hl : ts.length + R.length ≤ 100) (hΦ : ∀ i, i < 28 → Φ i = T i) (a0 a1 a2 a3 a4 a5 : Sl) :
    ev Φ (.call 22 (.cons (.lc [("one", 12)] (.nm 12) .walk (.bin .add (.var 6) (.var 7)) .noe (.cmp .isn (.var 12) (.cst .none)) (.var 12)) .nil))
      [a0, a1, a2, a3, a4, a5, .sh (.list ((gss us ts R am).map od)), .sh (.list ((wss us ts R).map od)), s8, s9, s10, s11, s12, s13, s14, s15]
      = some (rt ((flOf us ts).mark R (fn am)), [a0, a1, a2, a3, a4, a5, .sh (.list ((gss us ts R am).map od)), .sh (.list ((wss us ts R).map od)), s8, s9, s10, s11, s12, s13, s14, s15]) := by
  have l1 : (gss us ts R am).length = ts.length := by unfold gss; rw [List.length_map, List.length_range]
  have l2 : (wss us ts R).length = R.length := by unfold wss; rw [List.length_map]
  have hlc := ev_lcP (Φ := Φ) (own := [("one", 12)]) (g := .nm 12) (k := .walk) (a := .bin .add (.var 6) (.var 7)) (b := .noe) (c := .cmp .isn (.var 12) (.cst .none)) (f := .var 12)
    (e := [a0, a1, a2, a3, a4, a5, .sh (.list ((gss us ts R am).map od)), .sh (.list ((wss us ts R).map od)), s8, s9, s10, s11, s12, s13, s14, s15]) (x := .list ((gss us ts R am ++ wss us ts R).map od)) (y := .none) od (·.isSome) od (gss us ts R am ++ wss us ts R)
    (by
      have hz : (gss us ts R am).length + (wss us ts R).length ≤ sizeLine := by rw [l1, l2]; exact sz hl
      simp [ev, op2, opd, res, binD, addD, hz]) rfl rfl (fun o ho => by
      refine ⟨[a0, a1, a2, a3, a4, a5, .sh (.list ((gss us ts R am).map od)), .sh (.list ((wss us ts R).map od)), s8, s9, s10, s11, .sh (od o), s13, s14, s15], rfl, ?_, fun _ => rfl, rfl⟩
      simp [lcT, opT, opd, ev, op2, res, od_isn, truth]) (by rw [List.length_append, l1, l2]; exact sz hl)
  rw [filt_od, cands_eq] at hlc
  cases hcc : (flOf us ts).cands R (fn am) with
  | nil => exact absurd hcc hc
  | cons x xs =>
    rw [hcc] at hlc hf
    have c := (least_ok (x := x) (xs := xs) (hf x List.mem_cons_self) fun y hy => hf y (List.mem_cons_of_mem _ hy)).on (hΦ 22 (by decide))
    simp only [List.map_cons, List.map_nil] at c hlc
    have em : (flOf us ts).mark R (fn am) = xs.foldl lo x := by unfold Fl.mark; rw [hcc]
    rw [em]
    simp only [ev.eq_def Φ (.call 22 _), ev.eq_def Φ (.cons _ _), ev.eq_def Φ .nil, hlc, argSl, musOf, nodupB, c, wbk]
    rfl
theorem zip_of_range {β : Type} (f : Nat → β) (n : Nat) : ((List.range n).map f).zipIdx = (List.range n).map fun g => (f g, g) := by
  refine List.ext_getElem? fun i => ?_
  rw [List.getElem?_zipIdx, List.getElem?_map, List.getElem?_map, Nat.zero_add]
  by_cases h : i < n
  · rw [List.getElem?_range h]
    rfl
  · rw [List.getElem?_eq_none (by rw [List.length_range]; omega)]
    rfl
theorem full_eq : ((gss us ts R am).zipIdx.filter fun p => decide (p.1 = some ((flOf us ts).mark R (fn am)))).map (fun p => nd p.2) = ((flOf us ts).full R (fn am)).map nd := by
  unfold gss Fl.full
  rw [zip_of_range, List.filter_map, List.map_map]
  rfl
theorem ev_full (hg : ts.length ≤ 100) (a0 a1 a2 a3 a4 a5 a7 : Sl) :
    ev Φ (.lc [("good", 14), ("one", 12)] (.tp [14, 12]) .enm (.var 6) .noe (.cmp .eq (.var 12) (.var 8)) (.var 14))
      [a0, a1, a2, a3, a4, a5, .sh (.list ((gss us ts R am).map od)), a7, .sh (rt ((flOf us ts).mark R (fn am))), s9, s10, s11, s12, s13, s14, s15]
      = some (ixD ((flOf us ts).full R (fn am)), [a0, a1, a2, a3, a4, a5, .sh (.list ((gss us ts R am).map od)), a7, .sh (rt ((flOf us ts).mark R (fn am))), s9, s10, s11, s12, s13, s14, s15]) := by
  have hlc := ev_lcP (Φ := Φ) (own := [("good", 14), ("one", 12)]) (g := .tp [14, 12]) (k := .enm) (a := .var 6) (b := .noe) (c := .cmp .eq (.var 12) (.var 8)) (f := .var 14)
    (e := [a0, a1, a2, a3, a4, a5, .sh (.list ((gss us ts R am).map od)), a7, .sh (rt ((flOf us ts).mark R (fn am))), s9, s10, s11, s12, s13, s14, s15]) (x := .list ((gss us ts R am).map od)) (y := .none) (at2 od) (fun p => decide (p.1 = some ((flOf us ts).mark R (fn am)))) (fun p => nd p.2) (gss us ts R am).zipIdx
    rfl rfl (walk_enm_l od _) (fun p hp => by
      refine ⟨[a0, a1, a2, a3, a4, a5, .sh (.list ((gss us ts R am).map od)), a7, .sh (rt ((flOf us ts).mark R (fn am))), s9, s10, s11, .sh (od p.1), s13, .sh (nd p.2), s15], rfl, ?_, fun _ => rfl, rfl⟩
      simp [lcT, opT, opd, ev, op2, res, cmpD, eq_od, truth]) (by rw [List.length_zipIdx]; unfold gss; rw [List.length_map, List.length_range]; exact sz hg)
  rw [hlc, full_eq]
  rfl
theorem ev_any {L : List Nat} {i : Nat} (ok : ∀ u ∈ us, Vu ts.length u) (hi : i < us.length) (hL : ∀ g ∈ L, g < ts.length) (hl : L.length ≤ 100) (a1 a2 a3 a4 a5 a6 a7 a8 : Sl) :
    ev Φ (.b1 .any (.lc [("good", 14)] (.nm 14) .walk (.var 9) .noe .noe (.cmp .gt (.idx (.idx (.idx (.var 0) (.var 11)) (.cst (.int 2))) (.var 14)) (.cst (.int 0)))))
      [.sh (usD us), a1, a2, a3, a4, a5, a6, a7, a8, .sh (ixD L), s10, .sh (nd i), s12, s13, s14, s15]
      = some (.bool (L.any fun g => decide (0 < (flOf us ts).nd i g)), [.sh (usD us), a1, a2, a3, a4, a5, a6, a7, a8, .sh (ixD L), s10, .sh (nd i), s12, s13, s14, s15]) := by
  obtain ⟨u, hu⟩ : ∃ u, us[i]? = some u := ⟨_, List.getElem?_eq_getElem hi⟩
  have i1 : idxD (usD us) (nd i) = some (ud u) := idx_t ud hu
  have i4 : idxD (ud u) (.int 2) = some (.tuple (u.ns.map nd)) := rfl
  have hlc := ev_lcP (Φ := Φ) (own := [("good", 14)]) (g := .nm 14) (k := .walk) (a := .var 9) (b := .noe) (c := .noe) (f := .cmp .gt (.idx (.idx (.idx (.var 0) (.var 11)) (.cst (.int 2))) (.var 14)) (.cst (.int 0)))
    (e := [.sh (usD us), a1, a2, a3, a4, a5, a6, a7, a8, .sh (ixD L), s10, .sh (nd i), s12, s13, s14, s15]) (x := ixD L) (y := .none) nd (fun _ => true) (fun g => .bool (decide (0 < (flOf us ts).nd i g))) L rfl rfl rfl (fun g hg => by
      obtain ⟨n1, n2⟩ := need_at ok hu (hL g hg)
      have i2 : idxD (.tuple (u.ns.map nd)) (nd g) = some (nd ((flOf us ts).nd i g)) := idx_t nd n1
      refine ⟨[.sh (usD us), a1, a2, a3, a4, a5, a6, a7, a8, .sh (ixD L), s10, .sh (nd i), s12, s13, .sh (nd g), s15], rfl, rfl, fun _ => ?_, rfl⟩
      have hc : cmpD .gt (nd ((flOf us ts).nd i g)) (.int 0) = some (decide (0 < (flOf us ts).nd i g)) := by
        show some (decide ((0 : Int) < (((flOf us ts).nd i g : Nat) : Int))) = _
        congr 1
        simp
      simp [ev, op2, opd, res, i1, i4, i2, hc]) (sz hl)
  rw [all_true] at hlc
  simp only [ev.eq_def Φ (.b1 _ _), op1, opd, hlc, res, b1D, bools_map, Option.map_some, List.any_map]
  rfl
end
end
end Iv
end
section
set_option Elab.async false
set_option linter.all false
set_option maxRecDepth 100000
set_option exponentiation.threshold 3000
set_option maxHeartbeats 4000000
/-! defs as in k92 (printed by trans91.py) -/
namespace Iv
open PySem PySem.Spec L2
/-! K92M -/
section
section
variable {us : List U} {ts R : List Nat} {am : List Rat} {Φ : Fn}
def stK (us : List U) (ts R : List Nat) (am : List Rat) (k : Nat) : List Nat := (R.take k).filter ((flOf us ts).out R (fn am))
def setA (us : List U) (ts : List Nat) (m : Rat) (L : List Nat) (am : List Rat) : List Rat := L.foldl (fun a i => a.set i (m * (flOf us ts).s i)) am
theorem setA_len (m : Rat) : ∀ (L : List Nat) (am : List Rat), (setA us ts m L am).length = am.length
  | [], _ => rfl
  | i :: L, am => by
    show (setA us ts m L (am.set i _)).length = _
    rw [setA_len m L, List.length_set]
theorem stK_succ {k i : Nat} (h : R[k]? = some i) : stK us ts R am (k + 1) = if (flOf us ts).out R (fn am) i = true then stK us ts R am k ++ [i] else stK us ts R am k := by
  unfold stK
  rw [List.take_succ, h, List.filter_append]
  show _ ++ [i].filter _ = _
  by_cases q : (flOf us ts).out R (fn am) i = true
  · rw [if_pos q, List.filter_cons, if_pos q]
    rfl
  · rw [if_neg q, List.filter_cons, if_neg q]
    simp
theorem stK_all : stK us ts R am R.length = (flOf us ts).stp R (fn am) := by
  unfold stK
  rw [List.take_length]
  rfl
theorem full_lt : ∀ g ∈ (flOf us ts).full R (fn am), g < ts.length := fun g h => List.mem_range.mp (List.mem_filter.mp h).1
theorem full_len : ((flOf us ts).full R (fn am)).length ≤ ts.length := by
  unfold Fl.full
  refine Nat.le_trans (List.length_filter_le _ _) ?_
  rw [List.length_range]
  exact Nat.le_refl _
def wpr (us : List U) (ts : List Nat) (i : Nat) : D := .tuple [nd i, od ((flOf us ts).wst i)]
theorem walk_zipw : walkD .zip (ixD R) (.list ((wss us ts R).map od)) = some (R.map (wpr us ts)) := by
  show some (((R.map nd).zip ((wss us ts R).map od)).map fun p => PyData.tuple [p.1, p.2]) = _
  unfold wss
  rw [List.map_map, List.zip_map', List.map_map]
  rfl
theorem loop_stop (r : Rn us ts R am) (hR : R.length ≤ 100) (hm : Fit ((flOf us ts).mark R (fn am))) (hΦ : ∀ i, i < 28 → Φ i = T i) (a1 a5 a6 s11 s12 s13 s14 s15 : Sl) (h11 : s11 = .un ∨ ∃ d, s11 = .sh d) (h12 : s12 = .un ∨ ∃ d, s12 = .sh d) :
    ∃ t11 t12, (t11 = .un ∨ ∃ d, t11 = .sh d) ∧ (t12 = .un ∨ ∃ d, t12 = .sh d) ∧
    exs Φ (.for_ (.tp [11, 12]) .zip (.var 4) (.var 7) (.consB (.ifs (.or (.cmp .eq (.var 12) (.var 8)) (.b1 .any (.lc [("good", 14)] (.nm 14) .walk (.var 9) .noe .noe (.cmp .gt (.idx (.idx (.idx (.var 0) (.var 11)) (.cst (.int 2))) (.var 14)) (.cst (.int 0)))))) (.consB (.app 10 (.var 11)) (.consB (.sub 3 (.var 11) (.call 25 (.cons (.var 8) (.cons (.idx (.var 2) (.var 11)) .nil)))) .nilB)) .nilB) .nilB))
      [.sh (usD us), a1, .sh (spsD us ts), .own true (am.map rt), .sh (ixD R), a5, a6, .sh (.list ((wss us ts R).map od)), .sh (rt ((flOf us ts).mark R (fn am))), .sh (ixD ((flOf us ts).full R (fn am))), .own true [], s11, s12, s13, s14, s15]
      = some (.nx [.sh (usD us), a1, .sh (spsD us ts), .own true ((setA us ts ((flOf us ts).mark R (fn am)) ((flOf us ts).stp R (fn am)) am).map rt), .sh (ixD R), a5, a6, .sh (.list ((wss us ts R).map od)), .sh (rt ((flOf us ts).mark R (fn am))), .sh (ixD ((flOf us ts).full R (fn am))), .own true (((flOf us ts).stp R (fn am)).map nd), t11, t12, s13, s14, s15]) := by
  obtain ⟨z, ⟨z1, z2⟩, lp⟩ := for_at (g := .tp [11, 12]) (f := exs Φ (.consB (.ifs (.or (.cmp .eq (.var 12) (.var 8)) (.b1 .any (.lc [("good", 14)] (.nm 14) .walk (.var 9) .noe .noe (.cmp .gt (.idx (.idx (.idx (.var 0) (.var 11)) (.cst (.int 2))) (.var 14)) (.cst (.int 0)))))) (.consB (.app 10 (.var 11)) (.consB (.sub 3 (.var 11) (.call 25 (.cons (.var 8) (.cons (.idx (.var 2) (.var 11)) .nil)))) .nilB)) .nilB) .nilB))
    (wpr us ts) (fun k (z : Sl × Sl) => [.sh (usD us), a1, .sh (spsD us ts), .own true ((setA us ts ((flOf us ts).mark R (fn am)) (stK us ts R am k) am).map rt), .sh (ixD R), a5, a6, .sh (.list ((wss us ts R).map od)), .sh (rt ((flOf us ts).mark R (fn am))), .sh (ixD ((flOf us ts).full R (fn am))), .own true ((stK us ts R am k).map nd), z.1, z.2, s13, s14, s15])
    (fun z => (z.1 = .un ∨ ∃ d, z.1 = .sh d) ∧ (z.2 = .un ∨ ∃ d, z.2 = .sh d)) R 0 (s11, s12) ⟨h11, h12⟩ (fun k i z hi ⟨z1, z2⟩ => by
      rw [Nat.zero_add]
      have him := List.mem_of_getElem? hi
      have hil := r.lt i him
      obtain ⟨u, hu⟩ : ∃ u, us[i]? = some u := ⟨_, List.getElem?_eq_getElem hil⟩
      have hs := spd_fit (r.ok u (List.mem_of_getElem? hu)) r.vt
      have es : (flOf us ts).s i = spd u ts := by
        show spd (us.getD i U0) ts = _
        rw [getD_of hu]
      have i2 : idxD (spsD us ts) (nd i) = some (rt ((flOf us ts).s i)) := idx_l rt (sp_at hu)
      have c := (ptimes_ok hm (y := (flOf us ts).s i) (by rw [es]; exact hs)).on (hΦ 25 (by decide))
      simp only [List.map_cons, List.map_nil] at c
      have ha := ev_any (Φ := Φ) (us := us) (ts := ts) (L := (flOf us ts).full R (fn am)) (i := i) (s10 := .own true ((stK us ts R am k).map nd)) (s12 := .sh (od ((flOf us ts).wst i))) (s13 := s13) (s14 := s14) (s15 := s15) r.ok hil full_lt (by have := full_len (us := us) (ts := ts) (R := R) (am := am); have := r.vt.l1; omega)
        a1 (.sh (spsD us ts)) (.own true ((setA us ts ((flOf us ts).mark R (fn am)) (stK us ts R am k) am).map rt)) (.sh (ixD R)) a5 a6 (.sh (.list ((wss us ts R).map od))) (.sh (rt ((flOf us ts).mark R (fn am))))
      have lk : (stK us ts R am k).length < sizeLine := by
        have h1 : (stK us ts R am k).length ≤ R.length := Nat.le_trans (List.length_filter_le _ _) (List.length_take_le' _ _)
        exact Nat.lt_of_le_of_lt (Nat.le_trans h1 hR) (by decide)
      have lA : (setA us ts ((flOf us ts).mark R (fn am)) (stK us ts R am k) am).length = us.length := by rw [setA_len, r.len]
      have ix : ixN us.length (i : Int) = some i := by
        unfold ixN
        rw [if_pos (by omega), if_pos (by omega)]
        simp
      refine ⟨?_, [.sh (usD us), a1, .sh (spsD us ts), .own true ((setA us ts ((flOf us ts).mark R (fn am)) (stK us ts R am k) am).map rt), .sh (ixD R), a5, a6, .sh (.list ((wss us ts R).map od)), .sh (rt ((flOf us ts).mark R (fn am))), .sh (ixD ((flOf us ts).full R (fn am))), .own true ((stK us ts R am k).map nd), .sh (nd i), .sh (od ((flOf us ts).wst i)), s13, s14, s15], (.sh (nd i), .sh (od ((flOf us ts).wst i))), rfl, ?_, .inr ⟨_, rfl⟩, .inr ⟨_, rfl⟩⟩
      · obtain ⟨a, b⟩ := z
        rcases z1 with h1 | ⟨_, h1⟩ <;> rcases z2 with h2 | ⟨_, h2⟩ <;> (dsimp only at h1 h2; subst h1; subst h2; rfl)
      · rw [stK_succ hi]
        have ho : (flOf us ts).out R (fn am) i = (decide ((flOf us ts).wst i = some ((flOf us ts).mark R (fn am))) || ((flOf us ts).full R (fn am)).any fun g => decide (0 < (flOf us ts).nd i g)) := rfl
        have tes : ev Φ (.or (.cmp .eq (.var 12) (.var 8)) (.b1 .any (.lc [("good", 14)] (.nm 14) .walk (.var 9) .noe .noe (.cmp .gt (.idx (.idx (.idx (.var 0) (.var 11)) (.cst (.int 2))) (.var 14)) (.cst (.int 0)))))) [.sh (usD us), a1, .sh (spsD us ts), .own true ((setA us ts ((flOf us ts).mark R (fn am)) (stK us ts R am k) am).map rt), .sh (ixD R), a5, a6, .sh (.list ((wss us ts R).map od)), .sh (rt ((flOf us ts).mark R (fn am))), .sh (ixD ((flOf us ts).full R (fn am))), .own true ((stK us ts R am k).map nd), .sh (nd i), .sh (od ((flOf us ts).wst i)), s13, s14, s15]
            = some (.bool ((flOf us ts).out R (fn am) i), [.sh (usD us), a1, .sh (spsD us ts), .own true ((setA us ts ((flOf us ts).mark R (fn am)) (stK us ts R am k) am).map rt), .sh (ixD R), a5, a6, .sh (.list ((wss us ts R).map od)), .sh (rt ((flOf us ts).mark R (fn am))), .sh (ixD ((flOf us ts).full R (fn am))), .own true ((stK us ts R am k).map nd), .sh (nd i), .sh (od ((flOf us ts).wst i)), s13, s14, s15]) := by
          have e1 : ∀ e : Ev, e[12]? = some (.sh (od ((flOf us ts).wst i))) → e[8]? = some (.sh (rt ((flOf us ts).mark R (fn am)))) → ev Φ (.cmp .eq (.var 12) (.var 8)) e = some (.bool (decide ((flOf us ts).wst i = some ((flOf us ts).mark R (fn am)))), e) := fun e h1 h2 => by
            simp [ev, op2, opd, res, h1, h2, cmpD, eq_od]
          have e2 : ev Φ (.cmp .eq (.var 12) (.var 8)) [.sh (usD us), a1, .sh (spsD us ts), .own true ((setA us ts ((flOf us ts).mark R (fn am)) (stK us ts R am k) am).map rt), .sh (ixD R), a5, a6, .sh (.list ((wss us ts R).map od)), .sh (rt ((flOf us ts).mark R (fn am))), .sh (ixD ((flOf us ts).full R (fn am))), .own true ((stK us ts R am k).map nd), .sh (nd i), .sh (od ((flOf us ts).wst i)), s13, s14, s15] = some (.bool (decide ((flOf us ts).wst i = some ((flOf us ts).mark R (fn am)))), [.sh (usD us), a1, .sh (spsD us ts), .own true ((setA us ts ((flOf us ts).mark R (fn am)) (stK us ts R am k) am).map rt), .sh (ixD R), a5, a6, .sh (.list ((wss us ts R).map od)), .sh (rt ((flOf us ts).mark R (fn am))), .sh (ixD ((flOf us ts).full R (fn am))), .own true ((stK us ts R am k).map nd), .sh (nd i), .sh (od ((flOf us ts).wst i)), s13, s14, s15]) := e1 _ rfl rfl
          rw [ev.eq_def Φ (.or _ _)]
          simp only [e2]
          rw [ho]
          cases hq : decide ((flOf us ts).wst i = some ((flOf us ts).mark R (fn am))) with
          | true => rfl
          | false => simp only [ha, Bool.false_or]
        cases hq : (flOf us ts).out R (fn am) i with
        | false =>
          rw [hq] at tes
          refine exs_nx ((exs_iff (by intro i q; cases q) tes).trans rfl) rfl
        | true =>
          rw [hq] at tes
          have eA : setA us ts ((flOf us ts).mark R (fn am)) (stK us ts R am k ++ [i]) am = (setA us ts ((flOf us ts).mark R (fn am)) (stK us ts R am k) am).set i ((flOf us ts).mark R (fn am) * (flOf us ts).s i) := by
            unfold setA
            rw [List.foldl_append]
            rfl
          rw [if_pos rfl, eA, List.map_set, List.map_append]
          refine exs_nx ((exs_ift (by intro i q; cases q) tes).trans ?_) rfl
          have st : ∀ (e : Ev) (v : D) (ds : List D), e[3]? = some (.own true ds) → ds.length = us.length → setAt e 3 (nd i) v = some (e.set 3 (.own true (ds.set i v))) := fun e v ds h1 h2 => by
            unfold setAt ownAt nd
            simp [h1, h2, ix]
          refine exs_nx (e1 := [.sh (usD us), a1, .sh (spsD us ts), .own true ((setA us ts ((flOf us ts).mark R (fn am)) (stK us ts R am k) am).map rt), .sh (ixD R), a5, a6, .sh (.list ((wss us ts R).map od)), .sh (rt ((flOf us ts).mark R (fn am))), .sh (ixD ((flOf us ts).full R (fn am))), .own true ((stK us ts R am k).map nd ++ [nd i]), .sh (nd i), .sh (od ((flOf us ts).wst i)), s13, s14, s15]) ?_ (exs_nx (e1 := [.sh (usD us), a1, .sh (spsD us ts), .own true (((setA us ts ((flOf us ts).mark R (fn am)) (stK us ts R am k) am).map rt).set i (rt ((flOf us ts).mark R (fn am) * (flOf us ts).s i))), .sh (ixD R), a5, a6, .sh (.list ((wss us ts R).map od)), .sh (rt ((flOf us ts).mark R (fn am))), .sh (ixD ((flOf us ts).full R (fn am))), .own true ((stK us ts R am k).map nd ++ [nd i]), .sh (nd i), .sh (od ((flOf us ts).wst i)), s13, s14, s15]) ?_ rfl)
          · simp [exs, ownAt, ev, rdv, lk]
          · simp [exs, ownAt, ev, rdv, op2, opd, res, i2, argSl, musOf, nodupB, wbk, c]
            rw [st _ _ ((setA us ts ((flOf us ts).mark R (fn am)) (stK us ts R am k) am).map rt) rfl (by rw [List.length_map]; exact lA)]
            rfl)
  rw [Nat.zero_add, stK_all] at lp
  refine ⟨z.1, z.2, z1, z2, ?_⟩
  rw [← lp]
  simp only [exs, ev, rdv, List.getElem?_cons_zero, List.getElem?_cons_succ, walk_zipw]
  rfl
end
end
/-! K92N -/
section
section
variable {us : List U} {ts R : List Nat} {am : List Rat} {Φ : Fn} {rows : List D}
theorem ev_rest (hR : R.length ≤ 100) (L : List Nat) (a0 a1 a2 a3 a5 a6 a7 a8 a9 s11 s12 s13 s14 s15 : Sl) :
    ev Φ (.lc [("at", 11)] (.nm 11) .walk (.var 4) .noe (.cmp .nin (.var 11) (.var 10)) (.var 11)) [a0, a1, a2, a3, .sh (ixD R), a5, a6, a7, a8, a9, .own true (L.map nd), s11, s12, s13, s14, s15]
      = some (ixD (R.filter fun i => !decide (i ∈ L)), [a0, a1, a2, a3, .sh (ixD R), a5, a6, a7, a8, a9, .own true (L.map nd), s11, s12, s13, s14, s15]) := by
  have hlc := ev_lcP (Φ := Φ) (own := [("at", 11)]) (g := .nm 11) (k := .walk) (a := .var 4) (b := .noe) (c := .cmp .nin (.var 11) (.var 10)) (f := .var 11)
    (e := [a0, a1, a2, a3, .sh (ixD R), a5, a6, a7, a8, a9, .own true (L.map nd), s11, s12, s13, s14, s15]) (x := ixD R) (y := .none) nd (fun i => !decide (i ∈ L)) nd R rfl rfl rfl (fun i hi => by
      refine ⟨[a0, a1, a2, a3, .sh (ixD R), a5, a6, a7, a8, a9, .own true (L.map nd), .sh (nd i), s12, s13, s14, s15], rfl, ?_, fun _ => rfl, rfl⟩
      have h := in_ix i L
      unfold ixD at h
      simp [lcT, opT, opd, ev, op2, res, cmpD, h, truth]) (sz hR)
  rw [hlc]
  rfl
def rowD (us : List U) (ts R : List Nat) (am : List Rat) : D := .tuple [rt ((flOf us ts).mark R (fn am)), .tuple (((flOf us ts).full R (fn am)).map nd), .tuple (((flOf us ts).stp R (fn am)).map nd)]
theorem row_app (hr : rows.length < sizeLine) (us : List U) (ts R : List Nat) (am : List Rat) (a0 a1 a2 a3 a4 a6 a7 s11 s12 s13 s14 s15 : Sl) :
    exs Φ (.app 5 (.tup (.cons (.var 8) (.cons (.b1 .tup (.var 9)) (.cons (.b1 .tup (.var 10)) .nil))))) [a0, a1, a2, a3, a4, .own true rows, a6, a7, .sh (rt ((flOf us ts).mark R (fn am))), .sh (ixD ((flOf us ts).full R (fn am))), .own true (((flOf us ts).stp R (fn am)).map nd), s11, s12, s13, s14, s15]
      = some (.nx [a0, a1, a2, a3, a4, .own true (rows ++ [rowD us ts R am]), a6, a7, .sh (rt ((flOf us ts).mark R (fn am))), .sh (ixD ((flOf us ts).full R (fn am))), .own true (((flOf us ts).stp R (fn am)).map nd), s11, s12, s13, s14, s15]) := by
  simp [exs, ownAt, ev, op1, opd, res, rdv, b1D, ixD, z3, hr, rowD]
end
end
/-! K92O -/
section
section
variable {us : List U} {ts R : List Nat} {am : List Rat} {Φ : Fn} {rows : List D}
/-- the body of the program's filling loop -/
def fillBody : Sm := match k91_b_filled with
  | .consB _ (.consB _ (.consB (.whl _ s) _)) => s
  | _ => .nilB
theorem turn_ok (r : Rn us ts R am) (hR : R.length ≤ 6) (hr : rows.length < sizeLine) (hc : (flOf us ts).cands R (fn am) ≠ []) (hf : ∀ q ∈ (flOf us ts).cands R (fn am), Fit q) (hm : Fit ((flOf us ts).mark R (fn am))) (hΦ : ∀ i, i < 28 → Φ i = T i)
    {s6 s7 s8 s9 s10 s11 s12 s13 s14 s15 : Sl} (j6 : junk s6) (j7 : junk s7) (j8 : junk s8) (j9 : junk s9) (j10 : junk s10) (h11 : s11 = .un ∨ ∃ d, s11 = .sh d) (h12 : s12 = .un ∨ ∃ d, s12 = .sh d) :
    ∃ t6 t7 t8 t9 t10 t11 t12, junk t6 ∧ junk t7 ∧ junk t8 ∧ junk t9 ∧ junk t10 ∧ (t11 = .un ∨ ∃ d, t11 = .sh d) ∧ (t12 = .un ∨ ∃ d, t12 = .sh d) ∧
    exs Φ fillBody [.sh (usD us), .sh (tsD ts), .sh (spsD us ts), .own true (am.map rt), .sh (ixD R), .own true rows, s6, s7, s8, s9, s10, s11, s12, s13, s14, s15]
      = some (.nx [.sh (usD us), .sh (tsD ts), .sh (spsD us ts), .own true ((setA us ts ((flOf us ts).mark R (fn am)) ((flOf us ts).stp R (fn am)) am).map rt), .sh (ixD ((flOf us ts).R2 R (fn am))), .own true (rows ++ [rowD us ts R am]), t6, t7, t8, t9, t10, t11, t12, s13, s14, s15]) := by
  have l1 := r.vt.l1
  obtain ⟨t11, t12, k1, k2, lp⟩ := loop_stop r (by omega) hm hΦ (.sh (tsD ts)) (.own true rows) (.sh (.list ((gss us ts R am).map od))) s11 s12 s13 s14 s15 h11 h12
  refine ⟨.sh (.list ((gss us ts R am).map od)), .sh (.list ((wss us ts R).map od)), .sh (rt ((flOf us ts).mark R (fn am))), .sh (ixD ((flOf us ts).full R (fn am))), .own true (((flOf us ts).stp R (fn am)).map nd), t11, t12, .inr (.inl ⟨_, rfl⟩), .inr (.inl ⟨_, rfl⟩), .inr (.inl ⟨_, rfl⟩), .inr (.inl ⟨_, rfl⟩), .inr (.inr ⟨_, rfl⟩), k1, k2, ?_⟩
  refine exs_nx (asg_nm (ev_goods r hΦ) (put_junk rfl j6)) (exs_nx (asg_nm (ev_wants (s6 := .sh (.list ((gss us ts R am).map od))) r (by omega) hΦ) (put_junk rfl j7)) (exs_nx (asg_nm (ev_level hc hf (by omega) hΦ _ _ _ _ _ _) (put_junk rfl j8)) (exs_nx (asg_nm (ev_full (by omega) _ _ _ _ _ _ _) (put_junk rfl j9)) (exs_nx (aso_nil (put_junk rfl j10)) (exs_nx lp (exs_nx (asg_nm (ev_rest (by omega) _ _ _ _ _ _ _ _ _ _ _ _ _ _ _) rfl) (exs_nx (row_app hr us ts R am _ _ _ _ _ _ _ _ _ _ _ _) rfl)))))))
end
end
/-! K92P -/
section
theorem lcm_ex {ts : List Nat} (vt : Vt ts) : ∀ us : List U, (∀ u ∈ us, Vu ts.length u) → ∃ L : Nat, 0 < L ∧ L ≤ 99 ^ us.length ∧ ∀ u ∈ us, Bd L 179982 (spd u ts)
  | [], _ => ⟨1, by decide, by simp, fun u h => by cases h⟩
  | u :: us, h => by
    obtain ⟨L, h1, h2, h3⟩ := lcm_ex vt us fun u hu => h u (List.mem_cons_of_mem _ hu)
    obtain ⟨_, n, n1, n2, n3⟩ := spd_bd (h u List.mem_cons_self) vt
    refine ⟨n * L, Nat.mul_pos (by omega) h1, ?_, fun x hx => ?_⟩
    · rw [List.length_cons, Nat.pow_succ, Nat.mul_comm]
      exact Nat.mul_le_mul h2 n2
    · rcases List.mem_cons.mp hx with rfl | hx
      · exact n3.times L
      · exact (h3 x hx).dvd ⟨n, Nat.mul_comm _ _⟩
section
variable {us : List U} {ts R : List Nat} {am : List Rat} {Φ : Fn} {l : Nat → Rat} {c : Rat} {L M : Nat}
theorem Ps.bs (p : Ps us ts) : ∃ L, (flOf us ts).Bs L := by
  obtain ⟨L, h1, h2, h3⟩ := lcm_ex p.vt us p.ok
  refine ⟨L, ⟨fun i hi => ?_, fun i hi => ?_⟩, p.l1, h1, ?_, fun i hi => h3 _ (getD_mem hi), fun i g => ?_, fun g => ?_, fun i v h => ?_⟩
  · exact (spd_bd (p.ok _ (getD_mem (d := U0) hi)) p.vt).1
  · have hu := p.ok _ (getD_mem (d := U0) hi)
    obtain ⟨n, hn, h0⟩ := hu.ex
    obtain ⟨g, hg⟩ := List.mem_iff_getElem?.mp hn
    have lg := (List.getElem?_eq_some_iff.mp hg).1
    rw [hu.len] at lg
    refine ⟨g, lg, ?_⟩
    show 0 < (us.getD i U0).ns.getD g 0
    rw [getD_of hg]
    exact h0
  · have k1 : 99 ^ us.length ≤ 99 ^ 6 := Nat.pow_le_pow_right (by decide) p.l1
    have k2 : 99 ^ 6 ≤ 2 ^ 40 := by decide
    omega
  · show (us.getD i U0).ns.getD g 0 ≤ 99
    by_cases hi : i < us.length
    · have hu := p.ok _ (getD_mem (d := U0) hi)
      by_cases hg : g < (us.getD i U0).ns.length
      · exact hu.le _ (getD_mem hg)
      · rw [getD_out hg]
        decide
    · rw [getD_out hi]
      show ([] : List Nat).getD g 0 ≤ 99
      simp
  · show ts.getD g 0 ≤ 19998
    by_cases hg : g < ts.length
    · exact (p.vt.le _ (getD_mem hg)).2
    · rw [getD_out hg]
      decide
  · have h : (us.getD i U0).want = some v := h
    by_cases hi : i < us.length
    · exact (p.ok _ (getD_mem (d := U0) hi)).want v h
    · rw [getD_out hi] at h
      cases h
theorem fitB {m V : Nat} {q : Rat} (h : Bd m V q) (hm : 0 < m) (h1 : m < 2 ^ 445) (h2 : V < 2 ^ 60) : Fit q := h.fit hm (Nat.lt_trans h1 (by decide)) h2
theorem L_lt (B : (flOf us ts).Bs L) : L < 2 ^ 445 := Nat.lt_of_le_of_lt B.l1 (by decide)
theorem Rn.of (p : Ps us ts) (B : (flOf us ts).Bs L) (A : (flOf us ts).St L R (fn am) l c M) (hl : am.length = us.length) : Rn us ts R am := by
  obtain ⟨k1, k2⟩ := Fl.lm B A
  refine ⟨p.ok, p.vt, hl, fun i hi => A.at_.lt i hi, fun i hi hR => ?_, fun i g hi hg => ?_, fun i g hi hg hR => ?_, fun k g hk hg => ?_, fun k g hk hg => ?_, fun g hg => Fl.rate_nn B.ok g⟩
  · exact fitB (Fl.am_bd B A hi hR) k1 k2 (by decide)
  · exact fitB (Fl.sn_bd B hi g) B.l0 (L_lt B) (by decide)
  · exact fitB (Fl.an_bd B A hi hR g) k1 k2 (by decide)
  · exact fitB (Fl.rx_bd B hk g) B.l0 (L_lt B) (by decide)
  · exact fitB (Fl.left_bd B A hk hg) k1 k2 (by decide)
theorem cand_fit (B : (flOf us ts).Bs L) (A : (flOf us ts).St L R (fn am) l c M) (hR : R ≠ []) {q : Rat} (h : q ∈ (flOf us ts).cands R (fn am)) : Fit q := by
  obtain ⟨N, n0, n1, n2⟩ := Fl.cand_bd B A h
  refine fitB n2 (Nat.mul_pos A.m0 n0) ?_ ?_
  · have h1 : 0 < R.length := List.length_pos_iff.mpr hR
    have k1 := Nat.mul_le_mul A.m1 n1
    rw [← Nat.pow_add] at k1
    have k2 : 2 ^ (67 * (6 - R.length) + 67) ≤ 2 ^ 402 := Nat.pow_le_pow_right (by decide) (by have := A.r6; omega)
    have k3 : 2 ^ 402 < 2 ^ 445 := by decide
    omega
  · have := B.l1
    omega
theorem fn_set {i : Nat} {q : Rat} (h : i < am.length) : fn (am.set i q) = fun j => if j = i then q else fn am j := by
  funext j
  unfold fn
  rw [List.getD_eq_getElem?_getD, List.getD_eq_getElem?_getD]
  by_cases e : j = i
  · subst e
    rw [List.getElem?_set_self h, if_pos rfl]
    rfl
  · rw [List.getElem?_set_ne (fun q => e q.symm), if_neg e]
theorem fn_setA (m : Rat) : ∀ (K : List Nat) (am : List Rat), (∀ i ∈ K, i < am.length) → fn (setA us ts m K am) = fun i => if i ∈ K then m * (flOf us ts).s i else fn am i
  | [], am, _ => by
    funext i
    simp [setA]
  | k :: K, am, h => by
    have h1 := fn_setA m K (am.set k (m * (flOf us ts).s k)) fun i hi => by
      rw [List.length_set]
      exact h i (List.mem_cons_of_mem _ hi)
    have e : setA us ts m (k :: K) am = setA us ts m K (am.set k (m * (flOf us ts).s k)) := rfl
    rw [e, h1, fn_set (h k List.mem_cons_self)]
    funext i
    by_cases q : i ∈ K
    · rw [if_pos q, if_pos (List.mem_cons_of_mem _ q)]
    · rw [if_neg q]
      by_cases q2 : i = k
      · subst q2
        simp
      · simp [q, q2]
/-- the amounts and the rows of so many turns -/
def fillL (us : List U) (ts : List Nat) : Nat → List Nat → List Rat → List Rat × List D
  | 0, _, am => (am, [])
  | _ + 1, [], am => (am, [])
  | k + 1, i :: R, am =>
    ((fillL us ts k ((flOf us ts).R2 (i :: R) (fn am)) (setA us ts ((flOf us ts).mark (i :: R) (fn am)) ((flOf us ts).stp (i :: R) (fn am)) am)).1,
     rowD us ts (i :: R) am :: (fillL us ts k ((flOf us ts).R2 (i :: R) (fn am)) (setA us ts ((flOf us ts).mark (i :: R) (fn am)) ((flOf us ts).stp (i :: R) (fn am)) am)).2)
theorem stp_in {i : Nat} (h : i ∈ (flOf us ts).stp R (fn am)) : i ∈ R := (List.mem_filter.mp h).1
theorem fn_am2 (hl : am.length = us.length) (hR : ∀ i ∈ R, i < us.length) : fn (setA us ts ((flOf us ts).mark R (fn am)) ((flOf us ts).stp R (fn am)) am) = (flOf us ts).am2 R (fn am) := fn_setA _ _ _ fun i hi => by
  rw [hl]
  exact hR i (stp_in hi)
theorem fillL_len : ∀ (k : Nat) (R : List Nat) (am : List Rat), (fillL us ts k R am).1.length = am.length ∧ (fillL us ts k R am).2.length ≤ k
  | 0, _, _ => ⟨rfl, Nat.le_refl _⟩
  | _ + 1, [], _ => ⟨rfl, Nat.zero_le _⟩
  | k + 1, i :: R, am => by
    obtain ⟨h1, h2⟩ := fillL_len k ((flOf us ts).R2 (i :: R) (fn am)) (setA us ts ((flOf us ts).mark (i :: R) (fn am)) ((flOf us ts).stp (i :: R) (fn am)) am)
    refine ⟨?_, ?_⟩
    · rw [setA_len] at h1
      exact h1
    · exact Nat.succ_le_succ h2
theorem R2_lt (hR : ∀ i ∈ R, i < us.length) : ∀ i ∈ (flOf us ts).R2 R (fn am), i < us.length := fun i hi => hR i (List.mem_filter.mp hi).1
theorem fn_fill : ∀ (k : Nat) (R : List Nat) (am : List Rat), am.length = us.length → (∀ i ∈ R, i < us.length) → fn (fillL us ts k R am).1 = (flOf us ts).fill k R (fn am)
  | 0, _, _, _, _ => rfl
  | _ + 1, [], _, _, _ => rfl
  | k + 1, i :: R, am, hl, hR => by
    have h := fn_fill k ((flOf us ts).R2 (i :: R) (fn am)) (setA us ts ((flOf us ts).mark (i :: R) (fn am)) ((flOf us ts).stp (i :: R) (fn am)) am) (by rw [setA_len, hl]) (R2_lt hR)
    rw [fn_am2 hl hR] at h
    exact h
end
end
end Iv
end
section
set_option Elab.async false
set_option linter.all false
set_option maxRecDepth 100000
set_option exponentiation.threshold 3000
set_option maxHeartbeats 4000000
/-! defs as in k92 (printed by trans91.py) -/
namespace Iv
open PySem PySem.Spec L2
/-! K92X -/
/-- totals that the program takes -/
class Tn (ts : List Nat) : Prop where
  le : ∀ t ∈ ts, t ≤ 9999
section
theorem is_integer_ok (d : D) : Gv 6 [d] (.bool (isI d)) := by
  refine gv (d := k91_d_is_integer) rfl rfl fun Φ hΦ => ⟨[.sh d], ?_, by simp⟩
  cases d <;> simp [k91_d_is_integer, k91_b_is_integer, exs, ev, op1, opd, res, isaAny, isaD, truth, isI]
theorem is_count_ok (d : D) : Gv 52 [d] (.bool (isC d)) := by
  refine gv (d := k91_d_is_count) rfl rfl fun Φ hΦ => ⟨[.sh d], ?_, by simp⟩
  have c := (is_integer_ok d).on (hΦ 6 (by decide))
  simp only [List.map_cons, List.map_nil] at c
  cases d <;> simp [isI] at c <;> simp [k91_d_is_count, k91_b_is_count, exs, ev, op2, opd, res, rdv, argSl, musOf, nodupB, wbk, c, cmpD, isC]
theorem is_within_ok (d : D) (lo hi : Int) : Gv 7 [d, .int lo, .int hi] (.bool (isW lo hi d)) := by
  refine gv (d := k91_d_is_within) rfl rfl fun Φ hΦ => ⟨[.sh d, .sh (.int lo), .sh (.int hi)], ?_, by simp⟩
  have c := (is_integer_ok d).on (hΦ 6 (by decide))
  simp only [List.map_cons, List.map_nil] at c
  cases d with
  | int i =>
    simp [isI] at c
    by_cases h1 : lo ≤ i
    · simp [k91_d_is_within, k91_b_is_within, exs, ev, op2, opd, res, rdv, argSl, musOf, nodupB, wbk, c, cmpD, isW, h1]
    · simp [k91_d_is_within, k91_b_is_within, exs, ev, op2, opd, res, rdv, argSl, musOf, nodupB, wbk, c, cmpD, isW, h1]
  | _ =>
    simp [isI] at c
    simp [k91_d_is_within, k91_b_is_within, exs, ev, op2, opd, res, rdv, argSl, musOf, nodupB, wbk, c, cmpD, isW]
theorem tuple_of_ok (a b c : D) : Gv 4 [.tuple [.str "user", a, b, c], .str "user", .int 4] (.bool true) := by
  refine gv (d := k91_d_is_tuple_of) rfl rfl fun Φ hΦ => ⟨[.sh (.tuple [.str "user", a, b, c]), .sh (.str "user"), .sh (.int 4)], ?_, by simp⟩
  simp [k91_d_is_tuple_of, k91_b_is_tuple_of, exs, ev, op1, op2, opT, opd, res, rdv, isaAny, isaD, truth, b1D, cmpD, eqD, idxD, atI, ixN, tst]
section
variable {us : List U} {u : U} {ts : List Nat} {G : Nat} [Tn ts]
theorem gcd_one (q : Rat) : Nat.gcd ((q.den : Int)).natAbs q.num.natAbs = 1 := by
  rw [Int.natAbs_natCast, Nat.gcd_comm]
  exact q.reduced
theorem is_ratio_ok {q : Rat} (h : q.den < 2 ^ 1000) : Gv 42 [rt q] (.bool true) := by
  refine gv (d := k91_d_is_ratio) rfl rfl fun Φ hΦ => ⟨[.sh (rt q)], ?_, by simp⟩
  have c0 : ∀ i : Int, Φ 6 [.sh (.int i)] = some (.bool true, [.sh (.int i)]) := fun i => (is_integer_ok (.int i)).on (hΦ 6 (by decide))
  have c1 := (common_ok (a := q.num) (b := (q.den : Int)) (by rw [Int.natAbs_natCast]; exact h)).on (hΦ 15 (by decide))
  rw [gcd_one] at c1
  simp only [List.map_cons, List.map_nil] at c1
  have h0 := den_pos q
  unfold rt
  simp [k91_d_is_ratio, k91_b_is_ratio, exs, ev, op1, op2, opT, opd, res, rdv, isaAny, isaD, truth, b1D, cmpD, eqD, idxD, atI, ixN, tst, c0, c1, argSl, musOf, nodupB, wbk, q.den_pos]
theorem needs_ok (hu : Vu G u) (hG : G ≤ 4) : Gv 8 [.tuple (u.ns.map nd), nd G] (.bool true) := by
  have hl := hu.len
  refine gv (d := k91_d_are_needs) rfl rfl fun Φ hΦ => ⟨[.sh (.tuple (u.ns.map nd)), .sh (nd G), .un], ?_, by simp⟩
  refine exs_nx (e1 := [.sh (.tuple (u.ns.map nd)), .sh (nd G), .un]) ?_ ?_
  · simp [k91_d_are_needs, exs, ev, op1, op2, opT, opd, res, rdv, isaAny, isaD, truth, b1D, cmpD, eqD, tst, nd, hl]
  · have e1 : ev Φ (.lc [("one", 2)] (.nm 2) .walk (.var 0) .noe .noe (.call 7 (.cons (.var 2) (.cons (.cst (.int 0)) (.cons (.glo "MOST_NEED" (.int 99)) .nil))))) [.sh (.tuple (u.ns.map nd)), .sh (nd G), .un] = some (.list (u.ns.map fun n => PyData.bool true), [.sh (.tuple (u.ns.map nd)), .sh (nd G), .un]) := by
      refine (ev_lcP nd (fun _ => true) (fun _ => PyData.bool true) u.ns rfl rfl rfl (fun n hn => ?_) (sz (by omega))).trans (by rw [all_true])
      have c := (is_within_ok (nd n) 0 99).on (hΦ 7 (by decide))
      rw [isW_nd (a := 0) (b := 99) (by omega) (by have := hu.le n hn; omega)] at c
      simp only [List.map_cons, List.map_nil] at c
      refine ⟨[.sh (.tuple (u.ns.map nd)), .sh (nd G), .sh (nd n)], rfl, rfl, fun _ => ?_, rfl⟩
      simp [ev, rdv, argSl, musOf, nodupB, wbk, c]
    have e2 : ev Φ (.lc [("one", 2)] (.nm 2) .walk (.var 0) .noe .noe (.cmp .gt (.var 2) (.cst (.int 0)))) [.sh (.tuple (u.ns.map nd)), .sh (nd G), .un] = some (.list (u.ns.map fun n => PyData.bool (decide (0 < n))), [.sh (.tuple (u.ns.map nd)), .sh (nd G), .un]) := by
      refine (ev_lcP nd (fun _ => true) (fun n => PyData.bool (decide (0 < n))) u.ns rfl rfl rfl (fun n hn => ?_) (sz (by omega))).trans (by rw [all_true])
      refine ⟨[.sh (.tuple (u.ns.map nd)), .sh (nd G), .sh (nd n)], rfl, rfl, fun _ => ?_, rfl⟩
      simp [ev, op2, opd, res, cmpD, nd]
    have k1 : (u.ns.all fun _ => true) = true := by simp
    have k2 : (u.ns.any fun n => decide (0 < n)) = true := by
      obtain ⟨n, hn, h0⟩ := hu.ex
      exact List.any_eq_true.mpr ⟨n, hn, decide_eq_true h0⟩
    have h3 := evl_and (ev_b1 (b := .all) (by intro i q; cases q) e1 (all_bools _ _)) (ev_b1 (b := .any) (by intro i q; cases q) e2 (any_bools _ _)) rfl
    rw [k1, k2] at h3
    show (exs Φ (.consB (.ret _) .nilB) _) = _
    rw [exs.eq_def]
    simp only [exs, h3]
    rfl
theorem isw_ok {w : Option Nat} (h : ∀ v, w = some v → v ≤ 999) : Gv 9 [wd w] (.bool true) := by
  refine gv (d := k91_d_is_want) rfl rfl fun Φ hΦ => ⟨[.sh (wd w)], ?_, by simp⟩
  cases w with
  | none => simp [k91_d_is_want, k91_b_is_want, exs, ev, op2, opd, res, cmpD, wd, isNone]
  | some v =>
    have c := (is_within_ok (nd v) 0 999).on (hΦ 7 (by decide))
    rw [isW_nd (a := 0) (b := 999) (by omega) (by have := h v rfl; omega)] at c
    simp only [List.map_cons, List.map_nil, nd] at c
    simp [k91_d_is_want, k91_b_is_want, exs, ev, op2, opd, res, rdv, cmpD, wd, isNone, argSl, musOf, nodupB, wbk, c]
theorem is_user_ok (hu : Vu G u) (hG : G ≤ 4) : Gv 10 [ud u, nd G] (.bool true) := by
  refine gv (d := k91_d_is_user) rfl rfl fun Φ hΦ => ⟨[.sh (ud u), .sh (nd G)], ?_, by simp⟩
  have c1 := (tuple_of_ok (nd u.w) (.tuple (u.ns.map nd)) (wd u.want)).on (hΦ 4 (by decide))
  have c2 := (is_within_ok (nd u.w) 1 9).on (hΦ 7 (by decide))
  rw [isW_nd (a := 1) (b := 9) (by have := hu.w0; omega) (by have := hu.w1; omega)] at c2
  have c3 := (needs_ok hu hG).on (hΦ 8 (by decide))
  have c4 := (isw_ok hu.want).on (hΦ 9 (by decide))
  simp only [List.map_cons, List.map_nil] at c1 c2 c3 c4
  unfold ud
  simp [k91_d_is_user, k91_b_is_user, exs, ev, op1, op2, opT, opd, res, rdv, truth, idxD, atI, ixN, tst, argSl, musOf, nodupB, wbk, c1, c2, c3, c4]
theorem goods_ok (p : Ps us ts) : Gv 5 [usD us] (nd ts.length) := by
  obtain ⟨u, r, rfl⟩ := us_cons p
  refine gv (d := k91_d_goods_of) rfl rfl fun Φ hΦ => ⟨[.sh (usD (u :: r))], ?_, by simp⟩
  have c1 := (tuple_of_ok (nd u.w) (.tuple (u.ns.map nd)) (wd u.want)).on (hΦ 4 (by decide))
  simp only [List.map_cons, List.map_nil, nd] at c1
  have hl := (p.ok u List.mem_cons_self).len
  have h0 : eqD (.int ((r.length : Int) + 1)) (.int 0) = some false := by
    show some (decide ((r.length : Int) + 1 = 0)) = _
    rw [decide_eq_false (by omega)]
  unfold usD ud
  simp [k91_d_goods_of, k91_b_goods_of, exs, ev, op1, op2, opT, opd, res, rdv, truth, idxD, atI, ixN, tst, argSl, musOf, nodupB, wbk, c1, isaAny, isaD, cmpD, b1D, h0, hl, nd]
theorem are_users_ok (p : Ps us ts) : Gv 11 [usD us] (.bool true) := by
  refine gv (d := k91_d_are_users) rfl rfl fun Φ hΦ => ⟨[.sh (usD us), .sh (nd ts.length), .un], ?_, by simp⟩
  have c1 := (goods_ok p).on (hΦ 5 (by decide))
  simp only [List.map_cons, List.map_nil] at c1
  have g0 := p.vt.l0
  have g1 := p.vt.l1
  have l1 := p.l1
  refine exs_nx (e1 := [.sh (usD us), .sh (nd ts.length), .un]) ?_ (exs_nx (e1 := [.sh (usD us), .sh (nd ts.length), .un]) ?_ ?_)
  · simp [k91_d_are_users, exs, ev, rdv, argSl, musOf, nodupB, wbk, c1, tgOk, tgIxs, putOk, bindT]
  · have e0 : (1 : Int) ≤ (ts.length : Int) := by omega
    have e1 : (ts.length : Int) ≤ 4 := by omega
    have e2 : ¬ (6 < (us.length : Int)) := by omega
    have e3 : b1D .len (usD us) = some (.int (us.length : Nat)) := by
      show some (PyData.int ((us.map ud).length : Nat)) = _
      rw [List.length_map]
    have e4 : ¬ (6 < us.length) := by omega
    have e5 : 1 ≤ ts.length := g0
    have e6 : ts.length ≤ 4 := g1
    simp [exs, ev, op1, op2, opT, opd, res, rdv, truth, tst, cmpD, nd, e0, e1, e2, e3, e4, e5, e6]
  · have e1 : ev Φ (.lc [("one", 2)] (.nm 2) .walk (.var 0) .noe .noe (.call 10 (.cons (.var 2) (.cons (.var 1) .nil)))) [.sh (usD us), .sh (nd ts.length), .un] = some (.list (us.map fun _ => PyData.bool true), [.sh (usD us), .sh (nd ts.length), .un]) := by
      refine (ev_lcP ud (fun _ => true) (fun _ => PyData.bool true) us rfl rfl rfl (fun u hu => ?_) (sz (by omega))).trans (by rw [all_true])
      have c := (is_user_ok (p.ok u hu) g1).on (hΦ 10 (by decide))
      simp only [List.map_cons, List.map_nil] at c
      refine ⟨[.sh (usD us), .sh (nd ts.length), .sh (ud u)], rfl, rfl, fun _ => ?_, rfl⟩
      simp [ev, rdv, argSl, musOf, nodupB, wbk, c]
    have k1 : (us.all fun _ => true) = true := by simp
    have h3 := ev_b1 (b := .all) (by intro i q; cases q) e1 (all_bools _ _)
    rw [k1] at h3
    rw [exs.eq_def]
    simp only [exs, h3]
theorem totals_ok (p : Ps us ts) : Gv 13 [usD us, tsD ts] (.bool true) := by
  refine gv (d := k91_d_totals_are_right) rfl rfl fun Φ hΦ => ⟨[.sh (usD us), .sh (tsD ts), .un], ?_, by simp⟩
  have g1 := p.vt.l1
  refine exs_nx (e1 := [.sh (usD us), .sh (tsD ts), .un]) ?_ ?_
  · obtain ⟨u, r, rfl⟩ := us_cons p
    have hl := (p.ok u List.mem_cons_self).len
    unfold usD tsD ud
    simp [k91_d_totals_are_right, exs, ev, op1, op2, opT, opd, res, rdv, truth, idxD, atI, ixN, tst, isaAny, isaD, cmpD, eqD, b1D, hl]
  · have e1 : ev Φ (.lc [("one", 2)] (.nm 2) .walk (.var 1) .noe .noe (.call 7 (.cons (.var 2) (.cons (.cst (.int 1)) (.cons (.glo "MOST_TOTAL" (.int 9999)) .nil))))) [.sh (usD us), .sh (tsD ts), .un] = some (.list (ts.map fun n => PyData.bool true), [.sh (usD us), .sh (tsD ts), .un]) := by
      refine (ev_lcP nd (fun _ => true) (fun _ => PyData.bool true) ts rfl rfl rfl (fun n hn => ?_) (sz (by omega))).trans (by rw [all_true])
      have c := (is_within_ok (nd n) 1 9999).on (hΦ 7 (by decide))
      rw [isW_nd (a := 1) (b := 9999) (by have := (p.vt.le n hn).1; omega) (by have := Tn.le (ts := ts) n hn; omega)] at c
      simp only [List.map_cons, List.map_nil] at c
      refine ⟨[.sh (usD us), .sh (tsD ts), .sh (nd n)], rfl, rfl, fun _ => ?_, rfl⟩
      simp [ev, rdv, argSl, musOf, nodupB, wbk, c]
    have k1 : (ts.all fun _ => true) = true := by simp
    have h3 := ev_b1 (b := .all) (by intro i q; cases q) e1 (all_bools _ _)
    rw [k1] at h3
    rw [exs.eq_def]
    simp only [exs, h3]
theorem amounts_ok {am : List Rat} (b : Bool) (hl : am.length = us.length) (h6 : us.length ≤ 6) (h : ∀ q ∈ am, q.den < 2 ^ 1000 ∧ 0 ≤ q) : Gv 43 [usD us, seqD b (am.map rt)] (.bool true) := by
  refine gv (d := k91_d_amounts_are_right) rfl rfl fun Φ hΦ => ⟨[.sh (usD us), .sh (seqD b (am.map rt)), .un], ?_, by simp⟩
  refine exs_nx (e1 := [.sh (usD us), .sh (seqD b (am.map rt)), .un]) ?_ ?_
  · cases b <;> simp [k91_d_amounts_are_right, exs, ev, op1, op2, opT, opd, res, rdv, truth, tst, isaAny, isaD, cmpD, eqD, b1D, hl, seqD, usD]
  · have hw : walkD .walk (seqD b (am.map rt)) .none = some (am.map rt) := by cases b <;> rfl
    have e1 : ev Φ (.lc [("one", 2)] (.nm 2) .walk (.var 1) .noe .noe (.and (.call 42 (.cons (.var 2) .nil)) (.cmp .ge (.idx (.var 2) (.cst (.int 0))) (.cst (.int 0))))) [.sh (usD us), .sh (seqD b (am.map rt)), .un] = some (.list (am.map fun n => PyData.bool true), [.sh (usD us), .sh (seqD b (am.map rt)), .un]) := by
      refine (ev_lcP rt (fun _ => true) (fun _ => PyData.bool true) am rfl rfl hw (fun q hq => ?_) (sz (by omega))).trans (by rw [all_true])
      obtain ⟨k1, k2⟩ := h q hq
      have c := (is_ratio_ok k1).on (hΦ 42 (by decide))
      have hn : 0 ≤ q.num := Rat.num_nonneg.mpr k2
      have i1 : idxD (rt q) (.int 0) = some (.int q.num) := rfl
      simp only [List.map_cons, List.map_nil] at c
      refine ⟨[.sh (usD us), .sh (seqD b (am.map rt)), .sh (rt q)], rfl, rfl, fun _ => ?_, rfl⟩
      simp [ev, op2, opd, res, rdv, argSl, musOf, nodupB, wbk, c, i1, cmpD, hn]
    have k1 : (am.all fun _ => true) = true := by simp
    have h3 := ev_b1 (b := .all) (by intro i q; cases q) e1 (all_bools _ _)
    rw [k1] at h3
    rw [exs.eq_def]
    simp only [exs, h3]
theorem want_users_ok (p : Ps us ts) : Gv 12 [usD us] .none := by
  refine gvn (d := k91_d_want_users) rfl rfl fun Φ hΦ => ⟨[.sh (usD us)], ?_, by simp⟩
  have c := (are_users_ok p).on (hΦ 11 (by decide))
  simp only [List.map_cons, List.map_nil] at c
  simp [k91_d_want_users, k91_b_want_users, exs, ev, op1, opT, opd, res, rdv, truth, tst, argSl, musOf, nodupB, wbk, c]
theorem want_both_ok (p : Ps us ts) : Gv 14 [usD us, tsD ts] .none := by
  refine gvn (d := k91_d_want_both) rfl rfl fun Φ hΦ => ⟨[.sh (usD us), .sh (tsD ts)], ?_, by simp⟩
  have c1 := (want_users_ok p).on (hΦ 12 (by decide))
  have c2 := (totals_ok p).on (hΦ 13 (by decide))
  simp only [List.map_cons, List.map_nil] at c1 c2
  simp [k91_d_want_both, k91_b_want_both, exs, ev, op1, opT, opd, res, rdv, truth, tst, argSl, musOf, nodupB, wbk, c1, c2]
theorem want_amounts_ok (p : Ps us ts) {am : List Rat} (b : Bool) (hl : am.length = us.length) (h : ∀ q ∈ am, q.den < 2 ^ 1000 ∧ 0 ≤ q) : Gv 45 [usD us, tsD ts, seqD b (am.map rt)] .none := by
  refine gvn (d := k91_d_want_amounts) rfl rfl fun Φ hΦ => ⟨[.sh (usD us), .sh (tsD ts), .sh (seqD b (am.map rt))], ?_, by simp⟩
  have c1 := (want_both_ok p).on (hΦ 14 (by decide))
  have c2 := (amounts_ok b hl p.l1 h).on (hΦ 43 (by decide))
  simp only [List.map_cons, List.map_nil] at c1 c2
  simp [k91_d_want_amounts, k91_b_want_amounts, exs, ev, op1, opT, opd, res, rdv, truth, tst, argSl, musOf, nodupB, wbk, c1, c2]
theorem want_user_ok {i : Nat} (hi : i < us.length) : Gv 53 [usD us, nd i] .none := by
  refine gvn (d := k91_d_want_user) rfl rfl fun Φ hΦ => ⟨[.sh (usD us), .sh (nd i)], ?_, by simp⟩
  have c1 := (is_count_ok (nd i)).on (hΦ 52 (by decide))
  have e3 : b1D .len (usD us) = some (.int (us.length : Nat)) := by
    show some (PyData.int ((us.map ud).length : Nat)) = _
    rw [List.length_map]
  have e4 : ¬ us.length ≤ i := by omega
  simp [isC, nd] at c1
  simp [k91_d_want_user, k91_b_want_user, exs, ev, op1, op2, opT, opd, res, rdv, truth, tst, argSl, musOf, nodupB, wbk, c1, nd, e3, cmpD, e4]
end
end
end Iv
end
section
set_option Elab.async false
set_option linter.all false
set_option maxRecDepth 100000
set_option exponentiation.threshold 3000
set_option maxHeartbeats 4000000
/-! defs as in k92 (printed by trans91.py) -/
namespace Iv
open PySem PySem.Spec L2
/-! K92S -/
section
def lfT : Sm := forS (nthS 3 k91_b__law_filled)
def lfG : Sm := forS (nthS 2 lfT)
def lfU : Sm := forS (nthS 1 lfG)
section
variable {us : List U} {ts R : List Nat} {am : List Rat} {Φ : Fn} {rows : List D} {s0 s1 s2 s3 s4 s5 s6 s7 s8 s9 s10 s11 s12 s13 s14 s15 s16 s17 s18 s19 s20 : Sl}
/-- .. and the sums of what is fixed -/
def Ff (us : List U) (ts R : List Nat) (am : List Rat) : Prop := ∀ k g, k ≤ us.length → g < ts.length → Fit (S k (fx (flOf us ts) R (fn am) g))
theorem eq_rt0 (a : Rat) : eqD (rt a) (.tuple [.int 0, .int 1]) = some (decide (a = 0)) := eq_rt a 0
theorem lu_turn (r : Rn us ts R am) (ff : Ff us ts R am) (hΦ : ∀ i, i < 38 → Φ i = T i) {g : Nat} (hg : g < ts.length) {i : Nat} {u : U} (hi : us[i]? = some u) :
    exs Φ lfU [.sh (usD us), .sh (tsD ts), .own true (am.map rt), .own true rows, .sh (ixD R), s5, .sh (spsD us ts), s7, s8, .sh (nd g), s10, s11, s12, s13, s14, .sh (nd i), s16, .sh (rt (S i (rx (flOf us ts) R g))), .sh (rt (S i (fx (flOf us ts) R (fn am) g))), .sh (ud u), s20]
      = some (.nx [.sh (usD us), .sh (tsD ts), .own true (am.map rt), .own true rows, .sh (ixD R), s5, .sh (spsD us ts), s7, s8, .sh (nd g), s10, s11, s12, s13, s14, .sh (nd i), s16, .sh (rt (S (i + 1) (rx (flOf us ts) R g))), .sh (rt (S (i + 1) (fx (flOf us ts) R (fn am) g))), .sh (ud u), s20]) := by
  have hil := (List.getElem?_eq_some_iff.mp hi).1
  obtain ⟨n1, n2⟩ := need_at r.ok hi hg
  have hn : Fit (((flOf us ts).nd i g : Nat) : Rat) := fit_nat (Nat.lt_of_le_of_lt n2 (by decide))
  have i1 : idxD (.tuple (u.ns.map nd)) (nd g) = some (nd ((flOf us ts).nd i g)) := idx_t nd n1
  have i2 : idxD (spsD us ts) (nd i) = some (rt ((flOf us ts).s i)) := idx_l rt (sp_at hi)
  have i3 : idxD (.list (am.map rt)) (nd i) = some (rt (fn am i)) := idx_l rt (at_lt (by rw [r.len]; exact hil) 0)
  have i4 : idxD (ud u) (.int 2) = some (.tuple (u.ns.map nd)) := rfl
  have hs : Fit ((flOf us ts).s i) := by
    show Fit (spd (us.getD i U0) ts)
    rw [getD_of hi]
    exact spd_fit (r.ok u (List.mem_of_getElem? hi)) r.vt
  by_cases hR : i ∈ R
  · have c1 := (ltimes_ok hs hn).on (hΦ 35 (by decide))
    have c2 := (lplus_ok (r.fr i g (by omega) hg) (r.fsn i g hil hg)).on (hΦ 36 (by decide))
    rw [rt_nat] at c1
    simp only [List.map_cons, List.map_nil, one1_nd] at c1 c2
    have e1 : S (i + 1) (fx (flOf us ts) R (fn am) g) = S i (fx (flOf us ts) R (fn am) g) := by
      simp only [S, fx, if_pos hR]
      grind
    have e2 : S (i + 1) (rx (flOf us ts) R g) = S i (rx (flOf us ts) R g) + (flOf us ts).s i * ((flOf us ts).nd i g : Rat) := by
      simp only [S]
      rw [show rx (flOf us ts) R g i = (flOf us ts).s i * ((flOf us ts).nd i g : Rat) from if_pos hR]
    rw [e1, e2]
    simp [lfU, lfG, lfT, forS, nthS, k91_b__law_filled, exs, tst, opT, opd, ev, op2, res, rdv, cmpD, in_ix, hR, truth, i1, i2, i4, z2, argSl, musOf, nodupB, wbk, c1, c2, tgOk, tgIxs, putOk, bindT]
  · have c1 := (ltimes_ok (r.fa i hil hR) hn).on (hΦ 35 (by decide))
    have c2 := (lplus_ok (ff i g (by omega) hg) (r.fan i g hil hg hR)).on (hΦ 36 (by decide))
    rw [rt_nat] at c1
    simp only [List.map_cons, List.map_nil, one1_nd] at c1 c2
    have e1 : S (i + 1) (rx (flOf us ts) R g) = S i (rx (flOf us ts) R g) := by
      simp only [S, rx, if_neg hR]
      grind
    have e2 : S (i + 1) (fx (flOf us ts) R (fn am) g) = S i (fx (flOf us ts) R (fn am) g) + fn am i * ((flOf us ts).nd i g : Rat) := by
      simp only [S]
      rw [show fx (flOf us ts) R (fn am) g i = fn am i * ((flOf us ts).nd i g : Rat) from if_neg hR]
    rw [e1, e2]
    simp [lfU, lfG, lfT, forS, nthS, k91_b__law_filled, exs, tst, opT, opd, ev, op2, res, rdv, cmpD, in_ix, hR, truth, i1, i3, i4, z2, argSl, musOf, nodupB, wbk, c1, c2, tgOk, tgIxs, putOk, bindT]
theorem lu_loop (r : Rn us ts R am) (ff : Ff us ts R am) (hΦ : ∀ i, i < 38 → Φ i = T i) {g : Nat} (hg : g < ts.length) (j15 : jk s15) (j19 : jk s19) :
    ∃ t15 t19, jk t15 ∧ jk t19 ∧ exs Φ (nthS 1 lfG) [.sh (usD us), .sh (tsD ts), .own true (am.map rt), .own true rows, .sh (ixD R), s5, .sh (spsD us ts), s7, s8, .sh (nd g), s10, s11, s12, s13, s14, s15, s16, .sh (rt 0), .sh (rt 0), s19, s20]
      = some (.nx [.sh (usD us), .sh (tsD ts), .own true (am.map rt), .own true rows, .sh (ixD R), s5, .sh (spsD us ts), s7, s8, .sh (nd g), s10, s11, s12, s13, s14, t15, s16, .sh (rt ((flOf us ts).rate R g)), .sh (rt ((flOf us ts).fixd R (fn am) g)), t19, s20]) := by
  obtain ⟨z, ⟨z1, z2⟩, lp⟩ := for_at (g := .tp [15, 19]) (f := exs Φ lfU) (at2 ud) (fun k (z : Sl × Sl) => [.sh (usD us), .sh (tsD ts), .own true (am.map rt), .own true rows, .sh (ixD R), s5, .sh (spsD us ts), s7, s8, .sh (nd g), s10, s11, s12, s13, s14, z.1, s16, .sh (rt (S k (rx (flOf us ts) R g))), .sh (rt (S k (fx (flOf us ts) R (fn am) g))), z.2, s20])
    (fun z => jk z.1 ∧ jk z.2) us.zipIdx 0 (s15, s19) ⟨j15, j19⟩ (fun i x z hx ⟨z1, z2⟩ => by
      rw [List.getElem?_zipIdx] at hx
      obtain ⟨u, hu, rfl⟩ := Option.map_eq_some_iff.mp hx
      simp only [Nat.zero_add]
      refine ⟨?_, _, (.sh (nd i), .sh (ud u)), rfl, lu_turn r ff hΦ hg hu, jk.sh _, jk.sh _⟩
      show (putOk _ 15 && (putOk _ 19 && true)) = true
      rw [z1.put rfl, z2.put rfl]
      rfl)
  rw [Nat.zero_add, List.length_zipIdx] at lp
  refine ⟨z.1, z.2, z1, z2, Eq.trans ?_ lp⟩
  have w : walkD .enm (usD us) .none = some (us.zipIdx.map (at2 ud)) := walk_enm_t ud us
  simp only [lfG, lfT, forS, nthS, k91_b__law_filled, exs, ev, rdv, List.getElem?_cons_zero, w]
  rfl
/-- what is spent, of so many goods -/
def spK (us : List U) (ts R : List Nat) (am : List Rat) (k : Nat) : List (Nat × Rat) := (List.range k).filterMap fun g => ((flOf us ts).gst R (fn am) g).map fun q => (g, q)
def prD (p : Nat × Rat) : D := .tuple [nd p.1, rt p.2]
theorem spK_succ (k : Nat) : spK us ts R am (k + 1) = spK us ts R am k ++ (match (flOf us ts).gst R (fn am) k with | some q => [(k, q)] | none => []) := by
  unfold spK
  rw [List.range_succ, List.filterMap_append]
  congr 1
  cases h : (flOf us ts).gst R (fn am) k <;> simp [h]
theorem spK_len (k : Nat) : (spK us ts R am k).length ≤ k := by
  unfold spK
  refine Nat.le_trans (List.length_filterMap_le _ _) ?_
  rw [List.length_range]
  exact Nat.le_refl _
theorem lg_turn (r : Rn us ts R am) (ff : Ff us ts R am) (hΦ : ∀ i, i < 38 → Φ i = T i) {g : Nat} (hg : g < ts.length) (j15 : jk s15) (j17 : jk s17) (j18 : jk s18) (j19 : jk s19) :
    ∃ t15 t17 t18 t19, (jk t15 ∧ jk t17 ∧ jk t18 ∧ jk t19) ∧ exs Φ lfG [.sh (usD us), .sh (tsD ts), .own true (am.map rt), .own true rows, .sh (ixD R), s5, .sh (spsD us ts), s7, .own true ((spK us ts R am g).map prD), .sh (nd g), .sh (nd ((flOf us ts).T g)), s11, s12, s13, s14, s15, s16, s17, s18, s19, s20]
      = some (.nx [.sh (usD us), .sh (tsD ts), .own true (am.map rt), .own true rows, .sh (ixD R), s5, .sh (spsD us ts), s7, .own true ((spK us ts R am (g + 1)).map prD), .sh (nd g), .sh (nd ((flOf us ts).T g)), s11, s12, s13, s14, t15, s16, t17, t18, t19, s20]) := by
  obtain ⟨t15, t19, k1, k2, lp⟩ := lu_loop (am := am) (R := R) (rows := rows) (Φ := Φ) (s5 := s5) (s7 := s7) (s8 := .own true ((spK us ts R am g).map prD)) (s10 := .sh (nd ((flOf us ts).T g))) (s11 := s11) (s12 := s12) (s13 := s13) (s14 := s14) (s15 := s15) (s16 := s16) (s19 := s19) (s20 := s20) r ff hΦ hg j15 j19
  refine ⟨t15, .sh (rt ((flOf us ts).rate R g)), .sh (rt ((flOf us ts).fixd R (fn am) g)), t19, ⟨k1, jk.sh _, jk.sh _, k2⟩, ?_⟩
  refine exs_nx (e1 := [.sh (usD us), .sh (tsD ts), .own true (am.map rt), .own true rows, .sh (ixD R), s5, .sh (spsD us ts), s7, .own true ((spK us ts R am g).map prD), .sh (nd g), .sh (nd ((flOf us ts).T g)), s11, s12, s13, s14, s15, s16, .sh (rt 0), .sh (rt 0), s19, s20]) ?_ (exs_nx lp ?_)
  · have e0 : (PyData.tuple [.int 0, .int 1]) = rt 0 := rfl
    have p1 : ∀ (e : Ev), e[17]? = some s17 → putOk e 17 = true := fun e h => j17.put h
    have p2 : ∀ (e : Ev), e[18]? = some s18 → putOk e 18 = true := fun e h => j18.put h
    refine exs_asp (evl_cons (d := rt 0) rfl (evl_cons (d := rt 0) rfl evl_nil)) ?_
    show (if putOk _ 17 = true then (if putOk _ 18 = true then some _ else none) else none) = _
    rw [p1 _ rfl, if_pos rfl, p2 _ rfl, if_pos rfl]
    rfl
  · rw [spK_succ]
    have hz : (spK us ts R am g).length < sizeLine := Nat.lt_of_le_of_lt (Nat.le_trans (spK_len g) (by have := r.vt.l1; omega : g ≤ 4)) (by decide)
    unfold Fl.gst
    by_cases h0 : (flOf us ts).rate R g = 0
    · rw [if_pos h0, h0]
      simp [exs, tst, opT, ev, op2, opd, res, rdv, cmpD, eq_rt0, truth, z2]
    · rw [if_neg h0]
      have hp : 0 < (flOf us ts).rate R g := by
        have := r.rp g hg
        grind
      have fT : Fit (((flOf us ts).T g : Nat) : Rat) := by
        have := r.fl 0 g (by omega) hg
        simp only [S] at this
        rw [show (((flOf us ts).T g : Nat) : Rat) - 0 = (((flOf us ts).T g : Nat) : Rat) by grind] at this
        exact this
      have c0 := (lminus_ok fT (ff us.length g (Nat.le_refl _) hg)).on (hΦ 37 (by decide))
      have c1 := (lover_ok (r.fl us.length g (Nat.le_refl _) hg) (r.fr us.length g (Nat.le_refl _) hg) hp).on (hΦ 33 (by decide))
      rw [rt_nat] at c0
      have e1 : S us.length (fx (flOf us ts) R (fn am) g) = (flOf us ts).fixd R (fn am) g := rfl
      have e2 : S us.length (rx (flOf us ts) R g) = (flOf us ts).rate R g := rfl
      rw [e1] at c0 c1
      rw [e2] at c1
      simp only [List.map_cons, List.map_nil, one1_nd] at c0 c1
      simp [exs, tst, opT, ev, op2, opd, res, rdv, cmpD, eq_rt0, truth, h0, argSl, musOf, nodupB, wbk, z2, c0, c1, ownAt, hz, prD]
theorem lg_loop (r : Rn us ts R am) (ff : Ff us ts R am) (hΦ : ∀ i, i < 38 → Φ i = T i) (j9 : jk s9) (j10 : jk s10) (j15 : jk s15) (j17 : jk s17) (j18 : jk s18) (j19 : jk s19) :
    ∃ t9 t10 t15 t17 t18 t19, (jk t9 ∧ jk t10 ∧ jk t15 ∧ jk t17 ∧ jk t18 ∧ jk t19) ∧ exs Φ (nthS 2 lfT) [.sh (usD us), .sh (tsD ts), .own true (am.map rt), .own true rows, .sh (ixD R), s5, .sh (spsD us ts), s7, .own true [], s9, s10, s11, s12, s13, s14, s15, s16, s17, s18, s19, s20]
      = some (.nx [.sh (usD us), .sh (tsD ts), .own true (am.map rt), .own true rows, .sh (ixD R), s5, .sh (spsD us ts), s7, .own true ((spK us ts R am ts.length).map prD), t9, t10, s11, s12, s13, s14, t15, s16, t17, t18, t19, s20]) := by
  obtain ⟨z, zj, lp⟩ := for_at (g := .tp [9, 10]) (f := exs Φ lfG) (at2 nd) (fun k (z : Sl × Sl × Sl × Sl × Sl × Sl) => [.sh (usD us), .sh (tsD ts), .own true (am.map rt), .own true rows, .sh (ixD R), s5, .sh (spsD us ts), s7, .own true ((spK us ts R am k).map prD), z.1, z.2.1, s11, s12, s13, s14, z.2.2.1, s16, z.2.2.2.1, z.2.2.2.2.1, z.2.2.2.2.2, s20])
    (fun z => jk z.1 ∧ jk z.2.1 ∧ jk z.2.2.1 ∧ jk z.2.2.2.1 ∧ jk z.2.2.2.2.1 ∧ jk z.2.2.2.2.2) ts.zipIdx 0 (s9, s10, s15, s17, s18, s19) ⟨j9, j10, j15, j17, j18, j19⟩ (fun g x z hx ⟨z1, z2, z3, z4, z5, z6⟩ => by
      have hm := List.mem_of_getElem? hx
      rw [List.getElem?_zipIdx] at hx
      obtain ⟨t, ht, rfl⟩ := Option.map_eq_some_iff.mp hx
      have hg := (List.getElem?_eq_some_iff.mp ht).1
      have eT : (flOf us ts).T g = t := getD_of ht
      simp only [Nat.zero_add]
      obtain ⟨t15, t17, t18, t19, ⟨k1, k2, k3, k4⟩, tk⟩ := lg_turn (am := am) (R := R) (rows := rows) (Φ := Φ) (s5 := s5) (s7 := s7) (s11 := s11) (s12 := s12) (s13 := s13) (s14 := s14) (s15 := z.2.2.1) (s16 := s16) (s17 := z.2.2.2.1) (s18 := z.2.2.2.2.1) (s19 := z.2.2.2.2.2) (s20 := s20) r ff hΦ hg z3 z4 z5 z6
      rw [eT] at tk
      refine ⟨?_, _, (.sh (nd g), .sh (nd t), t15, t17, t18, t19), rfl, tk, jk.sh _, jk.sh _, k1, k2, k3, k4⟩
      show (putOk _ 9 && (putOk _ 10 && true)) = true
      rw [z1.put rfl, z2.put rfl]
      rfl)
  rw [Nat.zero_add, List.length_zipIdx] at lp
  refine ⟨z.1, z.2.1, z.2.2.1, z.2.2.2.1, z.2.2.2.2.1, z.2.2.2.2.2, zj, Eq.trans ?_ lp⟩
  have w : walkD .enm (tsD ts) .none = some (ts.zipIdx.map (at2 nd)) := walk_enm_t nd ts
  simp only [lfT, forS, nthS, k91_b__law_filled, exs, ev, rdv, List.getElem?_cons_zero, List.getElem?_cons_succ, w]
  rfl
end
end
end Iv
end
section
set_option Elab.async false
set_option linter.all false
set_option maxRecDepth 100000
set_option exponentiation.threshold 3000
set_option maxHeartbeats 4000000
/-! defs as in k92 (printed by trans91.py) -/
namespace Iv
open PySem PySem.Spec L2
/-! K92T -/
section
theorem filt_map {α β : Type} (f : α → Option β) (φ : β → D) (d : β) : ∀ xs : List α, (xs.filter fun x => (f x).isSome).map (fun x => φ ((f x).getD d)) = (xs.filterMap f).map φ
  | [] => rfl
  | x :: xs => by
    have ih := filt_map f φ d xs
    cases h : f x with
    | none => simp [h, ih]
    | some y => simp [h, ih]
theorem filt_snd (f : Nat → Option Rat) : ∀ xs : List Nat, (xs.filterMap fun g => (f g).map fun q => (g, q)).map (fun p => rt p.2) = (xs.filterMap f).map rt
  | [] => rfl
  | x :: xs => by
    have ih := filt_snd f xs
    cases h : f x with
    | none => simp [h]; exact ih
    | some y => simp [h]; exact ih
theorem filt_at (f : Nat → Option Rat) (m : Rat) : ∀ xs : List Nat, ((xs.filterMap fun g => (f g).map fun q => (g, q)).filter fun p => decide (p.2 = m)).map (fun p => nd p.1) = (xs.filter fun g => decide (f g = some m)).map nd
  | [] => rfl
  | x :: xs => by
    have ih := filt_at f m xs
    cases h : f x with
    | none => simp [h]; exact ih
    | some y =>
      by_cases q : y = m
      · subst q
        simp [h]; exact ih
      · simp [h, q]; exact ih
section
variable {us : List U} {ts R : List Nat} {am : List Rat} {Φ : Fn} {rows : List D} {s0 s1 s2 s3 s4 s5 s6 s7 s8 s9 s10 s11 s12 s13 s14 s15 s16 s17 s18 s19 s20 : Sl}
def wsK (us : List U) (ts R : List Nat) : List (Nat × Rat) := R.filterMap fun i => ((flOf us ts).wst i).map fun q => (i, q)
def st1 (us : List U) (ts R : List Nat) (am : List Rat) : List Nat := R.filter fun i => decide ((flOf us ts).wst i = some ((flOf us ts).mark R (fn am)))
theorem lt_wants (r : Rn us ts R am) (hR : R.length ≤ 100) (hΦ : ∀ i, i < 38 → Φ i = T i) (j11 : jk s11) :
    exs Φ (nthS 3 lfT) [.sh (usD us), .sh (tsD ts), .own true (am.map rt), .own true rows, .sh (ixD R), s5, .sh (spsD us ts), s7, s8, s9, s10, s11, s12, s13, s14, s15, s16, s17, s18, s19, s20]
      = some (.nx [.sh (usD us), .sh (tsD ts), .own true (am.map rt), .own true rows, .sh (ixD R), s5, .sh (spsD us ts), s7, s8, s9, s10, .sh (.list ((wsK us ts R).map prD)), s12, s13, s14, s15, s16, s17, s18, s19, s20]) := by
  have ew : ∀ {i : Nat} {u : U}, us[i]? = some u → (flOf us ts).wst i = (u.want.map fun v => (v : Rat) / spd u ts) := by
    intro i u hu
    show ((us.getD i U0).want.map fun v => (v : Rat) / spd (us.getD i U0) ts) = _
    rw [getD_of hu]
  refine (asg_nm (ev_lcP nd (fun i => (((flOf us ts).wst i).map fun q => (i, q)).isSome) (fun i => prD ((((flOf us ts).wst i).map fun q => (i, q)).getD (0, 0))) R rfl rfl rfl (fun i hi => ?_) (sz hR)) (j11.put rfl)).trans ?_
  · have hil := r.lt i hi
    obtain ⟨u, hu⟩ : ∃ u, us[i]? = some u := ⟨_, List.getElem?_eq_getElem hil⟩
    have vu := r.ok _ (List.mem_of_getElem? hu)
    have hs := spd_fit vu r.vt
    have hp := (spd_bd vu r.vt).1
    have i1 : idxD (usD us) (nd i) = some (ud u) := idx_t ud hu
    have i2 : idxD (spsD us ts) (nd i) = some (rt (spd u ts)) := idx_l rt (by rw [List.getElem?_map, hu]; rfl)
    have i3 : idxD (ud u) (.int 3) = some (wd u.want) := rfl
    rw [ew hu]
    refine ⟨[.sh (usD us), .sh (tsD ts), .own true (am.map rt), .own true rows, .sh (ixD R), s5, .sh (spsD us ts), s7, s8, s9, s10, s11, s12, s13, s14, .sh (nd i), s16, s17, s18, s19, s20], rfl, ?_, fun ht => ?_, rfl⟩
    · cases hw : u.want <;> simp [lcT, opT, opd, ev, op2, res, i1, i3, isn_wd, truth, hw]
    · cases hw : u.want with
      | none => rw [hw] at ht; cases ht
      | some v =>
        have hv : Fit (v : Rat) := fit_nat (Nat.lt_of_le_of_lt (vu.want v hw) (by decide))
        have h2 := (lover_ok hv hs hp).on (hΦ 33 (by decide))
        rw [rt_nat] at h2
        simp only [List.map_cons, List.map_nil, one1] at h2
        simp [ev, op2, opd, res, rdv, i1, i2, i3, hw, wd, argSl, musOf, nodupB, wbk, z2, h2, prD]
  · rw [filt_map]
    rfl
theorem lt_mark (hc : (flOf us ts).cands R (fn am) ≠ []) (hf : ∀ q ∈ (flOf us ts).cands R (fn am), Fit q) (hg : ts.length ≤ 4) (hR : R.length ≤ 100) (hΦ : ∀ i, i < 38 → Φ i = T i) (j12 : jk s12) :
    exs Φ (nthS 4 lfT) [s0, s1, s2, s3, s4, s5, s6, s7, .own true ((spK us ts R am ts.length).map prD), s9, s10, .sh (.list ((wsK us ts R).map prD)), s12, s13, s14, s15, s16, s17, s18, s19, s20]
      = some (.nx [s0, s1, s2, s3, s4, s5, s6, s7, .sh (.list ((spK us ts R am ts.length).map prD)), s9, s10, .sh (.list ((wsK us ts R).map prD)), .sh (rt ((flOf us ts).mark R (fn am))), s13, s14, s15, s16, s17, s18, s19, s20]) := by
  have l1 : (spK us ts R am ts.length).length ≤ 100 := Nat.le_trans (spK_len _) (by omega)
  have l2 : (wsK us ts R).length ≤ 100 := Nat.le_trans (List.length_filterMap_le _ _) hR
  have h1 : ev Φ (.lc [("good", 9), ("one", 20)] (.tp [9, 20]) .walk (.var 8) .noe .noe (.var 20)) [s0, s1, s2, s3, s4, s5, s6, s7, .own true ((spK us ts R am ts.length).map prD), s9, s10, .sh (.list ((wsK us ts R).map prD)), s12, s13, s14, s15, s16, s17, s18, s19, s20] = some (.list ((spK us ts R am ts.length).map fun p => rt p.2), [s0, s1, s2, s3, s4, s5, s6, s7, .sh (.list ((spK us ts R am ts.length).map prD)), s9, s10, .sh (.list ((wsK us ts R).map prD)), s12, s13, s14, s15, s16, s17, s18, s19, s20]) := by
    refine (ev_lcF prD (fun _ => true) (fun p => rt p.2) (spK us ts R am ts.length) rfl rfl rfl (fun p hp => ?_) (sz l1)).trans ?_
    · exact ⟨[s0, s1, s2, s3, s4, s5, s6, s7, .sh (.list ((spK us ts R am ts.length).map prD)), .sh (nd p.1), s10, .sh (.list ((wsK us ts R).map prD)), s12, s13, s14, s15, s16, s17, s18, s19, .sh (rt p.2)], rfl, rfl, fun _ => rfl, rfl⟩
    · rw [all_true]
      rfl
  have h2 : ev Φ (.lc [("user", 15), ("one", 20)] (.tp [15, 20]) .walk (.var 11) .noe .noe (.var 20)) [s0, s1, s2, s3, s4, s5, s6, s7, .sh (.list ((spK us ts R am ts.length).map prD)), s9, s10, .sh (.list ((wsK us ts R).map prD)), s12, s13, s14, s15, s16, s17, s18, s19, s20] = some (.list ((wsK us ts R).map fun p => rt p.2), [s0, s1, s2, s3, s4, s5, s6, s7, .sh (.list ((spK us ts R am ts.length).map prD)), s9, s10, .sh (.list ((wsK us ts R).map prD)), s12, s13, s14, s15, s16, s17, s18, s19, s20]) := by
    refine (ev_lcP prD (fun _ => true) (fun p => rt p.2) (wsK us ts R) rfl rfl rfl (fun p hp => ?_) (sz l2)).trans ?_
    · exact ⟨[s0, s1, s2, s3, s4, s5, s6, s7, .sh (.list ((spK us ts R am ts.length).map prD)), s9, s10, .sh (.list ((wsK us ts R).map prD)), s12, s13, s14, .sh (nd p.1), s16, s17, s18, s19, .sh (rt p.2)], rfl, rfl, fun _ => rfl, rfl⟩
    · rw [all_true]
  have e1 : (spK us ts R am ts.length).map (fun p => rt p.2) = ((List.range ts.length).filterMap ((flOf us ts).gst R (fn am))).map rt := filt_snd _ _
  have e2 : (wsK us ts R).map (fun p => rt p.2) = (R.filterMap (flOf us ts).wst).map rt := filt_snd _ _
  have hz : (spK us ts R am ts.length).length + (wsK us ts R).length ≤ sizeLine := Nat.le_trans (Nat.add_le_add l1 l2) (by decide)
  have hs : ev Φ (.bin .add (.lc [("good", 9), ("one", 20)] (.tp [9, 20]) .walk (.var 8) .noe .noe (.var 20)) (.lc [("user", 15), ("one", 20)] (.tp [15, 20]) .walk (.var 11) .noe .noe (.var 20))) [s0, s1, s2, s3, s4, s5, s6, s7, .own true ((spK us ts R am ts.length).map prD), s9, s10, .sh (.list ((wsK us ts R).map prD)), s12, s13, s14, s15, s16, s17, s18, s19, s20] = some (.list (((flOf us ts).cands R (fn am)).map rt), [s0, s1, s2, s3, s4, s5, s6, s7, .sh (.list ((spK us ts R am ts.length).map prD)), s9, s10, .sh (.list ((wsK us ts R).map prD)), s12, s13, s14, s15, s16, s17, s18, s19, s20]) := by
    rw [ev.eq_def Φ (.bin _ _ _)]
    simp only [op2, opd, h1, h2, res, binD, addD, List.length_map, if_pos hz, Option.map_some]
    rw [e1, e2, ← List.map_append]
    rfl
  cases hcc : (flOf us ts).cands R (fn am) with
  | nil => exact absurd hcc hc
  | cons x xs =>
    rw [hcc] at hs hf
    have c := (lleast_ok (x := x) (xs := xs) (hf x List.mem_cons_self) fun y hy => hf y (List.mem_cons_of_mem _ hy)).on (hΦ 34 (by decide))
    simp only [List.map_cons, List.map_nil] at c hs
    have em : (flOf us ts).mark R (fn am) = xs.foldl lo x := by unfold Fl.mark; rw [hcc]
    rw [em]
    refine asg_nm (e1 := [s0, s1, s2, s3, s4, s5, s6, s7, .sh (.list ((spK us ts R am ts.length).map prD)), s9, s10, .sh (.list ((wsK us ts R).map prD)), s12, s13, s14, s15, s16, s17, s18, s19, s20]) ?_ (j12.put rfl)
    simp only [ev.eq_def Φ (.call 34 _), ev.eq_def Φ (.cons _ _), ev.eq_def Φ .nil, hs, argSl, musOf, nodupB, c, wbk]
    rfl
theorem lt_goods (hg : ts.length ≤ 4) (j13 : jk s13) : exs Φ (nthS 5 lfT) [s0, s1, s2, s3, s4, s5, s6, s7, .sh (.list ((spK us ts R am ts.length).map prD)), s9, s10, s11, .sh (rt ((flOf us ts).mark R (fn am))), s13, s14, s15, s16, s17, s18, s19, s20]
      = some (.nx [s0, s1, s2, s3, s4, s5, s6, s7, .sh (.list ((spK us ts R am ts.length).map prD)), s9, s10, s11, .sh (rt ((flOf us ts).mark R (fn am))), .sh (ixD ((flOf us ts).full R (fn am))), s14, s15, s16, s17, s18, s19, s20]) := by
  have l1 : (spK us ts R am ts.length).length ≤ 100 := Nat.le_trans (spK_len _) (by omega)
  refine (asg_nm (ev_lcP prD (fun p => decide (p.2 = (flOf us ts).mark R (fn am))) (fun p => nd p.1) (spK us ts R am ts.length) rfl rfl rfl (fun p hp => ?_) (sz l1)) (j13.put rfl)).trans ?_
  · refine ⟨[s0, s1, s2, s3, s4, s5, s6, s7, .sh (.list ((spK us ts R am ts.length).map prD)), .sh (nd p.1), s10, s11, .sh (rt ((flOf us ts).mark R (fn am))), s13, s14, s15, s16, s17, s18, s19, .sh (rt p.2)], rfl, ?_, fun _ => rfl, rfl⟩
    simp [lcT, opT, opd, ev, op2, res, cmpD, eq_rt, truth]
  · rw [show ((spK us ts R am ts.length).filter fun p => decide (p.2 = (flOf us ts).mark R (fn am))).map (fun p => nd p.1) = ((flOf us ts).full R (fn am)).map nd from filt_at _ _ _]
    rfl
theorem lt_st1 (hR : R.length ≤ 100) (j14 : jk s14) : exs Φ (nthS 6 lfT) [s0, s1, s2, s3, s4, s5, s6, s7, s8, s9, s10, .sh (.list ((wsK us ts R).map prD)), .sh (rt ((flOf us ts).mark R (fn am))), s13, s14, s15, s16, s17, s18, s19, s20]
      = some (.nx [s0, s1, s2, s3, s4, s5, s6, s7, s8, s9, s10, .sh (.list ((wsK us ts R).map prD)), .sh (rt ((flOf us ts).mark R (fn am))), s13, .sh (ixD (st1 us ts R am)), s15, s16, s17, s18, s19, s20]) := by
  have l2 : (wsK us ts R).length ≤ 100 := Nat.le_trans (List.length_filterMap_le _ _) hR
  refine (asg_nm (ev_lcP prD (fun p => decide (p.2 = (flOf us ts).mark R (fn am))) (fun p => nd p.1) (wsK us ts R) rfl rfl rfl (fun p hp => ?_) (sz l2)) (j14.put rfl)).trans ?_
  · refine ⟨[s0, s1, s2, s3, s4, s5, s6, s7, s8, s9, s10, .sh (.list ((wsK us ts R).map prD)), .sh (rt ((flOf us ts).mark R (fn am))), s13, s14, .sh (nd p.1), s16, s17, s18, s19, .sh (rt p.2)], rfl, ?_, fun _ => rfl, rfl⟩
    simp [lcT, opT, opd, ev, op2, res, cmpD, eq_rt, truth]
  · rw [show ((wsK us ts R).filter fun p => decide (p.2 = (flOf us ts).mark R (fn am))).map (fun p => nd p.1) = (st1 us ts R am).map nd from filt_at _ _ _]
    rfl
theorem lt_any {L : List Nat} {i : Nat} (ok : ∀ u ∈ us, Vu ts.length u) (hi : i < us.length) (hL : ∀ g ∈ L, g < ts.length) (hl : L.length ≤ 100) :
    ev Φ (.b1 .any (.lc [("good", 9)] (.nm 9) .walk (.var 13) .noe .noe (.cmp .gt (.idx (.idx (.idx (.var 0) (.var 15)) (.cst (.int 2))) (.var 9)) (.cst (.int 0))))) [.sh (usD us), s1, s2, s3, s4, s5, s6, s7, s8, s9, s10, s11, s12, .sh (ixD L), s14, .sh (nd i), s16, s17, s18, s19, s20]
      = some (.bool (L.any fun g => decide (0 < (flOf us ts).nd i g)), [.sh (usD us), s1, s2, s3, s4, s5, s6, s7, s8, s9, s10, s11, s12, .sh (ixD L), s14, .sh (nd i), s16, s17, s18, s19, s20]) := by
  obtain ⟨u, hu⟩ : ∃ u, us[i]? = some u := ⟨_, List.getElem?_eq_getElem hi⟩
  have i1 : idxD (usD us) (nd i) = some (ud u) := idx_t ud hu
  have i4 : idxD (ud u) (.int 2) = some (.tuple (u.ns.map nd)) := rfl
  have hlc := ev_lcP (Φ := Φ) (own := [("good", 9)]) (g := .nm 9) (k := .walk) (a := .var 13) (b := .noe) (c := .noe) (f := .cmp .gt (.idx (.idx (.idx (.var 0) (.var 15)) (.cst (.int 2))) (.var 9)) (.cst (.int 0)))
    (e := [.sh (usD us), s1, s2, s3, s4, s5, s6, s7, s8, s9, s10, s11, s12, .sh (ixD L), s14, .sh (nd i), s16, s17, s18, s19, s20]) (x := ixD L) (y := .none) nd (fun _ => true) (fun g => .bool (decide (0 < (flOf us ts).nd i g))) L rfl rfl rfl (fun g hg => by
      obtain ⟨n1, n2⟩ := need_at ok hu (hL g hg)
      have i2 : idxD (.tuple (u.ns.map nd)) (nd g) = some (nd ((flOf us ts).nd i g)) := idx_t nd n1
      refine ⟨[.sh (usD us), s1, s2, s3, s4, s5, s6, s7, s8, .sh (nd g), s10, s11, s12, .sh (ixD L), s14, .sh (nd i), s16, s17, s18, s19, s20], rfl, rfl, fun _ => ?_, rfl⟩
      have hc : cmpD .gt (nd ((flOf us ts).nd i g)) (.int 0) = some (decide (0 < (flOf us ts).nd i g)) := by
        show some (decide ((0 : Int) < (((flOf us ts).nd i g : Nat) : Int))) = _
        congr 1
        simp
      simp [ev, op2, opd, res, i1, i4, i2, hc]) (sz hl)
  rw [all_true] at hlc
  simp only [ev.eq_def Φ (.b1 _ _), op1, opd, hlc, res, b1D, bools_map, Option.map_some, List.any_map]
  rfl
theorem lt_stp (r : Rn us ts R am) (hR : R.length ≤ 100) : exs Φ (nthS 7 lfT) [.sh (usD us), s1, s2, s3, .sh (ixD R), s5, s6, s7, s8, s9, s10, s11, s12, .sh (ixD ((flOf us ts).full R (fn am))), .sh (ixD (st1 us ts R am)), s15, s16, s17, s18, s19, s20]
      = some (.nx [.sh (usD us), s1, s2, s3, .sh (ixD R), s5, s6, s7, s8, s9, s10, s11, s12, .sh (ixD ((flOf us ts).full R (fn am))), .sh (ixD ((flOf us ts).stp R (fn am))), s15, s16, s17, s18, s19, s20]) := by
  refine (asg_nm (ev_lcP nd ((flOf us ts).out R (fn am)) nd R rfl rfl rfl (fun i hi => ?_) (sz hR)) rfl).trans ?_
  · refine ⟨[.sh (usD us), s1, s2, s3, .sh (ixD R), s5, s6, s7, s8, s9, s10, s11, s12, .sh (ixD ((flOf us ts).full R (fn am))), .sh (ixD (st1 us ts R am)), .sh (nd i), s16, s17, s18, s19, s20], rfl, ?_, fun _ => rfl, rfl⟩
    have ha := lt_any (Φ := Φ) (L := (flOf us ts).full R (fn am)) (i := i) (s1 := s1) (s2 := s2) (s3 := s3) (s4 := .sh (ixD R)) (s5 := s5) (s6 := s6) (s7 := s7) (s8 := s8) (s9 := s9) (s10 := s10) (s11 := s11) (s12 := s12) (s14 := .sh (ixD (st1 us ts R am))) (s16 := s16) (s17 := s17) (s18 := s18) (s19 := s19) (s20 := s20) r.ok (r.lt i hi) full_lt (by have := full_len (us := us) (ts := ts) (R := R) (am := am); have := r.vt.l1; omega)
    have tes : ev Φ (.or (.cmp .inn (.var 15) (.var 14)) (.b1 .any (.lc [("good", 9)] (.nm 9) .walk (.var 13) .noe .noe (.cmp .gt (.idx (.idx (.idx (.var 0) (.var 15)) (.cst (.int 2))) (.var 9)) (.cst (.int 0)))))) [.sh (usD us), s1, s2, s3, .sh (ixD R), s5, s6, s7, s8, s9, s10, s11, s12, .sh (ixD ((flOf us ts).full R (fn am))), .sh (ixD (st1 us ts R am)), .sh (nd i), s16, s17, s18, s19, s20]
        = some (.bool ((flOf us ts).out R (fn am) i), [.sh (usD us), s1, s2, s3, .sh (ixD R), s5, s6, s7, s8, s9, s10, s11, s12, .sh (ixD ((flOf us ts).full R (fn am))), .sh (ixD (st1 us ts R am)), .sh (nd i), s16, s17, s18, s19, s20]) := by
      have e2 : ev Φ (.cmp .inn (.var 15) (.var 14)) [.sh (usD us), s1, s2, s3, .sh (ixD R), s5, s6, s7, s8, s9, s10, s11, s12, .sh (ixD ((flOf us ts).full R (fn am))), .sh (ixD (st1 us ts R am)), .sh (nd i), s16, s17, s18, s19, s20] = some (.bool (decide (i ∈ st1 us ts R am)), [.sh (usD us), s1, s2, s3, .sh (ixD R), s5, s6, s7, s8, s9, s10, s11, s12, .sh (ixD ((flOf us ts).full R (fn am))), .sh (ixD (st1 us ts R am)), .sh (nd i), s16, s17, s18, s19, s20]) := by
        simp [ev, op2, opd, res, cmpD, in_ix]
      have e3 : decide (i ∈ st1 us ts R am) = decide ((flOf us ts).wst i = some ((flOf us ts).mark R (fn am))) := by
        unfold st1
        simp [List.mem_filter, hi]
      have ho : (flOf us ts).out R (fn am) i = (decide ((flOf us ts).wst i = some ((flOf us ts).mark R (fn am))) || ((flOf us ts).full R (fn am)).any fun g => decide (0 < (flOf us ts).nd i g)) := rfl
      rw [ev.eq_def Φ (.or _ _)]
      simp only [e2]
      rw [ho, e3]
      cases hq : decide ((flOf us ts).wst i = some ((flOf us ts).mark R (fn am))) with
      | true => rfl
      | false => simp only [ha, Bool.false_or]
    exact lcT_bool (by intro j q; cases q) (by intro q; cases q) tes
  · rfl
end
end
end Iv
end
section
set_option Elab.async false
set_option linter.all false
set_option maxRecDepth 100000
set_option exponentiation.threshold 3000
set_option maxHeartbeats 4000000
/-! defs as in k92 (printed by trans91.py) -/
namespace Iv
open PySem PySem.Spec L2
/-! K92Q -/
section
section
variable {us : List U} {ts : List Nat} {Φ : Fn} {L : Nat}
theorem tst_ne (R : List Nat) (a0 a1 a2 a3 : Sl) (e : List Sl) : tst Φ (.cmp .ne (.var 4) (.lst .nil)) (a0 :: a1 :: a2 :: a3 :: .sh (ixD R) :: e) = some (!R.isEmpty, a0 :: a1 :: a2 :: a3 :: .sh (ixD R) :: e) := by
  have hz : (0 : Nat) ≤ sizeLine := Nat.zero_le _
  simp [tst, opT, opd, ev, op2, res, ne_ix, truth, hz]
theorem loop_fill (p : Ps us ts) (B : (flOf us ts).Bs L) (hΦ : ∀ i, i < 28 → Φ i = T i) : ∀ (k : Nat) (R : List Nat) (am : List Rat) (l : Nat → Rat) (c : Rat) (M : Nat) (rows : List D) (n : Nat) (s6 s7 s8 s9 s10 s11 s12 s13 s14 s15 : Sl),
    R.length ≤ k → (flOf us ts).St L R (fn am) l c M → am.length = us.length → rows.length + k < sizeLine → k < n →
    junk s6 → junk s7 → junk s8 → junk s9 → junk s10 → (s11 = .un ∨ ∃ d, s11 = .sh d) → (s12 = .un ∨ ∃ d, s12 = .sh d) →
    ∃ t6 t7 t8 t9 t10 t11 t12, whlGo (tst Φ (.cmp .ne (.var 4) (.lst .nil))) (exs Φ fillBody) n
      [.sh (usD us), .sh (tsD ts), .sh (spsD us ts), .own true (am.map rt), .sh (ixD R), .own true rows, s6, s7, s8, s9, s10, s11, s12, s13, s14, s15]
      = some (.nx [.sh (usD us), .sh (tsD ts), .sh (spsD us ts), .own true ((fillL us ts k R am).1.map rt), .sh (ixD []), .own true (rows ++ (fillL us ts k R am).2), t6, t7, t8, t9, t10, t11, t12, s13, s14, s15])
  | k, [], am, l, c, M, rows, n + 1, s6, s7, s8, s9, s10, s11, s12, s13, s14, s15, hk, A, hl, hr, hn, j6, j7, j8, j9, j10, j11, j12 => by
    refine ⟨s6, s7, s8, s9, s10, s11, s12, ?_⟩
    have e : fillL us ts k [] am = (am, []) := by cases k <;> rfl
    rw [whlGo, tst_ne, e, List.append_nil]
    rfl
  | k + 1, i :: R, am, l, c, M, rows, n + 1, s6, s7, s8, s9, s10, s11, s12, s13, s14, s15, hk, A, hl, hr, hn, j6, j7, j8, j9, j10, j11, j12 => by
    have rn := Rn.of p B A hl
    have hne : i :: R ≠ [] := by simp
    have hlt : ∀ j ∈ i :: R, j < us.length := fun j hj => A.at_.lt j hj
    obtain ⟨m1, m2⟩ := Fl.mark_spec B.ok A.at_ hne
    have hc : (flOf us ts).cands (i :: R) (fn am) ≠ [] := fun q => by rw [q] at m2; cases m2
    obtain ⟨l', M', A', hlen⟩ := Fl.next B A hne
    obtain ⟨t6, t7, t8, t9, t10, t11, t12, k6, k7, k8, k9, k10, k11, k12, tk⟩ := turn_ok (rows := rows) (s13 := s13) (s14 := s14) (s15 := s15) rn A.r6 (by omega) hc (fun q hq => cand_fit B A hne hq) (cand_fit B A hne m2) hΦ j6 j7 j8 j9 j10 j11 j12
    rw [← fn_am2 hl hlt] at A'
    obtain ⟨u6, u7, u8, u9, u10, u11, u12, ih⟩ := loop_fill p B hΦ k ((flOf us ts).R2 (i :: R) (fn am)) (setA us ts ((flOf us ts).mark (i :: R) (fn am)) ((flOf us ts).stp (i :: R) (fn am)) am) l' _ M' (rows ++ [rowD us ts (i :: R) am]) n t6 t7 t8 t9 t10 t11 t12 s13 s14 s15 (by omega) A' (by rw [setA_len, hl]) (by rw [List.length_append, List.length_singleton]; omega) (by omega) k6 k7 k8 k9 k10 k11 k12
    refine ⟨u6, u7, u8, u9, u10, u11, u12, ?_⟩
    rw [whlGo, tst_ne]
    simp only [List.isEmpty_cons, Bool.not_false]
    rw [tk]
    simp only [ih, fillL, List.append_assoc, List.singleton_append]
  | 0, i :: R, _, _, _, _, _, _, _, _, _, _, _, _, _, _, _, _, hk, _, _, _, _, _, _, _, _, _, _, _ => by simp at hk
  | _, _, _, _, _, _, _, 0, _, _, _, _, _, _, _, _, _, _, _, _, _, _, hn, _, _, _, _, _, _, _ => by omega
/-- the share, and its rows -/
def amsOf (us : List U) (ts : List Nat) : List Rat := (fillL us ts us.length (List.range us.length) (List.replicate us.length 0)).1
def rowsOf (us : List U) (ts : List Nat) : List D := (fillL us ts us.length (List.range us.length) (List.replicate us.length 0)).2
theorem fn_zero (n : Nat) : fn (List.replicate n 0) = fun _ => 0 := by
  funext i
  unfold fn
  by_cases h : i < n
  · rw [getD_of (x := 0)]
    rw [List.getElem?_replicate, if_pos h]
  · rw [getD_out (by rw [List.length_replicate]; exact h)]
theorem rep_nought (n : Nat) (h : n ≤ 6) : repD (.list [rt 0]) (.int n) = some (.list ((List.replicate n (0 : Rat)).map rt)) := by
  have hz : [rt 0].length * ((n : Int)).toNat ≤ sizeLine := by
    have : ((n : Int)).toNat = n := by omega
    rw [this, List.length_singleton, Nat.one_mul]
    exact sz (by omega)
  simp only [repD, if_pos (show -(2 ^ 63) ≤ (n : Int) ∧ (n : Int) < 2 ^ 63 ∧ [rt 0].length * ((n : Int)).toNat ≤ sizeLine from ⟨by omega, by omega, hz⟩)]
  congr 2
  have : ((n : Int)).toNat = n := by omega
  rw [this, List.map_replicate]
  clear h hz this
  induction n with
  | zero => rfl
  | succ n ih => rw [List.replicate_succ, List.replicate_succ, List.flatten_cons, ih]; rfl
theorem ev_lrng {x : Ex} {e : Ev} {n : Nat} (h : ev Φ x e = some (.int (n : Int), e)) (hn : n ≤ 6) : ev Φ (.m1 .lrng x .noe) e = some (.list ((List.range n).map nd), e) := by
  have hs : small62 (n : Int) = true := by
    unfold small62
    rw [decide_eq_true (by omega), decide_eq_true (by omega)]
    rfl
  have h16 : decide ((n : Int) ≤ 16777216) = true := decide_eq_true (by omega)
  simp only [ev, h, hs, h16, Bool.and_self, if_true, rng_nd]
theorem ev_len_us (us : List U) {e : List Sl} : ev Φ (.b1 .len (.var 0)) (.sh (usD us) :: e) = some (.int (us.length : Nat), .sh (usD us) :: e) := by
  have e1 : b1D .len (usD us) = some (.int (us.length : Nat)) := by
    show some (PyData.int ((us.map ud).length : Nat)) = _
    rw [List.length_map]
  simp [ev, op1, opd, res, e1]
theorem filled_ok (p : Ps us ts) : Gv 28 [usD us, tsD ts] (.tuple [rtl (amsOf us ts), .list (rowsOf us ts)]) := by
  obtain ⟨L, B⟩ := p.bs
  refine gv (d := k91_d_filled) rfl rfl fun Φ hΦ => ?_
  have l1 := p.l1
  have first := Fl.first B
  rw [show (flOf us ts).n = us.length from rfl, ← fn_zero us.length] at first
  obtain ⟨t6, t7, t8, t9, t10, t11, t12, lp⟩ := loop_fill p B hΦ us.length (List.range us.length) (List.replicate us.length 0) _ _ _ [] turns .un .un .un .un .un .un .un .un .un .un
    (by rw [List.length_range]; exact Nat.le_refl _) first List.length_replicate (Nat.lt_of_le_of_lt (show ([] : List D).length + us.length ≤ 6 by simpa using l1) (by decide)) (by unfold turns; omega) (.inl rfl) (.inl rfl) (.inl rfl) (.inl rfl) (.inl rfl) (.inl rfl) (.inl rfl)
  refine ⟨[.sh (usD us), .sh (tsD ts), .sh (spsD us ts), .sh (rtl (amsOf us ts)), .sh (ixD []), .sh (.list (rowsOf us ts)), t6, t7, t8, t9, t10, t11, t12, .un, .un, .un], ?_, by simp⟩
  refine exs_nx (e1 := [.sh (usD us), .sh (tsD ts), .sh (spsD us ts), .un, .un, .un, .un, .un, .un, .un, .un, .un, .un, .un, .un, .un]) ?_ (exs_nx (e1 := [.sh (usD us), .sh (tsD ts), .sh (spsD us ts), .own true ((List.replicate us.length (0 : Rat)).map rt), .sh (ixD (List.range us.length)), .own true [], .un, .un, .un, .un, .un, .un, .un, .un, .un, .un]) ?_ (exs_nx (exs_whl.trans lp) ?_))
  · refine (asg_nm (ev_lcP (x := usD us) (y := .none) ud (fun _ => true) (fun u => rt (spd u ts)) us rfl rfl rfl (fun u hu => ?_) (sz (by omega))) rfl).trans ?_
    · have c := (speed_ok (p.ok u hu) p.vt).on (hΦ 21 (by decide))
      have c : Φ 21 [.sh (ud u), .sh (tsD ts)] = some (rt (spd u ts), [.sh (ud u), .sh (tsD ts)]) := c
      refine ⟨[.sh (usD us), .sh (tsD ts), .un, .un, .un, .un, .un, .un, .un, .un, .un, .un, .un, .sh (ud u), .un, .un], rfl, rfl, fun _ => ?_, rfl⟩
      simp [ev, rdv, argSl, musOf, nodupB, wbk, c]
    · rw [all_true]
      unfold spsD rtl
      rw [List.map_map]
      rfl
  · exact exs_asp (evl_cons (ev_rep (ds := [rt 0]) rfl (by decide) (ev_len_us us) (rep_nought _ l1)) (evl_cons (ev_lrng (ev_len_us us) l1) (evl_cons ev_lst0 evl_nil))) rfl
  · have hz : (2 : Nat) ≤ sizeLine := by decide
    simp [exs, ev, rdv, hz, rtl, amsOf, rowsOf]
end
end
/-! K92R -/
section
section
variable {u : U} {us : List U} {ts : List Nat}
theorem fit_nat99 {n : Nat} (h : n ≤ 19998) : n < 2 ^ 400 := Nat.lt_of_le_of_lt h (by decide)
theorem lheight_ok (hu : Vu ts.length u) (ht : Vt ts) : Gv 32 [ud u, tsD ts] (rt (hgtM u ts)) := by
  refine gv (d := k91_d__law_height) rfl rfl fun Φ hΦ => ?_
  obtain ⟨x, xs, e⟩ := hgt_ne hu ht
  have hfit := hgt_fit hu ht
  have hlc : ev Φ (.lc [("need", 5), ("total", 6)] (.tp [5, 6]) .zip (.idx (.var 0) (.cst (.int 2))) (.var 1) .noe (.call 30 (.cons (.var 5) (.cons (.var 6) .nil)))) [.sh (ud u), .sh (tsD ts), .un, .un, .un, .un, .un] = some (.list ((hgt u ts).map rt), [.sh (ud u), .sh (tsD ts), .un, .un, .un, .un, .un]) := by
    refine (ev_lcP pr2 (fun _ => true) (fun p => rt ((p.1 : Rat) / (p.2 : Rat))) (u.ns.zip ts) (by simp [ev, op2, opd, res, idxD, atI, ixN, ud]) rfl (walk_zip u.ns ts) (fun p hp => ?_) (sz (zlen hu ht))).trans ?_
    · obtain ⟨h1, h2⟩ := List.of_mem_zip hp
      have k1 := hu.le _ h1
      have k2 := ht.le _ h2
      have hc := (ratio_ok (a := (p.1 : Int)) (b := (p.2 : Int)) (by omega) (by rw [Int.natAbs_natCast]; exact Nat.lt_of_le_of_lt k2.2 (by decide)) (by rw [Int.natAbs_natCast]; exact Nat.lt_of_le_of_lt k1 (by decide))).on (hΦ 30 (by decide))
      rw [Rat.intCast_natCast, Rat.intCast_natCast] at hc
      simp only [List.map_cons, List.map_nil] at hc
      refine ⟨[.sh (ud u), .sh (tsD ts), .un, .un, .un, .sh (nd p.1), .sh (nd p.2)], rfl, rfl, fun _ => ?_, rfl⟩
      simp [ev, rdv, argSl, musOf, nodupB, wbk, nd, hc]
    · rw [all_true]
      unfold hgt
      rw [List.map_map]
      rfl
  rw [e] at hlc hfit
  have em : hgtM u ts = xs.foldl hi x := by unfold hgtM; rw [e]
  rw [em]
  obtain ⟨s3, fl⟩ := fold_gen (g := .nm 4) (f := exs Φ (.consB (.asg (.nm 3) (.ite (.call 31 (.cons (.var 3) (.cons (.var 4) .nil))) (.var 4) (.var 3))) .nilB)) (cmp := hi) (fun m s => [.sh (ud u), .sh (tsD ts), .sh (.list ((x :: xs).map rt)), .sh (rt m), s, .un, .un])
    (fun m s hs => ⟨by rcases hs with rfl | ⟨_, rfl⟩ <;> rfl, fun y => rfl⟩) (fun m x => Fit.hi) (fun m y h1 h2 => by
      have hc := (lbelow_ok h1 h2).on (hΦ 31 (by decide))
      simp only [List.map_cons, List.map_nil] at hc
      by_cases hlt : m < y
      · simp [exs, ev, opT, opd, res, rdv, argSl, musOf, nodupB, wbk, hc, truth, tgOk, tgIxs, putOk, bindT, hi, hlt]
      · simp [exs, ev, opT, opd, res, rdv, argSl, musOf, nodupB, wbk, hc, truth, tgOk, tgIxs, putOk, bindT, hi, hlt]) (x := x) (xs := x :: xs) (hfit x List.mem_cons_self) hfit
  rw [List.foldl_cons, hi_self] at fl
  refine ⟨[.sh (ud u), .sh (tsD ts), .sh (.list ((x :: xs).map rt)), .sh (rt (xs.foldl hi x)), s3, .un, .un], ?_, by simp⟩
  refine exs_nx (asg_nm hlc rfl) (exs_nx (e1 := [.sh (ud u), .sh (tsD ts), .sh (.list ((x :: xs).map rt)), .sh (rt x), .un, .un, .un]) ?_ (exs_nx (e1 := [.sh (ud u), .sh (tsD ts), .sh (.list ((x :: xs).map rt)), .sh (rt (xs.foldl hi x)), s3, .un, .un]) ?_ ?_))
  · simp [exs, ev, op2, opd, res, idxD, atI, ixN, tgOk, tgIxs, putOk, bindT]
  · rw [← fl]
    simp only [exs, ev, rdv, List.getElem?_cons_zero, List.getElem?_cons_succ, List.set_cons_zero, List.set_cons_succ, walkD, itemsOf]
  · simp [exs, ev, rdv]
end
end
end Iv
end
section
set_option Elab.async false
set_option linter.all false
set_option maxRecDepth 100000
set_option exponentiation.threshold 3000
set_option maxHeartbeats 4000000
/-! defs as in k92 (printed by trans91.py) -/
namespace Iv
open PySem PySem.Spec L2
/-! K92U -/
section
section
variable {us : List U} {ts R : List Nat} {am : List Rat} {Φ : Fn} {rows : List D} {s0 s1 s2 s3 s4 s5 s6 s7 s8 s9 s10 s11 s12 s13 s14 s15 s16 s17 s18 s19 s20 : Sl}
theorem ls_loop (r : Rn us ts R am) (hm : Fit ((flOf us ts).mark R (fn am))) (hΦ : ∀ i, i < 38 → Φ i = T i) (L : List Nat) (hL : ∀ i ∈ L, i < us.length) (j15 : jk s15) :
    ∃ t15, jk t15 ∧ exs Φ (nthS 8 lfT) [s0, s1, .own true (am.map rt), s3, s4, s5, .sh (spsD us ts), s7, s8, s9, s10, s11, .sh (rt ((flOf us ts).mark R (fn am))), s13, .sh (ixD L), s15, s16, s17, s18, s19, s20]
      = some (.nx [s0, s1, .own true ((setA us ts ((flOf us ts).mark R (fn am)) L am).map rt), s3, s4, s5, .sh (spsD us ts), s7, s8, s9, s10, s11, .sh (rt ((flOf us ts).mark R (fn am))), s13, .sh (ixD L), t15, s16, s17, s18, s19, s20]) := by
  have fl := for_map (g := .nm 15) (f := exs Φ (forS (nthS 8 lfT))) nd (fun s : List Rat × Sl => [s0, s1, .own true (s.1.map rt), s3, s4, s5, .sh (spsD us ts), s7, s8, s9, s10, s11, .sh (rt ((flOf us ts).mark R (fn am))), s13, .sh (ixD L), s.2, s16, s17, s18, s19, s20]) (fun s i => (s.1.set i ((flOf us ts).mark R (fn am) * (flOf us ts).s i), .sh (nd i))) (fun s => s.1.length = us.length ∧ jk s.2) L (am, s15)
    (fun s i hi ⟨h1, h2⟩ => by
      have hil := hL i hi
      obtain ⟨u, hu⟩ : ∃ u, us[i]? = some u := ⟨_, List.getElem?_eq_getElem hil⟩
      have es : (flOf us ts).s i = spd u ts := by
        show spd (us.getD i U0) ts = _
        rw [getD_of hu]
      have hs : Fit ((flOf us ts).s i) := by
        rw [es]
        exact spd_fit (r.ok u (List.mem_of_getElem? hu)) r.vt
      have i2 : idxD (spsD us ts) (nd i) = some (rt ((flOf us ts).s i)) := idx_l rt (sp_at hu)
      have c := (ltimes_ok hm hs).on (hΦ 35 (by decide))
      simp only [List.map_cons, List.map_nil] at c
      refine ⟨?_, ⟨_, rfl, ?_⟩, by rw [List.length_set]; exact h1, jk.sh _⟩
      · show (putOk _ 15 && true) = true
        rw [h2.put rfl]
        rfl
      · have st : ∀ e : Ev, e[2]? = some (.own true (s.1.map rt)) → setAt e 2 (nd i) (rt ((flOf us ts).mark R (fn am) * (flOf us ts).s i)) = some (e.set 2 (.own true ((s.1.map rt).set i (rt ((flOf us ts).mark R (fn am) * (flOf us ts).s i))))) := fun e he => set_at he (by rw [List.length_map]; exact h1) hil
        simp [lfT, forS, nthS, k91_b__law_filled, exs, ev, rdv, op2, opd, res, i2, argSl, musOf, nodupB, wbk, c, ownAt]
        rw [st _ rfl]
        rfl) ⟨r.len, j15⟩
  have g1 := fl.1
  have fst : ∀ (L : List Nat) (a : List Rat) (s : Sl), (L.foldl (fun (s : List Rat × Sl) i => (s.1.set i ((flOf us ts).mark R (fn am) * (flOf us ts).s i), Sl.sh (nd i))) (a, s)).1 = setA us ts ((flOf us ts).mark R (fn am)) L a := by
    intro L
    induction L with
    | nil => intro a s; rfl
    | cons i L ih => intro a s; exact ih _ _
  refine ⟨_, fl.2.2, Eq.trans ?_ (g1.trans ?_)⟩
  · have w : walkD .walk (ixD L) .none = some (L.map nd) := rfl
    simp only [lfT, forS, nthS, k91_b__law_filled, exs, ev, rdv, List.getElem?_cons_zero, List.getElem?_cons_succ, w]
  · rw [fst]
theorem l_rest (hR : R.length ≤ 100) : exs Φ (nthS 9 lfT) [s0, s1, s2, s3, .sh (ixD R), s5, s6, s7, s8, s9, s10, s11, s12, s13, .sh (ixD ((flOf us ts).stp R (fn am))), s15, s16, s17, s18, s19, s20]
      = some (.nx [s0, s1, s2, s3, .sh (ixD ((flOf us ts).R2 R (fn am))), s5, s6, s7, s8, s9, s10, s11, s12, s13, .sh (ixD ((flOf us ts).stp R (fn am))), s15, s16, s17, s18, s19, s20]) := by
  refine (asg_nm (ev_lcP nd (fun i => !decide (i ∈ (flOf us ts).stp R (fn am))) nd R rfl rfl rfl (fun i hi => ?_) (sz hR)) rfl).trans ?_
  · refine ⟨[s0, s1, s2, s3, .sh (ixD R), s5, s6, s7, s8, s9, s10, s11, s12, s13, .sh (ixD ((flOf us ts).stp R (fn am))), .sh (nd i), s16, s17, s18, s19, s20], rfl, ?_, fun _ => rfl, rfl⟩
    simp [lcT, opT, opd, ev, op2, res, cmpD, in_ix, truth]
  · rfl
theorem l_app (hr : rows.length < sizeLine) (us : List U) (ts R : List Nat) (am : List Rat) : exs Φ (nthS 10 lfT) [s0, s1, s2, .own true rows, s4, s5, s6, s7, s8, s9, s10, s11, .sh (rt ((flOf us ts).mark R (fn am))), .sh (ixD ((flOf us ts).full R (fn am))), .sh (ixD ((flOf us ts).stp R (fn am))), s15, s16, s17, s18, s19, s20]
      = some (.nx [s0, s1, s2, .own true (rows ++ [rowD us ts R am]), s4, s5, s6, s7, s8, s9, s10, s11, .sh (rt ((flOf us ts).mark R (fn am))), .sh (ixD ((flOf us ts).full R (fn am))), .sh (ixD ((flOf us ts).stp R (fn am))), s15, s16, s17, s18, s19, s20]) := by
  simp [lfT, forS, nthS, k91_b__law_filled, exs, ownAt, ev, op1, opd, res, rdv, b1D, ixD, z3, hr, rowD]
theorem l_break : exs Φ lfT [s0, s1, s2, s3, .sh (ixD []), s5, s6, s7, s8, s9, s10, s11, s12, s13, s14, s15, s16, s17, s18, s19, s20] = some (.bk [s0, s1, s2, s3, .sh (ixD []), s5, s6, s7, s8, s9, s10, s11, s12, s13, s14, s15, s16, s17, s18, s19, s20]) := by
  have hz : (0 : Nat) ≤ sizeLine := Nat.zero_le _
  simp [lfT, forS, nthS, k91_b__law_filled, exs, tst, opT, opd, ev, op2, res, cmpD, l_eq, truth, hz]
theorem exs_eq {s : Sm} {b : Sm} : exs Φ (.consB s b) = exs Φ (.consB s b) := rfl
theorem lturn_ok (r : Rn us ts R am) (ff : Ff us ts R am) (hne : R ≠ []) (hR : R.length ≤ 6) (hr : rows.length < sizeLine) (hc : (flOf us ts).cands R (fn am) ≠ []) (hf : ∀ q ∈ (flOf us ts).cands R (fn am), Fit q) (hm : Fit ((flOf us ts).mark R (fn am))) (hΦ : ∀ i, i < 38 → Φ i = T i)
    (j8 : junk s8) (j9 : jk s9) (j10 : jk s10) (j11 : jk s11) (j12 : jk s12) (j13 : jk s13) (j14 : jk s14) (j15 : jk s15) (j17 : jk s17) (j18 : jk s18) (j19 : jk s19) :
    ∃ t8 t9 t10 t11 t12 t13 t14 t15 t17 t18 t19, (junk t8 ∧ jk t9 ∧ jk t10 ∧ jk t11 ∧ jk t12 ∧ jk t13 ∧ jk t14 ∧ jk t15 ∧ jk t17 ∧ jk t18 ∧ jk t19) ∧ exs Φ lfT [.sh (usD us), .sh (tsD ts), .own true (am.map rt), .own true rows, .sh (ixD R), s5, .sh (spsD us ts), s7, s8, s9, s10, s11, s12, s13, s14, s15, s16, s17, s18, s19, s20]
      = some (.nx [.sh (usD us), .sh (tsD ts), .own true ((setA us ts ((flOf us ts).mark R (fn am)) ((flOf us ts).stp R (fn am)) am).map rt), .own true (rows ++ [rowD us ts R am]), .sh (ixD ((flOf us ts).R2 R (fn am))), s5, .sh (spsD us ts), s7, t8, t9, t10, t11, t12, t13, t14, t15, s16, t17, t18, t19, s20]) := by
  have vl := r.vt.l1
  obtain ⟨t9, t10, t15, t17, t18, t19, ⟨k9, k10, k15, k17, k18, k19⟩, lp⟩ := lg_loop (am := am) (R := R) (rows := rows) (Φ := Φ) (s5 := s5) (s7 := s7) (s11 := s11) (s12 := s12) (s13 := s13) (s14 := s14) (s15 := s15) (s16 := s16) (s17 := s17) (s18 := s18) (s19 := s19) (s20 := s20) (s9 := s9) (s10 := s10) r ff hΦ j9 j10 j15 j17 j18 j19
  have b3 := lt_wants (am := am) (R := R) (rows := rows) (Φ := Φ) (s5 := s5) (s7 := s7) (s8 := .own true ((spK us ts R am ts.length).map prD)) (s9 := t9) (s10 := t10) (s11 := s11) (s12 := s12) (s13 := s13) (s14 := s14) (s15 := t15) (s16 := s16) (s17 := t17) (s18 := t18) (s19 := t19) (s20 := s20) r (by omega) hΦ j11
  have b4 := lt_mark (am := am) (R := R) (Φ := Φ) (s0 := .sh (usD us)) (s1 := .sh (tsD ts)) (s2 := .own true (am.map rt)) (s3 := .own true rows) (s4 := .sh (ixD R)) (s5 := s5) (s6 := .sh (spsD us ts)) (s7 := s7) (s9 := t9) (s10 := t10) (s12 := s12) (s13 := s13) (s14 := s14) (s15 := t15) (s16 := s16) (s17 := t17) (s18 := t18) (s19 := t19) (s20 := s20) hc hf vl (by omega) hΦ j12
  have b5 := lt_goods (us := us) (ts := ts) (am := am) (R := R) (Φ := Φ) (s0 := .sh (usD us)) (s1 := .sh (tsD ts)) (s2 := .own true (am.map rt)) (s3 := .own true rows) (s4 := .sh (ixD R)) (s5 := s5) (s6 := .sh (spsD us ts)) (s7 := s7) (s9 := t9) (s10 := t10) (s11 := .sh (.list ((wsK us ts R).map prD))) (s13 := s13) (s14 := s14) (s15 := t15) (s16 := s16) (s17 := t17) (s18 := t18) (s19 := t19) (s20 := s20) vl j13
  have b6 := lt_st1 (us := us) (ts := ts) (am := am) (R := R) (Φ := Φ) (s0 := .sh (usD us)) (s1 := .sh (tsD ts)) (s2 := .own true (am.map rt)) (s3 := .own true rows) (s4 := .sh (ixD R)) (s5 := s5) (s6 := .sh (spsD us ts)) (s7 := s7) (s8 := .sh (.list ((spK us ts R am ts.length).map prD))) (s9 := t9) (s10 := t10) (s13 := .sh (ixD ((flOf us ts).full R (fn am)))) (s14 := s14) (s15 := t15) (s16 := s16) (s17 := t17) (s18 := t18) (s19 := t19) (s20 := s20) (by omega) j14
  have b7 := lt_stp (Φ := Φ) (s1 := .sh (tsD ts)) (s2 := .own true (am.map rt)) (s3 := .own true rows) (s5 := s5) (s6 := .sh (spsD us ts)) (s7 := s7) (s8 := .sh (.list ((spK us ts R am ts.length).map prD))) (s9 := t9) (s10 := t10) (s11 := .sh (.list ((wsK us ts R).map prD))) (s12 := .sh (rt ((flOf us ts).mark R (fn am)))) (s15 := t15) (s16 := s16) (s17 := t17) (s18 := t18) (s19 := t19) (s20 := s20) r (by omega)
  obtain ⟨u15, k15', b8⟩ := ls_loop (Φ := Φ) (s0 := .sh (usD us)) (s1 := .sh (tsD ts)) (s3 := .own true rows) (s4 := .sh (ixD R)) (s5 := s5) (s7 := s7) (s8 := .sh (.list ((spK us ts R am ts.length).map prD))) (s9 := t9) (s10 := t10) (s11 := .sh (.list ((wsK us ts R).map prD))) (s13 := .sh (ixD ((flOf us ts).full R (fn am)))) (s15 := t15) (s16 := s16) (s17 := t17) (s18 := t18) (s19 := t19) (s20 := s20) r hm hΦ ((flOf us ts).stp R (fn am)) (fun i hi => r.lt i (stp_in hi)) k15
  have b9 := l_rest (us := us) (ts := ts) (am := am) (R := R) (Φ := Φ) (s0 := .sh (usD us)) (s1 := .sh (tsD ts)) (s2 := .own true ((setA us ts ((flOf us ts).mark R (fn am)) ((flOf us ts).stp R (fn am)) am).map rt)) (s3 := .own true rows) (s5 := s5) (s6 := .sh (spsD us ts)) (s7 := s7) (s8 := .sh (.list ((spK us ts R am ts.length).map prD))) (s9 := t9) (s10 := t10) (s11 := .sh (.list ((wsK us ts R).map prD))) (s12 := .sh (rt ((flOf us ts).mark R (fn am)))) (s13 := .sh (ixD ((flOf us ts).full R (fn am)))) (s15 := u15) (s16 := s16) (s17 := t17) (s18 := t18) (s19 := t19) (s20 := s20) (by omega)
  have b10 := l_app (rows := rows) (Φ := Φ) (s0 := .sh (usD us)) (s1 := .sh (tsD ts)) (s2 := .own true ((setA us ts ((flOf us ts).mark R (fn am)) ((flOf us ts).stp R (fn am)) am).map rt)) (s4 := .sh (ixD ((flOf us ts).R2 R (fn am)))) (s5 := s5) (s6 := .sh (spsD us ts)) (s7 := s7) (s8 := .sh (.list ((spK us ts R am ts.length).map prD))) (s9 := t9) (s10 := t10) (s11 := .sh (.list ((wsK us ts R).map prD))) (s15 := u15) (s16 := s16) (s17 := t17) (s18 := t18) (s19 := t19) (s20 := s20) hr us ts R am
  refine ⟨.sh (.list ((spK us ts R am ts.length).map prD)), t9, t10, .sh (.list ((wsK us ts R).map prD)), .sh (rt ((flOf us ts).mark R (fn am))), .sh (ixD ((flOf us ts).full R (fn am))), .sh (ixD ((flOf us ts).stp R (fn am))), u15, t17, t18, t19, ⟨.inr (.inl ⟨_, rfl⟩), k9, k10, jk.sh _, jk.sh _, jk.sh _, jk.sh _, k15', k17, k18, k19⟩, ?_⟩
  have b0 : exs Φ (nthS 0 lfT) [.sh (usD us), .sh (tsD ts), .own true (am.map rt), .own true rows, .sh (ixD R), s5, .sh (spsD us ts), s7, s8, s9, s10, s11, s12, s13, s14, s15, s16, s17, s18, s19, s20] = some (.nx [.sh (usD us), .sh (tsD ts), .own true (am.map rt), .own true rows, .sh (ixD R), s5, .sh (spsD us ts), s7, s8, s9, s10, s11, s12, s13, s14, s15, s16, s17, s18, s19, s20]) := by
    have hz : (0 : Nat) ≤ sizeLine := Nat.zero_le _
    cases R with
    | nil => exact absurd rfl hne
    | cons i R => simp [lfT, forS, nthS, k91_b__law_filled, exs, tst, opT, opd, ev, op2, res, cmpD, l_eq, truth, hz]
  have b1 : exs Φ (nthS 1 lfT) [.sh (usD us), .sh (tsD ts), .own true (am.map rt), .own true rows, .sh (ixD R), s5, .sh (spsD us ts), s7, s8, s9, s10, s11, s12, s13, s14, s15, s16, s17, s18, s19, s20] = some (.nx [.sh (usD us), .sh (tsD ts), .own true (am.map rt), .own true rows, .sh (ixD R), s5, .sh (spsD us ts), s7, .own true [], s9, s10, s11, s12, s13, s14, s15, s16, s17, s18, s19, s20]) := aso_nil (put_junk rfl j8)
  exact exs_nx b0 (exs_nx b1 (exs_nx lp (exs_nx b3 (exs_nx b4 (exs_nx b5 (exs_nx b6 (exs_nx b7 (exs_nx b8 (exs_nx b9 (exs_nx b10 rfl))))))))))
end
end
/-! K92V -/
section
section
variable {us : List U} {ts : List Nat} {Φ : Fn} {L : Nat}
theorem Ff.of {R : List Nat} {am : List Rat} {l : Nat → Rat} {c : Rat} {M : Nat} (B : (flOf us ts).Bs L) (A : (flOf us ts).St L R (fn am) l c M) : Ff us ts R am := fun k g hk hg => by
  obtain ⟨k1, k2⟩ := Fl.lm B A
  exact fitB (Fl.fx_bd B A hk g) k1 k2 (by decide)
theorem lloop (p : Ps us ts) (B : (flOf us ts).Bs L) (hΦ : ∀ i, i < 38 → Φ i = T i) : ∀ (ds : List D) (R : List Nat) (am : List Rat) (l : Nat → Rat) (c : Rat) (M : Nat) (rows : List D) (s5 s16 s20 s7 s8 s9 s10 s11 s12 s13 s14 s15 s17 s18 s19 : Sl),
    R.length ≤ ds.length → (flOf us ts).St L R (fn am) l c M → am.length = us.length → rows.length + ds.length < sizeLine → jk s7 → junk s8 → jk s9 → jk s10 → jk s11 → jk s12 → jk s13 → jk s14 → jk s15 → jk s17 → jk s18 → jk s19 →
    ∃ t7 t8 t9 t10 t11 t12 t13 t14 t15 t17 t18 t19, forGo (.nm 7) (exs Φ lfT) ds [.sh (usD us), .sh (tsD ts), .own true (am.map rt), .own true rows, .sh (ixD R), s5, .sh (spsD us ts), s7, s8, s9, s10, s11, s12, s13, s14, s15, s16, s17, s18, s19, s20]
      = some (.nx [.sh (usD us), .sh (tsD ts), .own true ((fillL us ts ds.length R am).1.map rt), .own true (rows ++ (fillL us ts ds.length R am).2), .sh (ixD []), s5, .sh (spsD us ts), t7, t8, t9, t10, t11, t12, t13, t14, t15, s16, t17, t18, t19, s20])
  | [], [], am, l, c, M, rows, s5, s16, s20, s7, s8, s9, s10, s11, s12, s13, s14, s15, s17, s18, s19, hk, A, hl, hr, j7, j8, j9, j10, j11, j12, j13, j14, j15, j17, j18, j19 => by
    refine ⟨s7, s8, s9, s10, s11, s12, s13, s14, s15, s17, s18, s19, ?_⟩
    have e : fillL us ts 0 [] am = (am, []) := rfl
    rw [List.length_nil, e, List.append_nil]
    rfl
  | d :: ds, [], am, l, c, M, rows, s5, s16, s20, s7, s8, s9, s10, s11, s12, s13, s14, s15, s17, s18, s19, hk, A, hl, hr, j7, j8, j9, j10, j11, j12, j13, j14, j15, j17, j18, j19 => by
    refine ⟨.sh d, s8, s9, s10, s11, s12, s13, s14, s15, s17, s18, s19, ?_⟩
    have e : fillL us ts (d :: ds).length [] am = (am, []) := rfl
    rw [e, List.append_nil]
    refine for_bk ?_ rfl l_break
    show (putOk _ 7 && true) = true
    rw [j7.put rfl]
    rfl
  | [], i :: R, _, _, _, _, _, _, _, _, _, _, _, _, _, _, _, _, _, _, _, _, hk, _, _, _, _, _, _, _, _, _, _, _, _, _, _, _ => by simp at hk
  | d :: ds, i :: R, am, l, c, M, rows, s5, s16, s20, s7, s8, s9, s10, s11, s12, s13, s14, s15, s17, s18, s19, hk, A, hl, hr, j7, j8, j9, j10, j11, j12, j13, j14, j15, j17, j18, j19 => by
    have rn := Rn.of p B A hl
    have ff := Ff.of B A
    have hne : i :: R ≠ [] := by simp
    have hlt : ∀ j ∈ i :: R, j < us.length := fun j hj => A.at_.lt j hj
    obtain ⟨m1, m2⟩ := Fl.mark_spec B.ok A.at_ hne
    have hc : (flOf us ts).cands (i :: R) (fn am) ≠ [] := fun q => by rw [q] at m2; cases m2
    obtain ⟨l', M', A', hlen⟩ := Fl.next B A hne
    simp only [List.length_cons] at hr hk
    obtain ⟨t8, t9, t10, t11, t12, t13, t14, t15, t17, t18, t19, ⟨k8, k9, k10, k11, k12, k13, k14, k15, k17, k18, k19⟩, tk⟩ := lturn_ok (rows := rows) (s5 := s5) (s7 := .sh d) (s16 := s16) (s20 := s20) rn ff hne A.r6 (by omega) hc (fun q hq => cand_fit B A hne hq) (cand_fit B A hne m2) hΦ j8 j9 j10 j11 j12 j13 j14 j15 j17 j18 j19
    rw [← fn_am2 hl hlt] at A'
    obtain ⟨u7, u8, u9, u10, u11, u12, u13, u14, u15, u17, u18, u19, ih⟩ := lloop p B hΦ ds ((flOf us ts).R2 (i :: R) (fn am)) (setA us ts ((flOf us ts).mark (i :: R) (fn am)) ((flOf us ts).stp (i :: R) (fn am)) am) l' _ M' (rows ++ [rowD us ts (i :: R) am]) s5 s16 s20 (.sh d) t8 t9 t10 t11 t12 t13 t14 t15 t17 t18 t19 (by rw [List.length_cons] at hlen; omega) A' (by rw [setA_len, hl]) (by rw [List.length_append, List.length_singleton]; omega) (jk.sh d) k8 k9 k10 k11 k12 k13 k14 k15 k17 k18 k19
    refine ⟨u7, u8, u9, u10, u11, u12, u13, u14, u15, u17, u18, u19, ?_⟩
    refine for_nx ?_ rfl tk (ih.trans ?_)
    · show (putOk _ 7 && true) = true
      rw [j7.put rfl]
      rfl
    · simp only [List.length_cons, fillL, List.append_assoc, List.singleton_append]
theorem walk_rng {n : Nat} (hn : n ≤ 6) : walkD .rng (.int (n : Nat)) .none = some ((List.range n).map nd) := by
  have hs : small62 (n : Int) = true := by
    unfold small62
    rw [decide_eq_true (by omega), decide_eq_true (by omega)]
    rfl
  simp only [walkD, hs, if_true, rng_nd]
theorem zipmap' (h : U → List Nat → Rat) (us : List U) (ts : List Nat) : ((us.map ud).zip ((us.map fun u => h u ts).map rt)).map (fun p => PyData.tuple [p.1, p.2]) = us.map fun u => PyData.tuple [ud u, rt (h u ts)] := by
  induction us with
  | nil => rfl
  | cons u us ih => rw [List.map_cons, List.map_cons, List.map_cons, List.zip_cons_cons, List.map_cons, ih]; rfl
theorem lfilled_ok (p : Ps us ts) : Gv 38 [usD us, tsD ts] (.tuple [rtl (amsOf us ts), .list (rowsOf us ts)]) := by
  obtain ⟨L, B⟩ := p.bs
  refine gv (d := k91_d__law_filled) rfl rfl fun Φ hΦ => ?_
  have l1 := p.l1
  have first := Fl.first B
  rw [show (flOf us ts).n = us.length from rfl, ← fn_zero us.length] at first
  have hrl : ((List.range us.length).map nd).length = us.length := by rw [List.length_map, List.length_range]
  obtain ⟨t7, t8, t9, t10, t11, t12, t13, t14, t15, t17, t18, t19, lp⟩ := lloop p B hΦ ((List.range us.length).map nd) (List.range us.length) (List.replicate us.length 0) _ _ _ [] (.sh (rtl (us.map fun u => hgtM u ts))) .un .un .un .un .un .un .un .un .un .un .un .un .un .un
    (by rw [List.length_range, hrl]; exact Nat.le_refl _) first List.length_replicate (by rw [hrl]; exact Nat.lt_of_le_of_lt (show ([] : List D).length + us.length ≤ 6 by simpa using l1) (by decide)) (.inl rfl) (.inl rfl) (.inl rfl) (.inl rfl) (.inl rfl) (.inl rfl) (.inl rfl) (.inl rfl) (.inl rfl) (.inl rfl) (.inl rfl) (.inl rfl)
  rw [hrl] at lp
  refine ⟨[.sh (usD us), .sh (tsD ts), .sh (rtl (amsOf us ts)), .sh (.list (rowsOf us ts)), .sh (ixD []), .sh (rtl (us.map fun u => hgtM u ts)), .sh (spsD us ts), t7, t8, t9, t10, t11, t12, t13, t14, t15, .un, t17, t18, t19, .un], ?_, by simp⟩
  refine exs_nx (e1 := [.sh (usD us), .sh (tsD ts), .own true ((List.replicate us.length (0 : Rat)).map rt), .own true [], .sh (ixD (List.range us.length)), .un, .un, .un, .un, .un, .un, .un, .un, .un, .un, .un, .un, .un, .un, .un, .un]) ?_ (exs_nx (e1 := [.sh (usD us), .sh (tsD ts), .own true ((List.replicate us.length (0 : Rat)).map rt), .own true [], .sh (ixD (List.range us.length)), .sh (rtl (us.map fun u => hgtM u ts)), .un, .un, .un, .un, .un, .un, .un, .un, .un, .un, .un, .un, .un, .un, .un]) ?_ (exs_nx (e1 := [.sh (usD us), .sh (tsD ts), .own true ((List.replicate us.length (0 : Rat)).map rt), .own true [], .sh (ixD (List.range us.length)), .sh (rtl (us.map fun u => hgtM u ts)), .sh (spsD us ts), .un, .un, .un, .un, .un, .un, .un, .un, .un, .un, .un, .un, .un, .un]) ?_ (exs_nx (Eq.trans ?_ lp) ?_)))
  · exact exs_asp (evl_cons (ev_rep (ds := [rt 0]) rfl (by decide) (ev_len_us us) (rep_nought _ l1)) (evl_cons ev_lst0 (evl_cons (ev_lrng (ev_len_us us) l1) evl_nil))) rfl
  · refine (asg_nm (ev_lcP (x := usD us) (y := .none) ud (fun _ => true) (fun u => rt (hgtM u ts)) us rfl rfl rfl (fun u hu => ?_) (sz (by omega))) rfl).trans ?_
    · have c := (lheight_ok (p.ok u hu) p.vt).on (hΦ 32 (by decide))
      have c : Φ 32 [.sh (ud u), .sh (tsD ts)] = some (rt (hgtM u ts), [.sh (ud u), .sh (tsD ts)]) := c
      refine ⟨[.sh (usD us), .sh (tsD ts), .own true ((List.replicate us.length (0 : Rat)).map rt), .own true [], .sh (ixD (List.range us.length)), .un, .un, .un, .un, .un, .un, .un, .un, .un, .un, .sh (ud u), .un, .un, .un, .un, .un], rfl, rfl, fun _ => ?_, rfl⟩
      simp [ev, rdv, argSl, musOf, nodupB, wbk, c]
    · rw [all_true]
      unfold rtl
      rw [List.map_map]
      rfl
  · have hw : walkD .zip (usD us) (rtl (us.map fun u => hgtM u ts)) = some (us.map fun u => PyData.tuple [ud u, rt (hgtM u ts)]) := by
      show some (((us.map ud).zip ((us.map fun u => hgtM u ts).map rt)).map fun p => PyData.tuple [p.1, p.2]) = _
      rw [zipmap' hgtM us ts]
    refine (asg_nm (ev_lcP (x := usD us) (y := rtl (us.map fun u => hgtM u ts)) (fun u => PyData.tuple [ud u, rt (hgtM u ts)]) (fun _ => true) (fun u => rt (spd u ts)) us rfl rfl hw (fun u hu => ?_) (sz (by omega))) rfl).trans ?_
    · have hw : Fit (u.w : Rat) := fit_nat (Nat.lt_of_le_of_lt (p.ok u hu).w1 (by decide))
      have c := (lover_ok hw (hgtM_fit (p.ok u hu) p.vt) (hgtM_pos (p.ok u hu) p.vt)).on (hΦ 33 (by decide))
      rw [rt_nat] at c
      simp only [List.map_cons, List.map_nil, one1] at c
      have i1 : idxD (ud u) (.int 1) = some (nd u.w) := rfl
      refine ⟨[.sh (usD us), .sh (tsD ts), .own true ((List.replicate us.length (0 : Rat)).map rt), .own true [], .sh (ixD (List.range us.length)), .sh (rtl (us.map fun u => hgtM u ts)), .un, .un, .un, .un, .un, .un, .un, .un, .un, .sh (ud u), .sh (rt (hgtM u ts)), .un, .un, .un, .un], rfl, rfl, fun _ => ?_, rfl⟩
      simp [ev, op2, opd, res, rdv, i1, nd, argSl, musOf, nodupB, wbk, z2, c, spd]
    · rw [all_true, show (us.map fun u => rt (spd u ts)) = (us.map fun u => spd u ts).map rt by rw [List.map_map]; rfl]
      rfl
  · exact exs_for (ev_len_us us) rfl (walk_rng l1)
  · have hz : (2 : Nat) ≤ sizeLine := by decide
    simp [exs, ev, rdv, hz, rtl, amsOf, rowsOf]
end
end
end Iv
end
section
set_option linter.all false
/-! There is one fair share. -/
namespace Iv
theorem S_one {i : Nat} {d : Rat} : ∀ {n : Nat}, i < n → S n (fun j => if j = i then d else 0) = d
  | 0, h => by omega
  | n + 1, h => by
    simp only [S]
    by_cases e : i = n
    · subst e
      have h0 : S i (fun j => if j = i then d else 0) = S i (fun _ => 0) := S_congr fun j hj => by rw [if_neg (by omega)]
      have h1 : S i (fun _ => (0 : Rat)) = 0 := by
        have := S_mul (f := fun _ => (0 : Rat)) 0 i
        simp at this
        exact this
      rw [h0, h1, if_pos rfl]
      grind
    · rw [S_one (n := n) (by omega), if_neg (fun q => e q.symm)]
      grind
section
variable {P : Pr} {a b l m : Nat → Rat}
theorem fair_half (ok : P.Ok) (F : Fair P a l) (F' : Fair P b m) {i : Nat} (hi : i < P.n) (h : a i < b i) : ∃ j, j < P.n ∧ b j < a j ∧ l j ≤ l i := by
  rcases F.stop i hi with hw | ⟨g, hg, hn, hs, hb⟩
  · have := F'.want i _ hi hw
    grind
  · have hf := F'.fit g hg
    have e1 : S P.n (fun j => (if j = i then (b i - a i) * P.nd i g else 0) + a j * P.nd j g) = (b i - a i) * P.nd i g + P.T g := by
      rw [S_add, S_one hi, hs]
    have hpos : 0 < (b i - a i) * P.nd i g := Rat.mul_pos (by grind) hn
    have hlt : S P.n (fun j => b j * P.nd j g) < S P.n (fun j => (if j = i then (b i - a i) * P.nd i g else 0) + a j * P.nd j g) := by
      rw [e1]
      grind
    obtain ⟨j, hj, hlt⟩ := S_lt hlt
    by_cases e : j = i
    · subst e
      rw [if_pos rfl] at hlt
      grind
    · rw [if_neg e] at hlt
      have h0 := ok.nd j g hj hg
      have hlt : b j * P.nd j g < a j * P.nd j g := by grind
      have hp : 0 < P.nd j g := by
        by_cases q : P.nd j g = 0
        · rw [q] at hlt; grind
        · grind
      refine ⟨j, hj, ?_, hb j hj hp⟩
      by_cases q : b j < a j
      · exact q
      · have := mul_le (show a j ≤ b j by grind) (Rat.le_of_lt hp)
        grind
theorem fair_lt (ok : P.Ok) (F : Fair P a l) (F' : Fair P b m) {i : Nat} (hi : i < P.n) (h : a i < b i) : l i < m i := by
  have h1 := F.lev i hi
  have h2 := F'.lev i hi
  have hh := ok.h i hi
  have hw := ok.w i hi
  have h3 : P.h i * a i < P.h i * b i := Rat.mul_lt_mul_of_pos_left h hh
  by_cases q : l i < m i
  · exact q
  · have := mul_le (show m i ≤ l i by grind) (Rat.le_of_lt hw)
    grind
/-- there is one -/
theorem fair_uniq (ok : P.Ok) (F : Fair P a l) (F' : Fair P b m) : ∀ i, i < P.n → a i = b i := by
  intro i hi
  by_cases q : a i = b i
  · exact q
  · exfalso
    obtain ⟨i, hi, hp, hmin⟩ := exists_min (fun i => a i ≠ b i) (fun i => if l i < m i then l i else m i) ⟨i, hi, q⟩
    by_cases h : a i < b i
    · obtain ⟨j, hj, h1, h2⟩ := fair_half ok F F' hi h
      have h3 := fair_lt ok F' F hj h1
      have h4 := fair_lt ok F F' hi h
      have h5 := hmin j hj (by grind)
      rw [if_pos h4, if_neg (by grind)] at h5
      grind
    · have h : b i < a i := by grind
      obtain ⟨j, hj, h1, h2⟩ := fair_half ok F' F hi h
      have h3 := fair_lt ok F F' hj h1
      have h4 := fair_lt ok F' F hi h
      have h5 := hmin j hj (by grind)
      rw [if_neg (by grind), if_pos h3] at h5
      grind
end
end Iv
end
section
set_option Elab.async false
set_option linter.all false
set_option maxRecDepth 100000
set_option exponentiation.threshold 3000
set_option maxHeartbeats 4000000
namespace Iv
open PySem PySem.Spec L2
/-! k91: what is used, levels, what fits -/
/-- amounts with a common denominator -/
structure Am (us : List U) (am : List Rat) : Prop where
  len : am.length = us.length
  bd : ∃ D : Nat, 0 < D ∧ D < 2 ^ 450 ∧ ∀ q ∈ am, Bd D 180000 q
section
variable {us : List U} {ts : List Nat} {am : List Rat} {Φ : Fn}
theorem Am.all (A : Am us am) : ∀ q ∈ am, Fit q ∧ q.den < 2 ^ 1000 ∧ 0 ≤ q := fun q hq => by
  obtain ⟨D, h1, h2, h3⟩ := A.bd
  have b := h3 q hq
  refine ⟨b.fit h1 h2 (by decide), ?_, b.nn⟩
  exact Nat.lt_of_le_of_lt (b.small h1).1 (up_pow h2 (by decide))
theorem Am.at_ (A : Am us am) {i : Nat} (hi : i < us.length) : am[i]? = some (fn am i) ∧ fn am i ∈ am := by
  have h : am[i]? = some (fn am i) := at_lt (by rw [A.len]; exact hi) 0
  exact ⟨h, List.mem_of_getElem? h⟩
def uq (us : List U) (am : List Rat) (g k : Nat) : Rat := S k fun i => fn am i * (((us.getD i U0).ns.getD g 0 : Nat) : Rat)
def prU (p : U × Rat) : D := .tuple [ud p.1, rt p.2]
theorem walk_ua (us : List U) (am : List Rat) : walkD .zip (usD us) (rtl am) = some ((us.zip am).map prU) := by
  show some (((us.map ud).zip (am.map rt)).map fun p => PyData.tuple [p.1, p.2]) = _
  rw [List.zip_map, List.map_map] <;> rfl
theorem zip_get {i : Nat} {x : U × Rat} (h : (us.zip am)[i]? = some x) : us[i]? = some x.1 ∧ am[i]? = some x.2 := by
  obtain ⟨a, b⟩ := x
  exact List.getElem?_zip_eq_some.mp h
theorem zip_len (A : Am us am) : (us.zip am).length = us.length := by rw [List.length_zip, A.len, Nat.min_self]
theorem uq_fit (p : Ps us ts) (A : Am us am) (g : Nat) {k : Nat} (hk : k ≤ us.length) : Fit (uq us am g k) := by
  obtain ⟨D, h1, h2, h3⟩ := A.bd
  have b : Bd D (k * (180000 * 99)) (uq us am g k) := S_bd fun i hi => by
    have hil : i < us.length := by omega
    have hn : (us.getD i U0).ns.getD g 0 ≤ 99 := by
      by_cases hg : g < (us.getD i U0).ns.length
      · exact (p.ok _ (getD_mem (d := U0) hil)).le _ (getD_mem hg)
      · rw [getD_out hg]; decide
    exact ((h3 _ (A.at_ hil).2).num).wide (Nat.mul_le_mul_left _ hn)
  refine b.fit h1 h2 ?_
  have := p.l1
  have := Nat.mul_le_mul_right (180000 * 99) (show k ≤ 6 by omega)
  exact Nat.lt_of_le_of_lt this (by decide)
theorem uq_step (p : Ps us ts) (A : Am us am) (g : Nat) {i : Nat} {x : U × Rat} (h : (us.zip am)[i]? = some x) : uq us am g (i + 1) = uq us am g i + x.2 * ((x.1.ns.getD g 0 : Nat) : Rat) := by
  obtain ⟨h1, h2⟩ := zip_get h
  show S i _ + fn am i * _ = _
  rw [show fn am i = x.2 from getD_of h2, getD_of h1]
  rfl
/-- what a turn needs -/
theorem turn_at (p : Ps us ts) (A : Am us am) {g : Nat} (hg : g < ts.length) {i : Nat} {x : U × Rat} (h : (us.zip am)[i]? = some x) :
    x.1.ns[g]? = some (x.1.ns.getD g 0) ∧ Fit x.2 ∧ Fit ((x.1.ns.getD g 0 : Nat) : Rat) ∧ Fit (x.2 * ((x.1.ns.getD g 0 : Nat) : Rat)) := by
  obtain ⟨h1, h2⟩ := zip_get h
  have hu := p.ok _ (List.mem_of_getElem? h1)
  have hq := List.mem_of_getElem? h2
  have h3 : x.1.ns[g]? = some (x.1.ns.getD g 0) := at_lt (by rw [hu.len]; exact hg) 0
  have hn := hu.le _ (List.mem_of_getElem? h3)
  obtain ⟨D, d1, d2, d3⟩ := A.bd
  refine ⟨h3, (A.all _ hq).1, fit_nat (Nat.lt_of_le_of_lt hn (by decide)), ?_⟩
  exact (((d3 _ hq).num).wide (Nat.mul_le_mul_left 180000 hn)).fit d1 d2 (by decide)
def usU : Sm := forS (nthS 1 (forS (nthS 1 k91_b_used_of)))
theorem us_turn (p : Ps us ts) (A : Am us am) (hΦ : ∀ i, i < 46 → Φ i = T i) {g : Nat} (hg : g < ts.length) {i : Nat} {x : U × Rat} (h : (us.zip am)[i]? = some x) (s2 : Sl) :
    exs Φ usU [.sh (usD us), .sh (rtl am), s2, .sh (nd g), .sh (rt (uq us am g i)), .sh (ud x.1), .sh (rt x.2)] = some (.nx [.sh (usD us), .sh (rtl am), s2, .sh (nd g), .sh (rt (uq us am g (i + 1))), .sh (ud x.1), .sh (rt x.2)]) := by
  obtain ⟨h1, h2, h3, h4⟩ := turn_at p A hg h
  have hi : i < us.length := (List.getElem?_eq_some_iff.mp (zip_get h).1).1
  have c1 := (ptimes_ok h2 h3).on (hΦ 25 (by decide))
  have c2 := (pplus_ok (uq_fit p A g (Nat.le_of_lt hi)) h4).on (hΦ 23 (by decide))
  rw [rt_nat] at c1
  rw [← uq_step p A g h] at c2
  have i4 : idxD (ud x.1) (.int 2) = some (.tuple (x.1.ns.map nd)) := rfl
  have i1 : idxD (.tuple (x.1.ns.map nd)) (nd g) = some (nd (x.1.ns.getD g 0)) := idx_t nd h1
  simp only [List.map_cons, List.map_nil, one1_nd] at c1 c2
  generalize x.1.ns.getD g 0 = n at c1 c2 i1
  simp [usU, forS, nthS, k91_b_used_of, exs, ev, op2, opd, res, rdv, i1, i4, z2, argSl, musOf, nodupB, wbk, c1, c2, tgOk, tgIxs, putOk, bindT]
theorem us_loop (p : Ps us ts) (A : Am us am) (hΦ : ∀ i, i < 46 → Φ i = T i) {g : Nat} (hg : g < ts.length) (s2 s5 s6 : Sl) (j5 : jk s5) (j6 : jk s6) :
    ∃ t5 t6, jk t5 ∧ jk t6 ∧ exs Φ (nthS 1 (forS (nthS 1 k91_b_used_of))) [.sh (usD us), .sh (rtl am), s2, .sh (nd g), .sh (rt 0), s5, s6] = some (.nx [.sh (usD us), .sh (rtl am), s2, .sh (nd g), .sh (rt (uq us am g us.length)), t5, t6]) := by
  obtain ⟨z, ⟨z1, z2⟩, lp⟩ := for_at (g := .tp [5, 6]) (f := exs Φ usU) prU (fun k (z : Sl × Sl) => [.sh (usD us), .sh (rtl am), s2, .sh (nd g), .sh (rt (uq us am g k)), z.1, z.2]) (fun z => jk z.1 ∧ jk z.2) (us.zip am) 0 (s5, s6) ⟨j5, j6⟩ (fun i x z hx ⟨z1, z2⟩ => by
    simp only [Nat.zero_add]
    refine ⟨?_, _, (.sh (ud x.1), .sh (rt x.2)), rfl, us_turn p A hΦ hg hx s2, jk.sh _, jk.sh _⟩
    show (putOk _ 5 && (putOk _ 6 && true)) = true
    rw [z1.put rfl, z2.put rfl]
    rfl)
  rw [Nat.zero_add, zip_len A] at lp
  refine ⟨z.1, z.2, z1, z2, Eq.trans ?_ lp⟩
  exact exs_for rfl rfl (walk_ua us am)
def usedL (us : List U) (ts : List Nat) (am : List Rat) : List Rat := (List.range ts.length).map fun g => uq us am g us.length
theorem used_of_ok (p : Ps us ts) (A : Am us am) : Gv 46 [usD us, rtl am] (rtl (usedL us ts am)) := by
  refine gv (d := k91_d_used_of) rfl rfl fun Φ hΦ => ?_
  obtain ⟨u, r, hu⟩ := us_cons p
  have i0 : idxD (usD us) (.int 0) = some (ud u) := by subst hu; exact idx_t ud (xs := u :: r) (i := 0) rfl
  have i2 : idxD (ud u) (.int 2) = some (.tuple (u.ns.map nd)) := rfl
  have hul : u.ns.length = ts.length := (p.ok u (by rw [hu]; exact List.mem_cons_self)).len
  obtain ⟨z, ⟨z1, z2, z3, z4⟩, lp⟩ := for_at (g := .nm 3) (f := exs Φ (forS (nthS 1 k91_b_used_of))) nd (fun k (z : Sl × Sl × Sl × Sl) => [.sh (usD us), .sh (rtl am), .own true (((List.range k).map fun g => uq us am g us.length).map rt), z.1, z.2.1, z.2.2.1, z.2.2.2])
    (fun z => jk z.1 ∧ jk z.2.1 ∧ jk z.2.2.1 ∧ jk z.2.2.2) (List.range ts.length) 0 (.un, .un, .un, .un) ⟨.inl rfl, .inl rfl, .inl rfl, .inl rfl⟩ (fun i x z hx ⟨z1, z2, z3, z4⟩ => by
    simp only [Nat.zero_add]
    have hil : i < ts.length := by
      have := (List.getElem?_eq_some_iff.mp hx).1
      rwa [List.length_range] at this
    rw [List.getElem?_range hil] at hx
    cases hx
    obtain ⟨t5, t6, k1, k2, lp⟩ := us_loop p A hΦ hil (.own true (((List.range i).map fun g => uq us am g us.length).map rt)) z.2.2.1 z.2.2.2 z3 z4
    refine ⟨?_, _, (.sh (nd i), .sh (rt (uq us am i us.length)), t5, t6), rfl, ?_, jk.sh _, jk.sh _, k1, k2⟩
    · show (putOk _ 3 && true) = true
      rw [z1.put rfl]
      rfl
    · refine exs_nx (asg_nm rfl (z2.put rfl)) (exs_nx lp ?_)
      have hz : (((List.range i).map fun g => uq us am g us.length).map rt).length < sizeLine := by
        rw [List.length_map, List.length_map, List.length_range]
        exact Nat.lt_of_le_of_lt (show i ≤ 4 by have := p.vt.l1; omega) (by decide)
      rw [List.range_succ, List.map_append, List.map_append]
      rw [exs.eq_def]
      simp only [exs, ev, rdv, ownAt, List.getElem?_cons_zero, List.getElem?_cons_succ, Option.isSome_some, if_true, hz, List.map_cons, List.map_nil]
      rfl)
  rw [Nat.zero_add, List.length_range] at lp
  refine ⟨[.sh (usD us), .sh (rtl am), .sh (rtl (usedL us ts am)), z.1, z.2.1, z.2.2.1, z.2.2.2], ?_, by simp⟩
  refine exs_nx (e1 := [.sh (usD us), .sh (rtl am), .own true [], .un, .un, .un, .un]) (aso_nil rfl) (exs_nx (e1 := [.sh (usD us), .sh (rtl am), .own true ((usedL us ts am).map rt), z.1, z.2.1, z.2.2.1, z.2.2.2]) ?_ (exs_ret rfl))
  · refine Eq.trans (exs_for (x := nd ts.length) (y := .none) ?_ rfl (walk_rng' (n := ts.length) (by have := p.vt.l1; omega))) lp
    have : ev Φ (.idx (.idx (.var 0) (.cst (.int 0))) (.cst (.int 2))) [.sh (usD us), .sh (rtl am), .own true [], .un, .un, .un, .un] = some (.tuple (u.ns.map nd), [.sh (usD us), .sh (rtl am), .own true [], .un, .un, .un, .un]) := by
      simp [ev, op2, opd, res, i0, i2]
    refine ev_b1 (by intro i q; cases q) this ?_
    show some (PyData.int ((u.ns.map nd).length : Nat)) = _
    rw [List.length_map, hul]
    rfl
end
end Iv
end
section
set_option Elab.async false
set_option linter.all false
set_option maxRecDepth 100000
set_option exponentiation.threshold 3000
set_option maxHeartbeats 4000000
namespace Iv
open PySem PySem.Spec L2
theorem rp_rt {q : Rat} (h : Fit q) : RP 1 3849 (rt q) := by
  have l : ∀ i : Int, i.natAbs < 2 ^ 520 → i.natAbs.log2 < 1920 := fun i h => Nat.lt_of_le_of_lt (log_lt h) (by decide)
  have := RP.tup (k := 0) (m := 1921) (ds := [.int q.num, .int q.den]) (fun d hd => by
    simp at hd
    rcases hd with rfl | rfl
    · exact RP.int (l _ h.2)
    · exact RP.int (l _ (by rw [Int.natAbs_natCast]; exact up_pow h.1 (by decide))))
  exact this
theorem rp_rts {qs : List Rat} (hl : qs.length ≤ 6) (h : ∀ q ∈ qs, Fit q) : RP 2 23109 (rtl qs) := by
  have := RP.list (k := 1) (m := 3849) (ds := qs.map rt) (fun d hd => by
    obtain ⟨q, hq, rfl⟩ := List.mem_map.mp hd
    exact rp_rt (h q hq))
  refine this.up (Nat.le_refl _) ?_
  rw [List.length_map]
  have := Nat.mul_le_mul_right (3849 + 2) hl
  omega
theorem rep_rts {qs : List Rat} (hl : qs.length ≤ 6) (h : ∀ q ∈ qs, Fit q) : b1D .repr (rtl qs) = some (.str (rtl qs).shown) := (rp_rts hl h).repr (by decide) (z_of (by decide))
theorem rep_rt {q : Rat} (h : Fit q) : b1D .repr (rt q) = some (.str (rt q).shown) := (rp_rt h).repr (by decide) (z_of (by decide))
theorem rep_bool (b : Bool) : b1D .repr (.bool b) = some (.str (PyData.bool b).shown) := (RP.bool b).repr (by decide) (z_of (by decide))
theorem Bd.fit' {m V : Nat} {q : Rat} (h : Bd m V q) (hm : 0 < m) (h1 : m < 2 ^ 470) (h2 : V < 2 ^ 45) : Fit q := by
  obtain ⟨k1, k2⟩ := h.small hm
  refine ⟨Nat.lt_of_le_of_lt k1 (up_pow h1 (by decide)), Nat.lt_of_le_of_lt k2 ?_⟩
  have := Nat.mul_lt_mul'' h2 h1
  rw [← Nat.pow_add] at this
  exact up_pow this (by decide)
theorem for_any {α Z : Type} {g : Tg} {f : Ev → Option Out} (φ : α → D) (b : α → Bool) (r : D) (env : Z → Ev) (ok : Z → Prop) : ∀ (xs : List α) (z : Z), ok z →
    (∀ x ∈ xs, ∀ z, ok z → tgOk (env z) g = true ∧ ∃ e1 z', bindT g (φ x) (env z) = some e1 ∧ f e1 = (if b x then some (.rt r (env z')) else some (.nx (env z'))) ∧ ok z') →
    ∃ z', ok z' ∧ forGo g f (xs.map φ) (env z) = if xs.any b then some (.rt r (env z')) else some (.nx (env z'))
  | [], z, hz, _ => ⟨z, hz, rfl⟩
  | x :: xs, z, hz, h => by
    obtain ⟨h1, e1, z', h2, h3, h4⟩ := h x List.mem_cons_self z hz
    cases hb : b x with
    | true =>
      rw [hb] at h3
      refine ⟨z', h4, ?_⟩
      rw [List.any_cons, hb, Bool.true_or, if_pos rfl, List.map_cons, forGo, if_pos h1]
      simp only [h2, h3, if_true]
    | false =>
      rw [hb] at h3
      obtain ⟨z2, g1, g2⟩ := for_any φ b r env ok xs z' h4 fun y hy => h y (List.mem_cons_of_mem _ hy)
      refine ⟨z2, g1, ?_⟩
      rw [List.any_cons, hb, Bool.false_or, List.map_cons]
      exact for_nx h1 h2 (by rw [h3]; rfl) g2
theorem exs_exp {Φ : Fn} {x : Ex} {e e1 : Ev} {d : D} (h : ev Φ x e = some (d, e1)) : exs Φ (.exp x) e = some (.nx e1) := by simp only [exs, h]
theorem exs_ifr {Φ : Fn} {c r : Ex} {b : Sm} {e e1 e2 : Ev} {d : D} (nv : ∀ i, c ≠ .var i) (h : ev Φ c e = some (.bool true, e1)) (hr : ev Φ r e1 = some (d, e2)) : exs Φ (.consB (.ifs c (.consB (.ret r) .nilB) .nilB) b) e = some (.rt d e2) := by
  have h2 := exs_ift (a := .consB (.ret r) .nilB) (b := .nilB) nv h
  rw [exs_ret hr] at h2
  simp only [exs.eq_def Φ (.consB _ b), h2]
theorem exs_ifn {Φ : Fn} {c : Ex} {a b : Sm} {e e1 : Ev} (nv : ∀ i, c ≠ .var i) (h : ev Φ c e = some (.bool false, e1)) : exs Φ (.consB (.ifs c a .nilB) b) e = exs Φ b e1 := by
  have h2 := exs_iff (a := a) (b := .nilB) nv h
  rw [show exs Φ .nilB e1 = some (.nx e1) from rfl] at h2
  simp only [exs.eq_def Φ (.consB _ b), h2]
theorem exs_rtA {Φ : Fn} {s b : Sm} {e e1 : Ev} {d : D} (h : exs Φ s e = some (.rt d e1)) : exs Φ (.consB s b) e = some (.rt d e1) := by
  simp only [exs.eq_def Φ (.consB s b), h]
section
variable {us : List U} {ts : List Nat} {am : List Rat} {Φ : Fn} {u : U} {q : Rat} [Tn ts]
def lsU : Sm := forS (nthS 1 k91_b__law_used)
theorem ls_turn (p : Ps us ts) (A : Am us am) (hΦ : ∀ i, i < 41 → Φ i = T i) {g : Nat} (hg : g < ts.length) {i : Nat} {x : U × Rat} (h : (us.zip am)[i]? = some x) :
    exs Φ lsU [.sh (usD us), .sh (rtl am), .sh (nd g), .sh (rt (uq us am g i)), .sh (ud x.1), .sh (rt x.2)] = some (.nx [.sh (usD us), .sh (rtl am), .sh (nd g), .sh (rt (uq us am g (i + 1))), .sh (ud x.1), .sh (rt x.2)]) := by
  obtain ⟨h1, h2, h3, h4⟩ := turn_at p A hg h
  have hi : i < us.length := (List.getElem?_eq_some_iff.mp (zip_get h).1).1
  have c1 := (ltimes_ok h2 h3).on (hΦ 35 (by decide))
  have c2 := (lplus_ok (uq_fit p A g (Nat.le_of_lt hi)) h4).on (hΦ 36 (by decide))
  rw [rt_nat] at c1
  rw [← uq_step p A g h] at c2
  have i4 : idxD (ud x.1) (.int 2) = some (.tuple (x.1.ns.map nd)) := rfl
  have i1 : idxD (.tuple (x.1.ns.map nd)) (nd g) = some (nd (x.1.ns.getD g 0)) := idx_t nd h1
  simp only [List.map_cons, List.map_nil, one1_nd] at c1 c2
  generalize x.1.ns.getD g 0 = n at c1 c2 i1
  simp [lsU, forS, nthS, k91_b__law_used, exs, ev, op2, opd, res, rdv, i1, i4, z2, argSl, musOf, nodupB, wbk, c1, c2, tgOk, tgIxs, putOk, bindT]
theorem law_used_ok (p : Ps us ts) (A : Am us am) {g : Nat} (hg : g < ts.length) : Gv 41 [usD us, rtl am, nd g] (rt (uq us am g us.length)) := by
  refine gv (d := k91_d__law_used) rfl rfl fun Φ hΦ => ?_
  obtain ⟨z, ⟨z1, z2⟩, lp⟩ := for_at (g := .tp [4, 5]) (f := exs Φ lsU) prU (fun k (z : Sl × Sl) => [.sh (usD us), .sh (rtl am), .sh (nd g), .sh (rt (uq us am g k)), z.1, z.2]) (fun z => jk z.1 ∧ jk z.2) (us.zip am) 0 (.un, .un) ⟨.inl rfl, .inl rfl⟩ (fun i x z hx ⟨z1, z2⟩ => by
    simp only [Nat.zero_add]
    refine ⟨?_, _, (.sh (ud x.1), .sh (rt x.2)), rfl, ls_turn p A hΦ hg hx, jk.sh _, jk.sh _⟩
    show (putOk _ 4 && (putOk _ 5 && true)) = true
    rw [z1.put rfl, z2.put rfl]
    rfl)
  rw [Nat.zero_add, zip_len A] at lp
  refine ⟨[.sh (usD us), .sh (rtl am), .sh (nd g), .sh (rt (uq us am g us.length)), z.1, z.2], ?_, by simp⟩
  refine exs_nx (e1 := [.sh (usD us), .sh (rtl am), .sh (nd g), .sh (rt 0), .un, .un]) (Eq.trans (asg_nm (ev_tup (evl_cons rfl (evl_cons rfl evl_nil)) Iv.z2) rfl) rfl) (exs_nx (Eq.trans (exs_for rfl rfl (walk_ua us am)) lp) (exs_ret rfl))
/-! ### what fits -/
def wantB (x : U × Rat) : Bool := match x.1.want with
  | none => true
  | some v => !decide ((v : Rat) < x.2)
theorem want_nat (hu : ∀ v, u.want = some v → v ≤ 999) {v : Nat} (h : u.want = some v) : Fit (v : Rat) := fit_nat (Nat.lt_of_le_of_lt (hu v h) (by decide))
theorem within_ok {G : Nat} (hu : Vu G u) (hq : Fit q) : Gv 47 [ud u, rt q] (.bool (wantB (u, q))) := by
  refine gv (d := k91_d_is_within_want) rfl rfl fun Φ hΦ => ⟨[.sh (ud u), .sh (rt q)], ?_, by simp⟩
  have i3 : idxD (ud u) (.int 3) = some (wd u.want) := rfl
  cases hw : u.want with
  | none =>
    rw [hw] at i3
    simp [k91_d_is_within_want, k91_b_is_within_want, exs, ev, op2, opd, res, i3, wd, cmpD, isNone, wantB, hw]
  | some v =>
    rw [hw] at i3
    have c := (pbelow_ok (want_nat hu.want hw) hq).on (hΦ 18 (by decide))
    rw [rt_nat] at c
    simp only [List.map_cons, List.map_nil, one1_nd, nd] at c
    simp [k91_d_is_within_want, k91_b_is_within_want, exs, ev, op1, op2, opd, res, rdv, i3, wd, cmpD, isNone, wantB, hw, z2, argSl, musOf, nodupB, wbk, c, truth]
def overB (us : List U) (ts : List Nat) (am : List Rat) : Bool := (ts.zip (usedL us ts am)).any fun p => decide ((p.1 : Rat) < p.2)
def fitsB (us : List U) (ts : List Nat) (am : List Rat) : Bool := !overB us ts am && (us.zip am).all wantB
def prT (p : Nat × Rat) : D := .tuple [nd p.1, rt p.2]
theorem walk_ta (ts : List Nat) (am : List Rat) : walkD .zip (tsD ts) (rtl am) = some ((ts.zip am).map prT) := by
  show some (((ts.map nd).zip (am.map rt)).map fun p => PyData.tuple [p.1, p.2]) = _
  rw [List.zip_map, List.map_map] <;> rfl
theorem usedL_fit (p : Ps us ts) (A : Am us am) : ∀ q ∈ usedL us ts am, Fit q := fun q hq => by
  obtain ⟨g, _, rfl⟩ := List.mem_map.mp hq
  exact uq_fit p A g (Nat.le_refl _)
theorem usedL_len (us : List U) (ts : List Nat) (am : List Rat) : (usedL us ts am).length = ts.length := by
  unfold usedL
  rw [List.length_map, List.length_range]
theorem tot_fit (p : Ps us ts) {t : Nat} (h : t ∈ ts) : Fit (t : Rat) := fit_nat (Nat.lt_of_le_of_lt (p.vt.le t h).2 (by decide))
theorem do_fit_ok (p : Ps us ts) (A : Am us am) : Gv 48 [usD us, tsD ts, rtl am] (.bool (fitsB us ts am)) := by
  refine gv (d := k91_d_do_fit) rfl rfl fun Φ hΦ => ?_
  have l1 := p.l1
  have l4 := p.vt.l1
  have c0 := (used_of_ok p A).on (hΦ 46 (by decide))
  have e1 : ev Φ (.lc [("total", 4), ("used_now", 5)] (.tp [4, 5]) .zip (.var 1) (.var 3) .noe (.call 18 (.cons (.tup (.cons (.var 4) (.cons (.cst (.int 1)) .nil))) (.cons (.var 5) .nil)))) [.sh (usD us), .sh (tsD ts), .sh (rtl am), .sh (rtl (usedL us ts am)), .un, .un, .un, .un]
      = some (.list ((ts.zip (usedL us ts am)).map fun x => PyData.bool (decide ((x.1 : Rat) < x.2))), [.sh (usD us), .sh (tsD ts), .sh (rtl am), .sh (rtl (usedL us ts am)), .un, .un, .un, .un]) := by
    refine (ev_lcP prT (fun _ => true) (fun x => PyData.bool (decide ((x.1 : Rat) < x.2))) (ts.zip (usedL us ts am)) rfl rfl (walk_ta _ _) (fun x hx => ?_) (sz (by rw [List.length_zip]; omega))).trans (by rw [all_true])
    obtain ⟨m1, m2⟩ := List.of_mem_zip (show (x.1, x.2) ∈ ts.zip (usedL us ts am) from hx)
    have c := (pbelow_ok (tot_fit p m1) (usedL_fit p A _ m2)).on (hΦ 18 (by decide))
    rw [rt_nat] at c
    simp only [List.map_cons, List.map_nil, one1_nd] at c
    refine ⟨[.sh (usD us), .sh (tsD ts), .sh (rtl am), .sh (rtl (usedL us ts am)), .sh (nd x.1), .sh (rt x.2), .un, .un], rfl, rfl, fun _ => ?_, rfl⟩
    exact ev_call (evl_cons (ev_tup (evl_cons rfl (evl_cons rfl evl_nil)) z2) (evl_cons rfl evl_nil)) rfl rfl c rfl
  have e2 : ev Φ (.lc [("user", 6), ("amount", 7)] (.tp [6, 7]) .zip (.var 0) (.var 2) .noe (.call 47 (.cons (.var 6) (.cons (.var 7) .nil)))) [.sh (usD us), .sh (tsD ts), .sh (rtl am), .sh (rtl (usedL us ts am)), .un, .un, .un, .un]
      = some (.list ((us.zip am).map fun x => PyData.bool (wantB x)), [.sh (usD us), .sh (tsD ts), .sh (rtl am), .sh (rtl (usedL us ts am)), .un, .un, .un, .un]) := by
    refine (ev_lcP prU (fun _ => true) (fun x => PyData.bool (wantB x)) (us.zip am) rfl rfl (walk_ua _ _) (fun x hx => ?_) (sz (by rw [zip_len A]; omega))).trans (by rw [all_true])
    obtain ⟨m1, m2⟩ := List.of_mem_zip (show (x.1, x.2) ∈ us.zip am from hx)
    have c := (within_ok (p.ok _ m1) (A.all _ m2).1).on (hΦ 47 (by decide))
    refine ⟨[.sh (usD us), .sh (tsD ts), .sh (rtl am), .sh (rtl (usedL us ts am)), .un, .un, .sh (ud x.1), .sh (rt x.2)], rfl, rfl, fun _ => ?_, rfl⟩
    exact ev_call (evl_cons rfl (evl_cons rfl evl_nil)) rfl rfl c rfl
  have a1 := ev_b1 (b := .any) (by intro i q; cases q) e1 (any_bools _ _)
  have a2 := ev_b1 (b := .all) (by intro i q; cases q) e2 (all_bools _ _)
  refine ⟨[.sh (usD us), .sh (tsD ts), .sh (rtl am), .sh (rtl (usedL us ts am)), .un, .un, .un, .un], ?_, by simp⟩
  refine exs_nx (e1 := [.sh (usD us), .sh (tsD ts), .sh (rtl am), .sh (rtl (usedL us ts am)), .un, .un, .un, .un]) (Eq.trans (asg_nm (ev_call (evl_cons rfl (evl_cons rfl evl_nil)) rfl rfl c0 rfl) rfl) rfl) ?_
  unfold fitsB
  cases ho : overB us ts am with
  | true =>
    have a1 : ev Φ _ _ = some (.bool (overB us ts am), _) := a1
    rw [ho] at a1
    have hb := exs_ift (a := .consB (.ret (.cst (.bool false))) .nilB) (b := .nilB) (by intro i q; cases q) a1
    rw [exs.eq_def]
    simp only [hb]
    rfl
  | false =>
    have a1 : ev Φ _ _ = some (.bool (overB us ts am), _) := a1
    rw [ho] at a1
    exact exs_nx ((exs_iff (by intro i q; cases q) a1).trans rfl) (exs_ret a2)
theorem used_ok (p : Ps us ts) (A : Am us am) : Gv 51 [usD us, tsD ts, rtl am] (rtl (usedL us ts am)) := by
  refine gv (d := k91_d_used) rfl rfl fun Φ hΦ => ⟨[.sh (usD us), .sh (tsD ts), .sh (rtl am)], ?_, by simp⟩
  have c1 := (want_amounts_ok p (am := am) true A.len fun q hq => (A.all q hq).2).on (hΦ 45 (by decide))
  have c2 := (used_of_ok p A).on (hΦ 46 (by decide))
  exact exs_nx (exs_exp (ev_call (evl_cons rfl (evl_cons rfl (evl_cons rfl evl_nil))) rfl rfl c1 rfl)) (exs_ret (ev_call (evl_cons rfl (evl_cons rfl evl_nil)) rfl rfl c2 rfl))
theorem is_fitting_ok (p : Ps us ts) (A : Am us am) : Gv 49 [usD us, tsD ts, rtl am] (.bool (fitsB us ts am)) := by
  refine gv (d := k91_d_is_fitting) rfl rfl fun Φ hΦ => ⟨[.sh (usD us), .sh (tsD ts), .sh (rtl am)], ?_, by simp⟩
  have c1 := (want_amounts_ok p (am := am) true A.len fun q hq => (A.all q hq).2).on (hΦ 45 (by decide))
  have c2 := (do_fit_ok p A).on (hΦ 48 (by decide))
  exact exs_nx (exs_exp (ev_call (evl_cons rfl (evl_cons rfl (evl_cons rfl evl_nil))) rfl rfl c1 rfl)) (exs_ret (ev_call (evl_cons rfl (evl_cons rfl (evl_cons rfl evl_nil))) rfl rfl c2 rfl))
theorem are_amounts_ok (p : Ps us ts) (A : Am us am) : Gv 44 [usD us, rtl am] (.bool true) := by
  refine gv (d := k91_d_are_amounts) rfl rfl fun Φ hΦ => ⟨[.sh (usD us), .sh (rtl am)], ?_, by simp⟩
  have c1 := (want_users_ok p).on (hΦ 12 (by decide))
  have c2 := (amounts_ok (am := am) true A.len p.l1 fun q hq => (A.all q hq).2).on (hΦ 43 (by decide))
  exact exs_nx (exs_exp (ev_call (evl_cons rfl evl_nil) rfl rfl c1 rfl)) (exs_ret (ev_call (evl_cons rfl (evl_cons rfl evl_nil)) rfl rfl c2 rfl))
theorem are_totals_ok (p : Ps us ts) : Gv 62 [usD us, tsD ts] (.bool true) := by
  refine gv (d := k91_d_are_totals) rfl rfl fun Φ hΦ => ⟨[.sh (usD us), .sh (tsD ts)], ?_, by simp⟩
  have c1 := (want_users_ok p).on (hΦ 12 (by decide))
  have c2 := (totals_ok p).on (hΦ 13 (by decide))
  exact exs_nx (exs_exp (ev_call (evl_cons rfl evl_nil) rfl rfl c1 rfl)) (exs_ret (ev_call (evl_cons rfl (evl_cons rfl evl_nil)) rfl rfl c2 rfl))
end
end Iv
end
section
set_option Elab.async false
set_option linter.all false
set_option maxRecDepth 100000
set_option exponentiation.threshold 3000
set_option maxHeartbeats 4000000
namespace Iv
open PySem PySem.Spec L2
section
variable {us : List U} {ts : List Nat} {am : List Rat} {Φ : Fn} {u : U} {q : Rat} [Tn ts]
theorem zip_ix (f : Nat → Rat) (ts : List Nat) : ts.zip ((List.range ts.length).map f) = ts.zipIdx.map fun p => (p.1, f p.2) := by
  refine List.ext_getElem? fun i => ?_
  rw [List.getElem?_map, List.getElem?_zipIdx, Nat.zero_add]
  by_cases h : i < ts.length
  · rw [List.getElem?_eq_getElem h]
    refine List.getElem?_zip_eq_some.mpr ⟨List.getElem?_eq_getElem h, ?_⟩
    rw [List.getElem?_map, List.getElem?_range h]
    rfl
  · rw [List.getElem?_eq_none (by rw [List.length_zip]; omega), List.getElem?_eq_none (by omega)]
    rfl
theorem over_ix : overB us ts am = ts.zipIdx.any fun p => decide ((p.1 : Rat) < uq us am p.2 us.length) := by
  unfold overB usedL
  rw [zip_ix, List.any_map]
  rfl
theorem law_fits_ok (p : Ps us ts) (A : Am us am) : Gv 50 [usD us, tsD ts, rtl am] (.bool (fitsB us ts am)) := by
  refine gv (d := k91_d__law_fits) rfl rfl fun Φ hΦ => ?_
  have l1 := p.l1
  have l4 := p.vt.l1
  obtain ⟨⟨z3, z4⟩, ⟨j3, j4⟩, lp⟩ := for_any (g := .tp [3, 4]) (f := exs Φ (forS (nthS 0 k91_b__law_fits))) (at2 nd) (fun x : Nat × Nat => decide ((x.1 : Rat) < uq us am x.2 us.length)) (.bool false) (fun z : Sl × Sl => [.sh (usD us), .sh (tsD ts), .sh (rtl am), z.1, z.2, .un, .un]) (fun z => jk z.1 ∧ jk z.2) ts.zipIdx (.un, .un) ⟨.inl rfl, .inl rfl⟩ (fun x hx z ⟨z1, z2⟩ => by
    obtain ⟨hg, ht⟩ := T_at (us := us) hx
    have c1 := (law_used_ok p A hg).on (hΦ 41 (by decide))
    have ht2 : x.1 ∈ ts := by
      rw [← ht]
      exact getD_mem hg
    have c2 := (lbelow_ok (tot_fit p ht2) (uq_fit p A x.2 (Nat.le_refl _))).on (hΦ 31 (by decide))
    rw [rt_nat] at c2
    simp only [List.map_cons, List.map_nil, one1_nd] at c1 c2
    refine ⟨?_, _, (.sh (nd x.2), .sh (nd x.1)), rfl, ?_, jk.sh _, jk.sh _⟩
    · show (putOk _ 3 && (putOk _ 4 && true)) = true
      rw [z1.put rfl, z2.put rfl]
      rfl
    · have hc : ev Φ (.call 31 (.cons (.tup (.cons (.var 4) (.cons (.cst (.int 1)) .nil))) (.cons (.call 41 (.cons (.var 0) (.cons (.var 2) (.cons (.var 3) .nil)))) .nil))) [.sh (usD us), .sh (tsD ts), .sh (rtl am), .sh (nd x.2), .sh (nd x.1), .un, .un] = some (.bool (decide ((x.1 : Rat) < uq us am x.2 us.length)), [.sh (usD us), .sh (tsD ts), .sh (rtl am), .sh (nd x.2), .sh (nd x.1), .un, .un]) :=
        ev_call (evl_cons (ev_tup (evl_cons rfl (evl_cons rfl evl_nil)) Iv.z2) (evl_cons (ev_call (evl_cons rfl (evl_cons rfl (evl_cons rfl evl_nil))) rfl rfl c1 rfl) evl_nil)) rfl rfl c2 rfl
      cases hb : decide ((x.1 : Rat) < uq us am x.2 us.length) with
      | true =>
        rw [hb] at hc
        exact exs_ifr (by intro i q; cases q) hc rfl
      | false =>
        rw [hb] at hc
        exact (exs_ifn (by intro i q; cases q) hc).trans rfl)
  rw [← over_ix] at lp
  have lp2 : exs Φ (nthS 0 k91_b__law_fits) [.sh (usD us), .sh (tsD ts), .sh (rtl am), .un, .un, .un, .un] = _ := Eq.trans (exs_for rfl rfl (walk_enm_t nd ts)) lp
  unfold fitsB
  cases ho : overB us ts am with
  | true =>
    rw [ho, if_pos rfl] at lp2
    exact ⟨_, exs_rtA lp2, by simp⟩
  | false =>
    rw [ho, if_neg (by decide)] at lp2
    refine ⟨[.sh (usD us), .sh (tsD ts), .sh (rtl am), z3, z4, .un, .un], ?_, by simp⟩
    refine exs_nx (e1 := [.sh (usD us), .sh (tsD ts), .sh (rtl am), z3, z4, .un, .un]) lp2 (exs_ret ?_)
    have e1 : ev Φ (.lc [("user", 5), ("amount", 6)] (.tp [5, 6]) .zip (.var 0) (.var 2) .noe (.and (.cmp .isn (.idx (.var 5) (.cst (.int 3))) (.cst .none)) (.call 31 (.cons (.tup (.cons (.idx (.var 5) (.cst (.int 3))) (.cons (.cst (.int 1)) .nil))) (.cons (.var 6) .nil))))) [.sh (usD us), .sh (tsD ts), .sh (rtl am), z3, z4, .un, .un]
        = some (.list ((us.zip am).map fun x => PyData.bool (!wantB x)), [.sh (usD us), .sh (tsD ts), .sh (rtl am), z3, z4, .un, .un]) := by
      refine (ev_lcP prU (fun _ => true) (fun x => PyData.bool (!wantB x)) (us.zip am) rfl rfl (walk_ua _ _) (fun x hx => ?_) (sz (by rw [zip_len A]; omega))).trans (by rw [all_true])
      obtain ⟨m1, m2⟩ := List.of_mem_zip (show (x.1, x.2) ∈ us.zip am from hx)
      refine ⟨[.sh (usD us), .sh (tsD ts), .sh (rtl am), z3, z4, .sh (ud x.1), .sh (rt x.2)], rfl, rfl, fun _ => ?_, rfl⟩
      have i3 : idxD (ud x.1) (.int 3) = some (wd x.1.want) := rfl
      obtain ⟨xu, xq⟩ := x
      simp only at i3 m1 m2 ⊢
      cases hw : xu.want with
      | none =>
        rw [hw] at i3
        simp [ev, op2, opd, res, i3, wd, cmpD, isNone, wantB, hw]
      | some v =>
        rw [hw] at i3
        have c := (lbelow_ok (want_nat (p.ok _ m1).want hw) (A.all _ m2).1).on (hΦ 31 (by decide))
        rw [rt_nat] at c
        simp only [List.map_cons, List.map_nil, one1_nd, nd] at c
        simp [ev, op1, op2, opd, res, rdv, i3, wd, cmpD, isNone, wantB, hw, Iv.z2, argSl, musOf, nodupB, wbk, c, truth]
    have a1 := ev_b1 (b := .any) (by intro i q; cases q) e1 (any_bools _ _)
    have fin : (!(us.zip am).any fun x => !wantB x) = (us.zip am).all wantB := by
      induction us.zip am with
      | nil => rfl
      | cons x xs ih => rw [List.any_cons, List.all_cons, ← ih]; cases wantB x <;> simp
    rw [← fin]
    have a2 : ev Φ (.nt (.b1 .any (.lc [("user", 5), ("amount", 6)] (.tp [5, 6]) .zip (.var 0) (.var 2) .noe (.and (.cmp .isn (.idx (.var 5) (.cst (.int 3))) (.cst .none)) (.call 31 (.cons (.tup (.cons (.idx (.var 5) (.cst (.int 3))) (.cons (.cst (.int 1)) .nil))) (.cons (.var 6) .nil))))))) [.sh (usD us), .sh (tsD ts), .sh (rtl am), z3, z4, .un, .un] = some (.bool (!((us.zip am).any fun x => !wantB x)), [.sh (usD us), .sh (tsD ts), .sh (rtl am), z3, z4, .un, .un]) := by
      rw [ev.eq_def]
      simp only [op1, opd, a1, res, truth, Option.map_some]
    exact a2
/-! ### levels -/
def lv (u : U) (ts : List Nat) (q : Rat) : Rat := q * hgtM u ts / (u.w : Rat)
def Sm1 (q : Rat) : Prop := ∃ D : Nat, 0 < D ∧ D < 2 ^ 450 ∧ Bd D 180000 q
theorem Am.sm (A : Am us am) : ∀ q ∈ am, Sm1 q := fun q hq => by
  obtain ⟨D, h1, h2, h3⟩ := A.bd
  exact ⟨D, h1, h2, h3 q hq⟩
theorem Sm1.fit (s : Sm1 q) : Fit q := by
  obtain ⟨D, h1, h2, h3⟩ := s
  exact h3.fit h1 h2 (by decide)
theorem lv_fit (hu : Vu ts.length u) (ht : Vt ts) (s : Sm1 q) : Fit (q * hgtM u ts) ∧ Fit (lv u ts q) ∧ 0 ≤ q := by
  obtain ⟨D, d1, d2, d3⟩ := s
  obtain ⟨n, t, _, n1, n2, t1, t2, e⟩ := hgtM_at hu ht
  have b0 : Bd t n (hgtM u ts) := by rw [e]; exact Bd.frac n t (by omega)
  have b1 := d3.mul b0
  have b2 := b1.mul (Bd.frac 1 u.w (by have := hu.w0; omega))
  have e2 : q * hgtM u ts * (((1 : Nat) : Rat) / (u.w : Rat)) = lv u ts q := by
    unfold lv
    have h1 : (u.w : Rat) ≠ 0 := by
      have := Fl.cast_pos (show 0 < u.w from hu.w0)
      grind
    rw [show (((1 : Nat) : Rat)) = 1 from rfl]
    grind
  rw [e2] at b2
  have k1 : D * t < 2 ^ 450 * 2 ^ 15 := Nat.mul_lt_mul'' d2 (Nat.lt_of_le_of_lt t2 (by decide))
  have k2 : D * t * u.w < 2 ^ 450 * 2 ^ 15 * 2 ^ 4 := Nat.mul_lt_mul'' k1 (Nat.lt_of_le_of_lt hu.w1 (by decide))
  rw [← Nat.pow_add] at k1 k2
  rw [← Nat.pow_add] at k2
  have v1 : 180000 * n ≤ 180000 * 99 := Nat.mul_le_mul_left _ n2
  refine ⟨b1.fit' (Nat.mul_pos d1 (by omega)) (up_pow k1 (by decide)) (Nat.lt_of_le_of_lt v1 (by decide)), b2.fit' (Nat.mul_pos (Nat.mul_pos d1 (by omega)) (by have := hu.w0; omega)) (up_pow k2 (by decide)) ?_, d3.nn⟩
  rw [Nat.mul_one]
  exact Nat.lt_of_le_of_lt v1 (by decide)
theorem w_fit (hu : Vu ts.length u) : Fit (u.w : Rat) ∧ (0 : Rat) < (u.w : Rat) := ⟨fit_nat (Nat.lt_of_le_of_lt hu.w1 (by decide)), Fl.cast_pos hu.w0⟩
theorem level_of_ok (hu : Vu ts.length u) (ht : Vt ts) (s : Sm1 q) : Gv 54 [ud u, tsD ts, rt q] (rt (lv u ts q)) := by
  refine gv (d := k91_d_level_of) rfl rfl fun Φ hΦ => ⟨[.sh (ud u), .sh (tsD ts), .sh (rt q)], ?_, by simp⟩
  obtain ⟨f1, f2, _⟩ := lv_fit hu ht s
  obtain ⟨w1, w2⟩ := w_fit hu
  have c1 := (height_ok hu ht).on (hΦ 20 (by decide))
  have c2 := (ptimes_ok s.fit (hgtM_fit hu ht)).on (hΦ 25 (by decide))
  have c3 := (pover_ok f1 w1 w2).on (hΦ 17 (by decide))
  rw [rt_nat] at c3
  simp only [List.map_cons, List.map_nil, one1_nd] at c1 c2 c3
  have i1 : ev Φ (.idx (.var 0) (.cst (.int 1))) [.sh (ud u), .sh (tsD ts), .sh (rt q)] = some (nd u.w, [.sh (ud u), .sh (tsD ts), .sh (rt q)]) := rfl
  exact exs_ret (ev_call (evl_cons (ev_call (evl_cons rfl (evl_cons (ev_call (evl_cons rfl (evl_cons rfl evl_nil)) rfl rfl c1 rfl) evl_nil)) rfl rfl c2 rfl) (evl_cons (ev_tup (evl_cons i1 (evl_cons rfl evl_nil)) Iv.z2) evl_nil)) rfl rfl c3 rfl)
theorem law_level_ok (p : Ps us ts) {i : Nat} (hi : i < us.length) (s : Sm1 q) : Gv 56 [usD us, tsD ts, nd i, rt q] (rt (lv (us.getD i U0) ts q)) := by
  refine gv (d := k91_d__law_level) rfl rfl fun Φ hΦ => ⟨[.sh (usD us), .sh (tsD ts), .sh (nd i), .sh (rt q)], ?_, by simp⟩
  have hu := p.ok _ (getD_mem (d := U0) hi)
  obtain ⟨f1, f2, _⟩ := lv_fit hu p.vt s
  obtain ⟨w1, w2⟩ := w_fit hu
  have c1 := (lheight_ok hu p.vt).on (hΦ 32 (by decide))
  have c2 := (ltimes_ok s.fit (hgtM_fit hu p.vt)).on (hΦ 35 (by decide))
  have c3 := (lover_ok f1 w1 w2).on (hΦ 33 (by decide))
  rw [rt_nat] at c3
  simp only [List.map_cons, List.map_nil, one1_nd] at c1 c2 c3
  have i0 : idxD (usD us) (nd i) = some (ud (us.getD i U0)) := idx_t ud (at_lt hi U0)
  have v0 : ev Φ (.idx (.var 0) (.var 2)) [.sh (usD us), .sh (tsD ts), .sh (nd i), .sh (rt q)] = some (ud (us.getD i U0), [.sh (usD us), .sh (tsD ts), .sh (nd i), .sh (rt q)]) := ev_idxv rfl rfl i0
  have i1 : ev Φ (.idx (.idx (.var 0) (.var 2)) (.cst (.int 1))) [.sh (usD us), .sh (tsD ts), .sh (nd i), .sh (rt q)] = some (nd (us.getD i U0).w, [.sh (usD us), .sh (tsD ts), .sh (nd i), .sh (rt q)]) := by
    rw [ev.eq_def]
    simp only [op2]
    rw [opd_nv (by intro i q; cases q) v0]
    rfl
  exact exs_ret (ev_call (evl_cons (ev_call (evl_cons rfl (evl_cons (ev_call (evl_cons v0 (evl_cons rfl evl_nil)) rfl rfl c1 rfl) evl_nil)) rfl rfl c2 rfl) (evl_cons (ev_tup (evl_cons i1 (evl_cons rfl evl_nil)) Iv.z2) evl_nil)) rfl rfl c3 rfl)
theorem Sm1.den (s : Sm1 q) : q.den < 2 ^ 1000 := by
  obtain ⟨D, h1, h2, h3⟩ := s
  exact Nat.lt_of_le_of_lt (h3.small h1).1 (up_pow h2 (by decide))
theorem level_ok (p : Ps us ts) {i : Nat} (hi : i < us.length) (s : Sm1 q) : Gv 55 [usD us, tsD ts, nd i, rt q] (rt (lv (us.getD i U0) ts q)) := by
  refine gv (d := k91_d_level) rfl rfl fun Φ hΦ => ⟨[.sh (usD us), .sh (tsD ts), .sh (nd i), .sh (rt q)], ?_, by simp⟩
  have hu := p.ok _ (getD_mem (d := U0) hi)
  have c1 := (want_both_ok p).on (hΦ 14 (by decide))
  have c2 := (want_user_ok hi).on (hΦ 53 (by decide))
  have c3 := (is_ratio_ok s.den).on (hΦ 42 (by decide))
  have c4 := (level_of_ok hu p.vt s).on (hΦ 54 (by decide))
  simp only [List.map_cons, List.map_nil] at c1 c2 c3 c4
  have hn : 0 ≤ q.num := Rat.num_nonneg.mpr (lv_fit hu p.vt s).2.2
  have i0 : idxD (usD us) (nd i) = some (ud (us.getD i U0)) := idx_t ud (at_lt hi U0)
  refine exs_nx (exs_exp (ev_call (evl_cons rfl (evl_cons rfl evl_nil)) rfl rfl c1 rfl)) (exs_nx (exs_exp (ev_call (evl_cons rfl (evl_cons rfl evl_nil)) rfl rfl c2 rfl)) (exs_nx (e1 := [.sh (usD us), .sh (tsD ts), .sh (nd i), .sh (rt q)]) ((exs_iff (by intro i q; cases q) ?_).trans rfl) (exs_ret (ev_call (evl_cons (ev_idxv rfl rfl i0) (evl_cons rfl (evl_cons rfl evl_nil))) rfl rfl c4 rfl))))
  have k1 : ev Φ (.nt (.call 42 (.cons (.var 3) .nil))) [.sh (usD us), .sh (tsD ts), .sh (nd i), .sh (rt q)] = some (.bool false, [.sh (usD us), .sh (tsD ts), .sh (nd i), .sh (rt q)]) := by
    have := ev_call (Φ := Φ) (j := 42) (as := .cons (.var 3) .nil) (e := [.sh (usD us), .sh (tsD ts), .sh (nd i), .sh (rt q)]) (evl_cons rfl evl_nil) rfl rfl c3 rfl
    rw [ev.eq_def]
    simp only [op1, opd, this, res, truth, Option.map_some]
    rfl
  have k2 : ev Φ (.cmp .lt (.idx (.var 3) (.cst (.int 0))) (.cst (.int 0))) [.sh (usD us), .sh (tsD ts), .sh (nd i), .sh (rt q)] = some (.bool false, [.sh (usD us), .sh (tsD ts), .sh (nd i), .sh (rt q)]) := by
    have i1 : ev Φ (.idx (.var 3) (.cst (.int 0))) [.sh (usD us), .sh (tsD ts), .sh (nd i), .sh (rt q)] = some (.int q.num, [.sh (usD us), .sh (tsD ts), .sh (nd i), .sh (rt q)]) := rfl
    have hd : cmpD .lt (.int q.num) (.int 0) = some false := by
      show some (decide (q.num < 0)) = _
      rw [decide_eq_false (by omega)]
    exact ev_cmp' (opd_nv (by intro i q; cases q) i1) (opd_nv (by intro i q; cases q) rfl) rfl rfl hd
  exact evl_or k1 k2
end
end Iv
end
section
set_option Elab.async false
set_option linter.all false
set_option maxRecDepth 100000
set_option exponentiation.threshold 3000
set_option maxHeartbeats 4000000
namespace Iv
open PySem PySem.Spec L2
section
variable {us : List U} {u v : U} {ts R : List Nat} {am : List Rat} {l : Nat → Rat} {c : Rat} {L M : Nat}
theorem fill_st (B : (flOf us ts).Bs L) : ∀ (k : Nat) (R : List Nat) (am : List Rat) (l : Nat → Rat) (c : Rat) (M : Nat), R.length ≤ k → (flOf us ts).St L R (fn am) l c M → am.length = us.length → ∃ l c M, (flOf us ts).St L [] (fn (fillL us ts k R am).1) l c M
  | 0, [], am, l, c, M, _, A, _ => ⟨l, c, M, A⟩
  | _ + 1, [], am, l, c, M, _, A, _ => ⟨l, c, M, A⟩
  | 0, _ :: _, _, _, _, _, h, _, _ => by simp at h
  | k + 1, i :: R, am, l, c, M, h, A, hl => by
    obtain ⟨l', M', A', hlen⟩ := Fl.next B A (by simp)
    rw [← fn_am2 hl (fun j hj => A.at_.lt j hj)] at A'
    exact fill_st B k _ _ _ _ _ (by simp only [List.length_cons] at hlen h; omega) A' (by rw [setA_len, hl])
theorem fin_st (p : Ps us ts) : ∃ L l c M, (flOf us ts).Bs L ∧ (flOf us ts).St L [] (fn (amsOf us ts)) l c M := by
  obtain ⟨L, B⟩ := p.bs
  have first := Fl.first B
  rw [show (flOf us ts).n = us.length from rfl, ← fn_zero us.length] at first
  obtain ⟨l, c, M, A⟩ := fill_st B us.length (List.range us.length) (List.replicate us.length 0) _ _ _ (by rw [List.length_range]; exact Nat.le_refl _) first List.length_replicate
  exact ⟨L, l, c, M, B, A⟩
theorem ams_len : (amsOf us ts).length = us.length := by
  unfold amsOf
  rw [fillL_len _ _ _ |>.1, List.length_replicate]
def prOf (us : List U) (ts : List Nat) : Pr := ⟨us.length, ts.length, fun i => ((us.getD i U0).w : Rat), fun i g => ((flOf us ts).nd i g : Rat), fun g => ((flOf us ts).T g : Rat), fun i => match (us.getD i U0).want with | none => none | some v => some (v : Rat), fun i => hgtM (us.getD i U0) ts⟩
theorem zip_at {us : List U} {ts : List Nat} (p : Ps us ts) {i g : Nat} (hi : i < us.length) (hg : g < ts.length) : ((us.getD i U0).ns.zip ts)[g]? = some ((flOf us ts).nd i g, (flOf us ts).T g) := by
  have hu := p.ok _ (getD_mem (d := U0) hi)
  rw [List.getElem?_zip_eq_some]
  exact ⟨at_lt (by rw [hu.len]; exact hg) 0, at_lt hg 0⟩
theorem prOf_ok (p : Ps us ts) : (prOf us ts).Ok := by
  have hT : ∀ g, g < ts.length → (0 : Rat) < ((flOf us ts).T g : Rat) := fun g hg => Fl.cast_pos (p.vt.le _ (getD_mem (d := 0) hg)).1
  refine ⟨fun i hi => ?_, fun i g hi hg => Fl.cast_nn _, hT, fun i g hi hg => ?_, fun i hi => ?_, fun i hi => ?_⟩
  · exact Fl.cast_pos (p.ok _ (getD_mem (d := U0) hi)).w0
  · have hu := p.ok _ (getD_mem (d := U0) hi)
    have hz := zip_at p hi hg
    have h1 := (hgtM_spec hu p.vt).2 _ (List.mem_map.mpr ⟨_, List.mem_of_getElem? hz, rfl⟩)
    have h2 := hT g hg
    have h3 := mul_le h1 (Rat.le_of_lt h2)
    have h4 : ((flOf us ts).T g : Rat) * (((flOf us ts).nd i g : Rat) / ((flOf us ts).T g : Rat)) = ((flOf us ts).nd i g : Rat) := by grind
    have h5 : ((flOf us ts).T g : Rat) * (((flOf us ts).nd i g : Rat) / ((flOf us ts).T g : Rat)) ≤ ((flOf us ts).T g : Rat) * hgtM (us.getD i U0) ts := h3
    show ((flOf us ts).nd i g : Rat) ≤ hgtM (us.getD i U0) ts * ((flOf us ts).T g : Rat)
    rw [h4] at h5
    rw [Rat.mul_comm]
    exact h5
  · have hu := p.ok _ (getD_mem (d := U0) hi)
    obtain ⟨⟨n, t⟩, hp, e⟩ := List.mem_map.mp (hgtM_spec hu p.vt).1
    obtain ⟨g, hg⟩ := List.mem_iff_getElem?.mp hp
    have lg : g < ts.length := by
      have := (List.getElem?_eq_some_iff.mp hg).1
      rw [List.length_zip] at this
      omega
    have hz := zip_at p hi lg
    rw [hg] at hz
    have hz := Option.some.inj hz
    have e1 : n = (flOf us ts).nd i g := congrArg Prod.fst hz
    have e2 : t = (flOf us ts).T g := congrArg Prod.snd hz
    refine ⟨g, lg, ?_⟩
    have h2 := hT g lg
    have e' : hgtM (us.getD i U0) ts = (n : Rat) / (t : Rat) := e.symm
    show ((flOf us ts).nd i g : Rat) = hgtM (us.getD i U0) ts * ((flOf us ts).T g : Rat)
    rw [e', e1, e2]
    grind
  · exact hgtM_pos (p.ok _ (getD_mem (d := U0) hi)) p.vt
theorem fair_of (p : Ps us ts) : ∃ l, Fair (prOf us ts) (fn (amsOf us ts)) l := by
  obtain ⟨L, l, c, M, B, A⟩ := fin_st p
  have A := A.at_
  have hv : ∀ i, (flOf us ts).v [] (fn (amsOf us ts)) c i = fn (amsOf us ts) i := fun i => if_neg (by simp)
  refine ⟨l, fun i hi => ?_, fun i hi => (A.lev i hi (by simp)).2.1, fun g hg => ?_, fun i v hi h => ?_, fun i hi => ?_⟩
  · have hp := hgtM_pos (p.ok _ (getD_mem (d := U0) hi)) p.vt
    have h1 := (A.lev i hi (by simp)).1
    have h2 : (flOf us ts).s i = ((us.getD i U0).w : Rat) / hgtM (us.getD i U0) ts := rfl
    show fn (amsOf us ts) i * hgtM (us.getD i U0) ts = l i * ((us.getD i U0).w : Rat)
    rw [h1, h2]
    grind
  · have h := A.fit g hg
    simp only [hv] at h
    exact h
  · have h : (match (us.getD i U0).want with | none => none | some v => some (v : Rat)) = some v := h
    cases hw : (us.getD i U0).want with
    | none => rw [hw] at h; cases h
    | some x =>
      rw [hw] at h
      have h3 := A.want i x hi hw
      rw [hv] at h3
      cases h
      exact h3
  · rcases A.stop i hi (by simp) with ⟨x, e1, e2⟩ | ⟨g, hg, h1, h2, h3⟩
    · refine .inl ?_
      have e1 : (us.getD i U0).want = some x := e1
      show (match (us.getD i U0).want with | none => none | some v => some (v : Rat)) = some (fn (amsOf us ts) i)
      rw [e1, e2]
    · simp only [hv] at h2
      exact .inr ⟨g, hg, Fl.cast_pos h1, h2, fun j hj hn => (h3 j hj (by
        have hn : (0 : Rat) < ((flOf us ts).nd j g : Rat) := hn
        exact_mod_cast hn)).2⟩
theorem Am.ams (p : Ps us ts) : Am us (amsOf us ts) := by
  obtain ⟨L, l, c, M, B, A⟩ := fin_st p
  obtain ⟨k1, k2⟩ := Fl.lm B A
  refine ⟨ams_len, L * M, k1, up_pow k2 (by decide), fun q hq => ?_⟩
  obtain ⟨i, hi⟩ := List.mem_iff_getElem?.mp hq
  have li := (List.getElem?_eq_some_iff.mp hi).1
  rw [ams_len] at li
  have h := Fl.am_bd B A li (by simp)
  rw [show fn (amsOf us ts) i = q from getD_of hi] at h
  exact h.wide (by decide)
theorem can_rt : ∀ qs : List Rat, PyData.canLayAll0 (qs.map rt) = true
  | [] => by simp [PyData.canLayAll0]
  | q :: qs => by
    have := can_rt qs
    simp [PyData.canLayAll0, rt, PyData.canLay0] at this ⊢
    exact this
theorem dep_rt : ∀ qs : List Rat, PyData.depthAll (qs.map rt) ≤ 1
  | [] => by simp [PyData.depthAll]
  | q :: qs => by
    have := dep_rt qs
    simp [PyData.depthAll, rt, PyData.depth] at this ⊢
    exact Nat.max_le.mpr ⟨Nat.le_refl _, this⟩
theorem shaped_rtl (qs : List Rat) : SeqAt.shaped (rtl qs) = true := by
  unfold SeqAt.shaped rtl
  rw [PyData.canLay0, can_rt, PyData.depth]
  have := dep_rt qs
  rw [decide_eq_true (by omega)]
  rfl
theorem eqvAll_rt : ∀ a b : List Rat, PyData.eqvAll (a.map rt) (b.map rt) = decide (a = b)
  | [], [] => by simp [PyData.eqvAll]
  | [], b :: bs => by simp [PyData.eqvAll]
  | a :: as, [] => by simp [PyData.eqvAll]
  | a :: as, b :: bs => by
    have ih := eqvAll_rt as bs
    have e : PyData.eqvAll ((a :: as).map rt) ((b :: bs).map rt) = (PyData.eqv (rt a) (rt b) && PyData.eqvAll (as.map rt) (bs.map rt)) := by
      simp [PyData.eqvAll]
    rw [e, ih, eqv_rt]
    by_cases h : a = b <;> simp [h]
theorem eq_rtl (a b : List Rat) : eqD (rtl a) (rtl b) = some (decide (a = b)) := by
  have h : eqD (rtl a) (rtl b) = (if SeqAt.shaped (rtl a) && SeqAt.shaped (rtl b) then some (PyData.eqv (rtl a) (rtl b)) else none) := rfl
  have h2 : PyData.eqv (rtl a) (rtl b) = PyData.eqvAll (a.map rt) (b.map rt) := by simp [rtl, PyData.eqv]
  rw [h, shaped_rtl, shaped_rtl, h2, eqvAll_rt]
  rfl
theorem mem_ix {α : Type} {xs : List α} {x : α × Nat} (h : x ∈ xs.zipIdx) : xs[x.2]? = some x.1 := by
  obtain ⟨i, hi⟩ := List.mem_iff_getElem?.mp h
  rw [List.getElem?_zipIdx] at hi
  obtain ⟨t, h1, rfl⟩ := Option.map_eq_some_iff.mp hi
  rw [Nat.zero_add]
  exact h1
theorem ev_idxc {Φ : Fn} {a : Ex} {i : Int} {e e1 : Ev} {x d : D} (nv : ∀ i, a ≠ .var i) (h : ev Φ a e = some (x, e1)) (h2 : idxD x (.int i) = some d) : ev Φ (.idx a (.cst (.int i))) e = some (d, e1) := by
  rw [ev.eq_def]
  simp only [op2]
  rw [opd_nv nv h]
  simp [opd, ev, res, h2]
variable [Tn ts]
theorem shared_ok (p : Ps us ts) : Gv 39 [usD us, tsD ts] (rtl (amsOf us ts)) := by
  refine gv (d := k91_d_shared) rfl rfl fun Φ hΦ => ⟨[.sh (usD us), .sh (tsD ts)], ?_, by simp⟩
  have c1 := (want_both_ok p).on (hΦ 14 (by decide))
  have c2 := (filled_ok p).on (hΦ 28 (by decide))
  have e1 := ev_call (Φ := Φ) (j := 28) (as := .cons (.var 0) (.cons (.var 1) .nil)) (e := [.sh (usD us), .sh (tsD ts)]) (evl_cons rfl (evl_cons rfl evl_nil)) rfl rfl c2 rfl
  exact exs_nx (exs_exp (ev_call (evl_cons rfl (evl_cons rfl evl_nil)) rfl rfl c1 rfl)) (exs_ret (ev_idxc (by intro i q; cases q) e1 rfl))
theorem filling_ok (p : Ps us ts) : Gv 40 [usD us, tsD ts] (.list (rowsOf us ts)) := by
  refine gv (d := k91_d_filling) rfl rfl fun Φ hΦ => ⟨[.sh (usD us), .sh (tsD ts)], ?_, by simp⟩
  have c1 := (want_both_ok p).on (hΦ 14 (by decide))
  have c2 := (filled_ok p).on (hΦ 28 (by decide))
  have e1 := ev_call (Φ := Φ) (j := 28) (as := .cons (.var 0) (.cons (.var 1) .nil)) (e := [.sh (usD us), .sh (tsD ts)]) (evl_cons rfl (evl_cons rfl evl_nil)) rfl rfl c2 rfl
  exact exs_nx (exs_exp (ev_call (evl_cons rfl (evl_cons rfl evl_nil)) rfl rfl c1 rfl)) (exs_ret (ev_idxc (by intro i q; cases q) e1 rfl))
theorem is_share_ok (p : Ps us ts) (A : Am us am) (b : Bool) : Gv 60 [usD us, tsD ts, seqD b (am.map rt)] (.bool (decide (am = amsOf us ts))) := by
  refine gv (d := k91_d_is_share) rfl rfl fun Φ hΦ => ⟨[.sh (usD us), .sh (tsD ts), .sh (seqD b (am.map rt))], ?_, by simp⟩
  have c1 := (want_both_ok p).on (hΦ 14 (by decide))
  have c2 := (filled_ok p).on (hΦ 28 (by decide))
  have c3 := (amounts_ok (am := am) b A.len p.l1 fun q hq => (A.all q hq).2).on (hΦ 43 (by decide))
  have e1 := ev_call (Φ := Φ) (j := 28) (as := .cons (.var 0) (.cons (.var 1) .nil)) (e := [.sh (usD us), .sh (tsD ts), .sh (seqD b (am.map rt))]) (evl_cons rfl (evl_cons rfl evl_nil)) rfl rfl c2 rfl
  have e2 : ev Φ (.idx (.call 28 (.cons (.var 0) (.cons (.var 1) .nil))) (.cst (.int 0))) [.sh (usD us), .sh (tsD ts), .sh (seqD b (am.map rt))] = some (rtl (amsOf us ts), [.sh (usD us), .sh (tsD ts), .sh (seqD b (am.map rt))]) := ev_idxc (by intro i q; cases q) e1 rfl
  have e3 : ev Φ (.b1 .list (.var 2)) [.sh (usD us), .sh (tsD ts), .sh (seqD b (am.map rt))] = some (rtl am, [.sh (usD us), .sh (tsD ts), .sh (seqD b (am.map rt))]) := ev_b1v rfl (by cases b <;> rfl)
  refine exs_nx (exs_exp (ev_call (evl_cons rfl (evl_cons rfl evl_nil)) rfl rfl c1 rfl)) (exs_ret ?_)
  exact ev_andt (ev_call (evl_cons rfl (evl_cons rfl evl_nil)) rfl rfl c3 rfl) (ev_cmp' (opd_nv (by intro i q; cases q) e3) (opd_nv (by intro i q; cases q) e2) rfl rfl (eq_rtl _ _))
theorem amounts_right_ok (p : Ps us ts) (A : Am us am) : Gv 57 [usD us, tsD ts, rtl am] (.bool true) := by
  refine gv (d := k91_d__law_amounts_right) rfl rfl fun Φ hΦ => ?_
  have l1 := p.l1
  have l4 := p.vt.l1
  have hlc : ev Φ (.lc [("good", 6)] (.nm 6) .rng (.b1 .len (.var 1)) .noe .noe (.call 41 (.cons (.var 0) (.cons (.var 2) (.cons (.var 6) .nil))))) [.sh (usD us), .sh (tsD ts), .sh (rtl am), .un, .un, .un, .un] = some (rtl (usedL us ts am), [.sh (usD us), .sh (tsD ts), .sh (rtl am), .un, .un, .un, .un]) := by
    refine (ev_lcP nd (fun _ => true) (fun g => rt (uq us am g us.length)) (List.range ts.length) (x := nd ts.length) (y := .none) (ev_b1v rfl ?_) rfl (walk_rng' (by omega)) (fun g hg => ?_) (sz (by rw [List.length_range]; omega))).trans ?_
    · show some (PyData.int ((ts.map nd).length : Nat)) = _
      rw [List.length_map]
      rfl
    · have c := (law_used_ok p A (List.mem_range.mp hg)).on (hΦ 41 (by decide))
      exact ⟨[.sh (usD us), .sh (tsD ts), .sh (rtl am), .un, .un, .un, .sh (nd g)], rfl, rfl, fun _ => ev_call (evl_cons rfl (evl_cons rfl (evl_cons rfl evl_nil))) rfl rfl c rfl, rfl⟩
    · rw [all_true]
      unfold rtl usedL
      rw [List.map_map]
      rfl
  have r1 := rep_rts (qs := usedL us ts am) (by rw [usedL_len]; omega) (usedL_fit p A)
  have c1 := (used_ok p A).on (hΦ 51 (by decide))
  have c2 := (is_fitting_ok p A).on (hΦ 49 (by decide))
  have c3 := (law_fits_ok p A).on (hΦ 50 (by decide))
  have c4 := (are_amounts_ok p A).on (hΦ 44 (by decide))
  obtain ⟨⟨z4, z5⟩, ⟨j4, j5⟩, lp⟩ := for_any (g := .tp [4, 5]) (f := exs Φ (forS (nthS 3 k91_b__law_amounts_right))) (at2 rt) (fun _ : Rat × Nat => false) (.bool false) (fun z : Sl × Sl => [.sh (usD us), .sh (tsD ts), .sh (rtl am), .sh (rtl (usedL us ts am)), z.1, z.2, .un]) (fun z => jk z.1 ∧ jk z.2) am.zipIdx (.un, .un) ⟨.inl rfl, .inl rfl⟩ (fun x hx z ⟨z1, z2⟩ => by
    have h1 := mem_ix hx
    have hi : x.2 < us.length := by
      have := (List.getElem?_eq_some_iff.mp h1).1
      rw [A.len] at this
      exact this
    have s := A.sm _ (List.mem_of_getElem? h1)
    have c1 := (level_ok p hi s).on (hΦ 55 (by decide))
    have c2 := (law_level_ok p hi s).on (hΦ 56 (by decide))
    have r := rep_rt (lv_fit (p.ok _ (getD_mem (d := U0) hi)) p.vt s).2.1
    refine ⟨?_, _, (.sh (nd x.2), .sh (rt x.1)), rfl, ?_, jk.sh _, jk.sh _⟩
    · show (putOk _ 4 && (putOk _ 5 && true)) = true
      rw [z1.put rfl, z2.put rfl]
      rfl
    · rw [if_neg (by decide)]
      exact (exs_ifn (by intro i q; cases q) (ev_ne_rep (by intro i q; cases q) (by intro i q; cases q) (ev_b1 (by intro i q; cases q) (ev_call (evl_cons rfl (evl_cons rfl (evl_cons rfl (evl_cons rfl evl_nil)))) rfl rfl c1 rfl) r) (ev_b1 (by intro i q; cases q) (ev_call (evl_cons rfl (evl_cons rfl (evl_cons rfl (evl_cons rfl evl_nil)))) rfl rfl c2 rfl) r))).trans rfl)
  rw [show (am.zipIdx.any fun _ => false) = false by simp, if_neg (by decide)] at lp
  refine ⟨[.sh (usD us), .sh (tsD ts), .sh (rtl am), .sh (rtl (usedL us ts am)), z4, z5, .un], ?_, by simp⟩
  refine exs_nx (e1 := [.sh (usD us), .sh (tsD ts), .sh (rtl am), .sh (rtl (usedL us ts am)), .un, .un, .un]) (Eq.trans (asg_nm hlc rfl) rfl) ?_
  have n1 := ev_ne_rep (Φ := Φ) (a := .b1 .repr (.call 51 (.cons (.var 0) (.cons (.var 1) (.cons (.var 2) .nil))))) (b := .b1 .repr (.var 3)) (e := [.sh (usD us), .sh (tsD ts), .sh (rtl am), .sh (rtl (usedL us ts am)), .un, .un, .un]) (by intro i q; cases q) (by intro i q; cases q) (ev_b1 (by intro i q; cases q) (ev_call (evl_cons rfl (evl_cons rfl (evl_cons rfl evl_nil))) rfl rfl c1 rfl) r1) (ev_b1v rfl r1)
  have n2 := ev_ne_rep (Φ := Φ) (a := .b1 .repr (.calk 51 .nil (.cons (.var 2) (.cons (.var 1) (.cons (.var 0) .nil))) [2, 1, 0])) (b := .b1 .repr (.var 3)) (e := [.sh (usD us), .sh (tsD ts), .sh (rtl am), .sh (rtl (usedL us ts am)), .un, .un, .un]) (by intro i q; cases q) (by intro i q; cases q) (ev_b1 (by intro i q; cases q) (ev_calk evl_nil (evl_cons rfl (evl_cons rfl (evl_cons rfl evl_nil))) rfl c1) r1) (ev_b1v rfl r1)
  have n3 := ev_ne_rep (Φ := Φ) (a := .b1 .repr (.call 49 (.cons (.var 0) (.cons (.var 1) (.cons (.var 2) .nil))))) (b := .b1 .repr (.call 50 (.cons (.var 0) (.cons (.var 1) (.cons (.var 2) .nil))))) (e := [.sh (usD us), .sh (tsD ts), .sh (rtl am), .sh (rtl (usedL us ts am)), .un, .un, .un]) (by intro i q; cases q) (by intro i q; cases q) (ev_b1 (by intro i q; cases q) (ev_call (evl_cons rfl (evl_cons rfl (evl_cons rfl evl_nil))) rfl rfl c2 rfl) (rep_bool _)) (ev_b1 (by intro i q; cases q) (ev_call (evl_cons rfl (evl_cons rfl (evl_cons rfl evl_nil))) rfl rfl c3 rfl) (rep_bool _))
  refine (exs_ifn (by intro i q; cases q) (evl_or n1 n2)).trans ((exs_ifn (by intro i q; cases q) n3).trans ?_)
  refine exs_nx (e1 := [.sh (usD us), .sh (tsD ts), .sh (rtl am), .sh (rtl (usedL us ts am)), z4, z5, .un]) (Eq.trans (exs_for rfl rfl (walk_enm_l rt am)) lp) (exs_ret ?_)
  exact ev_cmp' (opd_nv (by intro i q; cases q) (ev_call (evl_cons rfl (evl_cons rfl evl_nil)) rfl rfl c4 rfl)) (opd_nv (by intro i q; cases q) rfl) rfl rfl rfl
end
end Iv
end
section
set_option Elab.async false
set_option linter.all false
set_option maxRecDepth 100000
set_option exponentiation.threshold 3000
set_option maxHeartbeats 4000000
namespace Iv
open PySem PySem.Spec L2
/-! k91: wants met and bottlenecks, user by user -/
theorem ev_idxw {Φ : Fn} {a : Ex} {i : Nat} {e e1 : Ev} {x y d : D} (nv : ∀ i, a ≠ .var i) (h : ev Φ a e = some (x, e1)) (hi : e1[i]? = some (.sh y)) (h2 : idxD x y = some d) : ev Φ (.idx a (.var i)) e = some (d, e1) := by
  rw [ev.eq_def]
  simp only [op2]
  rw [opd_nv nv h]
  simp only [opd, hi, res, h2, Option.map_some]
theorem exs_ifx {Φ : Fn} {c : Ex} {a b : Sm} {e e1 : Ev} {t : Bool} (nv : ∀ i, c ≠ .var i) (h : ev Φ c e = some (.bool t, e1)) : exs Φ (.ifs c a b) e = if t then exs Φ a e1 else exs Φ b e1 := by
  cases t with
  | true => exact (exs_ift nv h).trans (if_pos rfl).symm
  | false => exact (exs_iff nv h).trans (if_neg (by decide)).symm
theorem ev_nt {Φ : Fn} {a : Ex} {e e1 : Ev} {t : Bool} (nv : ∀ i, a ≠ .var i) (h : ev Φ a e = some (.bool t, e1)) : ev Φ (.nt a) e = some (.bool (!t), e1) := by
  rw [ev.eq_def]
  simp only [op1]
  rw [opd_nv nv h]
  rfl
section
variable {us : List U} {ts : List Nat} {am : List Rat} {Φ : Fn} {s3 s6 s7 s8 s9 s12 : Sl} [Tn ts]
def need (us : List U) (i g : Nat) : Nat := (us.getD i U0).ns.getD g 0
def lvs (us : List U) (ts : List Nat) (am : List Rat) : List Rat := am.zipIdx.map fun x => lv (us.getD x.2 U0) ts x.1
def lvA (us : List U) (ts : List Nat) (am : List Rat) (i : Nat) : Rat := lv (us.getD i U0) ts (fn am i)
theorem lvs_at (A : Am us am) {i : Nat} (hi : i < us.length) : (lvs us ts am)[i]? = some (lvA us ts am i) := by
  unfold lvs lvA
  rw [List.getElem?_map, List.getElem?_zipIdx, (A.at_ hi).1]
  simp
def spent (us : List U) (ts : List Nat) (am : List Rat) : List Nat := (ts.zipIdx.filter fun x => decide (uq us am x.2 us.length = (x.1 : Rat))).map (·.2)
def oth (us : List U) (g : Nat) : List Nat := (List.range us.length).filter fun j => decide (0 < need us j g)
def botB (us : List U) (ts : List Nat) (am : List Rat) (i g : Nat) : Bool := decide (i ∈ oth us g) && !((oth us g).any fun j => decide (lvA us ts am i < lvA us ts am j))
def metB (us : List U) (am : List Rat) (i : Nat) : Bool := match (us.getD i U0).want with
  | none => false
  | some v => decide (fn am i = (v : Rat))
def wantD : D := .str "want"
def rowE (us : List U) (ts : List Nat) (am : List Rat) (i : Nat) : List D := (if metB us am i then [wantD] else []) ++ ((spent us ts am).filter (botB us ts am i)).map nd
def ends (us : List U) (ts : List Nat) (am : List Rat) : List D := (List.range us.length).map fun i => .list (rowE us ts am i)
abbrev eE (us : List U) (ts : List Nat) (am : List Rat) (s3 s6 s7 s8 s9 s12 : Sl) : Ev := [.sh (usD us), .sh (tsD ts), .sh (rtl am), s3, .sh (rtl (lvs us ts am)), .sh (ixD (spent us ts am)), s6, s7, s8, s9, .un, .un, s12, .un]
theorem spent_lt {g : Nat} (h : g ∈ spent us ts am) : g < ts.length := by
  obtain ⟨x, hx, rfl⟩ := List.mem_map.mp h
  exact (T_at (us := us) (List.mem_filter.mp hx).1).1
theorem spent_len : (spent us ts am).length ≤ ts.length := by
  unfold spent
  rw [List.length_map]
  refine Nat.le_trans (List.length_filter_le _ _) ?_
  rw [List.length_zipIdx]
  exact Nat.le_refl _
def leB : Sm := forS (nthS 3 k91_b__law_ends)
def leG : Sm := forS (nthS 1 leB)
theorem need_get (p : Ps us ts) {i g : Nat} (hi : i < us.length) (hg : g < ts.length) : (us.getD i U0).ns[g]? = some (need us i g) := at_lt (by rw [(p.ok _ (getD_mem (d := U0) hi)).len]; exact hg) 0
theorem le_others (p : Ps us ts) {g : Nat} (hg : g < ts.length) :
    ev Φ (.lc [("other", 13)] (.nm 13) .rng (.b1 .len (.var 0)) .noe (.cmp .gt (.idx (.idx (.idx (.var 0) (.var 13)) (.cst (.int 2))) (.var 9)) (.cst (.int 0))) (.var 13)) (eE us ts am s3 s6 s7 s8 (.sh (nd g)) s12) = some (ixD (oth us g), eE us ts am s3 s6 s7 s8 (.sh (nd g)) s12) := by
  have l1 := p.l1
  refine (ev_lcP nd (fun j => decide (0 < need us j g)) nd (List.range us.length) (x := nd us.length) (y := .none) (ev_b1v rfl (len_us us)) rfl (walk_rng' (by omega)) (fun j hj => ?_) (sz (by rw [List.length_range]; omega))).trans rfl
  have hj := List.mem_range.mp hj
  have i0 : idxD (usD us) (nd j) = some (ud (us.getD j U0)) := idx_t ud (at_lt hj U0)
  have v0 : ev Φ (.idx (.var 0) (.var 13)) [.sh (usD us), .sh (tsD ts), .sh (rtl am), s3, .sh (rtl (lvs us ts am)), .sh (ixD (spent us ts am)), s6, s7, s8, .sh (nd g), .un, .un, s12, .sh (nd j)] = some (ud (us.getD j U0), _) := ev_idxv rfl rfl i0
  have v1 := ev_idxc (i := 2) (by intro i q; cases q) v0 (show idxD (ud (us.getD j U0)) (.int 2) = some (.tuple ((us.getD j U0).ns.map nd)) from rfl)
  have v2 := ev_idxw (i := 9) (by intro i q; cases q) v1 rfl (idx_t nd (need_get p hj hg))
  exact ⟨_, rfl, lcT_bool (by intro i q; cases q) (by intro q; cases q) (ev_cmp' (opd_nv (by intro i q; cases q) v2) (opd_nv (by intro i q; cases q) rfl) rfl rfl (gt_nd _)), fun _ => rfl, rfl⟩
theorem oth_lt {j g : Nat} (h : j ∈ oth us g) : j < us.length := List.mem_range.mp (List.mem_filter.mp h).1
theorem oth_len {g : Nat} : (oth us g).length ≤ us.length := by
  unfold oth
  refine Nat.le_trans (List.length_filter_le _ _) ?_
  rw [List.length_range]
  exact Nat.le_refl _
theorem lvA_fit (p : Ps us ts) (A : Am us am) {i : Nat} (hi : i < us.length) : Fit (lvA us ts am i) := (lv_fit (p.ok _ (getD_mem (d := U0) hi)) p.vt (A.sm _ (A.at_ hi).2)).2.1
theorem le_any (p : Ps us ts) (A : Am us am) (hΦ : ∀ i, i < 58 → Φ i = T i) {i g : Nat} (hi : i < us.length) :
    ev Φ (.b1 .any (.lc [("other", 13)] (.nm 13) .walk (.var 12) .noe .noe (.call 31 (.cons (.idx (.var 4) (.var 6)) (.cons (.idx (.var 4) (.var 13)) .nil))))) (eE us ts am s3 (.sh (nd i)) s7 s8 s9 (.sh (ixD (oth us g)))) = some (.bool ((oth us g).any fun j => decide (lvA us ts am i < lvA us ts am j)), eE us ts am s3 (.sh (nd i)) s7 s8 s9 (.sh (ixD (oth us g)))) := by
  have l1 := p.l1
  refine ev_b1 (by intro i q; cases q) ?_ (any_bools (fun j => decide (lvA us ts am i < lvA us ts am j)) (oth us g))
  refine (ev_lcP nd (fun _ => true) (fun j => PyData.bool (decide (lvA us ts am i < lvA us ts am j))) (oth us g) (x := ixD (oth us g)) (y := .none) rfl rfl rfl (fun j hj => ?_) (sz (by have := oth_len (us := us) (g := g); omega))).trans (by rw [all_true])
  have hj := oth_lt hj
  have c := (lbelow_ok (lvA_fit p A hi) (lvA_fit p A hj)).on (hΦ 31 (by decide))
  have x1 : idxD (rtl (lvs us ts am)) (nd i) = some (rt (lvA us ts am i)) := idx_l rt (lvs_at A hi)
  have x2 : idxD (rtl (lvs us ts am)) (nd j) = some (rt (lvA us ts am j)) := idx_l rt (lvs_at A hj)
  exact ⟨[.sh (usD us), .sh (tsD ts), .sh (rtl am), s3, .sh (rtl (lvs us ts am)), .sh (ixD (spent us ts am)), .sh (nd i), s7, s8, s9, .un, .un, .sh (ixD (oth us g)), .sh (nd j)], rfl, rfl, fun _ => ev_call (evl_cons (ev_idxv rfl rfl x1) (evl_cons (ev_idxv rfl rfl x2) evl_nil)) rfl rfl c rfl, rfl⟩
theorem le_good (p : Ps us ts) (A : Am us am) (hΦ : ∀ i, i < 58 → Φ i = T i) {i g : Nat} (hi : i < us.length) (hg : g < ts.length) (j12 : jk s12) {row : List D} (hr : row.length < sizeLine) :
    exs Φ leG (eE us ts am s3 (.sh (nd i)) s7 (.own true row) (.sh (nd g)) s12) = some (.nx (eE us ts am s3 (.sh (nd i)) s7 (.own true (row ++ (if botB us ts am i g then [nd g] else []))) (.sh (nd g)) (.sh (ixD (oth us g))))) := by
  refine exs_nx (e1 := eE us ts am s3 (.sh (nd i)) s7 (.own true row) (.sh (nd g)) (.sh (ixD (oth us g)))) (Eq.trans (asg_nm (le_others p hg) (j12.put rfl)) rfl) ?_
  have c1 : ev Φ (.cmp .inn (.var 6) (.var 12)) (eE us ts am s3 (.sh (nd i)) s7 (.own true row) (.sh (nd g)) (.sh (ixD (oth us g)))) = some (.bool (decide (i ∈ oth us g)), eE us ts am s3 (.sh (nd i)) s7 (.own true row) (.sh (nd g)) (.sh (ixD (oth us g)))) := ev_cmp' rfl rfl rfl rfl (in_ix i (oth us g))
  have c2 := evl_and c1 (ev_nt (by intro i q; cases q) (le_any p A hΦ hi (g := g) (s3 := s3) (s7 := s7) (s8 := .own true row) (s9 := .sh (nd g)))) rfl
  refine exs_nx (Eq.trans (exs_ifx (by intro i q; cases q) c2) ?_) rfl
  show (if botB us ts am i g then _ else _) = _
  cases botB us ts am i g with
  | true =>
    rw [if_pos rfl, if_pos rfl]
    rw [exs.eq_def]
    simp only [exs, ev, rdv, ownAt, List.getElem?_cons_zero, List.getElem?_cons_succ, Option.isSome_some, if_true, hr]
    rfl
  | false =>
    rw [if_neg (by decide), if_neg (by decide), List.append_nil]
    rfl
theorem take_succ' {α : Type} {xs : List α} {i : Nat} {x : α} (h : xs[i]? = some x) : xs.take (i + 1) = xs.take i ++ [x] := by
  rw [List.take_succ, h]
  rfl
theorem le_goods (p : Ps us ts) (A : Am us am) (hΦ : ∀ i, i < 58 → Φ i = T i) {i : Nat} (hi : i < us.length) (j9 : jk s9) (j12 : jk s12) {row : List D} (hr : row.length ≤ 1) :
    ∃ t9 t12, jk t9 ∧ jk t12 ∧ exs Φ (nthS 1 leB) (eE us ts am s3 (.sh (nd i)) s7 (.own true row) s9 s12) = some (.nx (eE us ts am s3 (.sh (nd i)) s7 (.own true (row ++ ((spent us ts am).filter (botB us ts am i)).map nd)) t9 t12)) := by
  have sl := spent_len (us := us) (ts := ts) (am := am)
  have l4 := p.vt.l1
  obtain ⟨⟨t9, t12⟩, ⟨k1, k2⟩, lp⟩ := for_at (g := .nm 9) (f := exs Φ leG) nd (fun k (z : Sl × Sl) => eE us ts am s3 (.sh (nd i)) s7 (.own true (row ++ (((spent us ts am).take k).filter (botB us ts am i)).map nd)) z.1 z.2) (fun z => jk z.1 ∧ jk z.2) (spent us ts am) 0 (s9, s12) ⟨j9, j12⟩ (fun k g z hk ⟨z1, z2⟩ => by
    simp only [Nat.zero_add]
    have hg := spent_lt (List.mem_of_getElem? hk)
    have hk2 : k < (spent us ts am).length := (List.getElem?_eq_some_iff.mp hk).1
    refine ⟨?_, _, (.sh (nd g), .sh (ixD (oth us g))), rfl, ?_, jk.sh _, jk.sh _⟩
    · show (putOk _ 9 && true) = true
      rw [z1.put rfl]
      rfl
    · have hr2 : (row ++ (((spent us ts am).take k).filter (botB us ts am i)).map nd).length < sizeLine := by
        rw [List.length_append, List.length_map]
        have h1 := List.length_filter_le (botB us ts am i) ((spent us ts am).take k)
        have h2 := List.length_take_le k (spent us ts am)
        exact Nat.lt_of_le_of_lt (show _ ≤ 5 by omega) (by decide)
      refine (le_good p A hΦ hi hg z2 hr2).trans ?_
      rw [take_succ' hk, List.filter_append, List.map_append, List.append_assoc]
      congr 9
      rw [List.filter_cons, List.filter_nil]
      cases botB us ts am i g <;> rfl)
  rw [Nat.zero_add, List.take_length] at lp
  refine ⟨t9, t12, k1, k2, Eq.trans ?_ lp⟩
  rw [List.take_zero, List.filter_nil, List.map_nil, List.append_nil]
  exact exs_for rfl rfl rfl
end
end Iv
end
section
set_option Elab.async false
set_option linter.all false
set_option maxRecDepth 100000
set_option exponentiation.threshold 3000
set_option maxHeartbeats 4000000
namespace Iv
open PySem PySem.Spec L2
theorem can_all : ∀ {ds : List D}, (∀ d ∈ ds, d.canLay0 = true) → PyData.canLayAll0 ds = true
  | [], _ => by simp [PyData.canLayAll0]
  | d :: ds, h => by
    have h1 := can_all fun x hx => h x (List.mem_cons_of_mem _ hx)
    rw [PyData.canLayAll0, h d List.mem_cons_self, h1]
    rfl
theorem dep_all {k : Nat} : ∀ {ds : List D}, (∀ d ∈ ds, d.depth ≤ k) → PyData.depthAll ds ≤ k
  | [], _ => by simp [PyData.depthAll]
  | d :: ds, h => by
    have h1 := dep_all fun x hx => h x (List.mem_cons_of_mem _ hx)
    rw [PyData.depthAll]
    exact Nat.max_le.mpr ⟨h d List.mem_cons_self, h1⟩
section
variable {us : List U} {ts : List Nat} {am : List Rat} {Φ : Fn} {s3 s6 s7 s8 s9 s12 : Sl} [Tn ts]
theorem le_met (p : Ps us ts) (A : Am us am) {i : Nat} (hi : i < us.length) :
    ev Φ (.and (.cmp .isn (.idx (.var 7) (.cst (.int 3))) (.cst .none)) (.cmp .eq (.idx (.var 2) (.var 6)) (.tup (.cons (.idx (.var 7) (.cst (.int 3))) (.cons (.cst (.int 1)) .nil))))) (eE us ts am s3 (.sh (nd i)) (.sh (ud (us.getD i U0))) s8 s9 s12) = some (.bool (metB us am i), eE us ts am s3 (.sh (nd i)) (.sh (ud (us.getD i U0))) s8 s9 s12) := by
  have i3 : idxD (ud (us.getD i U0)) (.int 3) = some (wd (us.getD i U0).want) := rfl
  have i1 : idxD (rtl am) (nd i) = some (rt (fn am i)) := idx_l rt (A.at_ hi).1
  have v3 : ev Φ (.idx (.var 7) (.cst (.int 3))) (eE us ts am s3 (.sh (nd i)) (.sh (ud (us.getD i U0))) s8 s9 s12) = some (wd (us.getD i U0).want, eE us ts am s3 (.sh (nd i)) (.sh (ud (us.getD i U0))) s8 s9 s12) := rfl
  have v1 : ev Φ (.idx (.var 2) (.var 6)) (eE us ts am s3 (.sh (nd i)) (.sh (ud (us.getD i U0))) s8 s9 s12) = some (rt (fn am i), eE us ts am s3 (.sh (nd i)) (.sh (ud (us.getD i U0))) s8 s9 s12) := ev_idxv rfl rfl i1
  have c1 := ev_cmp' (Φ := Φ) (o := .isn) (opd_nv (by intro i q; cases q) v3) (opd_nv (a := .cst .none) (by intro i q; cases q) rfl) rfl rfl (isn_wd (us.getD i U0).want)
  unfold metB
  cases hw : (us.getD i U0).want with
  | none =>
    rw [hw] at c1
    have c1 : ev Φ (.cmp .isn (.idx (.var 7) (.cst (.int 3))) (.cst .none)) (eE us ts am s3 (.sh (nd i)) (.sh (ud (us.getD i U0))) s8 s9 s12) = some (.bool false, eE us ts am s3 (.sh (nd i)) (.sh (ud (us.getD i U0))) s8 s9 s12) := c1
    rw [ev.eq_def]
    simp only [c1]
  | some v =>
    rw [hw] at c1 v3
    have c1 : ev Φ (.cmp .isn (.idx (.var 7) (.cst (.int 3))) (.cst .none)) (eE us ts am s3 (.sh (nd i)) (.sh (ud (us.getD i U0))) s8 s9 s12) = some (.bool true, eE us ts am s3 (.sh (nd i)) (.sh (ud (us.getD i U0))) s8 s9 s12) := c1
    have c2 : cmpD .eq (rt (fn am i)) (.tuple [.int (v : Int), .int 1]) = some (decide (fn am i = (v : Rat))) := eq_rt (fn am i) (v : Rat)
    exact ev_andt c1 (ev_cmp' (opd_nv (by intro i q; cases q) v1) (opd_nv (by intro i q; cases q) (ev_tup (evl_cons v3 (evl_cons rfl evl_nil)) Iv.z2)) rfl rfl c2)
theorem le_row0 (p : Ps us ts) (A : Am us am) {i : Nat} (hi : i < us.length) (j8 : jk s8) :
    exs Φ (nthS 0 leB) (eE us ts am s3 (.sh (nd i)) (.sh (ud (us.getD i U0))) s8 s9 s12) = some (.nx (eE us ts am s3 (.sh (nd i)) (.sh (ud (us.getD i U0))) (.own true (if metB us am i then [wantD] else [])) s9 s12)) := by
  have c := le_met (Φ := Φ) (s3 := s3) (s8 := s8) (s9 := s9) (s12 := s12) p A hi
  cases hm : metB us am i with
  | true =>
    rw [hm] at c
    have e1 : ev Φ (.lst (.cons (.cst (.str "want")) .nil)) (eE us ts am s3 (.sh (nd i)) (.sh (ud (us.getD i U0))) s8 s9 s12) = some (.list [wantD], eE us ts am s3 (.sh (nd i)) (.sh (ud (us.getD i U0))) s8 s9 s12) := ev_lst (evl_cons rfl evl_nil) Iv.z1
    exact (exs_aso (ev_itet (by intro i q; cases q) c e1) (j8.put rfl)).trans rfl
  | false =>
    rw [hm] at c
    exact (exs_aso (ev_itef (by intro i q; cases q) c ev_lst0) (j8.put rfl)).trans rfl
theorem le_turn (p : Ps us ts) (A : Am us am) (hΦ : ∀ i, i < 58 → Φ i = T i) {i : Nat} (hi : i < us.length) (j8 : jk s8) (j9 : jk s9) (j12 : jk s12) {rows : List D} (hr : rows.length < sizeLine) :
    ∃ t8 t9 t12, jk t8 ∧ jk t9 ∧ jk t12 ∧ exs Φ leB (eE us ts am (.own true rows) (.sh (nd i)) (.sh (ud (us.getD i U0))) s8 s9 s12) = some (.nx (eE us ts am (.own true (rows ++ [.list (rowE us ts am i)])) (.sh (nd i)) (.sh (ud (us.getD i U0))) t8 t9 t12)) := by
  obtain ⟨t9, t12, k1, k2, lp⟩ := le_goods (Φ := Φ) (s3 := .own true rows) (s7 := .sh (ud (us.getD i U0))) (s9 := s9) (s12 := s12) p A hΦ hi j9 j12 (row := if metB us am i then [wantD] else []) (by split <;> simp)
  refine ⟨.sh (.list (rowE us ts am i)), t9, t12, jk.sh _, k1, k2, ?_⟩
  refine exs_nx (le_row0 p A hi j8) (exs_nx lp (exs_nx (e1 := eE us ts am (.own true (rows ++ [.list (rowE us ts am i)])) (.sh (nd i)) (.sh (ud (us.getD i U0))) (.sh (.list (rowE us ts am i))) t9 t12) ?_ rfl))
  simp only [exs, ev, rdv, ownAt, List.getElem?_cons_zero, List.getElem?_cons_succ, Option.isSome_some, if_true, List.set_cons_succ, List.set_cons_zero, hr]
  rfl
theorem law_ends_ok (p : Ps us ts) (A : Am us am) : Gv 58 [usD us, tsD ts, rtl am] (.list (ends us ts am)) := by
  refine gv (d := k91_d__law_ends) rfl rfl fun Φ hΦ => ?_
  have l1 := p.l1
  have l4 := p.vt.l1
  have e1 : ev Φ (.lc [("user", 6), ("amount", 10)] (.tp [6, 10]) .enm (.var 2) .noe .noe (.call 56 (.cons (.var 0) (.cons (.var 1) (.cons (.var 6) (.cons (.var 10) .nil)))))) [.sh (usD us), .sh (tsD ts), .sh (rtl am), .own true [], .un, .un, .un, .un, .un, .un, .un, .un, .un, .un]
      = some (rtl (lvs us ts am), [.sh (usD us), .sh (tsD ts), .sh (rtl am), .own true [], .un, .un, .un, .un, .un, .un, .un, .un, .un, .un]) := by
    refine (ev_lcP (at2 rt) (fun _ => true) (fun x => rt (lv (us.getD x.2 U0) ts x.1)) am.zipIdx (x := rtl am) (y := .none) rfl rfl (walk_enm_l rt am) (fun x hx => ?_) (sz (by rw [List.length_zipIdx, A.len]; omega))).trans ?_
    · have h1 := mem_ix hx
      have hi : x.2 < us.length := by
        have := (List.getElem?_eq_some_iff.mp h1).1
        rw [A.len] at this
        exact this
      have c := (law_level_ok p hi (A.sm _ (List.mem_of_getElem? h1))).on (hΦ 56 (by decide))
      exact ⟨[.sh (usD us), .sh (tsD ts), .sh (rtl am), .own true [], .un, .un, .sh (nd x.2), .un, .un, .un, .sh (rt x.1), .un, .un, .un], rfl, rfl, fun _ => ev_call (evl_cons rfl (evl_cons rfl (evl_cons rfl (evl_cons rfl evl_nil)))) rfl rfl c rfl, rfl⟩
    · rw [all_true]
      unfold rtl lvs
      rw [List.map_map]
      rfl
  have e2 : ev Φ (.lc [("good", 9), ("total", 11)] (.tp [9, 11]) .enm (.var 1) .noe (.cmp .eq (.call 41 (.cons (.var 0) (.cons (.var 2) (.cons (.var 9) .nil)))) (.tup (.cons (.var 11) (.cons (.cst (.int 1)) .nil)))) (.var 9)) [.sh (usD us), .sh (tsD ts), .sh (rtl am), .own true [], .sh (rtl (lvs us ts am)), .un, .un, .un, .un, .un, .un, .un, .un, .un]
      = some (ixD (spent us ts am), [.sh (usD us), .sh (tsD ts), .sh (rtl am), .own true [], .sh (rtl (lvs us ts am)), .un, .un, .un, .un, .un, .un, .un, .un, .un]) := by
    refine (ev_lcP (at2 nd) (fun x => decide (uq us am x.2 us.length = (x.1 : Rat))) (fun x => nd x.2) ts.zipIdx (x := tsD ts) (y := .none) rfl rfl (walk_enm_t nd ts) (fun x hx => ?_) (sz (by rw [List.length_zipIdx]; omega))).trans ?_
    · obtain ⟨hg, _⟩ := T_at (us := us) hx
      have c := (law_used_ok p A hg).on (hΦ 41 (by decide))
      have c2 : cmpD .eq (rt (uq us am x.2 us.length)) (.tuple [nd x.1, .int 1]) = some (decide (uq us am x.2 us.length = (x.1 : Rat))) := eq_rt (uq us am x.2 us.length) (x.1 : Rat)
      refine ⟨[.sh (usD us), .sh (tsD ts), .sh (rtl am), .own true [], .sh (rtl (lvs us ts am)), .un, .un, .un, .un, .sh (nd x.2), .un, .sh (nd x.1), .un, .un], rfl, ?_, fun _ => rfl, rfl⟩
      exact lcT_bool (by intro i q; cases q) (by intro q; cases q) (ev_cmp' (opd_nv (by intro i q; cases q) (ev_call (evl_cons rfl (evl_cons rfl (evl_cons rfl evl_nil))) rfl rfl c rfl)) (opd_nv (by intro i q; cases q) (ev_tup (evl_cons rfl (evl_cons rfl evl_nil)) Iv.z2)) rfl rfl c2)
    · unfold ixD spent
      rw [List.map_map]
      rfl
  obtain ⟨⟨z6, z7, z8, z9, z12⟩, ⟨k6, k7, k8, k9, k12⟩, lp⟩ := for_at (g := .tp [6, 7]) (f := exs Φ leB) (at2 ud) (fun k (z : Sl × Sl × Sl × Sl × Sl) => eE us ts am (.own true ((List.range k).map fun i => .list (rowE us ts am i))) z.1 z.2.1 z.2.2.1 z.2.2.2.1 z.2.2.2.2)
    (fun z => jk z.1 ∧ jk z.2.1 ∧ jk z.2.2.1 ∧ jk z.2.2.2.1 ∧ jk z.2.2.2.2) us.zipIdx 0 (.un, .un, .un, .un, .un) ⟨.inl rfl, .inl rfl, .inl rfl, .inl rfl, .inl rfl⟩ (fun k x z hk ⟨z1, z2, z3, z4, z5⟩ => by
      simp only [Nat.zero_add]
      rw [List.getElem?_zipIdx] at hk
      obtain ⟨u, hu, rfl⟩ := Option.map_eq_some_iff.mp hk
      have hkl : k < us.length := (List.getElem?_eq_some_iff.mp hu).1
      have hz : ((List.range k).map fun i => PyData.list (rowE us ts am i)).length < sizeLine := by
        rw [List.length_map, List.length_range]
        exact Nat.lt_of_le_of_lt (show k ≤ 6 by omega) (by decide)
      obtain ⟨t8, t9, t12, m8, m9, m12, tn⟩ := le_turn (Φ := Φ) p A hΦ hkl z3 z4 z5 hz
      rw [getD_of hu] at tn
      refine ⟨?_, _, (.sh (nd k), .sh (ud u), t8, t9, t12), rfl, ?_, jk.sh _, jk.sh _, m8, m9, m12⟩
      · show (putOk _ 6 && (putOk _ 7 && true)) = true
        rw [z1.put rfl, z2.put rfl]
        rfl
      · rw [List.range_succ, List.map_append]
        simp only [Nat.zero_add]
        exact tn)
  rw [Nat.zero_add, List.length_zipIdx] at lp
  refine ⟨[.sh (usD us), .sh (tsD ts), .sh (rtl am), .sh (.list (ends us ts am)), .sh (rtl (lvs us ts am)), .sh (ixD (spent us ts am)), z6, z7, z8, z9, .un, .un, z12, .un], ?_, by simp⟩
  refine exs_nx (e1 := [.sh (usD us), .sh (tsD ts), .sh (rtl am), .own true [], .un, .un, .un, .un, .un, .un, .un, .un, .un, .un]) (aso_nil rfl) ?_
  refine exs_nx (e1 := [.sh (usD us), .sh (tsD ts), .sh (rtl am), .own true [], .sh (rtl (lvs us ts am)), .un, .un, .un, .un, .un, .un, .un, .un, .un]) (Eq.trans (asg_nm e1 rfl) rfl) ?_
  refine exs_nx (e1 := eE us ts am (.own true []) .un .un .un .un .un) (Eq.trans (asg_nm e2 rfl) rfl) ?_
  exact exs_nx (Eq.trans (exs_for rfl rfl (walk_enm_t ud us)) lp) (exs_ret rfl)
/-- the law's word on amounts -/
def rightB (us : List U) (ts : List Nat) (am : List Rat) : Bool := fitsB us ts am && !((ends us ts am).any fun y => PyData.eqv y (.list []))
theorem row_can {i : Nat} : ∀ d ∈ rowE us ts am i, d.canLay0 = true ∧ d.depth ≤ 0 := fun d hd => by
  unfold rowE at hd
  rcases List.mem_append.mp hd with h | h
  · split at h
    · simp at h
      subst h
      exact ⟨by simp [wantD, PyData.canLay0]; decide +kernel, by simp [wantD, PyData.depth]⟩
    · cases h
  · obtain ⟨g, _, rfl⟩ := List.mem_map.mp h
    exact ⟨by simp [nd, PyData.canLay0], by simp [nd, PyData.depth]⟩
theorem ends_shaped : SeqAt.shaped (.list (ends us ts am)) = true := by
  unfold SeqAt.shaped
  have h : ∀ d ∈ ends us ts am, d.canLay0 = true ∧ d.depth ≤ 1 := fun d hd => by
    obtain ⟨i, _, rfl⟩ := List.mem_map.mp hd
    refine ⟨?_, ?_⟩
    · rw [PyData.canLay0]
      exact can_all fun x hx => (row_can x hx).1
    · rw [PyData.depth]
      have := dep_all (k := 0) fun x hx => (row_can (us := us) (ts := ts) (am := am) (i := i) x hx).2
      omega
  rw [PyData.canLay0, can_all fun d hd => (h d hd).1, PyData.depth]
  have := dep_all (k := 1) fun d hd => (h d hd).2
  rw [decide_eq_true (by omega)]
  rfl
theorem is_right_ok (p : Ps us ts) (A : Am us am) : Gv 59 [usD us, tsD ts, rtl am] (.bool (rightB us ts am)) := by
  refine gv (d := k91_d__law_is_right) rfl rfl fun Φ hΦ => ⟨[.sh (usD us), .sh (tsD ts), .sh (rtl am)], ?_, by simp⟩
  have c1 := (law_fits_ok p A).on (hΦ 50 (by decide))
  have c2 := (law_ends_ok p A).on (hΦ 58 (by decide))
  have h2 : SeqAt.shaped (.list []) = true := shaped_ix []
  have c3 : cmpD .nin (.list []) (.list (ends us ts am)) = some (!((ends us ts am).any fun y => PyData.eqv y (.list []))) := by
    show (inD (.list []) (.list (ends us ts am))).map (!·) = _
    have : inD (.list []) (.list (ends us ts am)) = (if SeqAt.shaped (.list []) && SeqAt.shaped (.list (ends us ts am)) then some ((ends us ts am).any fun y => PyData.eqv y (.list [])) else none) := rfl
    rw [this, h2, ends_shaped]
    rfl
  exact exs_ret (evl_and (ev_call (evl_cons rfl (evl_cons rfl (evl_cons rfl evl_nil))) rfl rfl c1 rfl) (ev_cmp' (opd_nv (by intro i q; cases q) ev_lst0) (opd_nv (by intro i q; cases q) (ev_call (evl_cons rfl (evl_cons rfl (evl_cons rfl evl_nil))) rfl rfl c2 rfl)) rfl rfl c3) rfl)
end
end Iv
end
section
set_option Elab.async false
set_option linter.all false
set_option maxRecDepth 100000
set_option exponentiation.threshold 3000
set_option maxHeartbeats 4000000
namespace Iv
open PySem PySem.Spec L2
/-! k91: amounts are right just where they are the share -/
theorem mul_can {x y w : Rat} (h : x * w = y * w) (hw : 0 < w) : x = y := by
  have h1 : x ≤ y := le_of_mul (c := w) (by rw [Rat.mul_comm w x, Rat.mul_comm w y, h]; exact Rat.le_refl) hw
  have h2 : y ≤ x := le_of_mul (c := w) (by rw [Rat.mul_comm w x, Rat.mul_comm w y, h]; exact Rat.le_refl) hw
  exact Rat.le_antisymm h1 h2
section
variable {us : List U} {ts : List Nat} {am : List Rat} [Tn ts]
theorem lvA_eq (p : Ps us ts) {i : Nat} (hi : i < us.length) : fn am i * hgtM (us.getD i U0) ts = lvA us ts am i * ((us.getD i U0).w : Rat) := by
  have hw := Fl.cast_pos (p.ok _ (getD_mem (d := U0) hi)).w0
  unfold lvA lv
  grind
theorem over_iff (p : Ps us ts) : overB us ts am = false ↔ ∀ g, g < ts.length → uq us am g us.length ≤ ((ts.getD g 0 : Nat) : Rat) := by
  rw [over_ix]
  refine ⟨fun h g hg => ?_, fun h => ?_⟩
  · have h1 := List.any_eq_false.mp h (ts.getD g 0, g) (List.mem_iff_getElem?.mpr ⟨g, by rw [List.getElem?_zipIdx, at_lt hg 0]; simp⟩)
    simp only [decide_eq_true_eq] at h1
    grind
  · refine List.any_eq_false.mpr fun x hx => ?_
    obtain ⟨hg, ht⟩ := T_at (us := us) hx
    have h1 := h x.2 hg
    have ht : ts.getD x.2 0 = x.1 := ht
    rw [ht] at h1
    simp only [decide_eq_true_eq]
    grind
theorem wants_iff (A : Am us am) : (us.zip am).all wantB = true ↔ ∀ i v, i < us.length → (us.getD i U0).want = some v → fn am i ≤ (v : Rat) := by
  rw [List.all_eq_true]
  refine ⟨fun h i v hi hv => ?_, fun h x hx => ?_⟩
  · have h1 := h (us.getD i U0, fn am i) (List.mem_iff_getElem?.mpr ⟨i, List.getElem?_zip_eq_some.mpr ⟨at_lt hi U0, (A.at_ hi).1⟩⟩)
    unfold wantB at h1
    simp only [hv] at h1
    have h1 : ¬ (v : Rat) < fn am i := by simpa using h1
    grind
  · obtain ⟨i, hi⟩ := List.mem_iff_getElem?.mp hx
    obtain ⟨h1, h2⟩ := zip_get hi
    have hil : i < us.length := (List.getElem?_eq_some_iff.mp h1).1
    unfold wantB
    cases hw : x.1.want with
    | none => rfl
    | some v =>
      have := h i v hil (by rw [getD_of h1]; exact hw)
      rw [show fn am i = x.2 from getD_of h2] at this
      simp only [Bool.not_eq_true', decide_eq_false_iff_not]
      grind
theorem mem_spent {g : Nat} : g ∈ spent us ts am ↔ g < ts.length ∧ uq us am g us.length = ((ts.getD g 0 : Nat) : Rat) := by
  unfold spent
  rw [List.mem_map]
  refine ⟨fun ⟨x, hx, e⟩ => ?_, fun ⟨h1, h2⟩ => ?_⟩
  · obtain ⟨m1, m2⟩ := List.mem_filter.mp hx
    obtain ⟨hg, ht⟩ := T_at (us := us) m1
    subst e
    have ht : ts.getD x.2 0 = x.1 := ht
    rw [ht]
    exact ⟨hg, of_decide_eq_true m2⟩
  · exact ⟨(ts.getD g 0, g), List.mem_filter.mpr ⟨List.mem_iff_getElem?.mpr ⟨g, by rw [List.getElem?_zipIdx, at_lt h1 0]; simp⟩, decide_eq_true h2⟩, rfl⟩
theorem mem_oth {g j : Nat} : j ∈ oth us g ↔ j < us.length ∧ 0 < need us j g := by
  unfold oth
  rw [List.mem_filter, List.mem_range, decide_eq_true_eq]
theorem bot_iff {i g : Nat} : botB us ts am i g = true ↔ i < us.length ∧ 0 < need us i g ∧ ∀ j, j < us.length → 0 < need us j g → lvA us ts am j ≤ lvA us ts am i := by
  unfold botB
  rw [Bool.and_eq_true, decide_eq_true_eq, mem_oth, Bool.not_eq_true', List.any_eq_false]
  refine ⟨fun ⟨⟨h1, h2⟩, h3⟩ => ⟨h1, h2, fun j hj hn => ?_⟩, fun ⟨h1, h2, h3⟩ => ⟨⟨h1, h2⟩, fun j hj => ?_⟩⟩
  · have := h3 j (mem_oth.mpr ⟨hj, hn⟩)
    simp only [decide_eq_true_eq] at this
    grind
  · obtain ⟨k1, k2⟩ := mem_oth.mp hj
    have := h3 j k1 k2
    simp only [decide_eq_true_eq]
    grind
theorem met_iff {i : Nat} : metB us am i = true ↔ ∃ v, (us.getD i U0).want = some v ∧ fn am i = (v : Rat) := by
  unfold metB
  cases hw : (us.getD i U0).want with
  | none => simp
  | some v => simp
theorem row_ne {i : Nat} : rowE us ts am i ≠ [] ↔ metB us am i = true ∨ ∃ g ∈ spent us ts am, botB us ts am i g = true := by
  unfold rowE
  cases hm : metB us am i with
  | true => simp
  | false =>
    simp only [Bool.false_eq_true, if_false, List.nil_append, false_or]
    rw [ne_eq, List.map_eq_nil_iff, List.filter_eq_nil_iff]
    refine ⟨fun h => ?_, fun ⟨g, hg, hb⟩ h => absurd hb (h g hg)⟩
    by_cases q : ∃ g ∈ spent us ts am, botB us ts am i g = true
    · exact q
    · exact absurd (fun g hg hb => q ⟨g, hg, hb⟩) h
theorem ends_ne : ((ends us ts am).any fun y => PyData.eqv y (.list [])) = false ↔ ∀ i, i < us.length → rowE us ts am i ≠ [] := by
  rw [List.any_eq_false]
  refine ⟨fun h i hi => ?_, fun h d hd => ?_⟩
  · intro e
    have := h (.list (rowE us ts am i)) (List.mem_map.mpr ⟨i, List.mem_range.mpr hi, rfl⟩)
    rw [e] at this
    simp [PyData.eqv, PyData.eqvAll] at this
  · obtain ⟨i, hi, rfl⟩ := List.mem_map.mp hd
    have := h i (List.mem_range.mp hi)
    cases hr : rowE us ts am i with
    | nil => exact absurd hr this
    | cons a r => simp [PyData.eqv, PyData.eqvAll]
theorem right_fair (p : Ps us ts) (A : Am us am) (h : rightB us ts am = true) : Fair (prOf us ts) (fn am) (lvA us ts am) := by
  unfold rightB fitsB at h
  rw [Bool.and_eq_true, Bool.and_eq_true, Bool.not_eq_true', Bool.not_eq_true'] at h
  obtain ⟨⟨h1, h2⟩, h3⟩ := h
  have k1 := (over_iff p).mp h1
  have k2 := (wants_iff A).mp h2
  have k3 := ends_ne.mp h3
  refine ⟨fun i hi => lvA_eq p hi, fun i hi => ?_, fun g hg => k1 g hg, fun i v hi hv => ?_, fun i hi => ?_⟩
  · have hi : i < us.length := hi
    have hw := Fl.cast_pos (p.ok _ (getD_mem (d := U0) hi)).w0
    have hh := hgtM_pos (p.ok _ (getD_mem (d := U0) hi)) p.vt
    have hq := (A.all _ (A.at_ hi).2).2.2
    refine le_of_mul (c := ((us.getD i U0).w : Rat)) ?_ hw
    have e := lvA_eq (am := am) p hi
    have := Rat.mul_nonneg hq (Rat.le_of_lt hh)
    grind
  · have hv : (match (us.getD i U0).want with | none => none | some v => some (v : Rat)) = some v := hv
    cases hw : (us.getD i U0).want with
    | none => rw [hw] at hv; cases hv
    | some x =>
      rw [hw] at hv
      cases hv
      exact k2 i x hi hw
  · rcases row_ne.mp (k3 i hi) with hm | ⟨g, hg, hb⟩
    · obtain ⟨v, e1, e2⟩ := met_iff.mp hm
      refine .inl ?_
      show (match (us.getD i U0).want with | none => none | some v => some (v : Rat)) = some (fn am i)
      rw [e1, e2]
    · obtain ⟨g1, g2⟩ := mem_spent.mp hg
      obtain ⟨_, b1, b2⟩ := bot_iff.mp hb
      refine .inr ⟨g, g1, Fl.cast_pos b1, g2, fun j hj hn => b2 j hj ?_⟩
      have hn : (0 : Rat) < ((need us j g : Nat) : Rat) := hn
      exact_mod_cast hn
theorem fair_right (p : Ps us ts) (A : Am us am) {l : Nat → Rat} (F : Fair (prOf us ts) (fn am) l) : rightB us ts am = true := by
  have le : ∀ i, i < us.length → lvA us ts am i = l i := fun i hi => by
    have h1 := F.lev i hi
    have h2 := lvA_eq (am := am) p hi
    have h1 : fn am i * hgtM (us.getD i U0) ts = l i * ((us.getD i U0).w : Rat) := h1
    have hw := Fl.cast_pos (p.ok _ (getD_mem (d := U0) hi)).w0
    rw [h2] at h1
    exact mul_can h1 hw
  unfold rightB fitsB
  rw [Bool.and_eq_true, Bool.and_eq_true, Bool.not_eq_true', Bool.not_eq_true']
  refine ⟨⟨(over_iff p).mpr fun g hg => F.fit g hg, (wants_iff A).mpr fun i v hi hv => F.want i v hi ?_⟩, ends_ne.mpr fun i hi => row_ne.mpr ?_⟩
  · show (match (us.getD i U0).want with | none => none | some v => some (v : Rat)) = some (v : Rat)
    rw [hv]
  · rcases F.stop i hi with hw | ⟨g, hg, hn, hs, hb⟩
    · refine .inl (met_iff.mpr ?_)
      have hw : (match (us.getD i U0).want with | none => none | some v => some (v : Rat)) = some (fn am i) := hw
      cases h : (us.getD i U0).want with
      | none => rw [h] at hw; cases hw
      | some v => rw [h] at hw; exact ⟨v, rfl, (Option.some.inj hw).symm⟩
    · refine .inr ⟨g, mem_spent.mpr ⟨hg, hs⟩, bot_iff.mpr ⟨hi, ?_, fun j hj hn => ?_⟩⟩
      · have hn : (0 : Rat) < ((need us i g : Nat) : Rat) := hn
        exact_mod_cast hn
      · rw [le i hi, le j hj]
        exact hb j hj (Fl.cast_pos hn)
/-- amounts are right just where they are the share -/
theorem right_iff (p : Ps us ts) (A : Am us am) : rightB us ts am = decide (am = amsOf us ts) := by
  obtain ⟨l, F⟩ := fair_of p
  by_cases h : am = amsOf us ts
  · subst h
    rw [decide_eq_true rfl]
    exact fair_right p A F
  · rw [decide_eq_false h]
    cases hr : rightB us ts am with
    | false => rfl
    | true =>
      refine absurd ?_ h
      have u := fair_uniq (prOf_ok p) (right_fair p A hr) F
      refine List.ext_getElem? fun i => ?_
      by_cases hi : i < us.length
      · rw [(A.at_ hi).1, ((Am.ams p).at_ hi).1, u i hi]
      · rw [List.getElem?_eq_none (by rw [A.len]; omega), List.getElem?_eq_none (by rw [ams_len]; omega)]
end
end Iv
end
section
set_option linter.all false
/-! The bottlenecks of a share, told at the turn at which one stops. -/
namespace Iv
namespace Fl
variable {P : Fl} {R : List Nat} {am l : Nat → Rat} {c : Rat}
theorem R2_mem {i : Nat} : i ∈ P.R2 R am ↔ i ∈ R ∧ i ∉ P.stp R am := by
  unfold R2
  rw [List.mem_filter]
  simp
theorem stp_mem {i : Nat} (h : i ∈ P.stp R am) : i ∈ R := (List.mem_filter.mp h).1
theorem fill_keep : ∀ (k : Nat) (R : List Nat) (am : Nat → Rat) (j : Nat), j ∉ R → P.fill k R am j = am j
  | 0, _, _, _, _ => rfl
  | _ + 1, [], _, _, _ => rfl
  | k + 1, i :: R, am, j, h => by
    have h1 : j ∉ P.R2 (i :: R) am := fun q => h (R2_mem.mp q).1
    have h2 := fill_keep k (P.R2 (i :: R) am) (P.am2 (i :: R) am) j h1
    show P.fill k (P.R2 (i :: R) am) (P.am2 (i :: R) am) j = am j
    rw [h2]
    unfold am2
    rw [if_neg fun q => h (stp_mem q)]
theorem fill_ge (ok : P.Ok) : ∀ (k : Nat) (R : List Nat) (am l : Nat → Rat) (c : Rat), R.length ≤ k → P.At R am l c → ∀ j ∈ R, c * P.s j ≤ P.fill k R am j
  | 0, R, am, l, c, hk, A, j, hj => by
    cases R with
    | nil => cases hj
    | cons => simp at hk
  | k + 1, [], am, l, c, _, A, j, hj => by cases hj
  | k + 1, i :: R, am, l, c, hk, A, j, hj => by
    obtain ⟨h1, h2, h3⟩ := step ok A (by simp)
    have hp := ok.s j (A.lt j hj)
    have hc : c * P.s j ≤ P.mark (i :: R) am * P.s j := Rat.mul_le_mul_of_nonneg_right h1 (Rat.le_of_lt hp)
    show c * P.s j ≤ P.fill k (P.R2 (i :: R) am) (P.am2 (i :: R) am) j
    by_cases hs : j ∈ P.stp (i :: R) am
    · rw [fill_keep k _ _ j fun q => (R2_mem.mp q).2 hs]
      unfold am2
      rw [if_pos hs]
      exact hc
    · have := fill_ge ok k _ _ _ _ (by simp only [List.length_cons] at h3 hk; omega) h2 j (R2_mem.mpr ⟨hj, hs⟩)
      grind
theorem S_v2 (c : Rat) (g : Nat) : S P.n (fun i => P.v R am c i * (P.nd i g : Rat)) = P.fixd R am g + c * P.rate R g := S_v c g
theorem div_le {a b s : Rat} (hs : 0 < s) (h : a ≤ b * s) : a / s ≤ b := by
  refine le_of_mul (c := s) ?_ hs
  have : s * (a / s) = a := by grind
  rw [this, Rat.mul_comm]
  exact h
theorem le_div {a b s : Rat} (hs : 0 < s) (h : b * s ≤ a) : b ≤ a / s := by
  refine le_of_mul (c := s) ?_ hs
  have : s * (a / s) = a := by grind
  rw [this, Rat.mul_comm]
  exact h
theorem div_at {a b s : Rat} (hs : 0 < s) (h : a = b * s) : a / s = b := by
  subst h
  grind
/-- a good is full at the turn at which i stops, just where it is a bottleneck of i in the end -/
theorem turn_iff (ok : P.Ok) (A : P.At R am l c) (hR : R ≠ []) {i : Nat} (hi : i ∈ P.stp R am) {k : Nat} (hk : (P.R2 R am).length ≤ k) {g : Nat} (hg : g < P.G) (hn : 0 < P.nd i g) :
    P.gst R am g = some (P.mark R am) ↔ S P.n (fun j => P.fill k (P.R2 R am) (P.am2 R am) j * (P.nd j g : Rat)) = (P.T g : Rat) ∧ ∀ j, j < P.n → 0 < P.nd j g → P.fill k (P.R2 R am) (P.am2 R am) j / P.s j ≤ P.fill k (P.R2 R am) (P.am2 R am) i / P.s i := by
  obtain ⟨h1, h2, h3⟩ := step ok A hR
  have hiR := stp_mem hi
  have hin := A.lt i hiR
  -- what one has in the end
  have st : ∀ j, j ∈ P.stp R am → P.fill k (P.R2 R am) (P.am2 R am) j = P.mark R am * P.s j := fun j hj => by
    rw [fill_keep k _ _ j fun q => (R2_mem.mp q).2 hj]
    unfold am2
    rw [if_pos hj]
  have ot : ∀ j, j ∉ R → P.fill k (P.R2 R am) (P.am2 R am) j = am j := fun j hj => by
    rw [fill_keep k _ _ j fun q => hj (R2_mem.mp q).1]
    unfold am2
    rw [if_neg fun q => hj (stp_mem q)]
  have ge : ∀ j, j ∈ P.R2 R am → P.mark R am * P.s j ≤ P.fill k (P.R2 R am) (P.am2 R am) j := fill_ge ok k _ _ _ _ hk h2
  have li : P.fill k (P.R2 R am) (P.am2 R am) i / P.s i = P.mark R am := div_at (ok.s i hin) (st i hi)
  have hrate : 0 < P.rate R g := rate_pos ok hin hiR hn
  rw [li]
  constructor
  · intro hgst
    obtain ⟨_, e⟩ := gst_eq ok hgst
    -- all who rise and need the good stop
    have all : ∀ j, j ∈ R → 0 < P.nd j g → j ∈ P.stp R am := fun j hj hnj => by
      refine List.mem_filter.mpr ⟨hj, ?_⟩
      unfold out
      rw [Bool.or_eq_true]
      exact .inr (List.any_eq_true.mpr ⟨g, List.mem_filter.mpr ⟨List.mem_range.mpr hg, decide_eq_true hgst⟩, decide_eq_true hnj⟩)
    have ev : ∀ j, j < P.n → P.fill k (P.R2 R am) (P.am2 R am) j * (P.nd j g : Rat) = P.v R am (P.mark R am) j * (P.nd j g : Rat) := fun j hj => by
      by_cases hz : P.nd j g = 0
      · rw [hz]; simp
      · unfold v
        by_cases hjR : j ∈ R
        · rw [if_pos hjR, st j (all j hjR (by omega))]
        · rw [if_neg hjR, ot j hjR]
    refine ⟨?_, fun j hj hnj => ?_⟩
    · rw [S_congr ev, S_v2]
      exact e
    · have hs := ok.s j hj
      by_cases hjR : j ∈ R
      · rw [div_at hs (st j (all j hjR hnj))]
        exact Rat.le_refl
      · obtain ⟨e1, _, e3⟩ := A.lev j hj hjR
        rw [ot j hjR, div_at hs e1]
        grind
  · rintro ⟨e, hb⟩
    have ev : ∀ j, j < P.n → P.fill k (P.R2 R am) (P.am2 R am) j * (P.nd j g : Rat) = P.v R am (P.mark R am) j * (P.nd j g : Rat) := fun j hj => by
      by_cases hz : P.nd j g = 0
      · rw [hz]; simp
      · have hs := ok.s j hj
        have hbj := hb j hj (by omega)
        unfold v
        by_cases hjR : j ∈ R
        · rw [if_pos hjR]
          by_cases hjs : j ∈ P.stp R am
          · rw [st j hjs]
          · have h4 := ge j (R2_mem.mpr ⟨hjR, hjs⟩)
            have h5 := mul_le hbj (Rat.le_of_lt hs)
            have h6 : P.s j * (P.fill k (P.R2 R am) (P.am2 R am) j / P.s j) = P.fill k (P.R2 R am) (P.am2 R am) j := by
              generalize P.fill k (P.R2 R am) (P.am2 R am) j = x
              grind
            rw [h6] at h5
            have h7 : P.fill k (P.R2 R am) (P.am2 R am) j = P.mark R am * P.s j := by
              rw [Rat.mul_comm] at h5
              exact Rat.le_antisymm h5 h4
            rw [h7]
        · rw [if_neg hjR, ot j hjR]
    rw [S_congr ev, S_v2] at e
    unfold gst
    rw [if_neg (by grind)]
    congr 1
    have : (P.T g : Rat) - P.fixd R am g = P.mark R am * P.rate R g := by grind
    exact div_at hrate this
end Fl
end Iv
end
section
set_option Elab.async false
set_option linter.all false
set_option maxRecDepth 100000
set_option exponentiation.threshold 3000
set_option maxHeartbeats 4000000
namespace Iv
open PySem PySem.Spec L2
/-! k91: bottlenecks -/
section
variable {us : List U} {ts : List Nat} {am : List Rat} {Φ : Fn} [Tn ts]
/-- the rows of so many turns -/
def fillR (us : List U) (ts : List Nat) : Nat → List Nat → List Rat → List (Rat × List Nat × List Nat)
  | 0, _, _ => []
  | _ + 1, [], _ => []
  | k + 1, i :: R, am => ((flOf us ts).mark (i :: R) (fn am), (flOf us ts).full (i :: R) (fn am), (flOf us ts).stp (i :: R) (fn am)) :: fillR us ts k ((flOf us ts).R2 (i :: R) (fn am)) (setA us ts ((flOf us ts).mark (i :: R) (fn am)) ((flOf us ts).stp (i :: R) (fn am)) am)
def rowT (r : Rat × List Nat × List Nat) : D := .tuple [rt r.1, .tuple (r.2.1.map nd), .tuple (r.2.2.map nd)]
theorem fillL_rows : ∀ (k : Nat) (R : List Nat) (am : List Rat), (fillL us ts k R am).2 = (fillR us ts k R am).map rowT
  | 0, _, _ => rfl
  | _ + 1, [], _ => rfl
  | k + 1, i :: R, am => by
    show rowD us ts (i :: R) am :: (fillL us ts k _ _).2 = rowT _ :: (fillR us ts k _ _).map rowT
    rw [fillL_rows k]
    rfl
def rowsR (us : List U) (ts : List Nat) : List (Rat × List Nat × List Nat) := fillR us ts us.length (List.range us.length) (List.replicate us.length 0)
theorem rows_eq : rowsOf us ts = (rowsR us ts).map rowT := fillL_rows _ _ _
theorem fillR_ok (p : Ps us ts) (ok : (flOf us ts).Ok) (K : Nat → Nat → Bool) : ∀ (k : Nat) (R : List Nat) (am : List Rat) (l : Nat → Rat) (c : Rat), R.length ≤ k → (flOf us ts).At R (fn am) l c → am.length = us.length →
    (∀ i g, i < us.length → g < ts.length → 0 < need us i g → (K i g = true ↔ (S us.length (fun j => (flOf us ts).fill k R (fn am) j * ((flOf us ts).nd j g : Rat)) = ((flOf us ts).T g : Rat) ∧ ∀ j, j < us.length → 0 < need us j g → (flOf us ts).fill k R (fn am) j / (flOf us ts).s j ≤ (flOf us ts).fill k R (fn am) i / (flOf us ts).s i))) →
    (∀ ρ ∈ fillR us ts k R am, ∀ i ∈ ρ.2.2, i < us.length ∧ (∀ g ∈ ρ.2.1, g < ts.length) ∧ ρ.2.1.filter (fun g => decide (0 < need us i g)) = (List.range ts.length).filter fun g => decide (0 < need us i g) && K i g) ∧ (∀ i ∈ R, ∃ ρ ∈ fillR us ts k R am, i ∈ ρ.2.2)
  | 0, R, am, l, c, hk, A, _, _ => by
    cases R with
    | nil => exact ⟨fun ρ h => (by cases h), fun i h => (by cases h)⟩
    | cons => simp at hk
  | _ + 1, [], am, l, c, _, A, _, _ => ⟨fun ρ h => (by cases h), fun i h => (by cases h)⟩
  | k + 1, i0 :: R, am, l, c, hk, A, hl, hK => by
    obtain ⟨h1, h2, h3⟩ := Fl.step ok A (by simp)
    have hlt : ∀ i ∈ i0 :: R, i < us.length := fun i hi => A.lt i hi
    have e := fn_am2 (us := us) (ts := ts) (R := i0 :: R) (am := am) hl hlt
    have hk2 : ((flOf us ts).R2 (i0 :: R) (fn am)).length ≤ k := by
      simp only [List.length_cons] at h3 hk
      omega
    obtain ⟨g1, g2⟩ := fillR_ok p ok K k ((flOf us ts).R2 (i0 :: R) (fn am)) (setA us ts ((flOf us ts).mark (i0 :: R) (fn am)) ((flOf us ts).stp (i0 :: R) (fn am)) am) _ _ hk2 (by rw [e]; exact h2) (by rw [setA_len, hl]) (by rw [e]; exact hK)
    refine ⟨fun ρ hρ i hi => ?_, fun i hi => ?_⟩
    · rcases List.mem_cons.mp hρ with rfl | hρ
      · have hi : i ∈ (flOf us ts).stp (i0 :: R) (fn am) := hi
        have hin := hlt i (Fl.stp_mem hi)
        refine ⟨hin, fun g hg => List.mem_range.mp (List.mem_filter.mp hg).1, ?_⟩
        show ((List.range ts.length).filter fun g => decide ((flOf us ts).gst (i0 :: R) (fn am) g = some ((flOf us ts).mark (i0 :: R) (fn am)))).filter _ = _
        rw [List.filter_filter]
        refine List.filter_congr fun g hg => ?_
        have hg := List.mem_range.mp hg
        by_cases hn : 0 < need us i g
        · rw [decide_eq_true hn, Bool.true_and, Bool.true_and]
          have t := Fl.turn_iff ok A (by simp) hi hk2 (g := g) hg hn
          have t2 := hK i g hin hg hn
          rw [Bool.eq_iff_iff, decide_eq_true_eq]
          exact t.trans t2.symm
        · rw [decide_eq_false hn, Bool.false_and, Bool.false_and]
      · exact g1 ρ hρ i hi
    · by_cases hs : i ∈ (flOf us ts).stp (i0 :: R) (fn am)
      · exact ⟨_, List.mem_cons_self, hs⟩
      · obtain ⟨ρ, q1, q2⟩ := g2 i (Fl.R2_mem.mpr ⟨hi, hs⟩)
        exact ⟨ρ, List.mem_cons_of_mem _ q1, q2⟩
theorem lvA_div (p : Ps us ts) {i : Nat} (hi : i < us.length) : lvA us ts am i = fn am i / (flOf us ts).s i := by
  have hw := Fl.cast_pos (p.ok _ (getD_mem (d := U0) hi)).w0
  have hh := hgtM_pos (p.ok _ (getD_mem (d := U0) hi)) p.vt
  show fn am i * hgtM (us.getD i U0) ts / ((us.getD i U0).w : Rat) = fn am i / (((us.getD i U0).w : Rat) / hgtM (us.getD i U0) ts)
  generalize ((us.getD i U0).w : Rat) = w at hw
  generalize hgtM (us.getD i U0) ts = h at hh
  grind
theorem spent_eq : spent us ts am = (List.range ts.length).filter fun g => decide (uq us am g us.length = ((ts.getD g 0 : Nat) : Rat)) := by
  unfold spent
  have h : ts.zipIdx.filter (fun x => decide (uq us am x.2 us.length = (x.1 : Rat))) = ts.zipIdx.filter ((fun g => decide (uq us am g us.length = ((ts.getD g 0 : Nat) : Rat))) ∘ fun x => x.2) := List.filter_congr fun x hx => by
    obtain ⟨_, ht⟩ := T_at (us := us) hx
    have ht : ts.getD x.2 0 = x.1 := ht
    show decide (uq us am x.2 us.length = (x.1 : Rat)) = decide (uq us am x.2 us.length = ((ts.getD x.2 0 : Nat) : Rat))
    rw [ht]
  rw [h, ← List.filter_map, zip_range (fun g => g) ts, List.map_id']
theorem rows_ok (p : Ps us ts) : (∀ ρ ∈ rowsR us ts, ∀ i ∈ ρ.2.2, i < us.length ∧ (∀ g ∈ ρ.2.1, g < ts.length) ∧ ρ.2.1.filter (fun g => decide (0 < need us i g)) = (spent us ts (amsOf us ts)).filter (botB us ts (amsOf us ts) i)) ∧ (∀ i, i < us.length → ∃ ρ ∈ rowsR us ts, i ∈ ρ.2.2) := by
  obtain ⟨L, B⟩ := p.bs
  have first := (Fl.first B).at_
  rw [show (flOf us ts).n = us.length from rfl, ← fn_zero us.length] at first
  have hF : fn (amsOf us ts) = (flOf us ts).fill us.length (List.range us.length) (fn (List.replicate us.length 0)) := fn_fill _ _ _ List.length_replicate fun i hi => List.mem_range.mp hi
  obtain ⟨h1, h2⟩ := fillR_ok p B.ok (fun i g => decide (uq us (amsOf us ts) g us.length = ((ts.getD g 0 : Nat) : Rat)) && botB us ts (amsOf us ts) i g) us.length (List.range us.length) (List.replicate us.length 0) _ _ (by rw [List.length_range]; exact Nat.le_refl _) first List.length_replicate (fun i g hi hg hn => by
    rw [← hF, Bool.and_eq_true, decide_eq_true_eq, bot_iff]
    constructor
    · rintro ⟨e, _, _, hb⟩
      refine ⟨e, fun j hj hnj => ?_⟩
      have := hb j hj hnj
      rwa [lvA_div p hj, lvA_div p hi] at this
    · rintro ⟨e, hb⟩
      refine ⟨e, hi, hn, fun j hj hnj => ?_⟩
      rw [lvA_div p hj, lvA_div p hi]
      exact hb j hj hnj)
  refine ⟨fun ρ hρ i hi => ?_, fun i hi => h2 i (List.mem_range.mpr hi)⟩
  obtain ⟨k1, k2, k3⟩ := h1 ρ hρ i hi
  refine ⟨k1, k2, k3.trans ?_⟩
  rw [spent_eq, List.filter_filter]
  refine List.filter_congr fun g hg => ?_
  cases hb : botB us ts (amsOf us ts) i g with
  | false => simp
  | true =>
    have := (bot_iff.mp hb).2.1
    rw [decide_eq_true this]
    simp
theorem min_head {a : Nat} : ∀ {r : List Nat}, (∀ x ∈ r, a ≤ x) → (r.map fun n : Nat => (n : Int)).foldl (fun m x => if x < m then x else m) (a : Int) = (a : Int)
  | [], _ => rfl
  | b :: r, h => by
    rw [List.map_cons, List.foldl_cons, if_neg (by have := h b List.mem_cons_self; omega)]
    exact min_head fun x hx => h x (List.mem_cons_of_mem _ hx)
theorem min_ix {L : List Nat} (hs : L.Pairwise (· < ·)) (hne : L ≠ []) : b1D .min (ixD L) = some (nd (L.headD 0)) := by
  cases L with
  | nil => exact absurd rfl hne
  | cons a r =>
    have h1 : ∀ x ∈ r, a ≤ x := fun x hx => Nat.le_of_lt ((List.pairwise_cons.mp hs).1 x hx)
    show (match intsOf ((a :: r).map nd) with
      | some (n :: ns) => some (PyData.int (ns.foldl (fun m x => if x < m then x else m) n))
      | _ => none) = _
    rw [ints_nd (fun n => n) (a :: r), List.map_cons]
    simp only
    rw [min_head h1]
    rfl
def hdG (us : List U) (ts : List Nat) (am : List Rat) (i : Nat) : Nat := ((spent us ts am).filter (botB us ts am i)).headD 0
def fnd (us : List U) (ts : List Nat) (am : List Rat) (S : List Nat) : List D := (List.range us.length).map fun i => if decide (i ∈ S) && !metB us am i then nd (hdG us ts am i) else wantD
theorem fnd_met {S : List Nat} {i : Nat} (h : metB us am i = true) : fnd us ts am (i :: S) = fnd us ts am S := by
  unfold fnd
  refine List.map_congr_left fun j _ => ?_
  by_cases e : j = i
  · subst e
    rw [h]
    simp
  · have : decide (j ∈ i :: S) = decide (j ∈ S) := by simp [e]
    rw [this]
theorem fnd_set {S : List Nat} {i : Nat} (h : metB us am i = false) : (fnd us ts am S).set i (nd (hdG us ts am i)) = fnd us ts am (i :: S) := by
  unfold fnd
  refine List.ext_getElem? fun j => ?_
  by_cases hj : j < us.length
  · by_cases e : j = i
    · subst e
      rw [List.getElem?_set_self (by rw [List.length_map, List.length_range]; exact hj), List.getElem?_map, List.getElem?_range hj]
      simp [h]
    · rw [List.getElem?_set_ne (fun q => e q.symm), List.getElem?_map, List.getElem?_map, List.getElem?_range hj]
      have : decide (j ∈ i :: S) = decide (j ∈ S) := by simp [e]
      simp only [Option.map_some, this]
  · rw [List.getElem?_eq_none (by rw [List.length_set, List.length_map, List.length_range]; omega), List.getElem?_eq_none (by rw [List.length_map, List.length_range]; omega)]
theorem fnd_len {S : List Nat} : (fnd us ts am S).length = us.length := by
  unfold fnd
  rw [List.length_map, List.length_range]
/-- the law's word: the first of each row -/
def headE (us : List U) (ts : List Nat) (am : List Rat) : List D := (List.range us.length).map fun i => if metB us am i then wantD else nd (hdG us ts am i)
theorem fnd_all {S : List Nat} (h : ∀ i, i < us.length → i ∈ S) : fnd us ts am S = headE us ts am := by
  unfold fnd headE
  refine List.map_congr_left fun i hi => ?_
  rw [decide_eq_true (h i (List.mem_range.mp hi)), Bool.true_and]
  cases metB us am i <;> rfl
theorem fnd_nil : fnd us ts am [] = List.replicate us.length wantD := by
  unfold fnd
  rw [show (fun i => if decide (i ∈ ([] : List Nat)) && !metB us am i then nd (hdG us ts am i) else wantD) = fun _ => wantD from funext fun i => by simp, List.map_const', List.length_range]
theorem row_head {i : Nat} (h : rowE us ts am i ≠ []) : ∃ r, rowE us ts am i = (if metB us am i then wantD else nd (hdG us ts am i)) :: r := by
  unfold rowE at h ⊢
  cases hm : metB us am i with
  | true => exact ⟨_, rfl⟩
  | false =>
    rw [hm] at h
    unfold hdG
    cases hf : (spent us ts am).filter (botB us ts am i) with
    | nil => rw [hf] at h; exact absurd rfl h
    | cons a r => exact ⟨r.map nd, rfl⟩
end
end Iv
end
section
set_option Elab.async false
set_option linter.all false
set_option maxRecDepth 100000
set_option exponentiation.threshold 3000
set_option maxHeartbeats 4000000
namespace Iv
open PySem PySem.Spec L2
theorem rep_want {n : Nat} (h : n ≤ 100) : repD (.list [wantD]) (nd n) = some (.list (List.replicate n wantD)) := by
  have hz : [wantD].length * ((n : Int)).toNat ≤ sizeLine := by
    have : ((n : Int)).toNat = n := by omega
    rw [this, List.length_singleton, Nat.one_mul]
    exact sz h
  unfold nd
  simp only [repD, if_pos (show -(2 ^ 63) ≤ (n : Int) ∧ (n : Int) < 2 ^ 63 ∧ [wantD].length * ((n : Int)).toNat ≤ sizeLine from ⟨by omega, by omega, hz⟩)]
  congr 2
  have : ((n : Int)).toNat = n := by omega
  rw [this]
  clear h hz this
  induction n with
  | zero => rfl
  | succ n ih => rw [List.replicate_succ, List.replicate_succ, List.flatten_cons, ih]; rfl
section
variable {us : List U} {ts : List Nat} {Φ : Fn} {s3 s5 s6 s7 s8 s9 : Sl} [Tn ts]
def btB : Sm := forS (nthS 3 k91_b_bottlenecks)
def btI : Sm := forS (nthS 0 btB)
theorem not_met (p : Ps us ts) {i : Nat} (hi : i < us.length) (S : List Nat) {f : List Nat} :
    ev Φ (.or (.cmp .is (.idx (.idx (.var 0) (.var 8)) (.cst (.int 3))) (.cst .none)) (.cmp .ne (.idx (.var 2) (.var 8)) (.tup (.cons (.idx (.idx (.var 0) (.var 8)) (.cst (.int 3))) (.cons (.cst (.int 1)) .nil)))))
      [.sh (usD us), .sh (tsD ts), .sh (rtl (amsOf us ts)), s3, .own true (fnd us ts (amsOf us ts) S), s5, .sh (.tuple (f.map nd)), s7, .sh (nd i), .un]
      = some (.bool (!metB us (amsOf us ts) i), [.sh (usD us), .sh (tsD ts), .sh (rtl (amsOf us ts)), s3, .own true (fnd us ts (amsOf us ts) S), s5, .sh (.tuple (f.map nd)), s7, .sh (nd i), .un]) := by
  have A := Am.ams p
  have i0 : idxD (usD us) (nd i) = some (ud (us.getD i U0)) := idx_t ud (at_lt hi U0)
  have i1 : idxD (rtl (amsOf us ts)) (nd i) = some (rt (fn (amsOf us ts) i)) := idx_l rt (A.at_ hi).1
  have v0 : ev Φ (.idx (.var 0) (.var 8)) [.sh (usD us), .sh (tsD ts), .sh (rtl (amsOf us ts)), s3, .own true (fnd us ts (amsOf us ts) S), s5, .sh (.tuple (f.map nd)), s7, .sh (nd i), .un] = some (ud (us.getD i U0), _) := ev_idxv rfl rfl i0
  have v1 : ev Φ (.idx (.var 2) (.var 8)) [.sh (usD us), .sh (tsD ts), .sh (rtl (amsOf us ts)), s3, .own true (fnd us ts (amsOf us ts) S), s5, .sh (.tuple (f.map nd)), s7, .sh (nd i), .un] = some (rt (fn (amsOf us ts) i), _) := ev_idxv rfl rfl i1
  have v3 := ev_idxc (i := 3) (by intro i q; cases q) v0 (show idxD (ud (us.getD i U0)) (.int 3) = some (wd (us.getD i U0).want) from rfl)
  have is_wd : cmpD .is (wd (us.getD i U0).want) .none = some (!(us.getD i U0).want.isSome) := by cases (us.getD i U0).want <;> rfl
  have c1 := ev_cmp' (Φ := Φ) (o := .is) (opd_nv (by intro i q; cases q) v3) (opd_nv (a := .cst .none) (by intro i q; cases q) rfl) rfl rfl is_wd
  unfold metB
  cases hw : (us.getD i U0).want with
  | none =>
    rw [hw] at c1
    rw [ev.eq_def]
    simp only [c1]
    rfl
  | some v =>
    rw [hw] at c1 v3
    have c2 : cmpD .ne (rt (fn (amsOf us ts) i)) (.tuple [.int (v : Int), .int 1]) = some (!decide (fn (amsOf us ts) i = (v : Rat))) := by
      show (eqD (rt (fn (amsOf us ts) i)) (rt (v : Rat))).map (!·) = _
      rw [eq_rt]
      rfl
    exact evl_or c1 (ev_cmp' (opd_nv (by intro i q; cases q) v1) (opd_nv (by intro i q; cases q) (ev_tup (evl_cons v3 (evl_cons rfl evl_nil)) Iv.z2)) rfl rfl c2)
theorem bt_turn (p : Ps us ts) {i : Nat} {f : List Nat} (hi : i < us.length) (hf : ∀ g ∈ f, g < ts.length) (hl : f.length ≤ 4) (he : f.filter (fun g => decide (0 < need us i g)) = (spent us ts (amsOf us ts)).filter (botB us ts (amsOf us ts) i)) (S : List Nat) :
    ∃ S', (∀ x ∈ S, x ∈ S') ∧ i ∈ S' ∧ exs Φ btI [.sh (usD us), .sh (tsD ts), .sh (rtl (amsOf us ts)), s3, .own true (fnd us ts (amsOf us ts) S), s5, .sh (.tuple (f.map nd)), s7, .sh (nd i), .un]
      = some (.nx [.sh (usD us), .sh (tsD ts), .sh (rtl (amsOf us ts)), s3, .own true (fnd us ts (amsOf us ts) S'), s5, .sh (.tuple (f.map nd)), s7, .sh (nd i), .un]) := by
  refine ⟨i :: S, fun x hx => List.mem_cons_of_mem _ hx, List.mem_cons_self, ?_⟩
  have A := Am.ams p
  have c := not_met (Φ := Φ) (s3 := s3) (s5 := s5) (s7 := s7) (f := f) p hi S
  cases hm : metB us (amsOf us ts) i with
  | true =>
    rw [hm] at c
    rw [fnd_met hm]
    exact exs_nx ((exs_iff (by intro i q; cases q) c).trans rfl) rfl
  | false =>
    rw [hm] at c
    rw [← fnd_set hm]
    refine exs_nx ((exs_ift (by intro i q; cases q) c).trans ?_) rfl
    have hlc : ev Φ (.lc [("good", 9)] (.nm 9) .walk (.var 6) .noe (.cmp .gt (.idx (.idx (.idx (.var 0) (.var 8)) (.cst (.int 2))) (.var 9)) (.cst (.int 0))) (.var 9)) [.sh (usD us), .sh (tsD ts), .sh (rtl (amsOf us ts)), s3, .own true (fnd us ts (amsOf us ts) S), s5, .sh (.tuple (f.map nd)), s7, .sh (nd i), .un]
        = some (ixD (f.filter fun g => decide (0 < need us i g)), [.sh (usD us), .sh (tsD ts), .sh (rtl (amsOf us ts)), s3, .own true (fnd us ts (amsOf us ts) S), s5, .sh (.tuple (f.map nd)), s7, .sh (nd i), .un]) := by
      refine (ev_lcP nd (fun g => decide (0 < need us i g)) nd f (x := .tuple (f.map nd)) (y := .none) rfl rfl rfl (fun g hg => ?_) (sz (by omega))).trans rfl
      have i0 : idxD (usD us) (nd i) = some (ud (us.getD i U0)) := idx_t ud (at_lt hi U0)
      have v0 : ev Φ (.idx (.var 0) (.var 8)) [.sh (usD us), .sh (tsD ts), .sh (rtl (amsOf us ts)), s3, .own true (fnd us ts (amsOf us ts) S), s5, .sh (.tuple (f.map nd)), s7, .sh (nd i), .sh (nd g)] = some (ud (us.getD i U0), _) := ev_idxv rfl rfl i0
      have v1 := ev_idxc (i := 2) (by intro i q; cases q) v0 (show idxD (ud (us.getD i U0)) (.int 2) = some (.tuple ((us.getD i U0).ns.map nd)) from rfl)
      have v2 := ev_idxw (i := 9) (by intro i q; cases q) v1 rfl (idx_t nd (need_get p hi (hf g hg)))
      exact ⟨_, rfl, lcT_bool (by intro i q; cases q) (by intro q; cases q) (ev_cmp' (opd_nv (by intro i q; cases q) v2) (opd_nv (by intro i q; cases q) rfl) rfl rfl (gt_nd _)), fun _ => rfl, rfl⟩
    rw [he] at hlc
    have hne : (spent us ts (amsOf us ts)).filter (botB us ts (amsOf us ts) i) ≠ [] := by
      have hr := right_iff p A
      rw [decide_eq_true rfl] at hr
      unfold rightB at hr
      rw [Bool.and_eq_true, Bool.not_eq_true'] at hr
      rcases row_ne.mp (ends_ne.mp hr.2 i hi) with h | ⟨g, h1, h2⟩
      · rw [hm] at h; cases h
      · intro e
        have := List.mem_filter.mpr ⟨h1, h2⟩
        rw [e] at this
        cases this
    have hs : ((spent us ts (amsOf us ts)).filter (botB us ts (amsOf us ts) i)).Pairwise (· < ·) := by
      rw [spent_eq]
      exact (List.pairwise_lt_range.filter _).filter _
    have hmn := ev_b1 (b := .min) (by intro i q; cases q) hlc (min_ix hs hne)
    have ho : ownAt [.sh (usD us), .sh (tsD ts), .sh (rtl (amsOf us ts)), s3, .own true (fnd us ts (amsOf us ts) S), s5, .sh (.tuple (f.map nd)), s7, .sh (nd i), .un] 4 = some (true, fnd us ts (amsOf us ts) S) := rfl
    have hk : ev Φ (.var 8) [.sh (usD us), .sh (tsD ts), .sh (rtl (amsOf us ts)), s3, .own true (fnd us ts (amsOf us ts) S), s5, .sh (.tuple (f.map nd)), s7, .sh (nd i), .un] = some (nd i, _) := rfl
    have hst := set_at6 (j := 4) (i := i) (v := nd (hdG us ts (amsOf us ts) i)) (e := [.sh (usD us), .sh (tsD ts), .sh (rtl (amsOf us ts)), s3, .own true (fnd us ts (amsOf us ts) S), s5, .sh (.tuple (f.map nd)), s7, .sh (nd i), .un]) rfl (by rw [fnd_len]; exact hi)
    refine exs_nx ?_ rfl
    rw [exs.eq_def]
    simp only [hmn, ho, Option.isSome_some, if_true, hk]
    rw [show ((spent us ts (amsOf us ts)).filter (botB us ts (amsOf us ts) i)).headD 0 = hdG us ts (amsOf us ts) i from rfl, hst]
    rfl
theorem bt_row (p : Ps us ts) {ρ : Rat × List Nat × List Nat} (hρ : ρ ∈ rowsR us ts) (j8 : jk s8) (S : List Nat) :
    ∃ S' t8, jk t8 ∧ (∀ x ∈ S, x ∈ S') ∧ (∀ i ∈ ρ.2.2, i ∈ S') ∧ exs Φ btB [.sh (usD us), .sh (tsD ts), .sh (rtl (amsOf us ts)), s3, .own true (fnd us ts (amsOf us ts) S), .sh (rt ρ.1), .sh (.tuple (ρ.2.1.map nd)), .sh (.tuple (ρ.2.2.map nd)), s8, .un]
      = some (.nx [.sh (usD us), .sh (tsD ts), .sh (rtl (amsOf us ts)), s3, .own true (fnd us ts (amsOf us ts) S'), .sh (rt ρ.1), .sh (.tuple (ρ.2.1.map nd)), .sh (.tuple (ρ.2.2.map nd)), t8, .un]) := by
  obtain ⟨r1, _⟩ := rows_ok p
  have l4 := p.vt.l1
  have len : ∀ (k : Nat) (R : List Nat) (am : List Rat), ∀ ρ ∈ fillR us ts k R am, ρ.2.1.length ≤ ts.length := by
    intro k
    induction k with
    | zero => intro R am ρ h; cases h
    | succ k ih =>
      intro R am ρ h
      cases R with
      | nil => cases h
      | cons i R =>
        rcases List.mem_cons.mp h with rfl | h
        · show ((List.range ts.length).filter _).length ≤ _
          refine Nat.le_trans (List.length_filter_le _ _) ?_
          rw [List.length_range]
          exact Nat.le_refl _
        · exact ih _ _ ρ h
  have hlen := len _ _ _ ρ hρ
  obtain ⟨⟨S', t8⟩, ⟨q1, q2, q3⟩, lp⟩ := for_ex (g := .nm 8) (f := exs Φ btI) nd (fun z : List Nat × Sl => [.sh (usD us), .sh (tsD ts), .sh (rtl (amsOf us ts)), s3, .own true (fnd us ts (amsOf us ts) z.1), .sh (rt ρ.1), .sh (.tuple (ρ.2.1.map nd)), .sh (.tuple (ρ.2.2.map nd)), z.2, .un])
    (fun k z => jk z.2 ∧ (∀ x ∈ S, x ∈ z.1) ∧ ∀ j x, j < k → ρ.2.2[j]? = some x → x ∈ z.1) ρ.2.2 0 (S, s8) ⟨j8, fun _ h => h, fun j x h => by omega⟩ (fun k i z hk ⟨z1, z2, z3⟩ => by
      obtain ⟨h1, h2, h3⟩ := r1 ρ hρ i (List.mem_of_getElem? hk)
      obtain ⟨S2, m1, m2, tn⟩ := bt_turn (Φ := Φ) (s3 := s3) (s5 := .sh (rt ρ.1)) (s7 := .sh (.tuple (ρ.2.2.map nd))) p h1 h2 (by omega) h3 z.1
      refine ⟨?_, _, (S2, .sh (nd i)), rfl, tn, jk.sh _, fun x hx => m1 x (z2 x hx), fun j x hj hx => ?_⟩
      · show (putOk _ 8 && true) = true
        rw [z1.put rfl]
        rfl
      · by_cases e : j = k
        · subst e
          rw [hk] at hx
          cases hx
          exact m2
        · exact m1 x (z3 j x (by omega) hx))
  rw [Nat.zero_add] at q3
  refine ⟨S', t8, q1, q2, fun i hi => ?_, exs_nx (Eq.trans (exs_for rfl rfl rfl) lp) rfl⟩
  obtain ⟨j, hj⟩ := List.mem_iff_getElem?.mp hi
  exact q3 j i (List.getElem?_eq_some_iff.mp hj).1 hj
theorem bottlenecks_ok (p : Ps us ts) : Gv 29 [usD us, tsD ts] (.list (headE us ts (amsOf us ts))) := by
  refine gv (d := k91_d_bottlenecks) rfl rfl fun Φ hΦ => ?_
  have l1 := p.l1
  have c1 := (want_both_ok p).on (hΦ 14 (by decide))
  have c2 := (filled_ok p).on (hΦ 28 (by decide))
  obtain ⟨r1, r2⟩ := rows_ok p
  obtain ⟨⟨S', z5, z6, z7, z8⟩, ⟨q5, q6, q7, q8, q9⟩, lp⟩ := for_ex (g := .tp [5, 6, 7]) (f := exs Φ btB) rowT (fun z : List Nat × Sl × Sl × Sl × Sl => [.sh (usD us), .sh (tsD ts), .sh (rtl (amsOf us ts)), .sh (.list (rowsOf us ts)), .own true (fnd us ts (amsOf us ts) z.1), z.2.1, z.2.2.1, z.2.2.2.1, z.2.2.2.2, .un])
    (fun k z => jk z.2.1 ∧ jk z.2.2.1 ∧ jk z.2.2.2.1 ∧ jk z.2.2.2.2 ∧ ∀ j ρ, j < k → (rowsR us ts)[j]? = some ρ → ∀ i ∈ ρ.2.2, i ∈ z.1) (rowsR us ts) 0 ([], .un, .un, .un, .un) ⟨.inl rfl, .inl rfl, .inl rfl, .inl rfl, fun j ρ h => by omega⟩ (fun k ρ z hk ⟨z1, z2, z3, z4, z5⟩ => by
      obtain ⟨S2, t8, k8, m1, m2, tn⟩ := bt_row (Φ := Φ) (s3 := .sh (.list (rowsOf us ts))) p (List.mem_of_getElem? hk) z4 z.1
      refine ⟨?_, _, (S2, .sh (rt ρ.1), .sh (.tuple (ρ.2.1.map nd)), .sh (.tuple (ρ.2.2.map nd)), t8), rfl, tn, jk.sh _, jk.sh _, jk.sh _, k8, fun j x hj hx i hi => ?_⟩
      · show (putOk _ 5 && (putOk _ 6 && (putOk _ 7 && true))) = true
        rw [z1.put rfl, z2.put rfl, z3.put rfl]
        rfl
      · by_cases e : j = k
        · subst e
          rw [hk] at hx
          cases hx
          exact m2 i hi
        · exact m1 i (z5 j x (by omega) hx i hi))
  rw [Nat.zero_add] at q9
  have hall : fnd us ts (amsOf us ts) S' = headE us ts (amsOf us ts) := fnd_all fun i hi => by
    obtain ⟨ρ, h1, h2⟩ := r2 i hi
    obtain ⟨j, hj⟩ := List.mem_iff_getElem?.mp h1
    exact q9 j ρ (List.getElem?_eq_some_iff.mp hj).1 hj i h2
  dsimp only at lp
  rw [hall, ← rows_eq, fnd_nil] at lp
  refine ⟨[.sh (usD us), .sh (tsD ts), .sh (rtl (amsOf us ts)), .sh (.list (rowsOf us ts)), .sh (.list (headE us ts (amsOf us ts))), z5, z6, z7, z8, .un], ?_, by simp⟩
  refine exs_nx (exs_exp (ev_call (evl_cons rfl (evl_cons rfl evl_nil)) rfl rfl c1 rfl)) ?_
  refine exs_nx (e1 := [.sh (usD us), .sh (tsD ts), .sh (rtl (amsOf us ts)), .sh (.list (rowsOf us ts)), .un, .un, .un, .un, .un, .un]) (exs_asg (ev_call (evl_cons rfl (evl_cons rfl evl_nil)) rfl rfl c2 rfl) rfl rfl) ?_
  have hr := rep_want (n := us.length) (by omega)
  refine exs_nx (e1 := [.sh (usD us), .sh (tsD ts), .sh (rtl (amsOf us ts)), .sh (.list (rowsOf us ts)), .own true (List.replicate us.length wantD), .un, .un, .un, .un, .un]) ((exs_aso (ev_rep (ds := [wantD]) (evl_cons rfl evl_nil) Iv.z1 (ev_b1v rfl (len_us us)) hr) rfl).trans rfl) ?_
  exact exs_nx (Eq.trans (exs_for rfl rfl rfl) lp) (exs_ret rfl)
end
end Iv
end
section
set_option Elab.async false
set_option linter.all false
set_option maxRecDepth 100000
set_option exponentiation.threshold 3000
set_option maxHeartbeats 4000000
/-! defs as in k92 (printed by trans91.py) -/
namespace Iv
open PySem PySem.Spec L2
/-! K92AD -/
section
theorem draw_ok {P : List D} (hP : Pot P) (m : Int) (h1 : 1 ≤ m) (h2 : m ≤ 10000) : ∃ (d : Nat) (P' : List D), T 0 [.own false P, .sh (.int m)] = some (nd d, [.own false P', .sh (.int m)]) ∧ (d : Int) < m ∧ Pot P' := by
  obtain ⟨a, b, rfl, ha, hb, hb2⟩ := hP
  by_cases h0 : 0 < a
  · have k1 := Int.emod_nonneg a (show m ≠ 0 by omega)
    have k2 := Int.emod_lt_of_pos a (show 0 < m by omega)
    have k3 : 0 ≤ a / m := Int.ediv_nonneg ha (by omega)
    obtain ⟨n, e1, e2⟩ := nd_of k1
    refine ⟨n, [.int (a / m), .int b], ?_, by omega, a / m, b, rfl, k3, hb, hb2⟩
    refine gv2 (d := k91_d__law_draw) rfl rfl fun Φ hΦ => ⟨[.own false [.int (a / m), .int b], .sh (.int m), .sh (nd n)], ?_, rfl⟩
    rw [← e1]
    simp [k91_d__law_draw, k91_b__law_draw, exs, tst, opT, opd, ev, op2, res, rdv, idxD, atI, ixN, cmpD, truth, h0, dvm_small h1 h2, ownAt, setAt, putOk]
  · have e0 : a = 0 := by omega
    subst e0
    have c1 := Int.emod_nonneg (b * 39373 + 317) (show (2147483587 : Int) ≠ 0 by decide)
    have c2 := Int.emod_lt_of_pos (b * 39373 + 317) (show (0 : Int) < 2147483587 by decide)
    have mb : ∀ {x : Int}, 0 ≤ x → x < 2 ^ 31 → x.natAbs < 2 ^ 31 := fun h h' => by omega
    have m1 : mulOk b 39373 = true := mul_ok (k := 31) (l := 16) (mb hb hb2) (by decide)
    have m2 : mulOk ((b * 39373 + 317) % 2147483587) ((b * 39373 + 317) % 2147483587) = true := mul_ok (k := 31) (l := 31) (mb c1 (by omega)) (mb c1 (by omega))
    have d1 : divOk 19 = true := by decide
    have g1 := Int.emod_nonneg (((b * 39373 + 317) % 2147483587 * ((b * 39373 + 317) % 2147483587)) % 2147483563 / 19) (show m ≠ 0 by omega)
    have g2 := Int.emod_lt_of_pos (((b * 39373 + 317) % 2147483587 * ((b * 39373 + 317) % 2147483587)) % 2147483563 / 19) (show 0 < m by omega)
    obtain ⟨n, e1, e2⟩ := nd_of g1
    refine ⟨n, [.int 0, .int ((b * 39373 + 317) % 2147483587)], ?_, by omega, 0, _, rfl, by omega, c1, by omega⟩
    refine gv2 (d := k91_d__law_draw) rfl rfl fun Φ hΦ => ⟨[.own false [.int 0, .int ((b * 39373 + 317) % 2147483587)], .sh (.int m), .un], ?_, rfl⟩
    rw [← e1]
    have hm : 0 < m := by omega
    simp [k91_d__law_draw, k91_b__law_draw, exs, tst, opT, opd, ev, op1, op2, res, rdv, idxD, atI, ixN, cmpD, truth, ownAt, setAt, putOk, binD, addD, mulD, m1, m2, d1, b1D, hm]
theorem pick_ok {P : List D} (hP : Pot P) (b : Bool) (xs : List D) (h1 : 1 ≤ xs.length) (h2 : xs.length ≤ 10000) : ∃ (x : D) (P' : List D), T 1 [.own false P, .sh (seqD b xs)] = some (x, [.own false P', .sh (seqD b xs)]) ∧ x ∈ xs ∧ Pot P' := by
  obtain ⟨d, P', e, hd, hP'⟩ := draw_ok hP xs.length (by omega) (by omega)
  have hd : d < xs.length := by omega
  refine ⟨xs[d], P', ?_, List.getElem_mem hd, hP'⟩
  refine gv2 (d := k91_d__law_pick) rfl rfl fun Φ hΦ => ⟨[.own false P', .sh (seqD b xs)], ?_, rfl⟩
  rw [← hΦ 0 (by decide)] at e
  have hl : b1D .len (seqD b xs) = some (.int (xs.length : Nat)) := by cases b <;> rfl
  have hi : idxD (seqD b xs) (nd d) = some xs[d] := idx_seqD (List.getElem?_eq_getElem hd)
  simp [k91_d__law_pick, k91_b__law_pick, exs, ev, op1, op2, opd, res, argSl, musOf, nodupB, wbk, hl, e, hi]
theorem pot_ok (ns : List Int) : ∃ P os, T 64 [.sh (intsD ns), .sh (.int 0)] = some (.list P, os) ∧ Pot P := by
  have pw : binD .pow (.int 10) (.int 18) = some (.int (10 ^ 18)) := rfl
  have m1 : ∀ x : Int, mulOk (x % 2147483549) 40014 = true := fun x => mul_ok (k := 31) (l := 16) (by have := Int.emod_nonneg x (show (2147483549 : Int) ≠ 0 by decide); have := Int.emod_lt_of_pos x (show (0 : Int) < 2147483549 by decide); omega) (by decide)
  have m2 : mulOk 6007 0 = true := by decide
  have m3 : mulOk 911 0 = true := by decide
  have fin : ∀ c : Int, Pot [.int (if c - 10 ^ 18 > 0 then c - 10 ^ 18 else 0), .int ((c % 2147483549 * 40014 + 0 + 317) % 2147483563 + 1)] := fun c => by
    have k1 := Int.emod_nonneg (c % 2147483549 * 40014 + 0 + 317) (show (2147483563 : Int) ≠ 0 by decide)
    have k2 := Int.emod_lt_of_pos (c % 2147483549 * 40014 + 0 + 317) (show (0 : Int) < 2147483563 by decide)
    exact ⟨_, _, rfl, by split <;> omega, by omega, by omega⟩
  cases ns with
  | nil =>
    refine ⟨_, [.sh (intsD []), .sh (.int 0)], gv2 (d := k91_d__law_pot) rfl rfl fun Φ hΦ => ⟨[.sh (intsD []), .sh (.int 0), .sh (.int 317)], ?_, rfl⟩, fin 317⟩
    rfl
  | cons n r =>
    refine ⟨_, [.sh (intsD (n :: r)), .sh (.int 0)], gv2 (d := k91_d__law_pot) rfl rfl fun Φ hΦ => ⟨[.sh (intsD (n :: r)), .sh (.int 0), .sh (.int (if n < 0 then -n else n))], ?_, rfl⟩, fin (if n < 0 then -n else n)⟩
    have h0 : (0 : Int) < (r.length : Int) + 1 := by omega
    have i0 : idxD (intsD (n :: r)) (.int 0) = some (.int n) := by
      show atI _ 0 = _
      simp [atI, ixN, h0]
    have l0 : b1D .len (intsD (n :: r)) = some (.int ((r.length : Int) + 1)) := by
      show some (PyData.int _) = _
      simp
    have c0 : cmpD .lt (.int 0) (.int ((r.length : Int) + 1)) = some true := by
      show some (decide ((0 : Int) < (r.length : Int) + 1)) = _
      rw [decide_eq_true h0]
    have b0 : b1D .abs (.int n) = some (.int (if n < 0 then -n else n)) := rfl
    have x0 : ∀ c : Int, b2D .max (.int 0) (.int c) = some (.int (if c > 0 then c else 0)) := fun _ => rfl
    have t0 : ∀ c : Int, b1D .int (.int c) = some (.int c) := fun _ => rfl
    simp only [k91_d__law_pot]
    refine exs_nx (e1 := [.sh (intsD (n :: r)), .sh (.int 0), .sh (.int (if n < 0 then -n else n))]) ?_ ?_
    · simp [exs, ev, opT, opd, op1, op2, res, rdv, l0, c0, i0, b0, truth, tgOk, tgIxs, putOk, bindT]
    · generalize (if n < 0 then -n else n) = c
      have s0 : binD .sub (.int c) (.int (10 ^ 18)) = some (.int (c - 10 ^ 18)) := rfl
      have a1 : binD .mod (.int c) (.int 2147483549) = some (.int (c % 2147483549)) := rfl
      have a2 : binD .mul (.int (c % 2147483549)) (.int 40014) = some (.int (c % 2147483549 * 40014)) := if_pos (m1 c)
      have a3 : binD .mul (.int 6007) (.int 0) = some (.int 0) := rfl
      have a4 : ∀ x y : Int, binD .add (.int x) (.int y) = some (.int (x + y)) := fun _ _ => rfl
      have a5 : ∀ x : Int, binD .mod (.int x) (.int 2147483563) = some (.int (x % 2147483563)) := fun _ => rfl
      simp only [exs, ev, opd, op1, op2, res, rdv, List.getElem?_cons_zero, List.getElem?_cons_succ, pw, s0, x0, t0, a1, a2, a3, a4, a5, Option.map_some, z2, List.length_cons, List.length_nil, if_true]
      rfl
end
/-! K92AE -/
section
section
variable {Φ : Fn} {G most : Nat}
def luB : Sm := forS (nthS 1 k91_b__law_users)
/-- the needs of a drawn user -/
theorem lu_needs (hΦ : ∀ i, i < 2 → Φ i = T i) {P : List D} (hP : Pot P) (hG : G ≤ 4) (m1 : 1 ≤ most) (m2 : most ≤ 99) (a1 a4 s5 s6 s7 : Sl) (j6 : junk s6) :
    ∃ (ns : List Nat) (P' : List D), exs Φ (nthS 0 luB) [.own false P, a1, .sh (nd G), .sh (nd most), a4, s5, s6, s7, .un] = some (.nx [.own false P', a1, .sh (nd G), .sh (nd most), a4, s5, .own true (ns.map nd), s7, .un]) ∧ Pot P' ∧ ns.length = G ∧ ∀ n ∈ ns, n ≤ 99 := by
  obtain ⟨ys, z', g1, g2, g3, g4⟩ := lc_ex (own := [8]) (g := .nm 8) (c := lcT .noe (ev Φ .noe)) (f := ev Φ (.call 1 (.cons (.mu 0) (.cons (.lst (.cons (.cst (.int 0)) (.cons (.cst (.int 0)) (.cons (.cst (.int 1)) (.cons (.cst (.int 2)) (.cons (.cst (.int 3)) (.cons (.bin .add (.cst (.int 1)) (.call 0 (.cons (.mu 0) (.cons (.var 3) .nil)))) .nil))))))) .nil))))
    nd (fun z : List D × Sl => [.own false z.1, a1, .sh (nd G), .sh (nd most), a4, s5, s6, s7, z.2]) (fun z => Pot z.1) (fun y => ∃ n : Nat, n ≤ 99 ∧ y = nd n) (List.range G) (P, .un) [] hP (fun g hg z hz => by
      obtain ⟨d, P1, c1, d1, hP1⟩ := draw_ok hz most (by omega) (by omega)
      obtain ⟨x, P2, c2, hx, hP2⟩ := pick_ok hP1 true [.int 0, .int 0, .int 1, .int 2, .int 3, .int (1 + (d : Int))] (by simp) (by simp)
      refine ⟨[.own false z.1, a1, .sh (nd G), .sh (nd most), a4, s5, s6, s7, .sh (nd g)], x, (P2, .sh (nd g)), rfl, rfl, ?_, hP2, ?_⟩
      · rw [← hΦ 0 (by decide)] at c1
        rw [← hΦ 1 (by decide)] at c2
        have c1 : Φ 0 [.own false z.1, .sh (nd most)] = some (nd d, [.own false P1, .sh (nd most)]) := c1
        have b1 : binD .add (.int 1) (nd d) = some (.int (1 + (d : Int))) := rfl
        have z6 : (6 : Nat) ≤ sizeLine := by decide
        simp only [seqD, if_true] at c2
        simp [ev, op2, opd, res, rdv, argSl, musOf, nodupB, wbk, c1, c2, b1, z6]
      · simp at hx
        rcases hx with rfl | rfl | rfl | rfl | rfl
        · exact ⟨0, by decide, rfl⟩
        · exact ⟨1, by decide, rfl⟩
        · exact ⟨2, by decide, rfl⟩
        · exact ⟨3, by decide, rfl⟩
        · exact ⟨1 + d, by omega, rfl⟩) (by rw [List.length_range]; exact sz (by simpa using (show G ≤ 100 by omega)))
  obtain ⟨ns, rfl, h2⟩ := map_of nd (fun n => n ≤ 99) ys fun y hy => g4 y hy
  rw [List.length_map, List.length_range] at g3
  refine ⟨ns, z'.1, ?_, g2, g3, h2⟩
  have hw : walkD .rng (nd G) .none = some ((List.range G).map nd) := walk_rng' (by omega)
  have e1 := ev_lc_go (Φ := Φ) (own := [("good", 8)]) (k := .rng) (a := .var 2) (b := .noe) (x := nd G) (y := .none) (e := [.own false P, a1, .sh (nd G), .sh (nd most), a4, s5, s6, s7, .un]) rfl rfl hw g1
  exact exs_aso e1 (put_junk rfl j6)
end
end
/-! K92AF -/
section
section
variable {Φ : Fn} {G most : Nat}
/-- no user needs nothing -/
theorem lu_fix (hΦ : ∀ i, i < 2 → Φ i = T i) {P : List D} (hP : Pot P) (g1 : 1 ≤ G) (hG : G ≤ 4) (m1 : 1 ≤ most) (m2 : most ≤ 99) {ns : List Nat} (hl : ns.length = G) (hn : ∀ n ∈ ns, n ≤ 99) (a1 a4 s5 s7 : Sl) :
    ∃ (ns' : List Nat) (P' : List D), exs Φ (nthS 1 luB) [.own false P, a1, .sh (nd G), .sh (nd most), a4, s5, .own true (ns.map nd), s7, .un] = some (.nx [.own false P', a1, .sh (nd G), .sh (nd most), a4, s5, .own true (ns'.map nd), s7, .un]) ∧ Pot P' ∧ ns'.length = G ∧ (∀ n ∈ ns', n ≤ 99) ∧ ∃ n ∈ ns', 0 < n := by
  have hr : repD (.list [nd 0]) (nd G) = some (ixD (List.replicate G 0)) := rep_nd 0 G (by omega)
  have te : ev Φ (.cmp .eq (.var 6) (.rep (.cons (.cst (.int 0)) .nil) (.var 2))) [.own false P, a1, .sh (nd G), .sh (nd most), a4, s5, .own true (ns.map nd), s7, .un] = some (.bool (decide (ns = List.replicate G 0)), [.own false P, a1, .sh (nd G), .sh (nd most), a4, s5, .own true (ns.map nd), s7, .un]) := by
    have he : cmpD .eq (ixD ns) (ixD (List.replicate G 0)) = some (decide (ns = List.replicate G 0)) := eq_ix _ _
    exact ev_cmp' rfl (opd_nv (by intro i q; cases q) (ev_rep (ds := [nd 0]) rfl z1 rfl hr)) rfl rfl he
  by_cases h : ns = List.replicate G 0
  · rw [decide_eq_true h] at te
    obtain ⟨d, P1, c1, d1, hP1⟩ := draw_ok hP most (by omega) (by omega)
    obtain ⟨i, P2, c2, i1, hP2⟩ := draw_ok hP1 G (by omega) (by omega)
    have hi : i < ns.length := by omega
    refine ⟨ns.set i (1 + d), P2, ?_, hP2, by rw [List.length_set, hl], fun n hn' => ?_, ?_⟩
    · rw [← hΦ 0 (by decide)] at c1 c2
      have c1 : Φ 0 [.own false P, .sh (nd most)] = some (nd d, [.own false P1, .sh (nd most)]) := c1
      have c2 : Φ 0 [.own false P1, .sh (nd G)] = some (nd i, [.own false P2, .sh (nd G)]) := c2
      have st : ∀ e : Ev, e[6]? = some (.own true (ns.map nd)) → setAt e 6 (nd i) (nd (1 + d)) = some (e.set 6 (.own true ((ns.map nd).set i (nd (1 + d))))) := fun e he => set_at6 he (by rw [List.length_map]; exact hi)
      refine (exs_ift (by intro i q; cases q) te).trans (exs_nx ?_ rfl)
      have b1 : binD .add (.int 1) (nd d) = some (nd (1 + d)) := add_nd 1 d
      rw [List.map_set]
      simp [exs, ev, op2, opd, res, rdv, argSl, musOf, nodupB, wbk, c1, c2, b1, ownAt]
      rw [st _ rfl]
      rfl
    · rcases List.mem_or_eq_of_mem_set hn' with h1 | h1
      · exact hn n h1
      · omega
    · exact ⟨1 + d, List.mem_of_getElem? (List.getElem?_set_self hi), by omega⟩
  · rw [decide_eq_false h] at te
    exact ⟨ns, P, (exs_iff (by intro i q; cases q) te).trans rfl, hP, hl, hn, not_zero hl h⟩
theorem lu_want (hΦ : ∀ i, i < 2 → Φ i = T i) {P : List D} (hP : Pot P) (a1 a2 a3 a4 a5 a6 s7 : Sl) (j7 : jk s7) :
    ∃ (w : Option Nat) (P' : List D), exs Φ (nthS 2 luB) [.own false P, a1, a2, a3, a4, a5, a6, s7, .un] = some (.nx [.own false P', a1, a2, a3, a4, a5, a6, .sh (wd w), .un]) ∧ Pot P' ∧ ∀ v, w = some v → v ≤ 999 := by
  obtain ⟨d, P1, c1, d1, hP1⟩ := draw_ok hP 3 (by omega) (by omega)
  rw [← hΦ 0 (by decide)] at c1
  have put : ∀ (e : Ev), e[7]? = some s7 → putOk e 7 = true := fun e h => j7.put h
  by_cases h : d = 0
  · subst h
    obtain ⟨x, P2, c2, x1, hP2⟩ := draw_ok hP1 9 (by omega) (by omega)
    obtain ⟨y, P3, c3, y1, hP3⟩ := draw_ok hP2 2 (by omega) (by omega)
    obtain ⟨z, P4, c4, z1', hP4⟩ := draw_ok hP3 2 (by omega) (by omega)
    rw [← hΦ 0 (by decide)] at c2 c3 c4
    refine ⟨some (x * y * (1 + 99 * z)), P4, ?_, hP4, fun v hv => ?_⟩
    · have b1 : binD .mul (nd x) (nd y) = some (nd (x * y)) := mul_nd x y (by omega) (by omega)
      have b2 : binD .mul (.int 99) (nd z) = some (nd (99 * z)) := mul_nd 99 z (by omega) (by omega)
      have b3 : binD .add (.int 1) (nd (99 * z)) = some (nd (1 + 99 * z)) := add_nd 1 (99 * z)
      have xy : x * y ≤ 8 * 1 := nmul_bd (by omega) (by omega)
      have b4 : binD .mul (nd (x * y)) (nd (1 + 99 * z)) = some (nd (x * y * (1 + 99 * z))) := mul_nd _ _ (by omega) (by omega)
      have q0 : cmpD .eq (nd 0) (.int 0) = some true := rfl
      have s : exs Φ (nthS 2 luB) [.own false P, a1, a2, a3, a4, a5, a6, s7, .un] = exs Φ (.asg (.nm 7) (.ite (.cmp .eq (.call 0 (.cons (.mu 0) (.cons (.cst (.int 3)) .nil))) (.cst (.int 0))) (.bin .mul (.bin .mul (.call 0 (.cons (.mu 0) (.cons (.cst (.int 9)) .nil))) (.call 0 (.cons (.mu 0) (.cons (.cst (.int 2)) .nil)))) (.bin .add (.cst (.int 1)) (.bin .mul (.cst (.int 99)) (.call 0 (.cons (.mu 0) (.cons (.cst (.int 2)) .nil)))))) (.cst .none))) [.own false P, a1, a2, a3, a4, a5, a6, s7, .un] := rfl
      rw [s]
      refine asg_nm (e1 := [.own false P4, a1, a2, a3, a4, a5, a6, s7, .un]) (d := nd (x * y * (1 + 99 * z))) ?_ (put _ rfl)
      simp [ev, opT, op2, opd, res, rdv, argSl, musOf, nodupB, wbk, c1, c2, c3, c4, q0, truth, b1, b2, b3, b4]
    · cases hv
      have xy : x * y ≤ 8 * 1 := nmul_bd (by omega) (by omega)
      have := nmul_bd xy (show 1 + 99 * z ≤ 100 by omega)
      omega
  · refine ⟨none, P1, ?_, hP1, fun v hv => by cases hv⟩
    have q0 : cmpD .eq (nd d) (.int 0) = some false := by
      show some (decide ((d : Int) = 0)) = _
      rw [decide_eq_false (by omega)]
    have s : exs Φ (nthS 2 luB) [.own false P, a1, a2, a3, a4, a5, a6, s7, .un] = exs Φ (.asg (.nm 7) (.ite (.cmp .eq (.call 0 (.cons (.mu 0) (.cons (.cst (.int 3)) .nil))) (.cst (.int 0))) (.bin .mul (.bin .mul (.call 0 (.cons (.mu 0) (.cons (.cst (.int 9)) .nil))) (.call 0 (.cons (.mu 0) (.cons (.cst (.int 2)) .nil)))) (.bin .add (.cst (.int 1)) (.bin .mul (.cst (.int 99)) (.call 0 (.cons (.mu 0) (.cons (.cst (.int 2)) .nil)))))) (.cst .none))) [.own false P, a1, a2, a3, a4, a5, a6, s7, .un] := rfl
    rw [s]
    refine asg_nm (e1 := [.own false P1, a1, a2, a3, a4, a5, a6, s7, .un]) (d := .none) ?_ (put _ rfl)
    simp [ev, opT, op2, opd, res, rdv, argSl, musOf, nodupB, wbk, c1, q0, truth]
theorem lu_app (hΦ : ∀ i, i < 2 → Φ i = T i) {P : List D} (hP : Pot P) {ds : List D} (hd : ds.length < sizeLine) (ns : List Nat) (w : Option Nat) (a1 a2 a3 a5 : Sl) :
    ∃ (k : Nat) (P' : List D), exs Φ (nthS 3 luB) [.own false P, a1, a2, a3, .own true ds, a5, .own true (ns.map nd), .sh (wd w), .un] = some (.nx [.own false P', a1, a2, a3, .own true (ds ++ [ud ⟨k, ns, w⟩]), a5, .own true (ns.map nd), .sh (wd w), .un]) ∧ Pot P' ∧ 1 ≤ k ∧ k ≤ 9 := by
  obtain ⟨x, P1, c1, x1, hP1⟩ := draw_ok hP 9 (by omega) (by omega)
  obtain ⟨y, P2, c2, y1, hP2⟩ := draw_ok hP1 2 (by omega) (by omega)
  rw [← hΦ 0 (by decide)] at c1 c2
  have xy : x * y ≤ 8 * 1 := nmul_bd (by omega) (by omega)
  refine ⟨1 + x * y, P2, ?_, hP2, by omega, by omega⟩
  have b1 : binD .mul (nd x) (nd y) = some (nd (x * y)) := mul_nd x y (by omega) (by omega)
  have b3 : binD .add (.int 1) (nd (x * y)) = some (nd (1 + x * y)) := add_nd 1 (x * y)
  have t0 : b1D .tup (.list (ns.map nd)) = some (.tuple (ns.map nd)) := rfl
  unfold ud
  simp [luB, forS, nthS, k91_b__law_users, exs, ev, op1, op2, opd, res, rdv, argSl, musOf, nodupB, wbk, c1, c2, b1, b3, t0, ownAt, hd, z4]
theorem gv3 {j : Nat} {d : De} {args os : List Sl} {r : D} {e : Ev} (hT : ∀ a, tab (dfs k91_ds) j a = run Φ d.df a) (hn : args.length = d.ps.length) (h1 : exs Φ d.body (args ++ List.replicate (d.N.length - d.ps.length) .un) = some (.rt r e)) (h2 : outs args e = some os) : T j args = some (r, os) := by
  rw [T, hT]
  unfold run De.df
  simp only [hn, if_true, h1, h2, Option.map_some]
theorem lusers_ok {P : List D} (hP : Pot P) {many : Nat} (g1 : 1 ≤ G) (hG : G ≤ 4) (hm : many ≤ 6) (m1 : 1 ≤ most) (m2 : most ≤ 99) :
    ∃ (us : List U) (P' : List D), T 2 [.own false P, .sh (nd many), .sh (nd G), .sh (nd most)] = some (usD us, [.own false P', .sh (nd many), .sh (nd G), .sh (nd most)]) ∧ Pot P' ∧ us.length = many ∧ ∀ u ∈ us, Vu G u := by
  obtain ⟨Φ, hΦ, hT⟩ := tab_run (ds := k91_ds) (j := 2) (d := k91_d__law_users) rfl
  obtain ⟨z, ⟨o1, o2, o3, o4, o5, o6⟩, lp⟩ := for_ex (g := .nm 5) (f := exs Φ luB) nd (fun z : List D × List U × Sl × Sl × Sl => [.own false z.1, .sh (nd many), .sh (nd G), .sh (nd most), .own true (z.2.1.map ud), z.2.2.1, z.2.2.2.1, z.2.2.2.2, .un])
    (fun k z => Pot z.1 ∧ z.2.1.length = k ∧ (∀ u ∈ z.2.1, Vu G u) ∧ jk z.2.2.1 ∧ junk z.2.2.2.1 ∧ jk z.2.2.2.2) (List.range many) 0 (P, [], .un, .un, .un) ⟨hP, rfl, fun u h => (by cases h), .inl rfl, .inl rfl, .inl rfl⟩ (fun i x z hx ⟨q1, q2, q3, q4, q5, q6⟩ => by
      have hi := (List.getElem?_eq_some_iff.mp hx).1
      rw [List.length_range] at hi
      obtain ⟨ns, P1, e1, hP1, l1, n1⟩ := lu_needs hΦ q1 hG m1 m2 (.sh (nd many)) (.own true (z.2.1.map ud)) (.sh (nd x)) z.2.2.2.1 z.2.2.2.2 q5
      obtain ⟨ns', P2, e2, hP2, l2, n2, x2⟩ := lu_fix hΦ hP1 g1 hG m1 m2 l1 n1 (.sh (nd many)) (.own true (z.2.1.map ud)) (.sh (nd x)) z.2.2.2.2
      obtain ⟨w, P3, e3, hP3, w3⟩ := lu_want hΦ hP2 (.sh (nd many)) (.sh (nd G)) (.sh (nd most)) (.own true (z.2.1.map ud)) (.sh (nd x)) (.own true (ns'.map nd)) z.2.2.2.2 q6
      obtain ⟨k, P4, e4, hP4, k1, k2⟩ := lu_app hΦ hP3 (ds := z.2.1.map ud) (by rw [List.length_map]; exact Nat.lt_of_le_of_lt (show z.2.1.length ≤ 6 by omega) (by decide)) ns' w (.sh (nd many)) (.sh (nd G)) (.sh (nd most)) (.sh (nd x))
      refine ⟨?_, [.own false z.1, .sh (nd many), .sh (nd G), .sh (nd most), .own true (z.2.1.map ud), .sh (nd x), z.2.2.2.1, z.2.2.2.2, .un], (P4, z.2.1 ++ [⟨k, ns', w⟩], .sh (nd x), .own true (ns'.map nd), .sh (wd w)), rfl, ?_, hP4, ?_, fun u hu => ?_, jk.sh _, .inr (.inr ⟨_, rfl⟩), jk.sh _⟩
      · show (putOk _ 5 && true) = true
        rw [q4.put rfl]
        rfl
      · rw [List.map_append]
        exact exs_nx e1 (exs_nx e2 (exs_nx e3 (exs_nx e4 rfl)))
      · show (z.2.1 ++ [_]).length = 0 + i + 1
        rw [List.length_append, q2]
        rfl
      · rcases List.mem_append.mp hu with h | h
        · exact q3 u h
        · rw [List.mem_singleton] at h
          rw [h]
          exact ⟨k1, k2, l2, n2, x2, w3⟩)
  rw [Nat.zero_add, List.length_range] at o2
  refine ⟨z.2.1, z.1, ?_, o1, o2, o3⟩
  refine gv3 hT rfl (e := [.own false z.1, .sh (nd many), .sh (nd G), .sh (nd most), .own true (z.2.1.map ud), z.2.2.1, z.2.2.2.1, z.2.2.2.2, .un]) ?_ rfl
  have e0 : exs Φ (nthS 0 k91_b__law_users) [.own false P, .sh (nd many), .sh (nd G), .sh (nd most), .un, .un, .un, .un, .un] = some (.nx [.own false P, .sh (nd many), .sh (nd G), .sh (nd most), .own true [], .un, .un, .un, .un]) := aso_nil rfl
  have e1 : exs Φ (.for_ (.nm 5) .rng (.var 1) .noe luB) [.own false P, .sh (nd many), .sh (nd G), .sh (nd most), .own true [], .un, .un, .un, .un] = _ := (exs_for rfl rfl (walk_rng' (by omega))).trans lp
  refine exs_nx e0 (exs_nx e1 (exs_ret ?_))
  simp [ev, op1, opd, res, b1D, usD]
end
end
end Iv
end
section
set_option Elab.async false
set_option linter.all false
set_option maxRecDepth 100000
set_option exponentiation.threshold 3000
set_option maxHeartbeats 4000000
namespace Iv
open PySem PySem.Spec L2
/-! k91: the totals that are drawn -/
def lastN (xs : List Nat) : Nat := xs.getD (xs.length - 1) 0
theorem ixN_last {n : Nat} (h : 1 ≤ n) : ixN n (-1) = some (n - 1) := by
  unfold ixN
  simp
  omega
theorem idx_last {xs : List Nat} (h : 1 ≤ xs.length) : idxD (.tuple (xs.map nd)) (.int (-1)) = some (nd (lastN xs)) := by
  show atI (xs.map nd) (-1) = _
  unfold atI
  rw [List.length_map, ixN_last h]
  show (xs.map nd)[xs.length - 1]? = _
  rw [List.getElem?_map, at_lt (show xs.length - 1 < xs.length by omega) 0]
  rfl
theorem set_last {e : Ev} {j : Nat} {v : D} {ds : List D} (h1 : e[j]? = some (.own true ds)) (hi : 1 ≤ ds.length) : setAt e j (.int (-1)) v = some (e.set j (.own true (ds.set (ds.length - 1) v))) := by
  unfold setAt ownAt
  simp [h1, ixN_last hi]
theorem ev_bin' {Φ : Fn} {o : Bo} {a b : Ex} {e e1 e2 : Ev} {x y : Op} {p q d : D} (h1 : opd a (ev Φ a e) e = some (x, e1)) (h2 : opd b (ev Φ b e1) e1 = some (y, e2)) (r1 : res e2 x = some p) (r2 : res e2 y = some q) (h : binD o p q = some d) : ev Φ (.bin o a b) e = some (d, e2) := by
  simp only [ev, op2, h1, h2, r1, r2, h, Option.map_some]
theorem ev_idx' {Φ : Fn} {a b : Ex} {e e1 e2 : Ev} {x y : Op} {p q d : D} (h1 : opd a (ev Φ a e) e = some (x, e1)) (h2 : opd b (ev Φ b e1) e1 = some (y, e2)) (r1 : res e2 x = some p) (r2 : res e2 y = some q) (h : idxD p q = some d) : ev Φ (.idx a b) e = some (d, e2) := by
  simp only [ev, op2, h1, h2, r1, r2, h, Option.map_some]
section
variable {Φ : Fn} {G : Nat} {us : List U}
def wantsL (us : List U) : List Nat := (us.filter fun u => u.want.isSome).map fun u => lastN u.ns * u.want.getD 0
def ltF : Sm := forS (nthS 1 k91_b__law_totals)
theorem lt_tot {P : List D} (hP : Pot P) {m1 m2 : Nat} (h1 : 1 ≤ m1 ∧ m1 ≤ 9999) (h2 : 1 ≤ m2 ∧ m2 ≤ 9999) (hΦ : ∀ i, i < 3 → Φ i = T i) (x1 x3 s5 : Sl) {tt : List Nat} (hz : (tt.map nd).length < sizeLine) :
    ∃ (t : Nat) (P' : List D), Pot P' ∧ 1 ≤ t ∧ t ≤ 9999 ∧ exs Φ ltF [.own false P, x1, .sh (.list [nd m1, nd m2]), x3, .own true (tt.map nd), s5, .un, .un] = some (.nx [.own false P', x1, .sh (.list [nd m1, nd m2]), x3, .own true ((tt ++ [t]).map nd), s5, .un, .un]) := by
  obtain ⟨x, P1, c1, hx, hP1⟩ := pick_ok hP true [nd m1, nd m2] (by simp) (by simp)
  obtain ⟨m, rfl, k1, k2⟩ : ∃ m : Nat, x = nd m ∧ 1 ≤ m ∧ m ≤ 9999 := by
    simp at hx
    rcases hx with rfl | rfl
    · exact ⟨m1, rfl, h1⟩
    · exact ⟨m2, rfl, h2⟩
  obtain ⟨d, P2, c2, d1, hP2⟩ := draw_ok hP1 m (by omega) (by omega)
  refine ⟨1 + d, P2, hP2, by omega, by omega, ?_⟩
  rw [← hΦ 1 (by decide)] at c1
  rw [← hΦ 0 (by decide)] at c2
  have c2 : Φ 0 [.own false P1, .sh (nd m)] = some (nd d, [.own false P2, .sh (nd m)]) := c2
  have b1 : binD .add (.int 1) (nd d) = some (nd (1 + d)) := add_nd 1 d
  simp only [seqD, if_true] at c1
  rw [List.length_map] at hz
  simp [ltF, forS, nthS, k91_b__law_totals, exs, ownAt, ev, op2, opd, res, rdv, argSl, musOf, nodupB, wbk, c1, c2, b1, hz]
theorem lastN_le {G : Nat} {u : U} (hu : Vu G u) : lastN u.ns ≤ 99 := by
  unfold lastN
  by_cases h : u.ns.length - 1 < u.ns.length
  · exact hu.le _ (getD_mem h)
  · rw [getD_out h]; decide
theorem ltotals_ok {P : List D} (hP : Pot P) (g1 : 1 ≤ G) (hG : G ≤ 4) (l0 : 1 ≤ us.length) (l6 : us.length ≤ 6) (ok : ∀ u ∈ us, Vu G u) {m1 m2 : Nat} (h1 : 1 ≤ m1 ∧ m1 ≤ 9999) (h2 : 1 ≤ m2 ∧ m2 ≤ 9999) :
    ∃ (ts : List Nat) (P' : List D), T 3 [.own false P, .sh (usD us), .sh (.list [nd m1, nd m2])] = some (tsD ts, [.own false P', .sh (usD us), .sh (.list [nd m1, nd m2])]) ∧ Pot P' ∧ ts.length = G ∧ ∀ t ∈ ts, 1 ≤ t ∧ t ≤ 9999 := by
  obtain ⟨Φ, hΦ, hT⟩ := tab_run (ds := k91_ds) (j := 3) (d := k91_d__law_totals) rfl
  have hΦ : ∀ i, i < 3 → Φ i = T i := hΦ
  obtain ⟨u, hu⟩ : ∃ u, us[0]? = some u := ⟨_, List.getElem?_eq_getElem (by omega)⟩
  have vu := ok u (List.mem_of_getElem? hu)
  have i0 : idxD (usD us) (.int 0) = some (ud u) := idx_t (i := 0) ud hu
  obtain ⟨⟨P1, tt, s5⟩, ⟨q1, q2, q3, q4⟩, lp⟩ := for_ex (g := .nm 5) (f := exs Φ ltF) nd (fun z : List D × List Nat × Sl => [.own false z.1, .sh (usD us), .sh (.list [nd m1, nd m2]), .sh (nd G), .own true (z.2.1.map nd), z.2.2, .un, .un])
    (fun k z => Pot z.1 ∧ z.2.1.length = k ∧ (∀ t ∈ z.2.1, 1 ≤ t ∧ t ≤ 9999) ∧ jk z.2.2) (List.range G) 0 (P, [], .un) ⟨hP, rfl, fun t h => (by cases h), .inl rfl⟩ (fun k i z hk ⟨z1, z2, z3, z4⟩ => by
      have hkG : k < G := by
        have := (List.getElem?_eq_some_iff.mp hk).1
        rwa [List.length_range] at this
      obtain ⟨t, P2, p1, p2, p3, p4⟩ := lt_tot (Φ := Φ) z1 h1 h2 hΦ (.sh (usD us)) (.sh (nd G)) (.sh (nd i)) (tt := z.2.1) (by rw [List.length_map, z2]; exact Nat.lt_of_le_of_lt (show 0 + k ≤ 4 by omega) (by decide))
      refine ⟨?_, _, (P2, z.2.1 ++ [t], .sh (nd i)), rfl, p4, p1, by rw [List.length_append, z2]; rfl, fun x hx => ?_, jk.sh _⟩
      · show (putOk _ 5 && true) = true
        rw [z4.put rfl]
        rfl
      · rcases List.mem_append.mp hx with h | h
        · exact z3 x h
        · simp at h
          subst h
          exact ⟨p2, p3⟩)
  dsimp only at q1 q2 q3 q4 lp
  rw [List.length_range, Nat.zero_add] at q2
  -- what is wanted of the last good
  have hlc : ∀ P' : List D, ev Φ (.lc [("user", 7)] (.nm 7) .walk (.var 1) .noe (.cmp .isn (.idx (.var 7) (.cst (.int 3))) (.cst .none)) (.bin .mul (.idx (.idx (.var 7) (.cst (.int 2))) (.neg (.cst (.int 1)))) (.idx (.var 7) (.cst (.int 3))))) [.own false P', .sh (usD us), .sh (.list [nd m1, nd m2]), .sh (nd G), .own true (tt.map nd), s5, .un, .un]
      = some (ixD (wantsL us), [.own false P', .sh (usD us), .sh (.list [nd m1, nd m2]), .sh (nd G), .own true (tt.map nd), s5, .un, .un]) := fun P' => by
    refine (ev_lcP ud (fun u => u.want.isSome) (fun u => nd (lastN u.ns * u.want.getD 0)) us (x := usD us) (y := .none) rfl rfl rfl (fun w hw => ?_) (sz (by omega))).trans ?_
    · have hv := ok w hw
      have v3 : ev Φ (.idx (.var 7) (.cst (.int 3))) [.own false P', .sh (usD us), .sh (.list [nd m1, nd m2]), .sh (nd G), .own true (tt.map nd), s5, .un, .sh (ud w)] = some (wd w.want, [.own false P', .sh (usD us), .sh (.list [nd m1, nd m2]), .sh (nd G), .own true (tt.map nd), s5, .un, .sh (ud w)]) := rfl
      have v2 : ev Φ (.idx (.var 7) (.cst (.int 2))) [.own false P', .sh (usD us), .sh (.list [nd m1, nd m2]), .sh (nd G), .own true (tt.map nd), s5, .un, .sh (ud w)] = some (.tuple (w.ns.map nd), [.own false P', .sh (usD us), .sh (.list [nd m1, nd m2]), .sh (nd G), .own true (tt.map nd), s5, .un, .sh (ud w)]) := rfl
      refine ⟨[.own false P', .sh (usD us), .sh (.list [nd m1, nd m2]), .sh (nd G), .own true (tt.map nd), s5, .un, .sh (ud w)], rfl, lcT_bool (by intro i q; cases q) (by intro q; cases q) (ev_cmp' (opd_nv (by intro i q; cases q) v3) (opd_nv (by intro i q; cases q) rfl) rfl rfl (isn_wd w.want)), fun hs => ?_, rfl⟩
      obtain ⟨v, hv2⟩ := Option.isSome_iff_exists.mp hs
      rw [hv2] at v3 ⊢
      have l1 : 1 ≤ w.ns.length := by rw [hv.len]; exact g1
      have v4 : ev Φ (.idx (.idx (.var 7) (.cst (.int 2))) (.neg (.cst (.int 1)))) [.own false P', .sh (usD us), .sh (.list [nd m1, nd m2]), .sh (nd G), .own true (tt.map nd), s5, .un, .sh (ud w)] = some (nd (lastN w.ns), [.own false P', .sh (usD us), .sh (.list [nd m1, nd m2]), .sh (nd G), .own true (tt.map nd), s5, .un, .sh (ud w)]) := by
        have n1 : ev Φ (.neg (.cst (.int 1))) [.own false P', .sh (usD us), .sh (.list [nd m1, nd m2]), .sh (nd G), .own true (tt.map nd), s5, .un, .sh (ud w)] = some (.int (-1), [.own false P', .sh (usD us), .sh (.list [nd m1, nd m2]), .sh (nd G), .own true (tt.map nd), s5, .un, .sh (ud w)]) := rfl
        exact ev_idx' (opd_nv (by intro i q; cases q) v2) (opd_nv (by intro i q; cases q) n1) rfl rfl (idx_last l1)
      have m1 : binD .mul (nd (lastN w.ns)) (.int (v : Int)) = some (nd (lastN w.ns * v)) := mul_nd _ _ (Nat.lt_of_le_of_lt (lastN_le hv) (by decide)) (Nat.lt_of_le_of_lt (hv.want v hv2) (by decide))
      exact ev_bin' (opd_nv (by intro i q; cases q) v4) (opd_nv (by intro i q; cases q) v3) rfl rfl m1
    · unfold ixD wantsL
      rw [List.map_map]
      rfl
  have hsum : b1D .sum (ixD (wantsL us)) = some (nd (wantsL us).sum) := by
    show (intsOf ((wantsL us).map nd)).map (fun ns => PyData.int ns.sum) = _
    rw [ints_nd (fun n => n) (wantsL us)]
    show some (PyData.int _) = _
    unfold nd
    congr 2
    induction wantsL us with
    | nil => rfl
    | cons a r ih => rw [List.map_cons, List.sum_cons, List.sum_cons, ih]; omega
  obtain ⟨d, P2, c2, d1, hP2⟩ := draw_ok q1 3 (by omega) (by omega)
  rw [← hΦ 0 (by decide)] at c2
  -- the test
  let E : List D → Ev := fun P' => [.own false P', .sh (usD us), .sh (.list [nd m1, nd m2]), .sh (nd G), .own true (tt.map nd), s5, .sh (ixD (wantsL us)), .un]
  have k1 : ev Φ (.cmp .eq (.call 0 (.cons (.mu 0) (.cons (.cst (.int 3)) .nil))) (.cst (.int 0))) (E P1) = some (.bool (decide (d = 0)), E P2) := by
    have := ev_call (Φ := Φ) (j := 0) (as := .cons (.mu 0) (.cons (.cst (.int 3)) .nil)) (e := E P1) (evl_cons rfl (evl_cons rfl evl_nil)) rfl rfl c2 rfl
    exact ev_cmp' (opd_nv (by intro i q; cases q) this) (opd_nv (by intro i q; cases q) rfl) rfl rfl (cmp_nd d 0)
  have k2 : ev Φ (.cmp .ne (.var 6) (.lst .nil)) (E P2) = some (.bool (!(wantsL us).isEmpty), E P2) := ev_cmp' rfl (opd_nv (by intro i q; cases q) ev_lst0) rfl rfl (ne_ix _)
  have k3 : ∃ t : Bool, ev Φ (.chn .lt .lt (.cst (.int 0)) (.b1 .sum (.var 6)) (.cst (.int 10000))) (E P2) = some (.bool t, E P2) ∧ (t = true → 0 < (wantsL us).sum ∧ (wantsL us).sum < 10000) := by
    have s1 : ev Φ (.b1 .sum (.var 6)) (E P2) = some (nd (wantsL us).sum, E P2) := ev_b1v rfl hsum
    have x1 : cmpD .lt (.int 0) (nd (wantsL us).sum) = some (decide ((0 : Int) < ((wantsL us).sum : Int))) := rfl
    have x2 : cmpD .lt (nd (wantsL us).sum) (.int 10000) = some (decide (((wantsL us).sum : Int) < 10000)) := rfl
    by_cases h : (0 : Int) < ((wantsL us).sum : Int)
    · rw [decide_eq_true h] at x1
      refine ⟨decide (((wantsL us).sum : Int) < 10000), ?_, ?_⟩
      · rw [ev.eq_def]
        simp only [s1, x1, x2, show ev Φ (.cst (.int 0)) (E P2) = some (.int 0, E P2) from rfl, show ev Φ (.cst (.int 10000)) (E P2) = some (.int 10000, E P2) from rfl, Option.map_some]
      · intro q
        have q := of_decide_eq_true q
        omega
    · rw [decide_eq_false h] at x1
      refine ⟨false, ?_, fun q => (by cases q)⟩
      rw [ev.eq_def]
      simp only [s1, x1, show ev Φ (.cst (.int 0)) (E P2) = some (.int 0, E P2) from rfl]
  obtain ⟨t3, k3, k4⟩ := k3
  have k5 : ∃ t : Bool, ev Φ (.and (.cmp .eq (.call 0 (.cons (.mu 0) (.cons (.cst (.int 3)) .nil))) (.cst (.int 0))) (.and (.cmp .ne (.var 6) (.lst .nil)) (.chn .lt .lt (.cst (.int 0)) (.b1 .sum (.var 6)) (.cst (.int 10000))))) (E P1) = some (.bool t, E P2) ∧ (t = true → 0 < (wantsL us).sum ∧ (wantsL us).sum < 10000) := by
    have k6 := evl_and k2 k3 rfl
    by_cases h : d = 0
    · rw [decide_eq_true h] at k1
      exact ⟨_, ev_andt k1 k6, fun q => k4 (Bool.and_eq_true_iff.mp q).2⟩
    · rw [decide_eq_false h] at k1
      refine ⟨false, ?_, fun q => (by cases q)⟩
      rw [ev.eq_def]
      simp only [k1]
  obtain ⟨t, k5, k7⟩ := k5
  have fin : ∀ ts' : List Nat, exs Φ (nthS 4 k91_b__law_totals) [.own false P2, .sh (usD us), .sh (.list [nd m1, nd m2]), .sh (nd G), .own true (ts'.map nd), s5, .sh (ixD (wantsL us)), .un] = some (.rt (tsD ts') [.own false P2, .sh (usD us), .sh (.list [nd m1, nd m2]), .sh (nd G), .own true (ts'.map nd), s5, .sh (ixD (wantsL us)), .un]) := fun ts' => rfl
  have start : ∀ o, exs Φ (.consB (nthS 3 k91_b__law_totals) (.consB (nthS 4 k91_b__law_totals) .nilB)) (E P1) = o → exs Φ k91_b__law_totals [.own false P, .sh (usD us), .sh (.list [nd m1, nd m2]), .un, .un, .un, .un, .un] = o := fun o ho => by
    refine exs_nx (e1 := [.own false P, .sh (usD us), .sh (.list [nd m1, nd m2]), .sh (nd G), .own true [], .un, .un, .un]) ?_ (exs_nx (e1 := [.own false P1, .sh (usD us), .sh (.list [nd m1, nd m2]), .sh (nd G), .own true (tt.map nd), s5, .un, .un]) ?_ (exs_nx (e1 := E P1) ((asg_nm (hlc P1) rfl).trans rfl) ho))
    · have a1 : ev Φ (.idx (.var 1) (.cst (.int 0))) [.own false P, .sh (usD us), .sh (.list [nd m1, nd m2]), .un, .un, .un, .un, .un] = some (ud u, [.own false P, .sh (usD us), .sh (.list [nd m1, nd m2]), .un, .un, .un, .un, .un]) := by
        rw [ev.eq_def]
        simp only [op2, opd, List.getElem?_cons_zero, List.getElem?_cons_succ, ev, res, i0, Option.map_some]
      have a2 := ev_idxc (i := 2) (by intro i q; cases q) a1 (show idxD (ud u) (.int 2) = some (.tuple (u.ns.map nd)) from rfl)
      have a3 := ev_b1 (b := .len) (by intro i q; cases q) a2 (show b1D .len (.tuple (u.ns.map nd)) = some (nd G) by
        show some (PyData.int ((u.ns.map nd).length : Nat)) = _
        rw [List.length_map, vu.len]
        rfl)
      exact exs_asp (evl_cons a3 (evl_cons ev_lst0 evl_nil)) rfl
    · exact Eq.trans (exs_for rfl rfl (walk_rng' (n := G) (by omega))) lp
  have out : ∀ ts' : List Nat, exs Φ (nthS 3 k91_b__law_totals) (E P1) = some (.nx [.own false P2, .sh (usD us), .sh (.list [nd m1, nd m2]), .sh (nd G), .own true (ts'.map nd), s5, .sh (ixD (wantsL us)), .un]) → T 3 [.own false P, .sh (usD us), .sh (.list [nd m1, nd m2])] = some (tsD ts', [.own false P2, .sh (usD us), .sh (.list [nd m1, nd m2])]) := fun ts' h => by
    refine gv3 hT rfl (e := [.own false P2, .sh (usD us), .sh (.list [nd m1, nd m2]), .sh (nd G), .own true (ts'.map nd), s5, .sh (ixD (wantsL us)), .un]) ?_ rfl
    refine start _ (exs_nx h ?_)
    exact exs_rtA (fin ts')
  cases t with
  | false =>
    refine ⟨tt, P2, out tt ?_, hP2, q2, q3⟩
    exact (exs_iff (by intro i q; cases q) k5).trans rfl
  | true =>
    obtain ⟨w1, w2⟩ := k7 rfl
    refine ⟨tt.set (tt.length - 1) (wantsL us).sum, P2, out _ ?_, hP2, by rw [List.length_set, q2], fun x hx => ?_⟩
    · refine (exs_ift (by intro i q; cases q) k5).trans ?_
      have s1 : ev Φ (.b1 .sum (.var 6)) (E P2) = some (nd (wantsL us).sum, E P2) := ev_b1v rfl hsum
      have n1 : ev Φ (.neg (.cst (.int 1))) (E P2) = some (.int (-1), E P2) := rfl
      have st := set_last (e := E P2) (j := 4) (v := nd (wantsL us).sum) (ds := tt.map nd) rfl (by rw [List.length_map, q2]; exact g1)
      refine exs_nx ?_ rfl
      rw [exs.eq_def]
      simp only [s1, n1, show (ownAt (E P2) 4).isSome = true from rfl, if_true, st, Option.map_some]
      rw [List.length_map, List.map_set]
      rfl
    · rcases List.mem_or_eq_of_mem_set hx with h | h
      · exact q3 x h
      · subst h
        omega
end
end Iv
end
section
set_option Elab.async false
set_option linter.all false
set_option maxRecDepth 100000
set_option exponentiation.threshold 3000
set_option maxHeartbeats 4000000
namespace Iv
open PySem PySem.Spec L2
/-! k91: amounts beside the share -/
section
variable {x : Rat} {a b : Nat}
theorem raw_mul (x : Rat) (a : Nat) {b : Nat} (hb : 0 < b) : (((x.num * (a : Int) : Int)) : Rat) / ((x.den * (b : Int) : Int) : Rat) = x * ((a : Rat) / (b : Rat)) := by
  have h1 := rat_eq x
  have h3 := den_ne x
  have h4 := Fl.cast_pos hb
  rw [Rat.intCast_mul, Rat.intCast_mul, Rat.intCast_natCast, Rat.intCast_natCast, Rat.intCast_natCast]
  grind
theorem raw_add (x : Rat) (a : Nat) {b : Nat} (hb : 0 < b) : (((x.num * (b : Int) + (a : Int) * x.den : Int)) : Rat) / ((x.den * (b : Int) : Int) : Rat) = x + (a : Rat) / (b : Rat) := by
  have h1 := rat_eq x
  have h3 := den_ne x
  have h4 := Fl.cast_pos hb
  rw [Rat.intCast_add, Rat.intCast_mul, Rat.intCast_mul, Rat.intCast_mul, Rat.intCast_natCast, Rat.intCast_natCast, Rat.intCast_natCast]
  grind
theorem ltimes_raw (hx : Fit x) (ha : a ≤ 100) (h0 : 0 < b) (hb : b ≤ 100) : Gv 35 [rt x, .tuple [nd a, nd b]] (rt (x * ((a : Rat) / (b : Rat)))) := by
  refine gv (d := k91_d__law_times) rfl rfl fun Φ hΦ => ?_
  have ha' : ((a : Int)).natAbs < 2 ^ 8 := by omega
  have hb' : ((b : Int)).natAbs < 2 ^ 8 := by omega
  have k1 : ((x.den : Int) * (b : Int)).natAbs < 2 ^ 1000 := up_pow (nb (fd hx) hb') (by decide)
  have k2 : (x.num * (a : Int)).natAbs < 2 ^ 2000 := up_pow (nb hx.2 ha') (by decide)
  have k3 : 0 < (x.den : Int) * (b : Int) := Int.mul_pos (den_pos x) (by omega)
  have hc := (ratio_ok (a := x.num * (a : Int)) k3 k1 k2).on (hΦ 30 (by decide))
  rw [raw_mul x a h0] at hc
  simp only [List.map_cons, List.map_nil] at hc
  have m1 : mulOk x.num (a : Int) = true := mul_ok hx.2 ha'
  have m2 : mulOk (x.den : Int) (b : Int) = true := mul_ok (fd hx) hb'
  refine ⟨[.sh (rt x), .sh (.tuple [nd a, nd b])], ?_, by simp⟩
  unfold rt nd at *
  simp [k91_d__law_times, k91_b__law_times, exs, ev, op2, opd, res, argSl, musOf, nodupB, wbk, binD, mulD, idxD, atI, ixN, m1, m2, hc]
theorem lplus_raw (hx : Fit x) (ha : a ≤ 100) (h0 : 0 < b) (hb : b ≤ 100) : Gv 36 [rt x, .tuple [nd a, nd b]] (rt (x + (a : Rat) / (b : Rat))) := by
  refine gv (d := k91_d__law_plus) rfl rfl fun Φ hΦ => ?_
  have ha' : ((a : Int)).natAbs < 2 ^ 8 := by omega
  have hb' : ((b : Int)).natAbs < 2 ^ 8 := by omega
  have k1 : ((x.den : Int) * (b : Int)).natAbs < 2 ^ 1000 := up_pow (nb (fd hx) hb') (by decide)
  have k2 : (x.num * (b : Int) + (a : Int) * (x.den : Int)).natAbs < 2 ^ 2000 := up_pow (nadd (k := 528) (nb hx.2 hb') (up_pow (nb ha' (fd hx)) (by decide))) (by decide)
  have k3 : 0 < (x.den : Int) * (b : Int) := Int.mul_pos (den_pos x) (by omega)
  have hc := (ratio_ok (a := x.num * (b : Int) + (a : Int) * (x.den : Int)) k3 k1 k2).on (hΦ 30 (by decide))
  rw [raw_add x a h0] at hc
  simp only [List.map_cons, List.map_nil] at hc
  have m1 : mulOk x.num (b : Int) = true := mul_ok hx.2 hb'
  have m2 : mulOk (x.den : Int) (b : Int) = true := mul_ok (fd hx) hb'
  have m3 : mulOk (a : Int) (x.den : Int) = true := mul_ok ha' (fd hx)
  refine ⟨[.sh (rt x), .sh (.tuple [nd a, nd b])], ?_, by simp⟩
  unfold rt nd at *
  simp [k91_d__law_plus, k91_b__law_plus, exs, ev, op2, opd, res, argSl, musOf, nodupB, wbk, binD, addD, mulD, idxD, atI, ixN, m1, m2, m3, hc]
end
/-- the share's own bounds -/
structure Am0 (us : List U) (am : List Rat) : Prop where
  len : am.length = us.length
  bd : ∃ D : Nat, 0 < D ∧ D < 2 ^ 445 ∧ ∀ q ∈ am, Bd D 19998 q
section
variable {us : List U} {ts : List Nat} {am : List Rat} {Φ : Fn} [Tn ts]
theorem Am0.wd (A : Am0 us am) : Am us am := by
  obtain ⟨D, h1, h2, h3⟩ := A.bd
  exact ⟨A.len, D, h1, up_pow h2 (by decide), fun q hq => (h3 q hq).wide (by decide)⟩
omit [Tn ts] in
theorem Am0.ams (p : Ps us ts) : Am0 us (amsOf us ts) := by
  obtain ⟨L, l, c, M, B, A⟩ := fin_st p
  obtain ⟨k1, k2⟩ := Fl.lm B A
  refine ⟨ams_len, L * M, k1, k2, fun q hq => ?_⟩
  obtain ⟨i, hi⟩ := List.mem_iff_getElem?.mp hq
  have li := (List.getElem?_eq_some_iff.mp hi).1
  rw [ams_len] at li
  have h := Fl.am_bd B A li (by simp)
  rw [show fn (amsOf us ts) i = q from getD_of hi] at h
  exact h
/-- amounts that are all of a denominator some times greater -/
theorem am_times (A : Am0 us am) {am' : List Rat} {k : Nat} (hl : am'.length = us.length) (k0 : 0 < k) (k1 : k ≤ 16) (h : ∀ D, 0 < D → (∀ q ∈ am, Bd D 19998 q) → ∀ q ∈ am', Bd (D * k) 180000 q) : Am us am' := by
  obtain ⟨D, h1, h2, h3⟩ := A.bd
  refine ⟨hl, D * k, Nat.mul_pos h1 k0, ?_, h D h1 h3⟩
  have := Nat.mul_lt_mul'' h2 (show k < 2 ^ 5 by omega)
  rw [← Nat.pow_add] at this
  exact this
theorem frac_bd {D V a b : Nat} {q : Rat} (h : Bd D V q) (hb : 0 < b) : Bd (D * b) (V * a) (q * ((a : Rat) / (b : Rat))) := h.mul (Bd.frac a b hb)
/-! the ways -/
def bentA (am : List Rat) (at_ : Nat) (one : Rat) : List Rat := am.zipIdx.map fun x => if x.2 = at_ then one else x.1
theorem bentA_am (A : Am0 us am) {at_ k : Nat} {one : Rat} (k0 : 0 < k) (k1 : k ≤ 16) (h : ∀ D, 0 < D → (∀ q ∈ am, Bd D 19998 q) → Bd (D * k) 180000 one) : Am us (bentA am at_ one) := by
  refine am_times A (by unfold bentA; rw [List.length_map, List.length_zipIdx, A.len]) k0 k1 fun D hD hq q hm => ?_
  obtain ⟨x, hx, rfl⟩ := List.mem_map.mp hm
  split
  · exact h D hD hq
  · exact ((hq _ (List.mem_of_getElem? (mem_ix hx))).times k).wide (by decide)
def elS : Sm → Sm
  | .ifs _ _ b => b
  | s => s
def thS : Sm → Sm
  | .ifs _ a _ => a
  | s => s
def bn0 : Sm := nthS 2 k91_b__law_bent
def bn1 : Sm := nthS 0 (elS bn0)
def bn2 : Sm := nthS 0 (elS bn1)
def bn3 : Sm := nthS 0 (elS bn2)
def bn4 : Sm := nthS 0 (elS bn3)
abbrev eB (P : List D) (am : List Rat) (at_ ot : Nat) (one : Rat) (way : Nat) : Ev := [.own false P, .sh (rtl am), .sh (nd at_), .sh (nd ot), .sh (rt one), .sh (nd way), .un, .un, .un, .un]
variable {P : List D} {at_ ot way : Nat} {one : Rat}
theorem way_at (k : Nat) : ev Φ (.cmp .eq (.var 5) (.cst (.int (k : Int)))) (eB P am at_ ot one way) = some (.bool (decide (way = k)), eB P am at_ ot one way) := ev_cmp' rfl (opd_nv (by intro i q; cases q) rfl) rfl rfl (cmp_nd way k)
theorem bent_end (A : Am us am) (h6 : us.length ≤ 6) : exs Φ (nthS 3 k91_b__law_bent) (eB P am at_ ot one way) = some (.rt (rtl (bentA am at_ one)) (eB P am at_ ot one way)) := by
  have e1 : ev Φ (.lc [("user", 6), ("amount", 7)] (.tp [6, 7]) .enm (.var 1) .noe .noe (.ite (.cmp .eq (.var 6) (.var 2)) (.var 4) (.var 7))) (eB P am at_ ot one way) = some (rtl (bentA am at_ one), eB P am at_ ot one way) := by
    refine (ev_lcP (at2 rt) (fun _ => true) (fun x => rt (if x.2 = at_ then one else x.1)) am.zipIdx (x := rtl am) (y := .none) rfl rfl (walk_enm_l rt am) (fun x hx => ?_) (sz (by rw [List.length_zipIdx, A.len]; omega))).trans ?_
    · refine ⟨[.own false P, .sh (rtl am), .sh (nd at_), .sh (nd ot), .sh (rt one), .sh (nd way), .sh (nd x.2), .sh (rt x.1), .un, .un], rfl, rfl, fun _ => ?_, rfl⟩
      have c : ev Φ (.cmp .eq (.var 6) (.var 2)) [.own false P, .sh (rtl am), .sh (nd at_), .sh (nd ot), .sh (rt one), .sh (nd way), .sh (nd x.2), .sh (rt x.1), .un, .un] = some (.bool (decide (x.2 = at_)), [.own false P, .sh (rtl am), .sh (nd at_), .sh (nd ot), .sh (rt one), .sh (nd way), .sh (nd x.2), .sh (rt x.1), .un, .un]) := ev_cmp' rfl rfl rfl rfl (cmp_nd x.2 at_)
      by_cases h : x.2 = at_
      · rw [decide_eq_true h] at c
        rw [if_pos h]
        exact ev_itet (by intro i q; cases q) c rfl
      · rw [decide_eq_false h] at c
        rw [if_neg h]
        exact ev_itef (by intro i q; cases q) c rfl
    · rw [all_true]
      unfold rtl bentA
      rw [List.map_map]
      rfl
  show exs Φ (.ret _) _ = _
  simp only [exs, e1]
/-- ways 0 and 1: another amount for the one -/
theorem bent_way0 (A : Am0 us am) (hP : Pot P) (hΦ : ∀ i, i < 61 → Φ i = T i) (hat : fn am at_ ∈ am) : ∃ (P' : List D) (q : Rat) (k : Nat), Pot P' ∧ 0 < k ∧ k ≤ 16 ∧ (∀ D, 0 < D → (∀ q ∈ am, Bd D 19998 q) → Bd (D * k) 180000 q) ∧ exs Φ bn0 (eB P am at_ ot (fn am at_) 0) = some (.nx (eB P' am at_ ot q 0)) := by
  obtain ⟨d, P', c, hd, hP'⟩ := draw_ok hP 9 (by omega) (by omega)
  rw [← hΦ 0 (by decide)] at c
  refine ⟨P', fn am at_ + ((1 : Nat) : Rat) / ((1 + d : Nat) : Rat), 1 + d, hP', by omega, by omega, fun D hD hq => ?_, ?_⟩
  · have h1 := (hq _ hat).times (1 + d)
    have h2 : Bd (D * (1 + d)) 1 (((1 : Nat) : Rat) / ((1 + d : Nat) : Rat)) := (Bd.frac 1 (1 + d) (by omega)).dvd ⟨D, Nat.mul_comm _ _⟩
    exact (h1.add h2).wide (by decide)
  · have hx := ((A.wd).all _ hat).1
    have c2 := (lplus_raw (a := 1) (b := 1 + d) hx (by omega) (by omega) (by omega)).on (hΦ 36 (by decide))
    have c1 : ev Φ (.cmp .eq (.var 5) (.cst (.int 0))) (eB P am at_ ot (fn am at_) 0) = some (.bool true, eB P am at_ ot (fn am at_) 0) := way_at 0
    have e1 : ev Φ (.call 0 (.cons (.mu 0) (.cons (.cst (.int 9)) .nil))) (eB P am at_ ot (fn am at_) 0) = some (nd d, eB P' am at_ ot (fn am at_) 0) := ev_call (evl_cons rfl (evl_cons rfl evl_nil)) rfl rfl c rfl
    have e2 : ev Φ (.bin .add (.cst (.int 1)) (.call 0 (.cons (.mu 0) (.cons (.cst (.int 9)) .nil)))) (eB P am at_ ot (fn am at_) 0) = some (nd (1 + d), eB P' am at_ ot (fn am at_) 0) := ev_bin' (opd_nv (by intro i q; cases q) rfl) (opd_nv (by intro i q; cases q) e1) rfl rfl (add_nd 1 d)
    refine (exs_ift (by intro i q; cases q) c1).trans (exs_nx ((asg_nm (ev_call (evl_cons rfl (evl_cons (ev_tup (evl_cons rfl (evl_cons e2 evl_nil)) Iv.z2) evl_nil)) rfl rfl c2 rfl) rfl).trans rfl) rfl)
theorem bent_way1 (A : Am0 us am) (hP : Pot P) (hΦ : ∀ i, i < 61 → Φ i = T i) (hat : fn am at_ ∈ am) : ∃ (P' : List D) (q : Rat) (k : Nat), Pot P' ∧ 0 < k ∧ k ≤ 16 ∧ (∀ D, 0 < D → (∀ q ∈ am, Bd D 19998 q) → Bd (D * k) 180000 q) ∧ exs Φ bn0 (eB P am at_ ot (fn am at_) 1) = some (.nx (eB P' am at_ ot q 1)) := by
  obtain ⟨d, P', c, hd, hP'⟩ := draw_ok hP 9 (by omega) (by omega)
  rw [← hΦ 0 (by decide)] at c
  refine ⟨P', fn am at_ * ((d : Rat) / ((9 : Nat) : Rat)), 9, hP', by omega, by omega, fun D hD hq => ?_, ?_⟩
  · exact (frac_bd (hq _ hat) (by omega)).wide (Nat.le_trans (Nat.mul_le_mul_left 19998 (show d ≤ 8 by omega)) (by decide))
  · have hx := ((A.wd).all _ hat).1
    have c2 := (ltimes_raw (a := d) (b := 9) hx (by omega) (by omega) (by omega)).on (hΦ 35 (by decide))
    have c1 : ev Φ (.cmp .eq (.var 5) (.cst (.int 0))) (eB P am at_ ot (fn am at_) 1) = some (.bool false, eB P am at_ ot (fn am at_) 1) := way_at 0
    have c1' : ev Φ (.cmp .eq (.var 5) (.cst (.int 1))) (eB P am at_ ot (fn am at_) 1) = some (.bool true, eB P am at_ ot (fn am at_) 1) := way_at 1
    have e1 : ev Φ (.call 0 (.cons (.mu 0) (.cons (.cst (.int 9)) .nil))) (eB P am at_ ot (fn am at_) 1) = some (nd d, eB P' am at_ ot (fn am at_) 1) := ev_call (evl_cons rfl (evl_cons rfl evl_nil)) rfl rfl c rfl
    refine (exs_iff (by intro i q; cases q) c1).trans (exs_nx ((exs_ift (by intro i q; cases q) c1').trans (exs_nx ((asg_nm (ev_call (evl_cons rfl (evl_cons (ev_tup (evl_cons e1 (evl_cons rfl evl_nil)) Iv.z2) evl_nil)) rfl rfl c2 rfl) rfl).trans rfl) rfl)) rfl)
end
end Iv
end
section
set_option Elab.async false
set_option linter.all false
set_option maxRecDepth 100000
set_option exponentiation.threshold 3000
set_option maxHeartbeats 4000000
namespace Iv
open PySem PySem.Spec L2
section
variable {us : List U} {ts : List Nat} {am : List Rat} {Φ : Fn} {P : List D} {at_ ot : Nat} [Tn ts]
/-- past the ways that are not taken -/
theorem skip_ways {way k : Nat} (h : way ≠ k) {one : Rat} {a b : Sm} {o : Option Out} (ho : exs Φ b (eB P am at_ ot one way) = o) : exs Φ (.ifs (.cmp .eq (.var 5) (.cst (.int (k : Int)))) a b) (eB P am at_ ot one way) = o := by
  have c := way_at (Φ := Φ) (P := P) (am := am) (at_ := at_) (ot := ot) (one := one) (way := way) k
  rw [decide_eq_false h] at c
  exact (exs_iff (by intro i q; cases q) c).trans ho
theorem take_way {way : Nat} {one : Rat} {a b : Sm} {o : Option Out} (ho : exs Φ a (eB P am at_ ot one way) = o) : exs Φ (.ifs (.cmp .eq (.var 5) (.cst (.int (way : Int)))) a b) (eB P am at_ ot one way) = o := by
  have c := way_at (Φ := Φ) (P := P) (am := am) (at_ := at_) (ot := ot) (one := one) (way := way) way
  rw [decide_eq_true rfl] at c
  exact (exs_ift (by intro i q; cases q) c).trans ho
theorem bent_way2 (A : Am0 us am) (h6 : us.length ≤ 6) (hΦ : ∀ i, i < 61 → Φ i = T i) {one : Rat} : ∃ am', Am us am' ∧ exs Φ bn0 (eB P am at_ ot one 2) = some (.rt (rtl am') (eB P am at_ ot one 2)) := by
  refine ⟨am.map fun q => q * (((8 : Nat) : Rat) / ((9 : Nat) : Rat)), am_times A (k := 9) (by rw [List.length_map, A.len]) (by decide) (by decide) fun D hD hq q hm => ?_, ?_⟩
  · obtain ⟨x, hx, rfl⟩ := List.mem_map.mp hm
    exact (frac_bd (hq x hx) (by decide)).wide (by decide)
  · have e1 : ev Φ (.lc [("amount", 7)] (.nm 7) .walk (.var 1) .noe .noe (.call 35 (.cons (.var 7) (.cons (.tup (.cons (.cst (.int 8)) (.cons (.cst (.int 9)) .nil))) .nil)))) (eB P am at_ ot one 2) = some (rtl (am.map fun q => q * (((8 : Nat) : Rat) / ((9 : Nat) : Rat))), eB P am at_ ot one 2) := by
      refine (ev_lcP rt (fun _ => true) (fun q => rt (q * (((8 : Nat) : Rat) / ((9 : Nat) : Rat)))) am (x := rtl am) (y := .none) rfl rfl rfl (fun q hq => ?_) (sz (by rw [A.len]; omega))).trans ?_
      · have c := (ltimes_raw (a := 8) (b := 9) ((A.wd).all q hq).1 (by decide) (by decide) (by decide)).on (hΦ 35 (by decide))
        exact ⟨[.own false P, .sh (rtl am), .sh (nd at_), .sh (nd ot), .sh (rt one), .sh (nd 2), .un, .sh (rt q), .un, .un], rfl, rfl, fun _ => ev_call (evl_cons rfl (evl_cons (ev_tup (evl_cons rfl (evl_cons rfl evl_nil)) Iv.z2) evl_nil)) rfl rfl c rfl, rfl⟩
      · rw [all_true]
        unfold rtl
        rw [List.map_map]
        rfl
    exact skip_ways (k := 0) (by decide) (exs_rtA (skip_ways (k := 1) (by decide) (exs_rtA (take_way (exs_ret e1)))))
theorem bent_way3 (A : Am0 us am) (hat : at_ < us.length) (hot : ot < us.length) {one : Rat} : ∃ am' e, Am us am' ∧ exs Φ bn0 (eB P am at_ ot one 3) = some (.rt (rtl am') e) ∧ outs [.own false P, .sh (rtl am)] e = some [.own false P, .sh (rtl am)] := by
  have g1 := A.wd.at_ hat
  have g2 := A.wd.at_ hot
  refine ⟨(am.set at_ (fn am ot)).set ot (fn am at_), [.own false P, .sh (rtl am), .sh (nd at_), .sh (nd ot), .sh (rt one), .sh (nd 3), .un, .un, .sh (rtl ((am.set at_ (fn am ot)).set ot (fn am at_))), .un], am_times A (k := 1) (by rw [List.length_set, List.length_set, A.len]) (by decide) (by decide) fun D hD hq q hm => ?_, ?_, rfl⟩
  · rw [Nat.mul_one]
    rcases List.mem_or_eq_of_mem_set hm with h | h
    · rcases List.mem_or_eq_of_mem_set h with h | h
      · exact (hq q h).wide (by decide)
      · subst h
        exact (hq _ g2.2).wide (by decide)
    · subst h
      exact (hq _ g1.2).wide (by decide)
  · have i1 : idxD (rtl am) (nd at_) = some (rt (fn am at_)) := idx_l rt g1.1
    have i2 : idxD (rtl am) (nd ot) = some (rt (fn am ot)) := idx_l rt g2.1
    let E : List D → Ev := fun f => [.own false P, .sh (rtl am), .sh (nd at_), .sh (nd ot), .sh (rt one), .sh (nd 3), .un, .un, .own true f, .un]
    have s1 : exs Φ (.aso 8 (.b1 .list (.var 1))) (eB P am at_ ot one 3) = some (.nx (E (am.map rt))) := (exs_aso (ev_b1v rfl rfl) rfl).trans rfl
    have e2 : ev Φ (.tup (.cons (.idx (.var 1) (.var 3)) (.cons (.idx (.var 1) (.var 2)) .nil))) (E (am.map rt)) = some (.tuple [rt (fn am ot), rt (fn am at_)], E (am.map rt)) := ev_tup (evl_cons (ev_idxv rfl rfl i2) (evl_cons (ev_idxv rfl rfl i1) evl_nil)) Iv.z2
    have t1 := set_at6 (e := E (am.map rt)) (j := 8) (i := at_) (v := rt (fn am ot)) (ds := am.map rt) rfl (by rw [List.length_map, A.len]; exact hat)
    have t1 : setAt (E (am.map rt)) 8 (nd at_) (rt (fn am ot)) = some (E ((am.set at_ (fn am ot)).map rt)) := by
      rw [t1, List.map_set]
      rfl
    have t2 := set_at6 (e := E ((am.set at_ (fn am ot)).map rt)) (j := 8) (i := ot) (v := rt (fn am at_)) (ds := (am.set at_ (fn am ot)).map rt) rfl (by rw [List.length_map, List.length_set, A.len]; exact hot)
    have t2 : setAt (E ((am.set at_ (fn am ot)).map rt)) 8 (nd ot) (rt (fn am at_)) = some (E (((am.set at_ (fn am ot)).set ot (fn am at_)).map rt)) := t2.trans (congrArg (fun f => some (E f)) List.map_set.symm)
    have s2 : exs Φ (.sw2 8 (.var 2) 8 (.var 3) (.tup (.cons (.idx (.var 1) (.var 3)) (.cons (.idx (.var 1) (.var 2)) .nil)))) (E (am.map rt)) = some (.nx (E (((am.set at_ (fn am ot)).set ot (fn am at_)).map rt))) := by
      rw [exs.eq_def]
      simp only [e2, show (ownAt (E (am.map rt)) 8).isSome = true from rfl, if_true, show ev Φ (.var 2) (E (am.map rt)) = some (nd at_, E (am.map rt)) from rfl, t1, show (ownAt (E ((am.set at_ (fn am ot)).map rt)) 8).isSome = true from rfl, show ev Φ (.var 3) (E ((am.set at_ (fn am ot)).map rt)) = some (nd ot, E ((am.set at_ (fn am ot)).map rt)) from rfl, t2, Option.map_some]
    refine skip_ways (k := 0) (by decide) (exs_rtA (skip_ways (k := 1) (by decide) (exs_rtA (skip_ways (k := 2) (by decide) (exs_rtA (take_way (exs_nx s1 (exs_nx s2 (exs_ret ?_)))))))))
    rfl
theorem bent_way4 (A : Am0 us am) (h6 : us.length ≤ 6) {one : Rat} : ∃ am', Am us am' ∧ exs Φ bn0 (eB P am at_ ot one 4) = some (.rt (rtl am') (eB P am at_ ot one 4)) := by
  refine ⟨List.replicate am.length 0, am_times A (k := 1) (by rw [List.length_replicate, A.len]) (by decide) (by decide) fun D hD hq q hm => ?_, ?_⟩
  · obtain ⟨_, rfl⟩ := List.mem_replicate.mp hm
    exact Bd.zero
  · have e1 : ev Φ (.b1 .len (.var 1)) (eB P am at_ ot one 4) = some (nd am.length, eB P am at_ ot one 4) := ev_b1v rfl (by
      show some (PyData.int ((am.map rt).length : Nat)) = _
      rw [List.length_map]
      rfl)
    have e2 : ev Φ (.cons (.tup (.cons (.cst (.int 0)) (.cons (.cst (.int 1)) .nil))) .nil) (eB P am at_ ot one 4) = some (.tuple [rt 0], eB P am at_ ot one 4) := evl_cons (ev_tup (evl_cons rfl (evl_cons rfl evl_nil)) Iv.z2) evl_nil
    have e3 := ev_rep e2 (show [rt 0].length ≤ sizeLine from Iv.z1) e1 (rep_nought am.length (by rw [A.len]; exact h6))
    exact skip_ways (k := 0) (by decide) (exs_rtA (skip_ways (k := 1) (by decide) (exs_rtA (skip_ways (k := 2) (by decide) (exs_rtA (skip_ways (k := 3) (by decide) (exs_rtA (take_way (exs_ret e3)))))))))
def moreA (am : List Rat) (at_ ot : Nat) (m : Rat) : List Rat := am.zipIdx.map fun x => if x.2 = ot ∧ x.2 ≠ at_ then x.1 + m else x.1
theorem bent_way5 (A : Am0 us am) (h6 : us.length ≤ 6) (hΦ : ∀ i, i < 61 → Φ i = T i) (hat : at_ < us.length) {way : Nat} (hw : 4 < way) : ∃ am' e, Am us am' ∧ exs Φ bn0 (eB P am at_ ot (fn am at_) way) = some (.rt (rtl am') e) ∧ outs [.own false P, .sh (rtl am)] e = some [.own false P, .sh (rtl am)] := by
  have g1 := A.wd.at_ hat
  have hx := (A.wd.all _ g1.2).1
  have hx0 := (A.wd.all _ g1.2).2.2
  let m : Rat := fn am at_ * (((1 : Nat) : Rat) / ((2 : Nat) : Rat))
  have hm : ∀ D, 0 < D → (∀ q ∈ am, Bd D 19998 q) → Bd (D * 2) 19998 m := fun D hD hq => (frac_bd (a := 1) (hq _ g1.2) (by decide)).wide (by decide)
  have hm2 : m ≤ fn am at_ := by
    show fn am at_ * (((1 : Nat) : Rat) / ((2 : Nat) : Rat)) ≤ fn am at_
    generalize fn am at_ = y at hx0
    have : y * (((1 : Nat) : Rat) / ((2 : Nat) : Rat)) = y / 2 := by
      rw [show ((1 : Nat) : Rat) = 1 from rfl, show ((2 : Nat) : Rat) = 2 from rfl]
      grind
    rw [this]
    grind
  have fm : Fit m := by
    obtain ⟨D, h1, h2, h3⟩ := A.bd
    exact (hm D h1 h3).fit (by omega) (Nat.lt_of_lt_of_le (Nat.mul_lt_mul'' h2 (show 2 < 2 ^ 2 by decide)) (by rw [← Nat.pow_add]; exact Nat.pow_le_pow_right (by decide) (by decide))) (by decide)
  have ml : (moreA am at_ ot m).length = us.length := by unfold moreA; rw [List.length_map, List.length_zipIdx, A.len]
  refine ⟨(moreA am at_ ot m).set at_ (fn am at_ - m), [.own false P, .sh (rtl am), .sh (nd at_), .sh (nd ot), .sh (rt (fn am at_)), .sh (nd way), .un, .un, .sh (rtl ((moreA am at_ ot m).set at_ (fn am at_ - m))), .sh (rt m)], am_times A (k := 2) (by rw [List.length_set, ml]) (by decide) (by decide) fun D hD hq q hmem => ?_, ?_, rfl⟩
  · have b2 := hm D hD hq
    rcases List.mem_or_eq_of_mem_set hmem with h | h
    · obtain ⟨x, hx, rfl⟩ := List.mem_map.mp h
      have b1 := (hq _ (List.mem_of_getElem? (mem_ix hx))).times 2
      split
      · exact (b1.add b2).wide (by decide)
      · exact b1.wide (by decide)
    · subst h
      exact (((hq _ g1.2).times 2).sub b2 hm2).wide (by decide)
  · have c1 := (ltimes_raw (a := 1) (b := 2) hx (by decide) (by decide) (by decide)).on (hΦ 35 (by decide))
    have c2 := (lminus_ok hx fm).on (hΦ 37 (by decide))
    let E : Sl → Ev := fun f => [.own false P, .sh (rtl am), .sh (nd at_), .sh (nd ot), .sh (rt (fn am at_)), .sh (nd way), .un, .un, f, .sh (rt m)]
    have s1 : exs Φ (.asg (.nm 9) (.call 35 (.cons (.var 4) (.cons (.tup (.cons (.cst (.int 1)) (.cons (.cst (.int 2)) .nil))) .nil)))) (eB P am at_ ot (fn am at_) way) = some (.nx (E .un)) := (asg_nm (ev_call (evl_cons rfl (evl_cons (ev_tup (evl_cons rfl (evl_cons rfl evl_nil)) Iv.z2) evl_nil)) rfl rfl c1 rfl) rfl).trans rfl
    have e2 : ev Φ (.lc [("user", 6), ("amount", 7)] (.tp [6, 7]) .enm (.var 1) .noe .noe (.ite (.and (.cmp .eq (.var 6) (.var 3)) (.cmp .ne (.var 6) (.var 2))) (.call 36 (.cons (.var 7) (.cons (.var 9) .nil))) (.var 7))) (E .un) = some (rtl (moreA am at_ ot m), E .un) := by
      refine (ev_lcP (at2 rt) (fun _ => true) (fun x => rt (if x.2 = ot ∧ x.2 ≠ at_ then x.1 + m else x.1)) am.zipIdx (x := rtl am) (y := .none) rfl rfl (walk_enm_l rt am) (fun x hx => ?_) (sz (by rw [List.length_zipIdx, A.len]; omega))).trans ?_
      · refine ⟨[.own false P, .sh (rtl am), .sh (nd at_), .sh (nd ot), .sh (rt (fn am at_)), .sh (nd way), .sh (nd x.2), .sh (rt x.1), .un, .sh (rt m)], rfl, rfl, fun _ => ?_, rfl⟩
        have k1 : ev Φ (.cmp .eq (.var 6) (.var 3)) [.own false P, .sh (rtl am), .sh (nd at_), .sh (nd ot), .sh (rt (fn am at_)), .sh (nd way), .sh (nd x.2), .sh (rt x.1), .un, .sh (rt m)] = some (.bool (decide (x.2 = ot)), [.own false P, .sh (rtl am), .sh (nd at_), .sh (nd ot), .sh (rt (fn am at_)), .sh (nd way), .sh (nd x.2), .sh (rt x.1), .un, .sh (rt m)]) := ev_cmp' rfl rfl rfl rfl (cmp_nd x.2 ot)
        have k2 : ev Φ (.cmp .ne (.var 6) (.var 2)) [.own false P, .sh (rtl am), .sh (nd at_), .sh (nd ot), .sh (rt (fn am at_)), .sh (nd way), .sh (nd x.2), .sh (rt x.1), .un, .sh (rt m)] = some (.bool (!decide (x.2 = at_)), [.own false P, .sh (rtl am), .sh (nd at_), .sh (nd ot), .sh (rt (fn am at_)), .sh (nd way), .sh (nd x.2), .sh (rt x.1), .un, .sh (rt m)]) := ev_cmp' rfl rfl rfl rfl (by
          show (eqD (nd x.2) (nd at_)).map (!·) = _
          have : eqD (nd x.2) (nd at_) = some (decide (x.2 = at_)) := cmp_nd x.2 at_
          rw [this]
          rfl)
        have k3 := evl_and k1 k2 rfl
        have hx2 := (A.wd.all _ (List.mem_of_getElem? (mem_ix hx))).1
        have c3 := (lplus_ok hx2 fm).on (hΦ 36 (by decide))
        by_cases h : x.2 = ot ∧ x.2 ≠ at_
        · rw [decide_eq_true h.1, decide_eq_false h.2] at k3
          rw [if_pos h]
          exact ev_itet (by intro i q; cases q) k3 (ev_call (evl_cons rfl (evl_cons rfl evl_nil)) rfl rfl c3 rfl)
        · have : (decide (x.2 = ot) && !decide (x.2 = at_)) = false := by
            cases hb : (decide (x.2 = ot) && !decide (x.2 = at_)) with
            | false => rfl
            | true =>
              rw [Bool.and_eq_true, decide_eq_true_eq, Bool.not_eq_true', decide_eq_false_iff_not] at hb
              exact absurd hb h
          rw [this] at k3
          rw [if_neg h]
          exact ev_itef (by intro i q; cases q) k3 rfl
      · rw [all_true]
        unfold rtl moreA
        rw [List.map_map]
        rfl
    have s2 : exs Φ (.aso 8 (.lc [("user", 6), ("amount", 7)] (.tp [6, 7]) .enm (.var 1) .noe .noe (.ite (.and (.cmp .eq (.var 6) (.var 3)) (.cmp .ne (.var 6) (.var 2))) (.call 36 (.cons (.var 7) (.cons (.var 9) .nil))) (.var 7)))) (E .un) = some (.nx (E (.own true ((moreA am at_ ot m).map rt)))) := (exs_aso e2 rfl).trans rfl
    have e3 : ev Φ (.call 37 (.cons (.var 4) (.cons (.var 9) .nil))) (E (.own true ((moreA am at_ ot m).map rt))) = some (rt (fn am at_ - m), E (.own true ((moreA am at_ ot m).map rt))) := ev_call (evl_cons rfl (evl_cons rfl evl_nil)) rfl rfl c2 rfl
    have t1 := set_at6 (e := E (.own true ((moreA am at_ ot m).map rt))) (j := 8) (i := at_) (v := rt (fn am at_ - m)) (ds := (moreA am at_ ot m).map rt) rfl (by rw [List.length_map, ml]; exact hat)
    have s3 : exs Φ (.sub 8 (.var 2) (.call 37 (.cons (.var 4) (.cons (.var 9) .nil)))) (E (.own true ((moreA am at_ ot m).map rt))) = some (.nx (E (.own true (((moreA am at_ ot m).set at_ (fn am at_ - m)).map rt)))) := by
      rw [exs.eq_def]
      simp only [e3, show (ownAt (E (.own true ((moreA am at_ ot m).map rt))) 8).isSome = true from rfl, if_true, show ev Φ (.var 2) (E (.own true ((moreA am at_ ot m).map rt))) = some (nd at_, E (.own true ((moreA am at_ ot m).map rt))) from rfl, t1, Option.map_some]
      rw [List.map_set]
      rfl
    refine skip_ways (k := 0) (by omega) (exs_rtA (skip_ways (k := 1) (by omega) (exs_rtA (skip_ways (k := 2) (by omega) (exs_rtA (skip_ways (k := 3) (by omega) (exs_rtA (skip_ways (k := 4) (by omega) (exs_nx s1 (exs_nx s2 (exs_nx s3 (exs_ret ?_))))))))))))
    rfl
theorem outs_own {f : Bool} {x y : List D} {r : List Sl} {e : Ev} : outs (.own f x :: r) e = outs (.own f y :: r) e := by
  cases e with
  | nil => rfl
  | cons s t =>
    cases s with
    | own g z => cases g <;> rfl
    | _ => rfl
theorem bent_ok (A : Am0 us am) (l0 : 1 ≤ us.length) (h6 : us.length ≤ 6) (hP : Pot P) : ∃ (am' : List Rat) (P' : List D), T 61 [.own false P, .sh (rtl am)] = some (rtl am', [.own false P', .sh (rtl am)]) ∧ Pot P' ∧ Am us am' := by
  obtain ⟨Φ, hΦ, hT⟩ := tab_run (ds := k91_ds) (j := 61) (d := k91_d__law_bent) rfl
  have hΦ : ∀ i, i < 61 → Φ i = T i := hΦ
  obtain ⟨a, P1, c1, d1, hP1⟩ := draw_ok hP (us.length : Int) (by omega) (by omega)
  obtain ⟨o, P2, c2, d2, hP2⟩ := draw_ok hP1 (us.length : Int) (by omega) (by omega)
  obtain ⟨w, P3, c3, d3, hP3⟩ := draw_ok hP2 6 (by omega) (by omega)
  rw [← hΦ 0 (by decide)] at c1 c2 c3
  have c1 : Φ 0 [.own false P, .sh (nd us.length)] = some (nd a, [.own false P1, .sh (nd us.length)]) := c1
  have c2 : Φ 0 [.own false P1, .sh (nd us.length)] = some (nd o, [.own false P2, .sh (nd us.length)]) := c2
  have ha : a < us.length := by omega
  have ho : o < us.length := by omega
  have hl : b1D .len (rtl am) = some (nd us.length) := by
    show some (PyData.int ((am.map rt).length : Nat)) = _
    rw [List.length_map, A.len]
    rfl
  have g1 := A.wd.at_ ha
  have i1 : idxD (rtl am) (nd a) = some (rt (fn am a)) := idx_l rt g1.1
  have start : ∀ r, exs Φ (.consB bn0 (.consB (nthS 3 k91_b__law_bent) .nilB)) (eB P3 am a o (fn am a) w) = r → exs Φ k91_b__law_bent [.own false P, .sh (rtl am), .un, .un, .un, .un, .un, .un, .un, .un] = r := fun r hr => by
    refine exs_nx (e1 := [.own false P2, .sh (rtl am), .sh (nd a), .sh (nd o), .un, .un, .un, .un, .un, .un]) ?_ (exs_nx (e1 := eB P3 am a o (fn am a) w) ?_ hr)
    · exact exs_asp (evl_cons (ev_call (evl_cons rfl (evl_cons (ev_b1v rfl hl) evl_nil)) rfl rfl c1 rfl) (evl_cons (ev_call (evl_cons rfl (evl_cons (ev_b1v rfl hl) evl_nil)) rfl rfl c2 rfl) evl_nil)) rfl
    · exact exs_asp (evl_cons (ev_idxv rfl rfl i1) (evl_cons (ev_call (evl_cons rfl (evl_cons rfl evl_nil)) rfl rfl c3 rfl) evl_nil)) rfl
  have ret : ∀ am' e, exs Φ bn0 (eB P3 am a o (fn am a) w) = some (.rt (rtl am') e) → outs [.own false P3, .sh (rtl am)] e = some [.own false P3, .sh (rtl am)] → T 61 [.own false P, .sh (rtl am)] = some (rtl am', [.own false P3, .sh (rtl am)]) := fun am' e h ho => by
    have ho' : outs [.own false P, .sh (rtl am)] e = some [.own false P3, .sh (rtl am)] := by rw [← ho]; exact outs_own
    exact gv3 hT rfl (e := e) (start _ (exs_rtA h)) ho'
  have fin : ∀ (P' : List D) (q : Rat), exs Φ bn0 (eB P3 am a o (fn am a) w) = some (.nx (eB P' am a o q w)) → T 61 [.own false P, .sh (rtl am)] = some (rtl (bentA am a q), [.own false P', .sh (rtl am)]) := fun P' q h => by
    refine gv3 hT rfl (e := eB P' am a o q w) (start _ (exs_nx h (exs_rtA (bent_end A.wd h6)))) rfl
  have hw : w = 0 ∨ w = 1 ∨ w = 2 ∨ w = 3 ∨ w = 4 ∨ 4 < w := by omega
  rcases hw with rfl | rfl | rfl | rfl | rfl | hw
  · obtain ⟨P', q, k, h1, h2, h3, h4, h5⟩ := bent_way0 (Φ := Φ) (at_ := a) (ot := o) A hP3 hΦ g1.2
    exact ⟨_, P', fin P' q h5, h1, bentA_am A h2 h3 h4⟩
  · obtain ⟨P', q, k, h1, h2, h3, h4, h5⟩ := bent_way1 (Φ := Φ) (at_ := a) (ot := o) A hP3 hΦ g1.2
    exact ⟨_, P', fin P' q h5, h1, bentA_am A h2 h3 h4⟩
  · obtain ⟨am', h1, h2⟩ := bent_way2 (Φ := Φ) (P := P3) (at_ := a) (ot := o) (one := fn am a) A h6 hΦ
    exact ⟨am', P3, ret am' _ h2 rfl, hP3, h1⟩
  · obtain ⟨am', e, h1, h2, h3⟩ := bent_way3 (Φ := Φ) (P := P3) (at_ := a) (ot := o) (one := fn am a) A ha ho
    exact ⟨am', P3, ret am' _ h2 h3, hP3, h1⟩
  · obtain ⟨am', h1, h2⟩ := bent_way4 (Φ := Φ) (P := P3) (at_ := a) (ot := o) (one := fn am a) A h6
    exact ⟨am', P3, ret am' _ h2 rfl, hP3, h1⟩
  · obtain ⟨am', e, h1, h2, h3⟩ := bent_way5 (Φ := Φ) (P := P3) (at_ := a) (ot := o) A h6 hΦ ha (way := w) hw
    exact ⟨am', P3, ret am' _ h2 h3, hP3, h1⟩
end
end Iv
end
section
set_option Elab.async false
set_option linter.all false
set_option maxRecDepth 100000
set_option exponentiation.threshold 3000
set_option maxHeartbeats 4000000
namespace Iv
open PySem PySem.Spec L2
/-! k91: the last good needed as the first one is -/
theorem cut_last {α : Type} (xs : List α) : cutL xs none (some (-1)) = xs.dropLast := by
  unfold cutL
  rw [HT.sIx_none]
  have h : HT.sIx xs.length xs.length (some (-1)) = xs.length - 1 := by
    show (if (-1 : Int) < 0 then ((-1 : Int) + (xs.length : Int)).toNat else min ((-1 : Int)).toNat xs.length) = _
    rw [if_pos (by decide)]
    omega
  rw [h, List.drop_zero, Nat.sub_zero, List.dropLast_eq_take]
theorem sum_zero : ∀ {ns : List Nat}, (∀ n ∈ ns, n = 0) → ns.sum = 0
  | [], _ => rfl
  | n :: ns, h => by rw [List.sum_cons, h n List.mem_cons_self, sum_zero fun m hm => h m (List.mem_cons_of_mem _ hm)]
def swapU (u : U) : U := ⟨u.w, u.ns.dropLast ++ u.ns.take 1, u.want⟩
section
variable {Φ : Fn} {G : Nat} {us : List U} {ts : List Nat} {e : Ev}
theorem ev_slc0 {Φ : Fn} {a : Ex} {e e1 : Ev} {x : Op} {p d : D} {k : Int} (h : opd a (ev Φ a e) e = some (x, e1)) (hr : res e1 x = some p) (h2 : slcD none (some k) p = some d) : ev Φ (.slc a .noe (.cst (.int k))) e = some (d, e1) := by
  rw [ev.eq_def]
  simp only [h, show ev Φ .noe e1 = some (.none, e1) from rfl, show ev Φ (.cst (.int k)) e1 = some (.int k, e1) from rfl, hr, partOf, h2, Option.map_some]
theorem ev_slcm {Φ : Fn} {a : Ex} {e e1 : Ev} {x : Op} {p d : D} {k : Int} (h : opd a (ev Φ a e) e = some (x, e1)) (hr : res e1 x = some p) (h2 : slcD none (some (-k)) p = some d) : ev Φ (.slc a .noe (.neg (.cst (.int k)))) e = some (d, e1) := by
  rw [ev.eq_def]
  simp only [h, show ev Φ .noe e1 = some (.none, e1) from rfl, show ev Φ (.neg (.cst (.int k))) e1 = some (.int (-k), e1) from rfl, hr, partOf, h2, Option.map_some]
theorem ev_slc1 {Φ : Fn} {a : Ex} {e e1 : Ev} {x : Op} {p d : D} {k : Int} (h : opd a (ev Φ a e) e = some (x, e1)) (hr : res e1 x = some p) (h2 : slcD (some k) none p = some d) : ev Φ (.slc a (.cst (.int k)) .noe) e = some (d, e1) := by
  rw [ev.eq_def]
  simp only [h, show ev Φ .noe e1 = some (.none, e1) from rfl, show ev Φ (.cst (.int k)) e1 = some (.int k, e1) from rfl, hr, partOf, h2, Option.map_some]
theorem swap_len {u : U} (h : 1 ≤ u.ns.length) : (swapU u).ns.length = u.ns.length := by
  show (u.ns.dropLast ++ u.ns.take 1).length = _
  rw [List.length_append, List.length_dropLast, List.length_take]
  omega
/-- one user's needs, turned -/
theorem ev_swap {i : Nat} {u : U} (h : e[i]? = some (.sh (ud u))) (hl : u.ns.length ≤ 4) :
    ev Φ (.bin .add (.bin .add (.slc (.var i) .noe (.cst (.int 2))) (.tup (.cons (.bin .add (.slc (.idx (.var i) (.cst (.int 2))) .noe (.neg (.cst (.int 1)))) (.slc (.idx (.var i) (.cst (.int 2))) .noe (.cst (.int 1)))) .nil))) (.slc (.var i) (.cst (.int 3)) .noe)) e = some (ud (swapU u), e) := by
  have o1 : opd (.var i) (ev Φ (.var i) e) e = some (.s i, e) := by
    show (match e[i]? with
      | some (.sh _) => some (Op.s i, e)
      | some (.own _ _) => some (Op.s i, e)
      | _ => none) = _
    rw [h]
  have r1 : res e (.s i) = some (ud u) := by
    show (match e[i]? with
      | some (.sh d) => some d
      | some (.own _ ds) => some (PyData.list ds)
      | _ => none) = _
    rw [h]
  have v2 : ev Φ (.idx (.var i) (.cst (.int 2))) e = some (.tuple (u.ns.map nd), e) := by
    exact ev_idx' o1 (opd_nv (by intro i q; cases q) rfl) r1 rfl (show idxD (ud u) (.int 2) = some (.tuple (u.ns.map nd)) from rfl)
  have a1 := ev_slc0 (k := 2) o1 r1 (show slcD none (some 2) (ud u) = some (.tuple [.str "user", nd u.w]) from rfl)
  have a2 := ev_slcm (k := 1) (opd_nv (by intro i q; cases q) v2) rfl (show slcD none (some (-1)) (.tuple (u.ns.map nd)) = some (.tuple (u.ns.dropLast.map nd)) by
    show some (PyData.tuple (cutL (u.ns.map nd) none (some (-1)))) = _
    rw [cut_last, List.map_dropLast])
  have a3 := ev_slc0 (k := 1) (opd_nv (by intro i q; cases q) v2) rfl (show slcD none (some 1) (.tuple (u.ns.map nd)) = some (.tuple ((u.ns.take 1).map nd)) by
    show some (PyData.tuple (cutL (u.ns.map nd) none (some ((1 : Nat) : Int)))) = _
    rw [cut_to, List.map_take])
  have l1 : (u.ns.dropLast.map nd).length + ((u.ns.take 1).map nd).length ≤ sizeLine := by
    rw [List.length_map, List.length_map, List.length_dropLast, List.length_take]
    exact sz (by omega)
  have a4 := ev_bin' (o := .add) (opd_nv (by intro i q; cases q) a2) (opd_nv (by intro i q; cases q) a3) rfl rfl (add_tt _ _ l1)
  have a5 := ev_slc1 (k := 3) o1 r1 (show slcD (some 3) none (ud u) = some (.tuple [wd u.want]) from rfl)
  have a6 := ev_bin' (o := .add) (opd_nv (by intro i q; cases q) a1) (opd_nv (by intro i q; cases q) (ev_tup (evl_cons a4 evl_nil) Iv.z1)) rfl rfl (add_tt [.str "user", nd u.w] [.tuple (u.ns.dropLast.map nd ++ (u.ns.take 1).map nd)] (show 2 + 1 ≤ sizeLine from Iv.z3))
  have key : ∀ X : D, ev Φ (.bin .add (.slc (.var i) .noe (.cst (.int 2))) (.tup (.cons (.bin .add (.slc (.idx (.var i) (.cst (.int 2))) .noe (.neg (.cst (.int 1)))) (.slc (.idx (.var i) (.cst (.int 2))) .noe (.cst (.int 1)))) .nil))) e = some (.tuple [.str "user", nd u.w, X], e) →
      ev Φ (.bin .add (.bin .add (.slc (.var i) .noe (.cst (.int 2))) (.tup (.cons (.bin .add (.slc (.idx (.var i) (.cst (.int 2))) .noe (.neg (.cst (.int 1)))) (.slc (.idx (.var i) (.cst (.int 2))) .noe (.cst (.int 1)))) .nil))) (.slc (.var i) (.cst (.int 3)) .noe)) e = some (.tuple [.str "user", nd u.w, X, wd u.want], e) := fun X h =>
    ev_bin' (o := .add) (opd_nv (by intro i q; cases q) h) (opd_nv (by intro i q; cases q) a5) rfl rfl (add_tt [.str "user", nd u.w, X] [wd u.want] Iv.z4)
  refine (key _ a6).trans ?_
  rw [← List.map_append]
  rfl
theorem swap_vu {u : U} (hu : Vu G u) (g1 : 1 ≤ G) (hs : 0 < (swapU u).ns.sum) : Vu G (swapU u) := by
  refine ⟨hu.w0, hu.w1, by rw [swap_len (by rw [hu.len]; exact g1), hu.len], fun n hn => ?_, ?_, hu.want⟩
  · rcases List.mem_append.mp hn with h | h
    · exact hu.le n ((List.dropLast_sublist _).mem h)
    · exact hu.le n ((List.take_sublist _ _).mem h)
  · by_cases q : ∃ n ∈ (swapU u).ns, 0 < n
    · exact q
    · exfalso
      have : (swapU u).ns.sum = 0 := sum_zero fun n hn => by
        by_cases h0 : n = 0
        · exact h0
        · exact absurd ⟨n, hn, by omega⟩ q
      omega
def oneU (G : Nat) : U := ⟨1, List.replicate G 1, none⟩
theorem one_vu (g1 : 1 ≤ G) : Vu G (oneU G) := by
  refine ⟨Nat.le_refl _, (show 1 ≤ 9 by decide), List.length_replicate, fun n hn => ?_, ⟨1, List.mem_replicate.mpr ⟨by omega, rfl⟩, by decide⟩, fun v h => (by cases h)⟩
  rw [(List.mem_replicate.mp hn).2]
  decide
def turnU (us : List U) : List U := (us.map swapU).filter fun u => decide (0 < u.ns.sum)
def lastU (G : Nat) (us : List U) : List U := if turnU us = [] then [oneU G] else turnU us
def turnT (ts : List Nat) : List Nat := ts.dropLast ++ ts.take 1
theorem turnT_len (h : 1 ≤ ts.length) : (turnT ts).length = ts.length := by
  unfold turnT
  rw [List.length_append, List.length_dropLast, List.length_take]
  omega
theorem turnT_mem {t : Nat} (h : t ∈ turnT ts) : t ∈ ts := by
  rcases List.mem_append.mp h with h | h
  · exact (List.dropLast_sublist _).mem h
  · exact (List.take_sublist _ _).mem h
theorem turn_ps (p : Ps us ts) [t : Tn ts] : Ps (lastU ts.length us) (turnT ts) ∧ Tn (turnT ts) := by
  have g1 := p.vt.l0
  have hl := turnT_len (ts := ts) g1
  refine ⟨⟨?_, ?_, ?_, ⟨by rw [hl]; exact g1, by rw [hl]; exact p.vt.l1, fun x hx => p.vt.le x (turnT_mem hx)⟩⟩, ⟨fun x hx => t.le x (turnT_mem hx)⟩⟩
  · unfold lastU
    split
    · exact Nat.le_refl _
    · rename_i h
      exact List.length_pos_iff.mpr h
  · unfold lastU
    split
    · exact (by decide : 1 ≤ 6)
    · unfold turnU
      refine Nat.le_trans (List.length_filter_le _ _) ?_
      rw [List.length_map]
      exact p.l1
  · rw [hl]
    unfold lastU
    split
    · intro u hu
      simp at hu
      subst hu
      exact one_vu g1
    · intro u hu
      obtain ⟨h1, h2⟩ := List.mem_filter.mp hu
      obtain ⟨v, hv, rfl⟩ := List.mem_map.mp h1
      exact swap_vu (p.ok v hv) g1 (of_decide_eq_true h2)
/-! data -/
theorem nl_nd : ∀ ns : List Nat, nls (ns.map nd) = true
  | [] => rfl
  | n :: ns => by rw [List.map_cons, nls, nl_nd ns]; rfl
theorem nl_ud (u : U) : nl (ud u) = true := by
  have h1 : nl (wd u.want) = true := by cases u.want <;> rfl
  show (true && (true && ((nls (u.ns.map nd)) && (nl (wd u.want) && true)))) = true
  rw [nl_nd, h1]
  rfl
theorem nls_map {α : Type} {f : α → D} (h : ∀ x, nl (f x) = true) : ∀ xs : List α, nls (xs.map f) = true
  | [] => rfl
  | x :: xs => by rw [List.map_cons, nls, h x, nls_map h xs]; rfl
theorem nl_us (us : List U) : nl (usD us) = true := nls_map nl_ud us
theorem nl_ts (ts : List Nat) : nl (tsD ts) = true := nl_nd ts
theorem nl_rt (q : Rat) : nl (rt q) = true := rfl
theorem nls_rt (qs : List Rat) : nls (qs.map rt) = true := nls_map nl_rt qs
theorem nl_row (r : Rat × List Nat × List Nat) : nl (rowT r) = true := by
  show (true && (nls (r.2.1.map nd) && (nls (r.2.2.map nd) && true))) = true
  rw [nl_nd, nl_nd]
  rfl
theorem can_nd (ns : List Nat) : PyData.canLayAll0 (ns.map nd) = true := can_ix ns
theorem ud_shape (u : U) : (ud u).canLay0 = true ∧ (ud u).depth ≤ 2 := by
  have hw : (wd u.want).canLay0 = true ∧ (wd u.want).depth = 0 := by
    cases u.want <;> simp [wd, PyData.canLay0, PyData.depth]
  have hs : PyData.strOk (Str.ofString "user") = true := by decide +kernel
  unfold ud
  refine ⟨?_, ?_⟩
  · simp [PyData.canLay0, PyData.canLayAll0, can_ix, hw.1, nd, hs]
  · have := dep_ix u.ns
    simp [PyData.depth, PyData.depthAll, hw.2, nd] at this ⊢
    omega
theorem us_shape (us : List U) : SeqAt.shaped (usD us) = true := by
  unfold SeqAt.shaped usD
  rw [PyData.canLay0, can_all (fun d hd => by obtain ⟨u, _, rfl⟩ := List.mem_map.mp hd; exact (ud_shape u).1), PyData.depth]
  have := dep_all (k := 2) (ds := us.map ud) fun d hd => by obtain ⟨u, _, rfl⟩ := List.mem_map.mp hd; exact (ud_shape u).2
  rw [decide_eq_true (by omega)]
  rfl
theorem ne_us (us : List U) : cmpD .ne (usD us) (.tuple []) = some (!us.isEmpty) := by
  have h : cmpD .ne (usD us) (.tuple []) = (if SeqAt.shaped (usD us) && SeqAt.shaped (.tuple []) then some (PyData.eqv (usD us) (.tuple [])) else none).map (!·) := rfl
  have h2 : SeqAt.shaped (.tuple []) = true := us_shape []
  rw [h, us_shape, h2]
  cases us with
  | nil => simp [usD, PyData.eqv, PyData.eqvAll]
  | cons u r => simp [usD, PyData.eqv, PyData.eqvAll]
end
end Iv
end
section
set_option Elab.async false
set_option linter.all false
set_option maxRecDepth 100000
set_option exponentiation.threshold 3000
set_option maxHeartbeats 4000000
namespace Iv
open PySem PySem.Spec L2
/-! k91: what is drawn -/
abbrev rS (k : Nat) : Sm := nthS k k91_b__law_right
abbrev eR (P : List D) (great : Bool) (x2 x3 x4 x5 x6 x7 x8 x9 x10 x11 x12 x13 : Sl) : Ev := [.own false P, .sh (.bool great), x2, x3, x4, x5, x6, x7, x8, x9, x10, x11, x12, x13, .un, .un, .un]
section
variable {Φ : Fn} {P : List D} {great : Bool} {us : List U} {ts : List Nat} {x2 x3 x4 x5 x6 x7 x8 x9 x10 x11 x12 x13 : Sl}
theorem ev_great (x y : D) (a : Sl) (e : List Sl) : ev Φ (.ite (.var 1) (.cst x) (.cst y)) (a :: .sh (.bool great) :: e) = some (if great then x else y, a :: .sh (.bool great) :: e) := by
  cases great <;> simp [ev, opT, opd, res, truth]
theorem ev_great2 (x y z w : D) (a : Sl) (e : List Sl) : ev Φ (.ite (.var 1) (.lst (.cons (.cst x) (.cons (.cst y) .nil))) (.lst (.cons (.cst z) (.cons (.cst w) .nil)))) (a :: .sh (.bool great) :: e) = some (if great then .list [x, y] else .list [z, w], a :: .sh (.bool great) :: e) := by
  have h2 : (2 : Nat) ≤ sizeLine := Iv.z2
  cases great <;> simp [ev, opT, opd, res, truth, h2]
theorem r_draws (hP : Pot P) (hΦ : ∀ i, i < 63 → Φ i = T i) : ∃ (P' : List D) (great : Bool) (us : List U) (ts : List Nat), Pot P' ∧ Ps us ts ∧ Tn ts ∧
    ∀ b o, exs Φ b (eR P' great (.sh (usD us)) (.sh (tsD ts)) .un .un .un .un .un .un .un .un .un .un) = o → exs Φ (.consB (rS 0) (.consB (rS 1) (.consB (rS 2) b))) [.own false P, .un, .un, .un, .un, .un, .un, .un, .un, .un, .un, .un, .un, .un, .un, .un, .un] = o := by
  obtain ⟨d0, P0, c0, k0, hP0⟩ := draw_ok hP 8 (by omega) (by omega)
  obtain ⟨d1, P1, c1, k1, hP1⟩ := draw_ok hP0 6 (by omega) (by omega)
  obtain ⟨d2, P2, c2, k2, hP2⟩ := draw_ok hP1 4 (by omega) (by omega)
  rw [← hΦ 0 (by decide)] at c0 c1 c2
  obtain ⟨us, P3, c3, hP3, ul, uok⟩ := lusers_ok hP2 (G := 1 + d2) (most := if decide (d0 = 0) then 99 else 9) (many := 1 + d1) (by omega) (by omega) (by omega) (by split <;> decide) (by split <;> decide)
  rw [← hΦ 2 (by decide)] at c3
  obtain ⟨ts, P4, c4, hP4, tl, tok⟩ := ltotals_ok hP3 (G := 1 + d2) (us := us) (m1 := if decide (d0 = 0) then 99 else 9) (m2 := if decide (d0 = 0) then 9999 else 99) (by omega) (by omega) (by omega) (by omega) uok (by split <;> decide) (by split <;> decide)
  rw [← hΦ 3 (by decide)] at c4
  refine ⟨P4, decide (d0 = 0), us, ts, hP4, ⟨by omega, by omega, by rw [tl]; exact uok, ⟨by omega, by omega, fun t ht => ⟨(tok t ht).1, Nat.le_trans (tok t ht).2 (by decide)⟩⟩⟩, ⟨fun t ht => (tok t ht).2⟩, fun b o ho => ?_⟩
  refine exs_nx (e1 := eR P0 (decide (d0 = 0)) .un .un .un .un .un .un .un .un .un .un .un .un) ?_ (exs_nx (e1 := eR P3 (decide (d0 = 0)) (.sh (usD us)) .un .un .un .un .un .un .un .un .un .un .un) ?_ (exs_nx (e1 := eR P4 (decide (d0 = 0)) (.sh (usD us)) (.sh (tsD ts)) .un .un .un .un .un .un .un .un .un .un) ?_ ho))
  · refine (asg_nm (ev_cmp' (opd_nv (by intro i q; cases q) (ev_call (evl_cons rfl (evl_cons rfl evl_nil)) rfl rfl c0 rfl)) (opd_nv (by intro i q; cases q) rfl) rfl rfl (cmp_nd d0 0)) rfl).trans rfl
  · have a1 : ev Φ (.bin .add (.cst (.int 1)) (.call 0 (.cons (.mu 0) (.cons (.cst (.int 6)) .nil)))) (eR P0 (decide (d0 = 0)) .un .un .un .un .un .un .un .un .un .un .un .un) = some (nd (1 + d1), eR P1 (decide (d0 = 0)) .un .un .un .un .un .un .un .un .un .un .un .un) := ev_bin' (opd_nv (by intro i q; cases q) rfl) (opd_nv (by intro i q; cases q) (ev_call (evl_cons rfl (evl_cons rfl evl_nil)) rfl rfl c1 rfl)) rfl rfl (add_nd 1 d1)
    have a2 : ev Φ (.bin .add (.cst (.int 1)) (.call 0 (.cons (.mu 0) (.cons (.cst (.int 4)) .nil)))) (eR P1 (decide (d0 = 0)) .un .un .un .un .un .un .un .un .un .un .un .un) = some (nd (1 + d2), eR P2 (decide (d0 = 0)) .un .un .un .un .un .un .un .un .un .un .un .un) := ev_bin' (opd_nv (by intro i q; cases q) rfl) (opd_nv (by intro i q; cases q) (ev_call (evl_cons rfl (evl_cons rfl evl_nil)) rfl rfl c2 rfl)) rfl rfl (add_nd 1 d2)
    have a3 := ev_great (Φ := Φ) (great := decide (d0 = 0)) (.int 99) (.int 9) (.own false P2) [.un, .un, .un, .un, .un, .un, .un, .un, .un, .un, .un, .un, .un, .un, .un]
    have e3 : (if decide (d0 = 0) then PyData.int 99 else PyData.int 9) = nd (if decide (d0 = 0) then 99 else 9) := by split <;> rfl
    rw [e3] at a3
    exact (asg_nm (ev_call (evl_cons rfl (evl_cons a1 (evl_cons a2 (evl_cons a3 evl_nil)))) rfl rfl c3 rfl) rfl).trans rfl
  · have a3 := ev_great2 (Φ := Φ) (great := decide (d0 = 0)) (.int 99) (.int 9999) (.int 9) (.int 99) (.own false P3) [.sh (usD us), .un, .un, .un, .un, .un, .un, .un, .un, .un, .un, .un, .un, .un, .un]
    have e3 : (if decide (d0 = 0) then PyData.list [.int 99, .int 9999] else PyData.list [.int 9, .int 99]) = .list [nd (if decide (d0 = 0) then 99 else 9), nd (if decide (d0 = 0) then 9999 else 99)] := by split <;> rfl
    rw [e3] at a3
    exact (asg_nm (ev_call (evl_cons rfl (evl_cons rfl (evl_cons a3 evl_nil))) rfl rfl c4 rfl) rfl).trans rfl
abbrev eT (P : List D) (great : Bool) (us : List U) (ts : List Nat) : Ev := eR P great (.sh (usD us)) (.sh (tsD ts)) .un .un .un .un .un .un .un .un .un .un
theorem len_ts (ts : List Nat) : b1D .len (tsD ts) = some (nd ts.length) := by
  show some (PyData.int ((ts.map nd).length : Nat)) = _
  rw [List.length_map]
  rfl
theorem sum_nd (ns : List Nat) : b1D .sum (.tuple (ns.map nd)) = some (nd ns.sum) := by
  show (intsOf (ns.map nd)).map (fun ns => PyData.int ns.sum) = _
  rw [ints_nd (fun n => n) ns]
  show some (PyData.int ((ns.map fun n : Nat => (n : Int)).sum)) = _
  rw [sum_cast]
  rfl
theorem r_turn (p : Ps us ts) [Tn ts] (h2 : 1 < ts.length) : exs Φ (thS (rS 3)) (eT P great us ts) = some (.nx (eT P great (lastU ts.length us) (turnT ts))) := by
  have l1 := p.l1
  have l4 := p.vt.l1
  have g1 := p.vt.l0
  -- the needs turned
  have e1 : ev Φ (.b1 .tup (.lc [("user", 15)] (.nm 15) .walk (.var 2) .noe .noe (.bin .add (.bin .add (.slc (.var 15) .noe (.cst (.int 2))) (.tup (.cons (.bin .add (.slc (.idx (.var 15) (.cst (.int 2))) .noe (.neg (.cst (.int 1)))) (.slc (.idx (.var 15) (.cst (.int 2))) .noe (.cst (.int 1)))) .nil))) (.slc (.var 15) (.cst (.int 3)) .noe)))) (eT P great us ts) = some (usD (us.map swapU), eT P great us ts) := by
    have hlc := ev_lcP (Φ := Φ) (own := [("user", 15)]) (g := .nm 15) (k := .walk) (a := .var 2) (b := .noe) (c := .noe) (f := .bin .add (.bin .add (.slc (.var 15) .noe (.cst (.int 2))) (.tup (.cons (.bin .add (.slc (.idx (.var 15) (.cst (.int 2))) .noe (.neg (.cst (.int 1)))) (.slc (.idx (.var 15) (.cst (.int 2))) .noe (.cst (.int 1)))) .nil))) (.slc (.var 15) (.cst (.int 3)) .noe))
      (e := eT P great us ts) ud (fun _ => true) (fun u => ud (swapU u)) us (x := usD us) (y := .none) rfl rfl rfl (fun u hu => ⟨_, rfl, rfl, fun _ => ev_swap (i := 15) rfl (by rw [(p.ok u hu).len]; exact l4), rfl⟩) (sz (by omega))
    rw [all_true] at hlc
    refine ev_b1 (by intro i q; cases q) hlc ?_
    show some (PyData.tuple (us.map fun u => ud (swapU u))) = _
    unfold usD
    rw [List.map_map]
    rfl
  -- who needs something
  have e2 : ev Φ (.b1 .tup (.lc [("user", 15)] (.nm 15) .walk (.var 2) .noe (.cmp .gt (.b1 .sum (.idx (.var 15) (.cst (.int 2)))) (.cst (.int 0))) (.var 15))) (eT P great (us.map swapU) ts) = some (usD (turnU us), eT P great (us.map swapU) ts) := by
    have hlc := ev_lcP (Φ := Φ) (own := [("user", 15)]) (g := .nm 15) (k := .walk) (a := .var 2) (b := .noe) (c := .cmp .gt (.b1 .sum (.idx (.var 15) (.cst (.int 2)))) (.cst (.int 0))) (f := .var 15)
      (e := eT P great (us.map swapU) ts) ud (fun u => decide (0 < u.ns.sum)) ud (us.map swapU) (x := usD (us.map swapU)) (y := .none) rfl rfl rfl (fun u hu => by
        refine ⟨eR P great (.sh (usD (us.map swapU))) (.sh (tsD ts)) .un .un .un .un .un .un .un .un .un .un |>.set 15 (.sh (ud u)), rfl, ?_, fun _ => rfl, rfl⟩
        have v2 : ev Φ (.idx (.var 15) (.cst (.int 2))) (eR P great (.sh (usD (us.map swapU))) (.sh (tsD ts)) .un .un .un .un .un .un .un .un .un .un |>.set 15 (.sh (ud u))) = some (.tuple (u.ns.map nd), _) := rfl
        exact lcT_bool (by intro i q; cases q) (by intro q; cases q) (ev_cmp' (opd_nv (by intro i q; cases q) (ev_b1 (by intro i q; cases q) v2 (sum_nd u.ns))) (opd_nv (by intro i q; cases q) rfl) rfl rfl (gt_nd _))) (sz (by rw [List.length_map]; omega))
    exact ev_b1 (by intro i q; cases q) hlc rfl
  have e3 : ev Φ (.bin .add (.slc (.var 3) .noe (.neg (.cst (.int 1)))) (.slc (.var 3) .noe (.cst (.int 1)))) (eT P great (us.map swapU) ts) = some (tsD (turnT ts), eT P great (us.map swapU) ts) := by
    have a1 := ev_slcm (Φ := Φ) (a := .var 3) (e := eT P great (us.map swapU) ts) (x := .s 3) (k := 1) rfl rfl (show slcD none (some (-1)) (tsD ts) = some (.tuple (ts.dropLast.map nd)) by
      show some (PyData.tuple (cutL (ts.map nd) none (some (-1)))) = _
      rw [cut_last, List.map_dropLast])
    have a2 := ev_slc0 (Φ := Φ) (a := .var 3) (e := eT P great (us.map swapU) ts) (x := .s 3) (k := 1) rfl rfl (show slcD none (some 1) (tsD ts) = some (.tuple ((ts.take 1).map nd)) by
      show some (PyData.tuple (cutL (ts.map nd) none (some ((1 : Nat) : Int)))) = _
      rw [cut_to, List.map_take])
    refine (ev_bin' (o := .add) (opd_nv (by intro i q; cases q) a1) (opd_nv (by intro i q; cases q) a2) rfl rfl (add_tt _ _ ?_)).trans ?_
    · rw [List.length_map, List.length_map, List.length_dropLast, List.length_take]
      exact sz (by omega)
    · rw [← List.map_append]
      rfl
  have e4 : ev Φ (.cmp .ne (.var 2) (.tup .nil)) (eT P great (turnU us) (turnT ts)) = some (.bool (!(turnU us).isEmpty), eT P great (turnU us) (turnT ts)) := ev_cmp' rfl (opd_nv (by intro i q; cases q) (ev_tup evl_nil (Nat.zero_le _))) rfl rfl (ne_us _)
  have e5 : ev Φ (.ite (.cmp .ne (.var 2) (.tup .nil)) (.var 2) (.tup (.cons (.tup (.cons (.cst (.str "user")) (.cons (.cst (.int 1)) (.cons (.bin .mul (.tup (.cons (.cst (.int 1)) .nil)) (.b1 .len (.var 3))) (.cons (.cst .none) .nil))))) .nil))) (eT P great (turnU us) (turnT ts)) = some (usD (lastU ts.length us), eT P great (turnU us) (turnT ts)) := by
    unfold lastU
    by_cases hE : turnU us = []
    · rw [if_pos hE]
      have hb : (!(turnU us).isEmpty) = false := by rw [hE]; rfl
      rw [hb] at e4
      refine ev_itef (by intro i q; cases q) e4 ?_
      have lt : b1D .len (tsD (turnT ts)) = some (nd ts.length) := by rw [len_ts, turnT_len g1]
      have m1 : binD .mul (.tuple [.int 1]) (nd ts.length) = some (.tuple ((List.replicate ts.length 1).map nd)) := by
        have e : ((ts.length : Int)).toNat = ts.length := by omega
        show (if [PyData.int 1] ≠ [] ∧ 2 ≤ (ts.length : Int) ∧ (ts.length : Int) ≤ 1000 ∧ [PyData.int 1].length ≤ 1000 then some (PyData.tuple (List.replicate ((ts.length : Int)).toNat [PyData.int 1]).flatten) else none) = _
        rw [if_pos ⟨by simp, by omega, by omega, by simp⟩, e]
        congr 2
        generalize ts.length = n
        induction n with
        | zero => rfl
        | succ n ih => rw [List.replicate_succ, List.replicate_succ, List.flatten_cons, ih]; rfl
      have a1 := ev_bin' (Φ := Φ) (o := .mul) (a := .tup (.cons (.cst (.int 1)) .nil)) (b := .b1 .len (.var 3)) (e := eT P great (turnU us) (turnT ts)) (opd_nv (by intro i q; cases q) (ev_tup (evl_cons rfl evl_nil) Iv.z1)) (opd_nv (by intro i q; cases q) (ev_b1v rfl lt)) rfl rfl m1
      exact ev_tup (evl_cons (ev_tup (evl_cons rfl (evl_cons rfl (evl_cons a1 (evl_cons rfl evl_nil)))) Iv.z4) evl_nil) Iv.z1
    · rw [if_neg hE]
      have hb : (!(turnU us).isEmpty) = true := by
        cases h : turnU us with
        | nil => exact absurd h hE
        | cons => rfl
      rw [hb] at e4
      exact ev_itet (by intro i q; cases q) e4 rfl
  exact exs_nx ((asg_nm e1 rfl).trans rfl) (exs_nx (e1 := eT P great (turnU us) (turnT ts)) (exs_asp (evl_cons e2 (evl_cons e3 evl_nil)) rfl) (exs_nx ((asg_nm e5 rfl).trans rfl) rfl))
theorem r_begin (hP : Pot P) (hΦ : ∀ i, i < 63 → Φ i = T i) : ∃ (P' : List D) (great : Bool) (us : List U) (ts : List Nat), Pot P' ∧ Ps us ts ∧ Tn ts ∧
    ∀ b o, exs Φ b (eT P' great us ts) = o → exs Φ (.consB (rS 0) (.consB (rS 1) (.consB (rS 2) (.consB (rS 3) b)))) [.own false P, .un, .un, .un, .un, .un, .un, .un, .un, .un, .un, .un, .un, .un, .un, .un, .un] = o := by
  obtain ⟨P1, great, us, ts, hP1, p, tn, h⟩ := r_draws hP hΦ
  obtain ⟨d, P2, c, hd, hP2⟩ := draw_ok hP1 3 (by omega) (by omega)
  rw [← hΦ 0 (by decide)] at c
  have k1 : ev Φ (.cmp .gt (.b1 .len (.var 3)) (.cst (.int 1))) (eT P1 great us ts) = some (.bool (decide ((1 : Int) < (ts.length : Int))), eT P1 great us ts) := ev_cmp' (opd_nv (by intro i q; cases q) (ev_b1v rfl (len_ts ts))) (opd_nv (by intro i q; cases q) rfl) rfl rfl rfl
  have k2 : ev Φ (.cmp .eq (.call 0 (.cons (.mu 0) (.cons (.cst (.int 3)) .nil))) (.cst (.int 0))) (eT P1 great us ts) = some (.bool (decide (d = 0)), eT P2 great us ts) := ev_cmp' (opd_nv (by intro i q; cases q) (ev_call (evl_cons rfl (evl_cons rfl evl_nil)) rfl rfl c rfl)) (opd_nv (by intro i q; cases q) rfl) rfl rfl (cmp_nd d 0)
  by_cases hg : (1 : Int) < (ts.length : Int)
  · rw [decide_eq_true hg] at k1
    have k3 := ev_andt k1 k2
    by_cases h0 : d = 0
    · rw [decide_eq_true h0] at k3
      obtain ⟨p2, t2⟩ := turn_ps p
      refine ⟨P2, great, _, _, hP2, p2, t2, fun b o ho => h _ o (exs_nx ((exs_ift (by intro i q; cases q) k3).trans (r_turn p (by omega))) ho)⟩
    · rw [decide_eq_false h0] at k3
      exact ⟨P2, great, us, ts, hP2, p, tn, fun b o ho => h _ o (exs_nx ((exs_iff (by intro i q; cases q) k3).trans rfl) ho)⟩
  · rw [decide_eq_false hg] at k1
    have k3 : ev Φ (.and (.cmp .gt (.b1 .len (.var 3)) (.cst (.int 1))) (.cmp .eq (.call 0 (.cons (.mu 0) (.cons (.cst (.int 3)) .nil))) (.cst (.int 0)))) (eT P1 great us ts) = some (.bool false, eT P1 great us ts) := by
      rw [ev.eq_def]
      simp only [k1]
    exact ⟨P1, great, us, ts, hP1, p, tn, fun b o ho => h _ o (exs_nx ((exs_iff (by intro i q; cases q) k3).trans rfl) ho)⟩
end
end Iv
end
section
set_option Elab.async false
set_option linter.all false
set_option maxRecDepth 100000
set_option exponentiation.threshold 3000
set_option maxHeartbeats 4000000
namespace Iv
open PySem PySem.Spec L2
/-! k91: what is told can be shown -/
section
variable {Φ : Fn} {us : List U} {ts : List Nat} {am : List Rat} [Tn ts]
def FitR (r : Rat × List Nat × List Nat) : Prop := Fit r.1 ∧ r.2.1.length ≤ 4 ∧ (∀ g ∈ r.2.1, g ≤ 4) ∧ r.2.2.length ≤ 6 ∧ ∀ i ∈ r.2.2, i ≤ 6
theorem fillR_fit {L : Nat} (B : (flOf us ts).Bs L) (h4 : ts.length ≤ 4) (h6 : us.length ≤ 6) : ∀ (k : Nat) (R : List Nat) (am : List Rat) (l : Nat → Rat) (c : Rat) (M : Nat), (flOf us ts).St L R (fn am) l c M → am.length = us.length → ∀ ρ ∈ fillR us ts k R am, FitR ρ
  | 0, R, am, l, c, M, A, hl, ρ, h => by cases h
  | k + 1, [], am, l, c, M, A, hl, ρ, h => by cases h
  | k + 1, i :: R, am, l, c, M, A, hl, ρ, h => by
    rcases List.mem_cons.mp h with rfl | h
    · have hm := (Fl.mark_spec B.ok A.at_ (by simp)).2
      refine ⟨cand_fit B A (by simp) hm, ?_, fun g hg => ?_, ?_, fun j hj => ?_⟩
      · show ((List.range ts.length).filter _).length ≤ 4
        refine Nat.le_trans (List.length_filter_le _ _) ?_
        rw [List.length_range]
        exact h4
      · have := List.mem_range.mp (List.mem_filter.mp hg).1
        have : g < ts.length := this
        omega
      · show ((i :: R).filter _).length ≤ 6
        exact Nat.le_trans (List.length_filter_le _ _) A.r6
      · have := A.at_.lt j (Fl.stp_mem hj)
        have : j < us.length := this
        omega
    · obtain ⟨l', M', A', _⟩ := Fl.next B A (by simp)
      rw [← fn_am2 hl (fun j hj => A.at_.lt j hj)] at A'
      exact fillR_fit B h4 h6 k _ _ _ _ _ A' (by rw [setA_len, hl]) ρ h
theorem rows_fit (p : Ps us ts) : ∀ ρ ∈ rowsR us ts, FitR ρ := by
  obtain ⟨L, B⟩ := p.bs
  have first := Fl.first B
  rw [show (flOf us ts).n = us.length from rfl, ← fn_zero us.length] at first
  exact fillR_fit B p.vt.l1 p.l1 _ _ _ _ _ _ first List.length_replicate
theorem fillR_len : ∀ (k : Nat) (R : List Nat) (am : List Rat), (fillR us ts k R am).length ≤ k
  | 0, _, _ => Nat.le_refl _
  | _ + 1, [], _ => Nat.zero_le _
  | k + 1, i :: R, am => Nat.succ_le_succ (fillR_len k _ _)
theorem rp_ix {ns : List Nat} {m : Nat} (hl : ns.length ≤ m) (h : ∀ n ∈ ns, n ≤ 19998) : RP 1 (m * (1921 + 2) + 3) (.tuple (ns.map nd)) := by
  have := RP.tup (k := 0) (m := 1921) (ds := ns.map nd) (fun d hd => by
    obtain ⟨n, hn, rfl⟩ := List.mem_map.mp hd
    exact rp_nd (h n hn))
  refine this.up (Nat.le_refl _) ?_
  rw [List.length_map]
  have := Nat.mul_le_mul_right (1921 + 2) hl
  omega
theorem rp_row {r : Rat × List Nat × List Nat} (h : FitR r) : RP 2 34632 (rowT r) := by
  obtain ⟨h1, h2, h3, h4, h5⟩ := h
  have := RP.tup (k := 1) (m := 11541) (ds := [rt r.1, .tuple (r.2.1.map nd), .tuple (r.2.2.map nd)]) (fun d hd => by
    simp at hd
    rcases hd with rfl | rfl | rfl
    · exact (rp_rt h1).up (Nat.le_refl _) (by decide)
    · exact (rp_ix h2 fun g hg => Nat.le_trans (h3 g hg) (by decide)).up (Nat.le_refl _) (by decide)
    · exact (rp_ix h4 fun g hg => Nat.le_trans (h5 g hg) (by decide)).up (Nat.le_refl _) (by decide))
  exact this
theorem rp_rows (p : Ps us ts) : RP 3 207807 (.list (rowsOf us ts)) := by
  rw [rows_eq]
  have := RP.list (k := 2) (m := 34632) (ds := (rowsR us ts).map rowT) (fun d hd => by
    obtain ⟨r, hr, rfl⟩ := List.mem_map.mp hd
    exact rp_row (rows_fit p r hr))
  refine this.up (Nat.le_refl _) ?_
  rw [List.length_map]
  have h1 : (rowsR us ts).length ≤ 6 := Nat.le_trans (fillR_len _ _ _) p.l1
  have := Nat.mul_le_mul_right (34632 + 2) h1
  omega
theorem hdG_le (p : Ps us ts) {i : Nat} : hdG us ts am i ≤ 19998 := by
  unfold hdG
  cases h : (spent us ts am).filter (botB us ts am i) with
  | nil => exact Nat.zero_le _
  | cons a r =>
    have : a ∈ (spent us ts am).filter (botB us ts am i) := by rw [h]; exact List.mem_cons_self
    have := spent_lt (List.mem_filter.mp this).1
    have := p.vt.l1
    show a ≤ 19998
    omega
theorem rp_want : RP 0 6 wantD := ⟨rfl, rfl, Nat.le_of_eq (by simp [wantD, PyData.depth]), by decide +kernel⟩
theorem rp_head (p : Ps us ts) : RP 1 11541 (.list (headE us ts am)) := by
  have := RP.list (k := 0) (m := 1921) (ds := headE us ts am) (fun d hd => by
    obtain ⟨i, hi, rfl⟩ := List.mem_map.mp hd
    split
    · exact rp_want.up (Nat.le_refl _) (by decide)
    · exact rp_nd (hdG_le p))
  refine this.up (Nat.le_refl _) ?_
  have h1 : (headE us ts am).length = us.length := by unfold headE; rw [List.length_map, List.length_range]
  rw [h1]
  have := Nat.mul_le_mul_right (1921 + 2) p.l1
  omega
theorem rep_two (p : Ps us ts) : b1D .repr (.list [rtl (amsOf us ts), .list (rowsOf us ts)]) = some (.str (PyData.list [rtl (amsOf us ts), .list (rowsOf us ts)]).shown) := by
  have A := Am.ams p
  have := RP.list (k := 3) (m := 207807) (ds := [rtl (amsOf us ts), .list (rowsOf us ts)]) (fun d hd => by
    simp at hd
    rcases hd with rfl | rfl
    · exact (rp_rts (by rw [ams_len]; exact p.l1) fun q hq => (A.all q hq).1).up (by decide) (by decide)
    · exact rp_rows p)
  exact this.repr (by decide) (show 2 * (207807 + 2) + 3 ≤ sizeLine by decide)
theorem rep_three (p : Ps us ts) : b1D .repr (.list [rtl (amsOf us ts), .list (rowsOf us ts), .list (headE us ts (amsOf us ts))]) = some (.str (PyData.list [rtl (amsOf us ts), .list (rowsOf us ts), .list (headE us ts (amsOf us ts))]).shown) := by
  have A := Am.ams p
  have := RP.list (k := 3) (m := 207807) (ds := [rtl (amsOf us ts), .list (rowsOf us ts), .list (headE us ts (amsOf us ts))]) (fun d hd => by
    simp at hd
    rcases hd with rfl | rfl | rfl
    · exact (rp_rts (by rw [ams_len]; exact p.l1) fun q hq => (A.all q hq).1).up (by decide) (by decide)
    · exact rp_rows p
    · exact (rp_head p).up (by decide) (by decide))
  exact this.repr (by decide) (show 3 * (207807 + 2) + 3 ≤ sizeLine by decide)
theorem rep_head (p : Ps us ts) : b1D .repr (.list (headE us ts (amsOf us ts))) = some (.str (PyData.list (headE us ts (amsOf us ts))).shown) := (rp_head p).repr (by decide) (by decide)
theorem nls_rows : nls (rowsOf us ts) = true := by rw [rows_eq]; exact nls_map nl_row _
theorem nls_head : nls (headE us ts am) = true := nls_map (fun i => by split <;> rfl) _
/-! steps -/
theorem ev_fl {Φ : Fn} {a b : Ex} {e e0 e1 : Ev} {ds : List D} (hm : e.map mskS = e0) (h : ev Φ a e0 = some (.list ds, e1)) (hn : nls ds = true) : ev Φ (.m1 .fl a b) e = some (.list ds, e) := by
  subst hm
  rw [ev.eq_def]
  simp only [h, hn, if_true]
theorem ev_scr {Φ : Fn} {a b : Ex} {e e0 e1 : Ev} {d : D} (hm : e.map frzS = e0) (h : ev Φ a e0 = some (d, e1)) (hf : flat d = true) : ev Φ (.m1 .scr a b) e = some (d, e) := by
  subst hm
  rw [ev.eq_def]
  simp only [h, hf, if_true]
theorem ev_b1o {Φ : Fn} {b : B1} {i : Nat} {e : Ev} {fz : Bool} {ds : List D} {d : D} (h : e[i]? = some (.own fz ds)) (h2 : b1D b (.list ds) = some d) : ev Φ (.b1 b (.var i)) e = some (d, e) := by
  simp only [ev, op1, opd, h, res, h2, Option.map_some]
theorem msk_sh' {d : D} (h : nl d = true) : mskS (.sh d) = .sh d := by
  show (if nl d then Sl.sh d else .un) = _
  rw [h]
  rfl
end
end Iv
end
section
set_option Elab.async false
set_option linter.all false
set_option maxRecDepth 100000
set_option exponentiation.threshold 3000
set_option maxHeartbeats 4000000
namespace Iv
open PySem PySem.Spec L2
theorem ev_slc' {Φ : Fn} {a lo hi : Ex} {e e1 e2 e3 : Ev} {x : Op} {l h p d : D} {pl ph : Option Int} (h0 : opd a (ev Φ a e) e = some (x, e1)) (h1 : ev Φ lo e1 = some (l, e2)) (h2 : ev Φ hi e2 = some (h, e3)) (hr : res e3 x = some p) (p1 : partOf lo l = some pl) (p2 : partOf hi h = some ph) (h3 : slcD pl ph p = some d) : ev Φ (.slc a lo hi) e = some (d, e3) := by
  rw [ev.eq_def]
  simp only [h0, h1, h2, hr, p1, p2, h3, Option.map_some]
theorem for_exc {α Z : Type} {g : Tg} {f : Ev → Option Out} (φ : α → D) (env : Z → Ev) (ok : Z → Prop) : ∀ (xs : List α) (k : Nat) (z : Z), ok z →
    (∀ (i : Nat) (x : α) (z : Z), xs[i]? = some x → ok z → tgOk (env z) g = true ∧ ∃ e1 z', bindT g (φ x) (env z) = some e1 ∧ (f e1 = some (.nx (env z')) ∨ f e1 = some (.ct (env z'))) ∧ ok z') →
    ∃ z', ok z' ∧ forGo g f (xs.map φ) (env z) = some (.nx (env z'))
  | [], k, z, hz, _ => ⟨z, hz, rfl⟩
  | x :: xs, k, z, hz, h => by
    obtain ⟨h1, e1, z', h2, h3, h4⟩ := h 0 x z rfl hz
    obtain ⟨z2, g1, g2⟩ := for_exc φ env ok xs (k + 1) z' h4 fun i y w hy hw => h (i + 1) y w hy hw
    refine ⟨z2, g1, ?_⟩
    rw [List.map_cons, forGo, if_pos h1]
    rcases h3 with h3 | h3 <;> simp only [h2, h3, g2]
theorem ints_mapF {α : Type} (f : α → Int) : ∀ xs : List α, intsOf (xs.map fun x => PyData.int (f x)) = some (xs.map f)
  | [] => rfl
  | x :: xs => by
    show (intsOf (xs.map fun x => PyData.int (f x))).map (f x :: ·) = _
    rw [ints_mapF f xs]
    rfl
section
variable {Φ : Fn} {P : List D} {great : Bool} {us : List U} {ts : List Nat} [Tn ts]
def dueD (us : List U) (ts : List Nat) : D := .tuple [rtl (amsOf us ts), .list (rowsOf us ts)]
def shownD (us : List U) (ts : List Nat) : D := .str (PyData.list [usD us, tsD ts]).shown
abbrev eU (P : List D) (great : Bool) (us : List U) (ts : List Nat) (x6 x7 x8 x9 x10 x11 x12 x13 : Sl) : Ev := eR P great (.sh (usD us)) (.sh (tsD ts)) (.sh (shownD us ts)) (.sh (dueD us ts)) x6 x7 x8 x9 x10 x11 x12 x13
theorem r4 (p : Ps us ts) (hΦ : ∀ i, i < 63 → Φ i = T i) : exs Φ (rS 4) (eT P great us ts) = some (.nx (eU P great us ts .un .un .un .un .un .un .un .un)) := by
  have c := (lfilled_ok p).on (hΦ 38 (by decide))
  have e1 : ev Φ (.lst (.cons (.var 2) (.cons (.var 3) .nil))) (eT P great us ts) = some (.list [usD us, tsD ts], eT P great us ts) := ev_lst (evl_cons rfl (evl_cons rfl evl_nil)) Iv.z2
  exact exs_asp (evl_cons (ev_b1 (by intro i q; cases q) e1 (rep_both p)) (evl_cons (ev_call (evl_cons rfl (evl_cons rfl evl_nil)) rfl rfl c rfl) evl_nil)) rfl
theorem r5 (p : Ps us ts) (hΦ : ∀ i, i < 63 → Φ i = T i) : exs Φ (rS 5) (eU P great us ts .un .un .un .un .un .un .un .un) = some (.nx (eU P great us ts (.own true ((amsOf us ts).map rt)) (.own true (rowsOf us ts)) .un .un .un .un .un .un)) := by
  have c1 := (shared_ok p).on (hΦ 39 (by decide))
  have c2 := (filling_ok p).on (hΦ 40 (by decide))
  have hm : (eU P great us ts .un .un .un .un .un .un .un .un).map mskS = [.un, .sh (.bool great), .sh (usD us), .sh (tsD ts), .sh (shownD us ts), .un, .un, .un, .un, .un, .un, .un, .un, .un, .un, .un, .un] := by
    show [Sl.un, .sh (.bool great), mskS (.sh (usD us)), mskS (.sh (tsD ts)), .sh (shownD us ts), mskS (.sh (dueD us ts)), .un, .un, .un, .un, .un, .un, .un, .un, .un, .un, .un] = _
    rw [msk_sh' (nl_us us), msk_sh' (nl_ts ts)]
    rfl
  exact exs_asp (evl_cons (ev_fl hm (ev_call (evl_cons rfl (evl_cons rfl evl_nil)) rfl rfl c1 rfl) (nls_rt _)) (evl_cons (ev_fl hm (ev_call (evl_cons rfl (evl_cons rfl evl_nil)) rfl rfl c2 rfl) nls_rows) evl_nil)) rfl
theorem due0 (p : Ps us ts) {x6 x7 x8 x9 x10 x11 x12 x13 : Sl} : ev Φ (.idx (.var 5) (.cst (.int 0))) (eU P great us ts x6 x7 x8 x9 x10 x11 x12 x13) = some (rtl (amsOf us ts), eU P great us ts x6 x7 x8 x9 x10 x11 x12 x13) := rfl
theorem due1 (p : Ps us ts) {x6 x7 x8 x9 x10 x11 x12 x13 : Sl} : ev Φ (.idx (.var 5) (.cst (.int 1))) (eU P great us ts x6 x7 x8 x9 x10 x11 x12 x13) = some (.list (rowsOf us ts), eU P great us ts x6 x7 x8 x9 x10 x11 x12 x13) := rfl
theorem r6 (p : Ps us ts) (hΦ : ∀ i, i < 63 → Φ i = T i) {b : Sm} {o : Option Out} (ho : exs Φ b (eU P great us ts (.own true ((amsOf us ts).map rt)) (.own true (rowsOf us ts)) .un .un .un .un .un .un) = o) : exs Φ (.consB (rS 6) b) (eU P great us ts (.own true ((amsOf us ts).map rt)) (.own true (rowsOf us ts)) .un .un .un .un .un .un) = o := by
  have A := Am.ams p
  have hf : (eU P great us ts (.own true ((amsOf us ts).map rt)) (.own true (rowsOf us ts)) .un .un .un .un .un .un).map frzS = [.sh (.list P), .sh (.bool great), .sh (usD us), .sh (tsD ts), .sh (shownD us ts), .sh (dueD us ts), .sh (rtl (amsOf us ts)), .sh (.list (rowsOf us ts)), .un, .un, .un, .un, .un, .un, .un, .un, .un] := rfl
  have e1 : ev Φ (.lst (.cons (.var 6) (.cons (.var 7) .nil))) [.sh (.list P), .sh (.bool great), .sh (usD us), .sh (tsD ts), .sh (shownD us ts), .sh (dueD us ts), .sh (rtl (amsOf us ts)), .sh (.list (rowsOf us ts)), .un, .un, .un, .un, .un, .un, .un, .un, .un] = some (.list [rtl (amsOf us ts), .list (rowsOf us ts)], _) := ev_lst (evl_cons rfl (evl_cons rfl evl_nil)) Iv.z2
  have e2 := ev_scr (b := .noe) hf (ev_b1 (b := .repr) (by intro i q; cases q) e1 (rep_two p)) rfl
  have e3 : ev Φ (.lst (.cons (.idx (.var 5) (.cst (.int 0))) (.cons (.idx (.var 5) (.cst (.int 1))) .nil))) (eU P great us ts (.own true ((amsOf us ts).map rt)) (.own true (rowsOf us ts)) .un .un .un .un .un .un) = some (.list [rtl (amsOf us ts), .list (rowsOf us ts)], _) := ev_lst (evl_cons (due0 p) (evl_cons (due1 p) evl_nil)) Iv.z2
  have c := (is_right_ok p A).on (hΦ 59 (by decide))
  rw [right_iff p A, decide_eq_true rfl] at c
  exact (exs_ifn (by intro i q; cases q) (evl_or (ev_ne_rep (by intro i q; cases q) (by intro i q; cases q) e2 (ev_b1 (by intro i q; cases q) e3 (rep_two p))) (ev_nt (by intro i q; cases q) (ev_call (evl_cons rfl (evl_cons rfl (evl_cons (due0 p) evl_nil))) rfl rfl c rfl)))).trans ho
theorem r7 (p : Ps us ts) (hΦ : ∀ i, i < 63 → Φ i = T i) : exs Φ (rS 7) (eU P great us ts (.own true ((amsOf us ts).map rt)) (.own true (rowsOf us ts)) .un .un .un .un .un .un) = some (.nx (eU P great us ts (.own true ((amsOf us ts).map rt)) (.own true (rowsOf us ts)) (.sh (.list (headE us ts (amsOf us ts)))) .un .un .un .un .un)) := by
  have A := Am.ams p
  have l1 := p.l1
  have c := (law_ends_ok p A).on (hΦ 58 (by decide))
  have hr := right_iff p A
  rw [decide_eq_true rfl] at hr
  unfold rightB at hr
  rw [Bool.and_eq_true, Bool.not_eq_true'] at hr
  have ne := ends_ne.mp hr.2
  have e1 := ev_call (Φ := Φ) (j := 58) (as := .cons (.var 2) (.cons (.var 3) (.cons (.idx (.var 5) (.cst (.int 0))) .nil))) (e := eU P great us ts (.own true ((amsOf us ts).map rt)) (.own true (rowsOf us ts)) .un .un .un .un .un .un) (evl_cons rfl (evl_cons rfl (evl_cons (due0 p) evl_nil))) rfl rfl c rfl
  have hlc := ev_lcP (Φ := Φ) (own := [("row", 14)]) (g := .nm 14) (k := .walk) (b := .noe) (c := .noe) (f := .idx (.var 14) (.cst (.int 0))) (fun i => PyData.list (rowE us ts (amsOf us ts) i)) (fun _ => true) (fun i => if metB us (amsOf us ts) i then wantD else nd (hdG us ts (amsOf us ts) i)) (List.range us.length) (y := .none) e1 rfl rfl (fun i hi => by
    obtain ⟨r, hr⟩ := row_head (ne i (List.mem_range.mp hi))
    refine ⟨_, rfl, rfl, fun _ => ?_, rfl⟩
    rw [hr]
    exact ev_idx' (x := .s 14) (y := .v (.int 0)) rfl rfl rfl rfl (at_nat (i := 0) rfl)) (sz (by rw [List.length_range]; omega))
  rw [all_true] at hlc
  exact (asg_nm hlc rfl).trans rfl
theorem r8 (p : Ps us ts) (hΦ : ∀ i, i < 63 → Φ i = T i) : exs Φ (rS 8) (eU P great us ts (.own true ((amsOf us ts).map rt)) (.own true (rowsOf us ts)) (.sh (.list (headE us ts (amsOf us ts)))) .un .un .un .un .un) = some (.nx (eU P great us ts (.own true ((amsOf us ts).map rt)) (.own true (rowsOf us ts)) (.sh (.list (headE us ts (amsOf us ts)))) (.own true (headE us ts (amsOf us ts))) .un .un .un .un)) := by
  have c := (bottlenecks_ok p).on (hΦ 29 (by decide))
  have hm : (eU P great us ts (.own true ((amsOf us ts).map rt)) (.own true (rowsOf us ts)) (.sh (.list (headE us ts (amsOf us ts)))) .un .un .un .un .un).map mskS = [.un, .sh (.bool great), .sh (usD us), .sh (tsD ts), .sh (shownD us ts), .un, .un, .un, .un, .un, .un, .un, .un, .un, .un, .un, .un] := by
    show [Sl.un, .sh (.bool great), mskS (.sh (usD us)), mskS (.sh (tsD ts)), .sh (shownD us ts), mskS (.sh (dueD us ts)), .un, .un, .un, .un, .un, .un, .un, .un, .un, .un, .un] = _
    rw [msk_sh' (nl_us us), msk_sh' (nl_ts ts)]
    rfl
  exact (exs_aso (ev_fl hm (ev_calk evl_nil (evl_cons rfl (evl_cons rfl evl_nil)) rfl c) nls_head) rfl).trans rfl
theorem ne_tt : cmpD .ne (.list [.bool true, .bool true]) (.list [.bool true, .bool true]) = some false := by
  have hs : SeqAt.shaped (.list [.bool true, .bool true]) = true := by
    simp [SeqAt.shaped, PyData.canLay0, PyData.canLayAll0, PyData.depth, PyData.depthAll]
  have h : cmpD .ne (.list [.bool true, .bool true]) (.list [.bool true, .bool true]) = (if SeqAt.shaped (.list [.bool true, .bool true]) && SeqAt.shaped (.list [.bool true, .bool true]) then some (PyData.eqv (.list [.bool true, .bool true]) (.list [.bool true, .bool true])) else none).map (!·) := rfl
  rw [h, hs]
  simp [PyData.eqv, PyData.eqvAll]
theorem r9 (p : Ps us ts) (hΦ : ∀ i, i < 63 → Φ i = T i) {x6 x7 x10 x11 x12 x13 : Sl} {b : Sm} {o : Option Out} (ho : exs Φ b (eU P great us ts x6 x7 (.sh (.list (headE us ts (amsOf us ts)))) (.own true (headE us ts (amsOf us ts))) x10 x11 x12 x13) = o) : exs Φ (.consB (rS 9) b) (eU P great us ts x6 x7 (.sh (.list (headE us ts (amsOf us ts)))) (.own true (headE us ts (amsOf us ts))) x10 x11 x12 x13) = o := by
  have c1 := (are_users_ok p).on (hΦ 11 (by decide))
  have c2 := (are_totals_ok p).on (hΦ 62 (by decide))
  have e1 : ev Φ (.lst (.cons (.call 11 (.cons (.var 2) .nil)) (.cons (.call 62 (.cons (.var 2) (.cons (.var 3) .nil))) .nil))) (eU P great us ts x6 x7 (.sh (.list (headE us ts (amsOf us ts)))) (.own true (headE us ts (amsOf us ts))) x10 x11 x12 x13) = some (.list [.bool true, .bool true], _) := ev_lst (evl_cons (ev_call (evl_cons rfl evl_nil) rfl rfl c1 rfl) (evl_cons (ev_call (evl_cons rfl (evl_cons rfl evl_nil)) rfl rfl c2 rfl) evl_nil)) Iv.z2
  have e2 : ev Φ (.lst (.cons (.cst (.bool true)) (.cons (.cst (.bool true)) .nil))) (eU P great us ts x6 x7 (.sh (.list (headE us ts (amsOf us ts)))) (.own true (headE us ts (amsOf us ts))) x10 x11 x12 x13) = some (.list [.bool true, .bool true], _) := ev_lst (evl_cons rfl (evl_cons rfl evl_nil)) Iv.z2
  exact (exs_ifn (by intro i q; cases q) (evl_or (ev_ne_rep (by intro i q; cases q) (by intro i q; cases q) (ev_b1o rfl (rep_head p)) (ev_b1v rfl (rep_head p))) (ev_cmp' (opd_nv (by intro i q; cases q) e1) (opd_nv (by intro i q; cases q) e2) rfl rfl ne_tt))).trans ho
theorem r10 (p : Ps us ts) {x8 : Sl} : exs Φ (rS 10) (eU P great us ts (.own true ((amsOf us ts).map rt)) (.own true (rowsOf us ts)) x8 (.own true (headE us ts (amsOf us ts))) .un .un .un .un) = some (.nx (eU P great us ts .un .un x8 .un .un .un .un .un)) := by
  have l1 := p.l1
  have h1 : ((amsOf us ts).map rt).length < sizeLine := by rw [List.length_map, ams_len]; exact Nat.lt_of_le_of_lt l1 (by decide)
  have h2 : (rowsOf us ts).length < sizeLine := by rw [rows_eq, List.length_map]; exact Nat.lt_of_le_of_lt (Nat.le_trans (fillR_len _ _ _) l1) (by decide)
  have h3 : (headE us ts (amsOf us ts)).length < sizeLine := by unfold headE; rw [List.length_map, List.length_range]; exact Nat.lt_of_le_of_lt l1 (by decide)
  show (if putOk _ 10 && nodupB [10, 6, 7, 9] then (killGo 10 [6, 7, 9] _).map Out.nx else none) = _
  rw [if_pos (by rfl)]
  simp only [killGo, List.getElem?_cons_zero, List.getElem?_cons_succ, List.set_cons_zero, List.set_cons_succ, h1, h2, h3, if_true, Option.map_some]
theorem r11 (p : Ps us ts) (hΦ : ∀ i, i < 63 → Φ i = T i) {b : Sm} {o : Option Out} (ho : exs Φ b (eU P great us ts .un .un (.sh (.list (headE us ts (amsOf us ts)))) .un .un .un .un .un) = o) : exs Φ (.consB (rS 11) b) (eU P great us ts .un .un (.sh (.list (headE us ts (amsOf us ts)))) .un .un .un .un .un) = o := by
  have c1 := (shared_ok p).on (hΦ 39 (by decide))
  have c2 := (filling_ok p).on (hΦ 40 (by decide))
  have c3 := (bottlenecks_ok p).on (hΦ 29 (by decide))
  have e1 : ev Φ (.lst (.cons (.call 39 (.cons (.var 2) (.cons (.var 3) .nil))) (.cons (.call 40 (.cons (.var 2) (.cons (.var 3) .nil))) (.cons (.call 29 (.cons (.var 2) (.cons (.var 3) .nil))) .nil)))) (eU P great us ts .un .un (.sh (.list (headE us ts (amsOf us ts)))) .un .un .un .un .un) = some (.list [rtl (amsOf us ts), .list (rowsOf us ts), .list (headE us ts (amsOf us ts))], _) :=
    ev_lst (evl_cons (ev_call (evl_cons rfl (evl_cons rfl evl_nil)) rfl rfl c1 rfl) (evl_cons (ev_call (evl_cons rfl (evl_cons rfl evl_nil)) rfl rfl c2 rfl) (evl_cons (ev_call (evl_cons rfl (evl_cons rfl evl_nil)) rfl rfl c3 rfl) evl_nil))) Iv.z3
  have e2 : ev Φ (.lst (.cons (.idx (.var 5) (.cst (.int 0))) (.cons (.idx (.var 5) (.cst (.int 1))) (.cons (.var 8) .nil)))) (eU P great us ts .un .un (.sh (.list (headE us ts (amsOf us ts)))) .un .un .un .un .un) = some (.list [rtl (amsOf us ts), .list (rowsOf us ts), .list (headE us ts (amsOf us ts))], _) :=
    ev_lst (evl_cons (due0 p) (evl_cons (due1 p) (evl_cons rfl evl_nil))) Iv.z3
  exact (exs_ifn (by intro i q; cases q) (ev_ne_rep (by intro i q; cases q) (by intro i q; cases q) (ev_b1 (by intro i q; cases q) e1 (rep_three p)) (ev_b1 (by intro i q; cases q) e2 (rep_three p)))).trans ho
theorem r12 (p : Ps us ts) (hΦ : ∀ i, i < 63 → Φ i = T i) {x8 : Sl} {b : Sm} {o : Option Out} (ho : exs Φ b (eU P great us ts .un .un x8 .un .un .un .un .un) = o) : exs Φ (.consB (rS 12) b) (eU P great us ts .un .un x8 .un .un .un .un .un) = o := by
  have A := Am.ams p
  have c1 := (is_share_ok p A true).on (hΦ 60 (by decide))
  have c2 := (is_share_ok p A false).on (hΦ 60 (by decide))
  rw [decide_eq_true rfl] at c1 c2
  have t1 : ev Φ (.b1 .tup (.idx (.var 5) (.cst (.int 0)))) (eU P great us ts .un .un x8 .un .un .un .un .un) = some (.tuple ((amsOf us ts).map rt), _) := ev_b1 (by intro i q; cases q) (due0 p) rfl
  refine (exs_ifn (by intro i q; cases q) (evl_or (ev_cmp' (opd_nv (by intro i q; cases q) (ev_call (evl_cons rfl (evl_cons rfl (evl_cons (due0 p) evl_nil))) rfl rfl c1 rfl)) (opd_nv (by intro i q; cases q) rfl) rfl rfl rfl) (ev_cmp' (opd_nv (by intro i q; cases q) (ev_calk evl_nil (evl_cons rfl (evl_cons t1 (evl_cons rfl evl_nil))) rfl c2)) (opd_nv (by intro i q; cases q) rfl) rfl rfl rfl))).trans ho
end
end Iv
end
section
set_option Elab.async false
set_option linter.all false
set_option maxRecDepth 100000
set_option exponentiation.threshold 3000
set_option maxHeartbeats 4000000
namespace Iv
open PySem PySem.Spec L2
def noW (u : U) : U := ⟨u.w, u.ns, none⟩
def twoT (ts : List Nat) (i : Nat) : List Nat := ts.take i ++ [2 * ts.getD i 0] ++ ts.drop (i + 1)
section
variable {us : List U} {ts : List Nat}
theorem noW_ps (p : Ps us ts) : Ps (us.map noW) ts := by
  refine ⟨by rw [List.length_map]; exact p.l0, by rw [List.length_map]; exact p.l1, fun u hu => ?_, p.vt⟩
  obtain ⟨v, hv, rfl⟩ := List.mem_map.mp hu
  have h := p.ok v hv
  exact ⟨h.w0, h.w1, h.len, h.le, h.ex, fun x hx => (by cases hx)⟩
theorem twoT_len {i : Nat} (hi : i < ts.length) : (twoT ts i).length = ts.length := by
  unfold twoT
  rw [List.length_append, List.length_append, List.length_take, List.length_drop, List.length_singleton]
  omega
theorem twoT_ps (p : Ps us ts) (tn : Tn ts) {i : Nat} (hi : i < ts.length) : Ps us (twoT ts i) := by
  refine ⟨p.l0, p.l1, by rw [twoT_len hi]; exact p.ok, ⟨by rw [twoT_len hi]; exact p.vt.l0, by rw [twoT_len hi]; exact p.vt.l1, fun t ht => ?_⟩⟩
  unfold twoT at ht
  rcases List.mem_append.mp ht with h | h
  · rcases List.mem_append.mp h with h | h
    · exact p.vt.le t ((List.take_sublist _ _).mem h)
    · simp only [List.mem_singleton] at h
      have hm := getD_mem (d := 0) hi
      have h1 := (p.vt.le _ hm).1
      have h2 := tn.le _ hm
      omega
  · exact p.vt.le t ((List.drop_sublist _ _).mem h)
theorem Am.of0 {us us' : List U} {am : List Rat} (h : Am us' am) (e : us'.length = us.length) : Am us am := ⟨h.len.trans e, h.bd⟩
end
section
variable {Φ : Fn} {P : List D} {great : Bool} {us : List U} {ts : List Nat} {x8 x10 x11 x12 x13 : Sl} [Tn ts]
def am1 (us : List U) (ts : List Nat) : List Rat := amsOf (us.map noW) ts
def am2' (us : List U) (ts : List Nat) (i : Nat) : List Rat := amsOf us (twoT ts i)
theorem r13 (p : Ps us ts) (hΦ : ∀ i, i < 63 → Φ i = T i) : exs Φ (rS 13) (eU P great us ts .un .un x8 .un .un .un .un .un) = some (.nx (eU P great us ts .un .un x8 .un (.own true [rtl (am1 us ts)]) .un .un .un)) := by
  have l1 := p.l1
  have c := (lfilled_ok (noW_ps p)).on (hΦ 38 (by decide))
  have hlc := ev_lcP (Φ := Φ) (own := [("user", 15)]) (g := .nm 15) (k := .walk) (a := .var 2) (b := .noe) (c := .noe) (f := .bin .add (.slc (.var 15) .noe (.cst (.int 3))) (.tup (.cons (.cst .none) .nil)))
    (e := eU P great us ts .un .un x8 .un .un .un .un .un) ud (fun _ => true) (fun u => ud (noW u)) us (x := usD us) (y := .none) rfl rfl rfl (fun u hu => by
      refine ⟨_, rfl, rfl, fun _ => ?_, rfl⟩
      have a1 := ev_slc0 (Φ := Φ) (a := .var 15) (e := (wipeE (eU P great us ts .un .un x8 .un .un .un .un .un) ([((("user" : String) : Str), 15)].map (·.2))).set 15 (.sh (ud u))) (x := .s 15) (k := 3) rfl rfl (show slcD none (some 3) (ud u) = some (.tuple [.str "user", nd u.w, .tuple (u.ns.map nd)]) from rfl)
      exact ev_bin' (o := .add) (opd_nv (by intro i q; cases q) a1) (opd_nv (by intro i q; cases q) (ev_tup (evl_cons rfl evl_nil) Iv.z1)) rfl rfl (add_tt [.str "user", nd u.w, .tuple (u.ns.map nd)] [.none] (show 3 + 1 ≤ sizeLine from Iv.z4))) (sz (by omega))
  rw [all_true] at hlc
  have t1 := ev_b1 (b := .tup) (by intro i q; cases q) hlc (show b1D .tup (.list (us.map fun u => ud (noW u))) = some (usD (us.map noW)) by
    show some (PyData.tuple (us.map fun u => ud (noW u))) = _
    unfold usD
    rw [List.map_map]
    rfl)
  have e1 := ev_call (Φ := Φ) (j := 38) (as := .cons (.b1 .tup (.lc [("user", 15)] (.nm 15) .walk (.var 2) .noe .noe (.bin .add (.slc (.var 15) .noe (.cst (.int 3))) (.tup (.cons (.cst .none) .nil))))) (.cons (.var 3) .nil)) (e := eU P great us ts .un .un x8 .un .un .un .un .un) (evl_cons t1 (evl_cons rfl evl_nil)) rfl rfl c rfl
  exact (exs_aso (ev_lst (evl_cons (ev_idxc (i := 0) (by intro i q; cases q) e1 rfl) evl_nil) Iv.z1) rfl).trans rfl
theorem r15 (p : Ps us ts) (hΦ : ∀ i, i < 63 → Φ i = T i) {i : Nat} (hi : i < ts.length) : exs Φ (rS 15) (eU P great us ts .un .un x8 .un (.own true [rtl (am1 us ts)]) (.sh (nd i)) .un .un) = some (.nx (eU P great us ts .un .un x8 .un (.own true [rtl (am1 us ts), rtl (am2' us ts i)]) (.sh (nd i)) .un .un)) := by
  have l4 := p.vt.l1
  have c := (lfilled_ok (twoT_ps p inferInstance hi)).on (hΦ 38 (by decide))
  let E := eU P great us ts .un .un x8 .un (.own true [rtl (am1 us ts)]) (.sh (nd i)) .un .un
  have s1 : ev Φ (.slc (.var 3) .noe (.var 11)) E = some (.tuple ((ts.take i).map nd), E) := ev_slc' (x := .s 3) (pl := none) (ph := some (i : Int)) rfl rfl rfl rfl rfl rfl (by
    show some (PyData.tuple (cutL (ts.map nd) none (some (i : Int)))) = _
    rw [cut_to, List.map_take])
  have i1 : idxD (tsD ts) (nd i) = some (nd (ts.getD i 0)) := idx_t nd (at_lt hi 0)
  have v1 : ev Φ (.idx (.var 3) (.var 11)) E = some (nd (ts.getD i 0), E) := ev_idxv rfl rfl i1
  have ht := (p.vt.le _ (getD_mem (d := 0) hi)).2
  have m1 : binD .mul (.int 2) (nd (ts.getD i 0)) = some (nd (2 * ts.getD i 0)) := mul_nd 2 _ (by decide) (Nat.lt_of_le_of_lt ht (by decide))
  have s2 := ev_bin' (Φ := Φ) (o := .mul) (a := .cst (.int 2)) (e := E) (opd_nv (by intro i q; cases q) rfl) (opd_nv (by intro i q; cases q) v1) rfl rfl m1
  have l1 : ((ts.take i).map nd).length + 1 ≤ sizeLine := by
    rw [List.length_map, List.length_take]
    exact sz (by omega)
  have s3 := ev_bin' (Φ := Φ) (o := .add) (opd_nv (by intro i q; cases q) s1) (opd_nv (by intro i q; cases q) (ev_tup (evl_cons s2 evl_nil) Iv.z1)) rfl rfl (add_tt ((ts.take i).map nd) [nd (2 * ts.getD i 0)] l1)
  have a1 : ev Φ (.bin .add (.var 11) (.cst (.int 1))) E = some (nd (i + 1), E) := ev_bin' (o := .add) rfl (opd_nv (by intro i q; cases q) rfl) rfl rfl (add_nd i 1)
  have s4 : ev Φ (.slc (.var 3) (.bin .add (.var 11) (.cst (.int 1))) .noe) E = some (.tuple ((ts.drop (i + 1)).map nd), E) := ev_slc' (x := .s 3) (pl := some ((i + 1 : Nat) : Int)) (ph := none) rfl a1 rfl rfl rfl rfl (by
    show some (PyData.tuple (cutL (ts.map nd) (some ((i + 1 : Nat) : Int)) none)) = _
    rw [cut_from, List.map_drop])
  have l2 : ((ts.take i).map nd ++ [nd (2 * ts.getD i 0)]).length + ((ts.drop (i + 1)).map nd).length ≤ sizeLine := by
    rw [List.length_append, List.length_map, List.length_map, List.length_take, List.length_drop, List.length_singleton]
    exact sz (by omega)
  have s5 := ev_bin' (Φ := Φ) (o := .add) (opd_nv (by intro i q; cases q) s3) (opd_nv (by intro i q; cases q) s4) rfl rfl (add_tt _ _ l2)
  have e0 : ((ts.take i).map nd ++ [nd (2 * ts.getD i 0)]) ++ (ts.drop (i + 1)).map nd = (twoT ts i).map nd := by
    unfold twoT
    rw [List.map_append, List.map_append]
    rfl
  rw [e0] at s5
  have e1 := ev_call (Φ := Φ) (j := 38) (as := .cons (.var 2) (.cons (.bin .add (.bin .add (.slc (.var 3) .noe (.var 11)) (.tup (.cons (.bin .mul (.cst (.int 2)) (.idx (.var 3) (.var 11))) .nil))) (.slc (.var 3) (.bin .add (.var 11) (.cst (.int 1))) .noe)) .nil)) (e := E) (evl_cons (d := usD us) rfl (evl_cons s5 evl_nil)) rfl rfl c rfl
  have e2 := ev_idxc (i := 0) (by intro i q; cases q) e1 (show idxD (.tuple [rtl (amsOf us (twoT ts i)), .list (rowsOf us (twoT ts i))]) (.int 0) = some (rtl (am2' us ts i)) from rfl)
  have hz : [rtl (am1 us ts)].length < sizeLine := Nat.lt_of_lt_of_le (by decide : 1 < 2) Iv.z2
  show exs Φ (.app 10 _) E = _
  rw [exs.eq_def]
  simp only [show (ownAt E 10).isSome = true from rfl, if_true, e2, show ownAt E 10 = some (true, [rtl (am1 us ts)]) from rfl, hz]
  rfl
/-! the turns -/
def mxI (q : Rat) : Int := if (q.den : Int) > (if q.num < 0 then -q.num else q.num) then (q.den : Int) else (if q.num < 0 then -q.num else q.num)
def rB : Sm := forS (rS 16)
def rBt : Sm := .consB (nthS 1 rB) (.consB (nthS 2 rB) (.consB (nthS 3 rB) .nilB))
abbrev eW (P : List D) (great : Bool) (us : List U) (ts : List Nat) (x8 : Sl) (i : Nat) (x12 x13 : Sl) : Ev := eU P great us ts .un .un x8 .un (.own true [rtl (am1 us ts), rtl (am2' us ts i)]) (.sh (nd i)) x12 x13
theorem near_ok (p : Ps us ts) (hΦ : ∀ i, i < 63 → Φ i = T i) {am : List Rat} (A : Am us am) {i : Nat} : exs Φ rBt (eW P great us ts x8 i x12 (.sh (rtl am))) = some (.nx (eW P great us ts x8 i x12 (.sh (rtl am)))) ∨ exs Φ rBt (eW P great us ts x8 i x12 (.sh (rtl am))) = some (.ct (eW P great us ts x8 i x12 (.sh (rtl am)))) := by
  have l0 := p.l0
  have l1 := p.l1
  have hlc := ev_lcP (Φ := Φ) (own := [("amount", 16)]) (g := .nm 16) (k := .walk) (a := .var 13) (b := .noe) (c := .noe) (f := .b2 .max (.b1 .abs (.idx (.var 16) (.cst (.int 0)))) (.idx (.var 16) (.cst (.int 1))))
    (e := eW P great us ts x8 i x12 (.sh (rtl am))) rt (fun _ => true) (fun q => PyData.int (mxI q)) am (x := rtl am) (y := .none) rfl rfl rfl (fun q hq => ⟨_, rfl, rfl, fun _ => rfl, rfl⟩) (sz (by rw [A.len]; omega))
  rw [all_true] at hlc
  obtain ⟨m, hm⟩ : ∃ m : Int, b1D .max (.list (am.map fun q => PyData.int (mxI q))) = some (.int m) := by
    cases am with
    | nil =>
      have := A.len
      simp at this
      omega
    | cons q r =>
      refine ⟨(r.map mxI).foldl (fun m x => if x > m then x else m) (mxI q), ?_⟩
      show (match intsOf ((q :: r).map fun q => PyData.int (mxI q)) with
        | some (n :: ns) => some (PyData.int (ns.foldl (fun m x => if x > m then x else m) n))
        | _ => none) = _
      rw [ints_mapF mxI (q :: r)]
      rfl
  have e1 := ev_b1 (b := .max) (by intro i q; cases q) hlc hm
  have e2 : ev Φ (.bin .pow (.cst (.int 10)) (.cst (.int 30))) (eW P great us ts x8 i x12 (.sh (rtl am))) = some (.int (10 ^ 30), eW P great us ts x8 i x12 (.sh (rtl am))) := ev_bin' (o := .pow) (opd_nv (by intro i q; cases q) rfl) (opd_nv (by intro i q; cases q) rfl) rfl rfl (by rfl)
  have e3 : ev Φ (.cmp .ge (.b1 .max (.lc [("amount", 16)] (.nm 16) .walk (.var 13) .noe .noe (.b2 .max (.b1 .abs (.idx (.var 16) (.cst (.int 0)))) (.idx (.var 16) (.cst (.int 1)))))) (.bin .pow (.cst (.int 10)) (.cst (.int 30)))) (eW P great us ts x8 i x12 (.sh (rtl am))) = some (.bool (decide ((10 ^ 30 : Int) ≤ m)), eW P great us ts x8 i x12 (.sh (rtl am))) := ev_cmp' (opd_nv (by intro i q; cases q) e1) (opd_nv (by intro i q; cases q) e2) rfl rfl rfl
  by_cases h : (10 ^ 30 : Int) ≤ m
  · rw [decide_eq_true h] at e3
    refine .inr ?_
    have h2 := exs_ift (a := .consB .cnt .nilB) (b := .nilB) (by intro i q; cases q) e3
    show exs Φ (.consB (.ifs _ (.consB .cnt .nilB) .nilB) _) _ = _
    rw [exs.eq_def]
    simp only
    rw [h2]
    rfl
  · rw [decide_eq_false h] at e3
    refine .inl ?_
    have c1 := (is_share_ok p A true).on (hΦ 60 (by decide))
    have c2 := (is_right_ok p A).on (hΦ 59 (by decide))
    rw [right_iff p A] at c2
    have c3 := (amounts_right_ok p A).on (hΦ 57 (by decide))
    refine (exs_ifn (by intro i q; cases q) e3).trans ((exs_ifn (by intro i q; cases q) (ev_ne_rep (by intro i q; cases q) (by intro i q; cases q) (ev_b1 (by intro i q; cases q) (ev_call (evl_cons rfl (evl_cons rfl (evl_cons rfl evl_nil))) rfl rfl c1 rfl) (rep_bool _)) (ev_b1 (by intro i q; cases q) (ev_call (evl_cons rfl (evl_cons rfl (evl_cons rfl evl_nil))) rfl rfl c2 rfl) (rep_bool _)))).trans ((exs_ifn (by intro i q; cases q) (ev_nt (by intro i q; cases q) (ev_call (evl_cons rfl (evl_cons rfl (evl_cons rfl evl_nil))) rfl rfl c3 rfl))).trans rfl))
theorem near_turn (p : Ps us ts) (hΦ : ∀ i, i < 63 → Φ i = T i) (hP : Pot P) {i k : Nat} (hi : i < ts.length) (hk : k < 3) (j13 : jk x13) : ∃ (P' : List D) (y : Sl), Pot P' ∧ jk y ∧ (exs Φ rB (eW P great us ts x8 i (.sh (nd k)) x13) = some (.nx (eW P' great us ts x8 i (.sh (nd k)) y)) ∨ exs Φ rB (eW P great us ts x8 i (.sh (nd k)) x13) = some (.ct (eW P' great us ts x8 i (.sh (nd k)) y))) := by
  have l0 := p.l0
  have l1 := p.l1
  have go : ∀ (am : List Rat) (P' : List D), Am us am → ev Φ (.ite (.cmp .lt (.var 12) (.cst (.int 2))) (.idx (.var 10) (.var 12)) (.call 61 (.cons (.mu 0) (.cons (.idx (.var 5) (.cst (.int 0))) .nil)))) (eW P great us ts x8 i (.sh (nd k)) x13) = some (rtl am, eW P' great us ts x8 i (.sh (nd k)) x13) → (exs Φ rB (eW P great us ts x8 i (.sh (nd k)) x13) = some (.nx (eW P' great us ts x8 i (.sh (nd k)) (.sh (rtl am)))) ∨ exs Φ rB (eW P great us ts x8 i (.sh (nd k)) x13) = some (.ct (eW P' great us ts x8 i (.sh (nd k)) (.sh (rtl am))))) := fun am P' A he => by
    have s0 : exs Φ (nthS 0 rB) (eW P great us ts x8 i (.sh (nd k)) x13) = some (.nx (eW P' great us ts x8 i (.sh (nd k)) (.sh (rtl am)))) := (asg_nm he (j13.put rfl)).trans rfl
    rcases near_ok (Φ := Φ) (P := P') (great := great) (x8 := x8) (x12 := .sh (nd k)) (i := i) p hΦ A with h | h
    · exact .inl (exs_nx s0 h)
    · exact .inr (exs_nx s0 h)
  have c0 : ev Φ (.cmp .lt (.var 12) (.cst (.int 2))) (eW P great us ts x8 i (.sh (nd k)) x13) = some (.bool (decide ((k : Int) < 2)), eW P great us ts x8 i (.sh (nd k)) x13) := ev_cmp' rfl (opd_nv (by intro i q; cases q) rfl) rfl rfl rfl
  have A1 : Am us (am1 us ts) := (Am0.ams (noW_ps p)).wd.of0 (List.length_map _)
  have A2 : Am us (am2' us ts i) := (Am0.ams (twoT_ps p inferInstance hi)).wd
  by_cases h2 : (k : Int) < 2
  · rw [decide_eq_true h2] at c0
    by_cases h0 : k = 0
    · subst h0
      exact ⟨P, _, hP, jk.sh _, go _ P A1 (ev_itet (by intro i q; cases q) c0 (ev_idx' (x := .s 10) (y := .s 12) rfl rfl rfl rfl (at_nat (i := 0) rfl)))⟩
    · have h1 : k = 1 := by omega
      subst h1
      exact ⟨P, _, hP, jk.sh _, go _ P A2 (ev_itet (by intro i q; cases q) c0 (ev_idx' (x := .s 10) (y := .s 12) rfl rfl rfl rfl (at_nat (i := 1) rfl)))⟩
  · rw [decide_eq_false h2] at c0
    obtain ⟨am, P', c, hP', A⟩ := bent_ok (Am0.ams p) l0 l1 hP
    rw [← hΦ 61 (by decide)] at c
    exact ⟨P', _, hP', jk.sh _, go _ P' A (ev_itef (by intro i q; cases q) c0 (ev_call (evl_cons rfl (evl_cons (due0 p) evl_nil)) rfl rfl c rfl))⟩
theorem r16 (p : Ps us ts) (hΦ : ∀ i, i < 63 → Φ i = T i) (hP : Pot P) {i : Nat} (hi : i < ts.length) : ∃ (P' : List D) (y z : Sl), Pot P' ∧ exs Φ (rS 16) (eW P great us ts x8 i .un .un) = some (.nx (eW P' great us ts x8 i y z)) := by
  obtain ⟨z, ⟨z1, z2, z3⟩, lp⟩ := for_exc (g := .nm 12) (f := exs Φ rB) nd (fun z : List D × Sl × Sl => eW z.1 great us ts x8 i z.2.1 z.2.2) (fun z => Pot z.1 ∧ jk z.2.1 ∧ jk z.2.2) (List.range 3) 0 (P, .un, .un) ⟨hP, .inl rfl, .inl rfl⟩ (fun k x z hk ⟨h1, h2, h3⟩ => by
    have hk3 : x < 3 := List.mem_range.mp (List.mem_of_getElem? hk)
    obtain ⟨P', y, g1, g2, g3⟩ := near_turn (Φ := Φ) (great := great) (x8 := x8) p hΦ h1 hi hk3 h3
    refine ⟨?_, _, (P', .sh (nd x), y), rfl, g3, g1, jk.sh _, g2⟩
    show (putOk _ 12 && true) = true
    rw [h2.put rfl]
    rfl)
  exact ⟨z.1, z.2.1, z.2.2, z1, Eq.trans (exs_for rfl rfl (walk_rng' (n := 3) (by decide))) lp⟩
end
theorem right_ok {P : List D} (hP : Pot P) : ∃ os, T 63 [.own false P] = some (.bool true, os) := by
  obtain ⟨Φ, hΦ, hT⟩ := tab_run (ds := k91_ds) (j := 63) (d := k91_d__law_right) rfl
  have hΦ : ∀ i, i < 63 → Φ i = T i := hΦ
  obtain ⟨P1, great, us, ts, hP1, p, tn, h⟩ := r_begin hP hΦ
  have A := Am.ams p
  have g1 := p.vt.l0
  have g4 := p.vt.l1
  obtain ⟨i, P2, c, hi, hP2⟩ := draw_ok hP1 (ts.length : Int) (by omega) (by omega)
  have hi : i < ts.length := by omega
  rw [← hΦ 0 (by decide)] at c
  have c : Φ 0 [.own false P1, .sh (nd ts.length)] = some (nd i, [.own false P2, .sh (nd ts.length)]) := c
  have s14 : exs Φ (rS 14) (eU P1 great us ts .un .un (.sh (.list (headE us ts (amsOf us ts)))) .un (.own true [rtl (am1 us ts)]) .un .un .un) = some (.nx (eU P2 great us ts .un .un (.sh (.list (headE us ts (amsOf us ts)))) .un (.own true [rtl (am1 us ts)]) (.sh (nd i)) .un .un)) := (asg_nm (ev_call (evl_cons rfl (evl_cons (ev_b1v rfl (len_ts ts)) evl_nil)) rfl rfl c rfl) rfl).trans rfl
  obtain ⟨P3, y, z, hP3, s16⟩ := r16 (Φ := Φ) (great := great) (x8 := .sh (.list (headE us ts (amsOf us ts)))) p hΦ hP2 hi
  have c57 := (amounts_right_ok p A).on (hΦ 57 (by decide))
  have e1 : ev Φ (.lst (.cons (.var 2) (.cons (.var 3) .nil))) (eW P3 great us ts (.sh (.list (headE us ts (amsOf us ts)))) i y z) = some (.list [usD us, tsD ts], eW P3 great us ts (.sh (.list (headE us ts (amsOf us ts)))) i y z) := ev_lst (evl_cons rfl (evl_cons rfl evl_nil)) Iv.z2
  have eqs : cmpD .eq (shownD us ts) (shownD us ts) = some true := by
    show some (decide ((PyData.list [usD us, tsD ts]).shown = (PyData.list [usD us, tsD ts]).shown)) = _
    rw [decide_eq_true rfl]
  refine ⟨_, gv3 hT rfl (e := eW P3 great us ts (.sh (.list (headE us ts (amsOf us ts)))) i y z) (h _ _ ?_) rfl⟩
  refine exs_nx (r4 p hΦ) (exs_nx (r5 p hΦ) (r6 p hΦ (exs_nx (r7 p hΦ) (exs_nx (r8 p hΦ) (r9 p hΦ (exs_nx (r10 p) (r11 p hΦ (r12 p hΦ (exs_nx (r13 p hΦ) (exs_nx s14 (exs_nx (r15 p hΦ hi) (exs_nx s16 (exs_ret ?_)))))))))))))
  exact ev_andt (ev_call (evl_cons rfl (evl_cons rfl (evl_cons (due0 p) evl_nil))) rfl rfl c57 rfl) (ev_cmp' (opd_nv (by intro i q; cases q) (ev_b1 (by intro i q; cases q) e1 (rep_both p))) rfl rfl rfl eqs)
theorem outs_sh_eq : ∀ {ds : List D} {e : Ev} {os : List Sl}, outs (ds.map Sl.sh) e = some os → os = ds.map Sl.sh
  | [], e, os, h => by cases h; rfl
  | d :: ds, [], os, h => by cases h
  | d :: ds, s :: e, os, h => by
    have h : (outs (ds.map Sl.sh) e).map (.sh d :: ·) = some os := h
    obtain ⟨o, h1, rfl⟩ := Option.map_eq_some_iff.mp h
    rw [outs_sh_eq h1]
    rfl
theorem run_sh {Φ : Fn} {f : Df} {ds : List D} {d : D} {os : List Sl} (h : run Φ f (ds.map Sl.sh) = some (d, os)) : os = ds.map Sl.sh := by
  unfold run at h
  split at h
  · split at h
    · obtain ⟨o, h1, h2⟩ := Option.map_eq_some_iff.mp h
      cases h2
      exact outs_sh_eq h1
    · obtain ⟨o, h1, h2⟩ := Option.map_eq_some_iff.mp h
      cases h2
      exact outs_sh_eq h1
    · cases h
  · cases h
theorem ev_cf {Φ : Fn} {j : Nat} {a : Ex} {e e1 : Ev} {ds : List D} {r : D} {os : List Sl} (h : ev Φ a e = some (.list ds, e1)) (hc : Φ j [.own false ds] = some (r, os)) : ev Φ (.cf j a) e = some (r, e1) := by simp only [ev, h, hc, Option.map_some]
theorem k91_good (ns : List Int) : ∃ os, tab (dfs k91_ds) 65 [.sh (intsD ns)] = some (.bool true, os) := by
  obtain ⟨Φ, hΦ, hT⟩ := tab_run (ds := k91_ds) (j := 65) (d := k91_d_law) rfl
  have hΦ : ∀ i, i < 65 → Φ i = T i := hΦ
  obtain ⟨P, os, c0, hP⟩ := pot_ok ns
  obtain ⟨os2, c1⟩ := right_ok hP
  rw [← hΦ 64 (by decide)] at c0
  rw [← hΦ 63 (by decide)] at c1
  have ho : os = [.sh (intsD ns), .sh (.int 0)] := by
    have h2 := c0
    rw [hΦ 64 (by decide)] at h2
    obtain ⟨Ψ, _, hT2⟩ := tab_run (ds := k91_ds) (j := 64) (d := k91_d__law_pot) rfl
    rw [T, hT2] at h2
    exact run_sh (ds := [intsD ns, .int 0]) h2
  subst ho
  refine ⟨_, gv3 hT rfl (e := [.sh (intsD ns)]) (exs_ret ?_) rfl⟩
  have f0 : ev Φ (.call 64 (.cons (.var 0) (.cons (.cst (.int 0)) .nil))) [.sh (intsD ns)] = some (.list P, [.sh (intsD ns)]) := ev_call (evl_cons (d := intsD ns) rfl (evl_cons (d := .int 0) rfl evl_nil)) rfl rfl c0 rfl
  exact ev_cf f0 c1
end Iv
end
set_option Elab.async false
set_option linter.all false
set_option maxRecDepth 100000
set_option maxHeartbeats 4000000
namespace Iv
open PySem PySem.Spec PyProof.Rows L2
/-! the end of the row (printed by genend.py) -/
theorem k91_bo_law : BindOk k91_d_law := by
  intro K f fd F
  refine ⟨F.binds fun _ _ _ _ _ _ us hl => match us, hl with | [_], _ => rfl, fun n ks perm h => ?_⟩
  cases h
theorem k91_bo__law_pot : BindOk k91_d__law_pot := by
  intro K f fd F
  refine ⟨F.binds fun _ _ _ _ _ _ us hl => match us, hl with | [_, _], _ => rfl, fun n ks perm h => ?_⟩
  cases h
theorem k91_bo__law_right : BindOk k91_d__law_right := by
  intro K f fd F
  refine ⟨F.binds fun _ _ _ _ _ _ us hl => match us, hl with | [_], _ => rfl, fun n ks perm h => ?_⟩
  cases h
theorem k91_bo_are_totals : BindOk k91_d_are_totals := by
  intro K f fd F
  refine ⟨F.binds fun _ _ _ _ _ _ us hl => match us, hl with | [_, _], _ => rfl, fun n ks perm h => ?_⟩
  cases h
theorem k91_bo__law_bent : BindOk k91_d__law_bent := by
  intro K f fd F
  refine ⟨F.binds fun _ _ _ _ _ _ us hl => match us, hl with | [_, _], _ => rfl, fun n ks perm h => ?_⟩
  cases h
theorem k91_bo_is_share : BindOk k91_d_is_share := by
  intro K f fd F
  refine ⟨F.binds fun _ _ _ _ _ _ us hl => match us, hl with | [_, _, _], _ => rfl, fun n ks perm h => ?_⟩
  simp only [k91_d_is_share, List.mem_singleton, Prod.mk.injEq] at h
  obtain ⟨rfl, rfl, rfl⟩ := h
  obtain ⟨oc, od, kV, doc, pm, an, cdv, ct, osl, rfl, lk, hcd⟩ := F.ex
  intro s us ws _ hu hw
  match us, ws, hu, hw with
  | [], [b0, b1, b2], _, _ => exact ⟨_, rfl, .of_eq rfl⟩
theorem k91_bo__law_is_right : BindOk k91_d__law_is_right := by
  intro K f fd F
  refine ⟨F.binds fun _ _ _ _ _ _ us hl => match us, hl with | [_, _, _], _ => rfl, fun n ks perm h => ?_⟩
  cases h
theorem k91_bo__law_ends : BindOk k91_d__law_ends := by
  intro K f fd F
  refine ⟨F.binds fun _ _ _ _ _ _ us hl => match us, hl with | [_, _, _], _ => rfl, fun n ks perm h => ?_⟩
  cases h
theorem k91_bo__law_amounts_right : BindOk k91_d__law_amounts_right := by
  intro K f fd F
  refine ⟨F.binds fun _ _ _ _ _ _ us hl => match us, hl with | [_, _, _], _ => rfl, fun n ks perm h => ?_⟩
  cases h
theorem k91_bo__law_level : BindOk k91_d__law_level := by
  intro K f fd F
  refine ⟨F.binds fun _ _ _ _ _ _ us hl => match us, hl with | [_, _, _, _], _ => rfl, fun n ks perm h => ?_⟩
  cases h
theorem k91_bo_level : BindOk k91_d_level := by
  intro K f fd F
  refine ⟨F.binds fun _ _ _ _ _ _ us hl => match us, hl with | [_, _, _, _], _ => rfl, fun n ks perm h => ?_⟩
  cases h
theorem k91_bo_level_of : BindOk k91_d_level_of := by
  intro K f fd F
  refine ⟨F.binds fun _ _ _ _ _ _ us hl => match us, hl with | [_, _, _], _ => rfl, fun n ks perm h => ?_⟩
  cases h
theorem k91_bo_want_user : BindOk k91_d_want_user := by
  intro K f fd F
  refine ⟨F.binds fun _ _ _ _ _ _ us hl => match us, hl with | [_, _], _ => rfl, fun n ks perm h => ?_⟩
  cases h
theorem k91_bo_is_count : BindOk k91_d_is_count := by
  intro K f fd F
  refine ⟨F.binds fun _ _ _ _ _ _ us hl => match us, hl with | [_], _ => rfl, fun n ks perm h => ?_⟩
  cases h
theorem k91_bo_used : BindOk k91_d_used := by
  intro K f fd F
  refine ⟨F.binds fun _ _ _ _ _ _ us hl => match us, hl with | [_, _, _], _ => rfl, fun n ks perm h => ?_⟩
  simp only [k91_d_used, List.mem_singleton, Prod.mk.injEq] at h
  obtain ⟨rfl, rfl, rfl⟩ := h
  obtain ⟨oc, od, kV, doc, pm, an, cdv, ct, osl, rfl, lk, hcd⟩ := F.ex
  intro s us ws _ hu hw
  match us, ws, hu, hw with
  | [], [b0, b1, b2], _, _ => exact ⟨_, rfl, .of_eq rfl⟩
theorem k91_bo__law_fits : BindOk k91_d__law_fits := by
  intro K f fd F
  refine ⟨F.binds fun _ _ _ _ _ _ us hl => match us, hl with | [_, _, _], _ => rfl, fun n ks perm h => ?_⟩
  cases h
theorem k91_bo_is_fitting : BindOk k91_d_is_fitting := by
  intro K f fd F
  refine ⟨F.binds fun _ _ _ _ _ _ us hl => match us, hl with | [_, _, _], _ => rfl, fun n ks perm h => ?_⟩
  cases h
theorem k91_bo_do_fit : BindOk k91_d_do_fit := by
  intro K f fd F
  refine ⟨F.binds fun _ _ _ _ _ _ us hl => match us, hl with | [_, _, _], _ => rfl, fun n ks perm h => ?_⟩
  cases h
theorem k91_bo_is_within_want : BindOk k91_d_is_within_want := by
  intro K f fd F
  refine ⟨F.binds fun _ _ _ _ _ _ us hl => match us, hl with | [_, _], _ => rfl, fun n ks perm h => ?_⟩
  cases h
theorem k91_bo_used_of : BindOk k91_d_used_of := by
  intro K f fd F
  refine ⟨F.binds fun _ _ _ _ _ _ us hl => match us, hl with | [_, _], _ => rfl, fun n ks perm h => ?_⟩
  cases h
theorem k91_bo_want_amounts : BindOk k91_d_want_amounts := by
  intro K f fd F
  refine ⟨F.binds fun _ _ _ _ _ _ us hl => match us, hl with | [_, _, _], _ => rfl, fun n ks perm h => ?_⟩
  cases h
theorem k91_bo_are_amounts : BindOk k91_d_are_amounts := by
  intro K f fd F
  refine ⟨F.binds fun _ _ _ _ _ _ us hl => match us, hl with | [_, _], _ => rfl, fun n ks perm h => ?_⟩
  cases h
theorem k91_bo_amounts_are_right : BindOk k91_d_amounts_are_right := by
  intro K f fd F
  refine ⟨F.binds fun _ _ _ _ _ _ us hl => match us, hl with | [_, _], _ => rfl, fun n ks perm h => ?_⟩
  cases h
theorem k91_bo_is_ratio : BindOk k91_d_is_ratio := by
  intro K f fd F
  refine ⟨F.binds fun _ _ _ _ _ _ us hl => match us, hl with | [_], _ => rfl, fun n ks perm h => ?_⟩
  cases h
theorem k91_bo__law_used : BindOk k91_d__law_used := by
  intro K f fd F
  refine ⟨F.binds fun _ _ _ _ _ _ us hl => match us, hl with | [_, _, _], _ => rfl, fun n ks perm h => ?_⟩
  cases h
theorem k91_bo_filling : BindOk k91_d_filling := by
  intro K f fd F
  refine ⟨F.binds fun _ _ _ _ _ _ us hl => match us, hl with | [_, _], _ => rfl, fun n ks perm h => ?_⟩
  cases h
theorem k91_bo_shared : BindOk k91_d_shared := by
  intro K f fd F
  refine ⟨F.binds fun _ _ _ _ _ _ us hl => match us, hl with | [_, _], _ => rfl, fun n ks perm h => ?_⟩
  cases h
theorem k91_bo__law_filled : BindOk k91_d__law_filled := by
  intro K f fd F
  refine ⟨F.binds fun _ _ _ _ _ _ us hl => match us, hl with | [_, _], _ => rfl, fun n ks perm h => ?_⟩
  cases h
theorem k91_bo__law_less : BindOk k91_d__law_less := by
  intro K f fd F
  refine ⟨F.binds fun _ _ _ _ _ _ us hl => match us, hl with | [_, _], _ => rfl, fun n ks perm h => ?_⟩
  cases h
theorem k91_bo__law_plus : BindOk k91_d__law_plus := by
  intro K f fd F
  refine ⟨F.binds fun _ _ _ _ _ _ us hl => match us, hl with | [_, _], _ => rfl, fun n ks perm h => ?_⟩
  cases h
theorem k91_bo__law_times : BindOk k91_d__law_times := by
  intro K f fd F
  refine ⟨F.binds fun _ _ _ _ _ _ us hl => match us, hl with | [_, _], _ => rfl, fun n ks perm h => ?_⟩
  cases h
theorem k91_bo__law_least : BindOk k91_d__law_least := by
  intro K f fd F
  refine ⟨F.binds fun _ _ _ _ _ _ us hl => match us, hl with | [_], _ => rfl, fun n ks perm h => ?_⟩
  cases h
theorem k91_bo__law_over : BindOk k91_d__law_over := by
  intro K f fd F
  refine ⟨F.binds fun _ _ _ _ _ _ us hl => match us, hl with | [_, _], _ => rfl, fun n ks perm h => ?_⟩
  cases h
theorem k91_bo__law_height : BindOk k91_d__law_height := by
  intro K f fd F
  refine ⟨F.binds fun _ _ _ _ _ _ us hl => match us, hl with | [_, _], _ => rfl, fun n ks perm h => ?_⟩
  cases h
theorem k91_bo__law_is_below : BindOk k91_d__law_is_below := by
  intro K f fd F
  refine ⟨F.binds fun _ _ _ _ _ _ us hl => match us, hl with | [_, _], _ => rfl, fun n ks perm h => ?_⟩
  cases h
theorem k91_bo__law_ratio : BindOk k91_d__law_ratio := by
  intro K f fd F
  refine ⟨F.binds fun _ _ _ _ _ _ us hl => match us, hl with | [_, _], _ => rfl, fun n ks perm h => ?_⟩
  cases h
theorem k91_bo_bottlenecks : BindOk k91_d_bottlenecks := by
  intro K f fd F
  refine ⟨F.binds fun _ _ _ _ _ _ us hl => match us, hl with | [_, _], _ => rfl, fun n ks perm h => ?_⟩
  simp only [k91_d_bottlenecks, List.mem_singleton, Prod.mk.injEq] at h
  obtain ⟨rfl, rfl, rfl⟩ := h
  obtain ⟨oc, od, kV, doc, pm, an, cdv, ct, osl, rfl, lk, hcd⟩ := F.ex
  intro s us ws _ hu hw
  match us, ws, hu, hw with
  | [], [b0, b1], _, _ => exact ⟨_, rfl, .of_eq rfl⟩
theorem k91_bo_filled : BindOk k91_d_filled := by
  intro K f fd F
  refine ⟨F.binds fun _ _ _ _ _ _ us hl => match us, hl with | [_, _], _ => rfl, fun n ks perm h => ?_⟩
  cases h
theorem k91_bo_want_stop : BindOk k91_d_want_stop := by
  intro K f fd F
  refine ⟨F.binds fun _ _ _ _ _ _ us hl => match us, hl with | [_, _], _ => rfl, fun n ks perm h => ?_⟩
  cases h
theorem k91_bo_good_stop : BindOk k91_d_good_stop := by
  intro K f fd F
  refine ⟨F.binds fun _ _ _ _ _ _ us hl => match us, hl with | [_, _, _, _, _, _], _ => rfl, fun n ks perm h => ?_⟩
  cases h
theorem k91_bo_times : BindOk k91_d_times := by
  intro K f fd F
  refine ⟨F.binds fun _ _ _ _ _ _ us hl => match us, hl with | [_, _], _ => rfl, fun n ks perm h => ?_⟩
  cases h
theorem k91_bo_minus : BindOk k91_d_minus := by
  intro K f fd F
  refine ⟨F.binds fun _ _ _ _ _ _ us hl => match us, hl with | [_, _], _ => rfl, fun n ks perm h => ?_⟩
  cases h
theorem k91_bo_plus : BindOk k91_d_plus := by
  intro K f fd F
  refine ⟨F.binds fun _ _ _ _ _ _ us hl => match us, hl with | [_, _], _ => rfl, fun n ks perm h => ?_⟩
  cases h
theorem k91_bo_least_of : BindOk k91_d_least_of := by
  intro K f fd F
  refine ⟨F.binds fun _ _ _ _ _ _ us hl => match us, hl with | [_], _ => rfl, fun n ks perm h => ?_⟩
  cases h
theorem k91_bo_speed : BindOk k91_d_speed := by
  intro K f fd F
  refine ⟨F.binds fun _ _ _ _ _ _ us hl => match us, hl with | [_, _], _ => rfl, fun n ks perm h => ?_⟩
  cases h
theorem k91_bo_height : BindOk k91_d_height := by
  intro K f fd F
  refine ⟨F.binds fun _ _ _ _ _ _ us hl => match us, hl with | [_, _], _ => rfl, fun n ks perm h => ?_⟩
  cases h
theorem k91_bo_greatest_of : BindOk k91_d_greatest_of := by
  intro K f fd F
  refine ⟨F.binds fun _ _ _ _ _ _ us hl => match us, hl with | [_], _ => rfl, fun n ks perm h => ?_⟩
  cases h
theorem k91_bo_is_below : BindOk k91_d_is_below := by
  intro K f fd F
  refine ⟨F.binds fun _ _ _ _ _ _ us hl => match us, hl with | [_, _], _ => rfl, fun n ks perm h => ?_⟩
  cases h
theorem k91_bo_over : BindOk k91_d_over := by
  intro K f fd F
  refine ⟨F.binds fun _ _ _ _ _ _ us hl => match us, hl with | [_, _], _ => rfl, fun n ks perm h => ?_⟩
  cases h
theorem k91_bo_lowest : BindOk k91_d_lowest := by
  intro K f fd F
  refine ⟨F.binds fun _ _ _ _ _ _ us hl => match us, hl with | [_, _], _ => rfl, fun n ks perm h => ?_⟩
  cases h
theorem k91_bo_common_part : BindOk k91_d_common_part := by
  intro K f fd F
  refine ⟨F.binds fun _ _ _ _ _ _ us hl => match us, hl with | [_, _], _ => rfl, fun n ks perm h => ?_⟩
  cases h
theorem k91_bo_want_both : BindOk k91_d_want_both := by
  intro K f fd F
  refine ⟨F.binds fun _ _ _ _ _ _ us hl => match us, hl with | [_, _], _ => rfl, fun n ks perm h => ?_⟩
  cases h
theorem k91_bo_totals_are_right : BindOk k91_d_totals_are_right := by
  intro K f fd F
  refine ⟨F.binds fun _ _ _ _ _ _ us hl => match us, hl with | [_, _], _ => rfl, fun n ks perm h => ?_⟩
  cases h
theorem k91_bo_want_users : BindOk k91_d_want_users := by
  intro K f fd F
  refine ⟨F.binds fun _ _ _ _ _ _ us hl => match us, hl with | [_], _ => rfl, fun n ks perm h => ?_⟩
  cases h
theorem k91_bo_are_users : BindOk k91_d_are_users := by
  intro K f fd F
  refine ⟨F.binds fun _ _ _ _ _ _ us hl => match us, hl with | [_], _ => rfl, fun n ks perm h => ?_⟩
  cases h
theorem k91_bo_is_user : BindOk k91_d_is_user := by
  intro K f fd F
  refine ⟨F.binds fun _ _ _ _ _ _ us hl => match us, hl with | [_, _], _ => rfl, fun n ks perm h => ?_⟩
  cases h
theorem k91_bo_is_want : BindOk k91_d_is_want := by
  intro K f fd F
  refine ⟨F.binds fun _ _ _ _ _ _ us hl => match us, hl with | [_], _ => rfl, fun n ks perm h => ?_⟩
  cases h
theorem k91_bo_are_needs : BindOk k91_d_are_needs := by
  intro K f fd F
  refine ⟨F.binds fun _ _ _ _ _ _ us hl => match us, hl with | [_, _], _ => rfl, fun n ks perm h => ?_⟩
  cases h
theorem k91_bo_is_within : BindOk k91_d_is_within := by
  intro K f fd F
  refine ⟨F.binds fun _ _ _ _ _ _ us hl => match us, hl with | [_, _, _], _ => rfl, fun n ks perm h => ?_⟩
  cases h
theorem k91_bo_is_integer : BindOk k91_d_is_integer := by
  intro K f fd F
  refine ⟨F.binds fun _ _ _ _ _ _ us hl => match us, hl with | [_], _ => rfl, fun n ks perm h => ?_⟩
  cases h
theorem k91_bo_goods_of : BindOk k91_d_goods_of := by
  intro K f fd F
  refine ⟨F.binds fun _ _ _ _ _ _ us hl => match us, hl with | [_], _ => rfl, fun n ks perm h => ?_⟩
  cases h
theorem k91_bo_is_tuple_of : BindOk k91_d_is_tuple_of := by
  intro K f fd F
  refine ⟨F.binds fun _ _ _ _ _ _ us hl => match us, hl with | [_, _, _], _ => rfl, fun n ks perm h => ?_⟩
  cases h
theorem k91_bo__law_totals : BindOk k91_d__law_totals := by
  intro K f fd F
  refine ⟨F.binds fun _ _ _ _ _ _ us hl => match us, hl with | [_, _, _], _ => rfl, fun n ks perm h => ?_⟩
  cases h
theorem k91_bo__law_users : BindOk k91_d__law_users := by
  intro K f fd F
  refine ⟨F.binds fun _ _ _ _ _ _ us hl => match us, hl with | [_, _, _, _], _ => rfl, fun n ks perm h => ?_⟩
  cases h
theorem k91_bo__law_pick : BindOk k91_d__law_pick := by
  intro K f fd F
  refine ⟨F.binds fun _ _ _ _ _ _ us hl => match us, hl with | [_, _], _ => rfl, fun n ks perm h => ?_⟩
  cases h
theorem k91_bo__law_draw : BindOk k91_d__law_draw := by
  intro K f fd F
  refine ⟨F.binds fun _ _ _ _ _ _ us hl => match us, hl with | [_, _], _ => rfl, fun n ks perm h => ?_⟩
  cases h
theorem k91_bo : ∀ d ∈ k91_ds, BindOk d := by
  unfold k91_ds
  exact List.forall_mem_cons.mpr ⟨k91_bo_law, List.forall_mem_cons.mpr ⟨k91_bo__law_pot, List.forall_mem_cons.mpr ⟨k91_bo__law_right, List.forall_mem_cons.mpr ⟨k91_bo_are_totals, List.forall_mem_cons.mpr ⟨k91_bo__law_bent, List.forall_mem_cons.mpr ⟨k91_bo_is_share, List.forall_mem_cons.mpr ⟨k91_bo__law_is_right, List.forall_mem_cons.mpr ⟨k91_bo__law_ends, List.forall_mem_cons.mpr ⟨k91_bo__law_amounts_right, List.forall_mem_cons.mpr ⟨k91_bo__law_level, List.forall_mem_cons.mpr ⟨k91_bo_level, List.forall_mem_cons.mpr ⟨k91_bo_level_of, List.forall_mem_cons.mpr ⟨k91_bo_want_user, List.forall_mem_cons.mpr ⟨k91_bo_is_count, List.forall_mem_cons.mpr ⟨k91_bo_used, List.forall_mem_cons.mpr ⟨k91_bo__law_fits, List.forall_mem_cons.mpr ⟨k91_bo_is_fitting, List.forall_mem_cons.mpr ⟨k91_bo_do_fit, List.forall_mem_cons.mpr ⟨k91_bo_is_within_want, List.forall_mem_cons.mpr ⟨k91_bo_used_of, List.forall_mem_cons.mpr ⟨k91_bo_want_amounts, List.forall_mem_cons.mpr ⟨k91_bo_are_amounts, List.forall_mem_cons.mpr ⟨k91_bo_amounts_are_right, List.forall_mem_cons.mpr ⟨k91_bo_is_ratio, List.forall_mem_cons.mpr ⟨k91_bo__law_used, List.forall_mem_cons.mpr ⟨k91_bo_filling, List.forall_mem_cons.mpr ⟨k91_bo_shared, List.forall_mem_cons.mpr ⟨k91_bo__law_filled, List.forall_mem_cons.mpr ⟨k91_bo__law_less, List.forall_mem_cons.mpr ⟨k91_bo__law_plus, List.forall_mem_cons.mpr ⟨k91_bo__law_times, List.forall_mem_cons.mpr ⟨k91_bo__law_least, List.forall_mem_cons.mpr ⟨k91_bo__law_over, List.forall_mem_cons.mpr ⟨k91_bo__law_height, List.forall_mem_cons.mpr ⟨k91_bo__law_is_below, List.forall_mem_cons.mpr ⟨k91_bo__law_ratio, List.forall_mem_cons.mpr ⟨k91_bo_bottlenecks, List.forall_mem_cons.mpr ⟨k91_bo_filled, List.forall_mem_cons.mpr ⟨k91_bo_want_stop, List.forall_mem_cons.mpr ⟨k91_bo_good_stop, List.forall_mem_cons.mpr ⟨k91_bo_times, List.forall_mem_cons.mpr ⟨k91_bo_minus, List.forall_mem_cons.mpr ⟨k91_bo_plus, List.forall_mem_cons.mpr ⟨k91_bo_least_of, List.forall_mem_cons.mpr ⟨k91_bo_speed, List.forall_mem_cons.mpr ⟨k91_bo_height, List.forall_mem_cons.mpr ⟨k91_bo_greatest_of, List.forall_mem_cons.mpr ⟨k91_bo_is_below, List.forall_mem_cons.mpr ⟨k91_bo_over, List.forall_mem_cons.mpr ⟨k91_bo_lowest, List.forall_mem_cons.mpr ⟨k91_bo_common_part, List.forall_mem_cons.mpr ⟨k91_bo_want_both, List.forall_mem_cons.mpr ⟨k91_bo_totals_are_right, List.forall_mem_cons.mpr ⟨k91_bo_want_users, List.forall_mem_cons.mpr ⟨k91_bo_are_users, List.forall_mem_cons.mpr ⟨k91_bo_is_user, List.forall_mem_cons.mpr ⟨k91_bo_is_want, List.forall_mem_cons.mpr ⟨k91_bo_are_needs, List.forall_mem_cons.mpr ⟨k91_bo_is_within, List.forall_mem_cons.mpr ⟨k91_bo_is_integer, List.forall_mem_cons.mpr ⟨k91_bo_goods_of, List.forall_mem_cons.mpr ⟨k91_bo_is_tuple_of, List.forall_mem_cons.mpr ⟨k91_bo__law_totals, List.forall_mem_cons.mpr ⟨k91_bo__law_users, List.forall_mem_cons.mpr ⟨k91_bo__law_pick, List.forall_mem_cons.mpr ⟨k91_bo__law_draw, fun _ h => (by cases h)⟩⟩⟩⟩⟩⟩⟩⟩⟩⟩⟩⟩⟩⟩⟩⟩⟩⟩⟩⟩⟩⟩⟩⟩⟩⟩⟩⟩⟩⟩⟩⟩⟩⟩⟩⟩⟩⟩⟩⟩⟩⟩⟩⟩⟩⟩⟩⟩⟩⟩⟩⟩⟩⟩⟩⟩⟩⟩⟩⟩⟩⟩⟩⟩⟩⟩
set_option maxRecDepth 1000000 in
theorem k91_chk : chkDs k91_glo k91_bis k91_ds = true := by decide +kernel
def k91_names0 : List PySem.Str := ["is_integer", "is_count", "is_within", "is_tuple_of", "HallError", "InvalidAmounts", "InvalidRatio", "InvalidTotals", "InvalidUser", "InvalidUsers", "NOUGHT", "common_part", "lowest", "plus", "minus", "times", "over", "is_below", "least_of", "greatest_of", "is_ratio", "MOST_USERS", "MOST_GOODS", "MOST_WEIGHT", "MOST_NEED", "MOST_WANT", "MOST_TOTAL", "are_needs", "is_want", "is_user"]
def k91_names1 : List PySem.Str := ["goods_of", "are_users", "totals_are_right", "amounts_are_right", "want_users", "want_both", "want_amounts", "want_user", "height", "level_of", "used_of", "is_within_want", "do_fit", "speed", "good_stop", "want_stop", "filled", "are_totals", "are_amounts", "used", "level", "is_fitting", "shared", "is_share", "bottlenecks", "filling", "_law_pot", "_law_draw", "_law_pick", "_law_ratio"]
def k91_names2 : List PySem.Str := ["_law_plus", "_law_less", "_law_times", "_law_over", "_law_is_below", "_law_least", "_law_users", "_law_height", "_law_level", "_law_used", "_law_fits", "_law_ends", "_law_filled", "_law_totals", "_law_bent", "_law_is_right", "_law_amounts_right", "_law_right"]
def k91_names : List PySem.Str := k91_names0 ++ k91_names1 ++ k91_names2
abbrev k91_R : PySem.W.OpenRow := PySem.W.OpenLaw.row PySem.Challenge.rw_promisedhall_k91_whole_one_share
abbrev k91_hk : PySem.W.Hook := hookI 2 (faOf k91_ds k91_bis) (fnOfDs k91_ds) k91_glo
def k91_ob (s : PySem.W.SharedT) : He.AlD := obsIG 2 (faOf k91_ds k91_bis) (fnOfDs k91_ds) k91_glo (HandSHeadRun.getT s)
theorem k91_ob_eq (s : PySem.W.SharedT) : k91_ob s = k91_hk.obs s.abs := obsIG_eq (HandSHeadRun.getT_eq s)
set_option maxHeartbeats 0 in
theorem k91_run (w : PySem.World) : HandSHeadRun.RunEq k91_R (PySem.W.view k91_R.prog [83]) k91_hk k91_ob 6000 k91_names w := by
  intro os
  kernel_rfl
end Iv
open PySem PySem.W PySem.Calls PyProof.Rows
set_option maxRecDepth 100000 in
set_option maxHeartbeats 0 in
theorem PySem.Challenge.cw_promisedhall_k91_whole_one_share_holds : PySem.Challenge.rw_promisedhall_k91_whole_one_share.Holds := by
  w_on; o_law
  refine HandSHeadRun.head_any (r := OpenLaw.row PySem.Challenge.rw_promisedhall_k91_whole_one_share) (q := view (OpenLaw.row PySem.Challenge.rw_promisedhall_k91_whole_one_share).prog [83]) (H := Iv.k91_hk) (ob := Iv.k91_ob) (M := 6000) (loose := Iv.k91_names) (d := HandSHeadRun.topDef (OpenLaw.row PySem.Challenge.rw_promisedhall_k91_whole_one_share).prog 83) (kwd := []) Iv.k91_ob_eq
    (by kernel_rfl) (fun s => by kernel_rfl) Iv.k91_run (by kernel_rfl) (by kernel_rfl) (by kernel_rfl) (by rfl) (by first | assumption | decide +kernel) (by decide +kernel) ⟨rfl, rfl, rfl, rfl, rfl, by decide +kernel⟩ ?hw ?hc
  case hw => w_witness2
  case hc =>
    exact Iv.row_ok (l := PySem.Challenge.rw_promisedhall_k91_whole_one_share) (m := 63) (jl := 65) (law := Iv.k91_d_law) rfl (by decide) (by kernel_rfl) ⟨rfl, by decide, by decide⟩ (by kernel_rfl) Iv.k91_bo rfl rfl Iv.k91_chk (fun ns _ => Iv.k91_good ns)
